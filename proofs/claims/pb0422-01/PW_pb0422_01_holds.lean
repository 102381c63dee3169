import PyProof.Rows.All
import Wide.All
import OpenK.AllK
import Wide.FinOn
import PySem.Challenge.RW_pb0422_01
open PySem PySem.W PyProof.Rows PySem.Spec PySem.Calls
set_option Elab.async false
namespace Mine
local macro_rules | `(tactic| walk_at $s:str) => `(tactic| k_extra $(Lean.Syntax.mkStrLit ("own " ++ s.getString)):str)
/-- the i-th statement of the text -/
noncomputable def stAt (i : Nat) : Stmt := match PySem.Challenge.pw_pb0422_01.main.body[i]? with | some s => s | none => .Pass default
/-- the j-th statement of the class that the i-th statement makes -/
noncomputable def methAt (i j : Nat) : Stmt := match stAt i with | .ClassDef (body := b) .. => (match b[j]? with | some s => s | none => .Pass default) | _ => .Pass default
/-- what the top leaves of a def: its data, read off its statement -/
noncomputable def fnD (st : Stmt) (qual : Str) (dflt pm cd : Value) : FuncData := match st with
  | .FunctionDef (name := n) (args := a) (body := b) (scope := sc) .. => { name := n, qualname := qual, params := a, body := .stmts b, scope := sc, globals := mainGlobals, closure := [], defaults := dflt, kwdefaults := .none, doc := .none, pyModule := pm, annotations := none, code := cd, closureTuple := .none, builtins := builtinsNs }
  | _ => default
noncomputable def K (P : Params) : Frag :=
  (nat_lit 2, ⟨.none, none, (.dict #[.mk (PyData.keyHash P (Str.ofString "type.__subclasses__.Exception.0")) (.str (Str.ofString "type.__subclasses__.Exception.0") 232) (.int (46) 0), .mk (PyData.keyHash P (Str.ofString "type.__subclasses__.Exception.n")) (.str (Str.ofString "type.__subclasses__.Exception.n") 233) (.int (1) 0)] 2), #[]⟩) ::
  (nat_lit 3, ⟨(.type "dict"), none, (.dict #[.mk (PyData.keyHash P (Str.ofString "__name__")) (.str (Str.ofString "__name__") 165) (.str (Str.ofString "law_pb0422_01") 732), .mk (PyData.keyHash P (Str.ofString "__doc__")) (.str (Str.ofString "__doc__") 166) .none, .mk (PyData.keyHash P (Str.ofString "__package__")) (.str (Str.ofString "__package__") 167) .none, .mk (PyData.keyHash P (Str.ofString "__loader__")) (.str (Str.ofString "__loader__") 168) (.builtin "__main__.__loader__#opaque"), .mk (PyData.keyHash P (Str.ofString "__spec__")) (.str (Str.ofString "__spec__") 169) .none, .mk (PyData.keyHash P (Str.ofString "__annotations__")) (.str (Str.ofString "__annotations__") 170) (.ref 6), .mk (PyData.keyHash P (Str.ofString "__builtins__")) (.str (Str.ofString "__builtins__") 171) (.ref 4), .mk (PyData.keyHash P (Str.ofString "__file__")) (.str (Str.ofString "__file__") 173) (.str (Str.ofString "/claim/cut.py") 172), .mk (PyData.keyHash P (Str.ofString "__cached__")) (.str (Str.ofString "__cached__") 174) .none, .mk (PyData.keyHash P (Str.ofString "_wall")) (.str (Str.ofString "_wall") 193) (.ref 21), .mk (PyData.keyHash P (Str.ofString "FIGURES")) (.str (Str.ofString "FIGURES") 197) (.str (Str.ofString "0123456789abcdef") 196), .mk (PyData.keyHash P (Str.ofString "MintError")) (.str (Str.ofString "MintError") 235) (.ref 46), .mk (PyData.keyHash P (Str.ofString "OperandError")) (.str (Str.ofString "OperandError") 251) (.ref 59), .mk (PyData.keyHash P (Str.ofString "mask")) (.str (Str.ofString "mask") 258) (.ref 68), .mk (PyData.keyHash P (Str.ofString "wrap")) (.str (Str.ofString "wrap") 266) (.ref 75), .mk (PyData.keyHash P (Str.ofString "figures_of")) (.str (Str.ofString "figures_of") 276) (.ref 82), .mk (PyData.keyHash P (Str.ofString "hex_text")) (.str (Str.ofString "hex_text") 283) (.ref 89), .mk (PyData.keyHash P (Str.ofString "size_word")) (.str (Str.ofString "size_word") 292) (.ref 96), .mk (PyData.keyHash P (Str.ofString "plus_text")) (.str (Str.ofString "plus_text") 300) (.ref 103), .mk (PyData.keyHash P (Str.ofString "sum_text")) (.str (Str.ofString "sum_text") 308) (.ref 110), .mk (PyData.keyHash P (Str.ofString "ahead_text")) (.str (Str.ofString "ahead_text") 315) (.ref 117), .mk (PyData.keyHash P (Str.ofString "memory_att")) (.str (Str.ofString "memory_att") 324) (.ref 124), .mk (PyData.keyHash P (Str.ofString "operand_att")) (.str (Str.ofString "operand_att") 331) (.ref 131), .mk (PyData.keyHash P (Str.ofString "memory_intel")) (.str (Str.ofString "memory_intel") 342) (.ref 138), .mk (PyData.keyHash P (Str.ofString "operand_intel")) (.str (Str.ofString "operand_intel") 349) (.ref 145), .mk (PyData.keyHash P (Str.ofString "Operand")) (.str (Str.ofString "Operand") 401) (.ref 183), .mk (PyData.keyHash P (Str.ofString "Reg")) (.str (Str.ofString "Reg") 440) (.ref 218), .mk (PyData.keyHash P (Str.ofString "Imm")) (.str (Str.ofString "Imm") 482) (.ref 252), .mk (PyData.keyHash P (Str.ofString "Rel")) (.str (Str.ofString "Rel") 532) (.ref 293), .mk (PyData.keyHash P (Str.ofString "Mem")) (.str (Str.ofString "Mem") 606) (.ref 346), .mk (PyData.keyHash P (Str.ofString "NAMES_8")) (.str (Str.ofString "NAMES_8") 610) (.str (Str.ofString "al cl dl bl spl bpl sil dil") 609), .mk (PyData.keyHash P (Str.ofString "NAMES_16")) (.str (Str.ofString "NAMES_16") 612) (.str (Str.ofString "ax cx dx bx sp bp si di") 611), .mk (PyData.keyHash P (Str.ofString "NAMES_32")) (.str (Str.ofString "NAMES_32") 614) (.str (Str.ofString "eax ecx edx ebx esp ebp esi edi") 613), .mk (PyData.keyHash P (Str.ofString "NAMES_64")) (.str (Str.ofString "NAMES_64") 616) (.str (Str.ofString "rax rcx rdx rbx rsp rbp rsi rdi") 615), .mk (PyData.keyHash P (Str.ofString "HIGH_NAMES")) (.str (Str.ofString "HIGH_NAMES") 618) (.str (Str.ofString "ah ch dh bh") 617), .mk (PyData.keyHash P (Str.ofString "Register")) (.str (Str.ofString "Register") 688) (.ref 400), .mk (PyData.keyHash P (Str.ofString "early_names")) (.str (Str.ofString "early_names") 695) (.ref 411), .mk (PyData.keyHash P (Str.ofString "late_ending")) (.str (Str.ofString "late_ending") 702) (.ref 418), .mk (PyData.keyHash P (Str.ofString "gpr")) (.str (Str.ofString "gpr") 711) (.ref 425), .mk (PyData.keyHash P (Str.ofString "high")) (.str (Str.ofString "high") 718) (.ref 432), .mk (PyData.keyHash P (Str.ofString "xmm")) (.str (Str.ofString "xmm") 725) (.ref 439), .mk (PyData.keyHash P (Str.ofString "rip")) (.str (Str.ofString "rip") 731) (.ref 446), .mk (PyData.keyHash P (Str.ofString "_law_roll")) (.str (Str.ofString "_law_roll") 742) (.ref 453), .mk (PyData.keyHash P (Str.ofString "_law_table")) (.str (Str.ofString "_law_table") 750) (.ref 460), .mk (PyData.keyHash P (Str.ofString "_law_worth")) (.str (Str.ofString "_law_worth") 757) (.ref 467), .mk (PyData.keyHash P (Str.ofString "_law_memory")) (.str (Str.ofString "_law_memory") 769) (.ref 474), .mk (PyData.keyHash P (Str.ofString "_law_number")) (.str (Str.ofString "_law_number") 780) (.ref 481), .mk (PyData.keyHash P (Str.ofString "_law_sum")) (.str (Str.ofString "_law_sum") 788) (.ref 488), .mk (PyData.keyHash P (Str.ofString "_law_att")) (.str (Str.ofString "_law_att") 801) (.ref 495), .mk (PyData.keyHash P (Str.ofString "_law_intel")) (.str (Str.ofString "_law_intel") 818) (.ref 502), .mk (PyData.keyHash P (Str.ofString "_law_is_memory_told")) (.str (Str.ofString "_law_is_memory_told") 833) (.ref 509), .mk (PyData.keyHash P (Str.ofString "_law_is_told")) (.str (Str.ofString "_law_is_told") 848) (.ref 516), .mk (PyData.keyHash P (Str.ofString "law")) (.str (Str.ofString "law") 854) (.ref 521)] 53), #[]⟩) ::
  (nat_lit 29, ⟨(.type "tuple"), none, (.seq #[.none] 0), #[]⟩) ::
  (nat_lit 35, ⟨(.type "code"), none, (.fields #[(.str (Str.ofString "__init__") 210), (.str (Str.ofString "MintError.__init__") 211), (.str (Str.ofString "/claim/cut.py") 212), (.int (8) 0), (.int (3) 0), (.int (0) 0), (.int (0) 0), (.int (3) 0), (.ref 30), (.bool true), (.int (181) 0), (.ref 31), .none, (.ref 32), (.ref 33), (.ref 34), (.int (216) 0), (.int (8) 0), (.str (Str.ofString "/claim/cut.py") 217)]), #[]⟩) ::
  (nat_lit 36, ⟨(.type "function"), none, (.func (fnD (methAt 3 0) (Str.ofString "MintError.__init__") (.ref 29) (.str (Str.ofString "octetmint.basics") 194) (.ref 35))), #[]⟩) ::
  (nat_lit 45, ⟨(.type "dict"), none, (.dict #[.mk (PyData.keyHash P (Str.ofString "__module__")) (.str (Str.ofString "__module__") 205) (.str (Str.ofString "octetmint.basics") 194), .mk (PyData.keyHash P (Str.ofString "__firstlineno__")) (.str (Str.ofString "__firstlineno__") 209) (.int (6) 208), .mk (PyData.keyHash P (Str.ofString "__init__")) (.str (Str.ofString "__init__") 218) (.ref 36), .mk (PyData.keyHash P (Str.ofString "told")) (.str (Str.ofString "told") 225) (.ref 43), .mk (PyData.keyHash P (Str.ofString "__static_attributes__")) (.str (Str.ofString "__static_attributes__") 228) (.ref 44), .mk (PyData.keyHash P (Str.ofString "__weakref__")) (.str (Str.ofString "__weakref__") 230) (.ref 47), .mk (PyData.keyHash P (Str.ofString "__doc__")) (.str (Str.ofString "__doc__") 231) .none] 3), #[]⟩) ::
  (nat_lit 46, ⟨(.type "type"), none, (.cls ⟨(Str.ofString "MintError"), [(.type "Exception")], [(.ref 46), (.type "Exception"), (.type "BaseException"), (.type "object")], 45, (Str.ofString "MintError"), true, [], [(.ref 59)], false, none, false⟩), #[some (.ref 22), none, some (.str (Str.ofString "MintError") 198), some (.str (Str.ofString "MintError") 206), some (.builtin "Exception.__new__"), some (.bool true)]⟩) ::
  (nat_lit 58, ⟨(.type "dict"), none, (.dict #[.mk (PyData.keyHash P (Str.ofString "__module__")) (.str (Str.ofString "__module__") 243) (.str (Str.ofString "octetmint.basics") 194), .mk (PyData.keyHash P (Str.ofString "__firstlineno__")) (.str (Str.ofString "__firstlineno__") 247) (.int (15) 246), .mk (PyData.keyHash P (Str.ofString "__static_attributes__")) (.str (Str.ofString "__static_attributes__") 248) (.ref 57), .mk (PyData.keyHash P (Str.ofString "__doc__")) (.str (Str.ofString "__doc__") 249) .none] 2), #[]⟩) ::
  (nat_lit 59, ⟨(.type "type"), none, (.cls ⟨(Str.ofString "OperandError"), [(.ref 46)], [(.ref 59), (.ref 46), (.type "Exception"), (.type "BaseException"), (.type "object")], 58, (Str.ofString "OperandError"), true, [], [], false, none, false⟩), #[some (.ref 50), none, some (.str (Str.ofString "OperandError") 236), some (.str (Str.ofString "OperandError") 244), some (.builtin "Exception.__new__"), some (.bool true)]⟩) ::
  (nat_lit 81, ⟨(.type "code"), none, (.fields #[(.str (Str.ofString "figures_of") 267), (.str (Str.ofString "figures_of") 268), (.str (Str.ofString "/claim/cut.py") 269), (.int (21) 0), (.int (2) 0), (.int (0) 0), (.int (0) 0), (.int (3) 0), (.ref 76), (.bool true), (.int (181) 0), (.ref 77), .none, (.ref 78), (.ref 79), (.ref 80), (.int (274) 0), (.int (21) 0), (.str (Str.ofString "/claim/cut.py") 275)]), #[]⟩) ::
  (nat_lit 82, ⟨(.type "function"), none, (.func (fnD (stAt 7) (Str.ofString "figures_of") .none (.str (Str.ofString "octetmint.basics") 194) (.ref 81))), #[]⟩) ::
  (nat_lit 88, ⟨(.type "code"), none, (.fields #[(.str (Str.ofString "hex_text") 277), (.str (Str.ofString "hex_text") 278), (.str (Str.ofString "/claim/cut.py") 279), (.int (28) 0), (.int (1) 0), (.int (0) 0), (.int (0) 0), (.int (3) 0), (.ref 83), (.bool true), (.int (181) 0), (.ref 84), .none, (.ref 85), (.ref 86), (.ref 87), (.int (281) 0), (.int (28) 0), (.str (Str.ofString "/claim/cut.py") 282)]), #[]⟩) ::
  (nat_lit 89, ⟨(.type "function"), none, (.func (fnD (stAt 8) (Str.ofString "hex_text") .none (.str (Str.ofString "octetmint.basics") 194) (.ref 88))), #[]⟩) ::
  (nat_lit 95, ⟨(.type "code"), none, (.fields #[(.str (Str.ofString "size_word") 286), (.str (Str.ofString "size_word") 287), (.str (Str.ofString "/claim/cut.py") 288), (.int (33) 0), (.int (1) 0), (.int (0) 0), (.int (0) 0), (.int (3) 0), (.ref 90), (.bool true), (.int (181) 0), (.ref 91), .none, (.ref 92), (.ref 93), (.ref 94), (.int (290) 0), (.int (33) 0), (.str (Str.ofString "/claim/cut.py") 291)]), #[]⟩) ::
  (nat_lit 96, ⟨(.type "function"), none, (.func (fnD (stAt 10) (Str.ofString "size_word") .none (.str (Str.ofString "octetmint.printer") 284) (.ref 95))), #[]⟩) ::
  (nat_lit 102, ⟨(.type "code"), none, (.fields #[(.str (Str.ofString "plus_text") 293), (.str (Str.ofString "plus_text") 294), (.str (Str.ofString "/claim/cut.py") 295), (.int (45) 0), (.int (2) 0), (.int (0) 0), (.int (0) 0), (.int (3) 0), (.ref 97), (.bool true), (.int (181) 0), (.ref 98), .none, (.ref 99), (.ref 100), (.ref 101), (.int (298) 0), (.int (45) 0), (.str (Str.ofString "/claim/cut.py") 299)]), #[]⟩) ::
  (nat_lit 103, ⟨(.type "function"), none, (.func (fnD (stAt 11) (Str.ofString "plus_text") .none (.str (Str.ofString "octetmint.printer") 284) (.ref 102))), #[]⟩) ::
  (nat_lit 109, ⟨(.type "code"), none, (.fields #[(.str (Str.ofString "sum_text") 301), (.str (Str.ofString "sum_text") 302), (.str (Str.ofString "/claim/cut.py") 303), (.int (51) 0), (.int (2) 0), (.int (0) 0), (.int (0) 0), (.int (3) 0), (.ref 104), (.bool true), (.int (181) 0), (.ref 105), .none, (.ref 106), (.ref 107), (.ref 108), (.int (306) 0), (.int (51) 0), (.str (Str.ofString "/claim/cut.py") 307)]), #[]⟩) ::
  (nat_lit 110, ⟨(.type "function"), none, (.func (fnD (stAt 12) (Str.ofString "sum_text") .none (.str (Str.ofString "octetmint.printer") 284) (.ref 109))), #[]⟩) ::
  (nat_lit 116, ⟨(.type "code"), none, (.fields #[(.str (Str.ofString "ahead_text") 309), (.str (Str.ofString "ahead_text") 310), (.str (Str.ofString "/claim/cut.py") 311), (.int (57) 0), (.int (1) 0), (.int (0) 0), (.int (0) 0), (.int (3) 0), (.ref 111), (.bool true), (.int (181) 0), (.ref 112), .none, (.ref 113), (.ref 114), (.ref 115), (.int (313) 0), (.int (57) 0), (.str (Str.ofString "/claim/cut.py") 314)]), #[]⟩) ::
  (nat_lit 117, ⟨(.type "function"), none, (.func (fnD (stAt 13) (Str.ofString "ahead_text") .none (.str (Str.ofString "octetmint.printer") 284) (.ref 116))), #[]⟩) ::
  (nat_lit 123, ⟨(.type "code"), none, (.fields #[(.str (Str.ofString "memory_att") 316), (.str (Str.ofString "memory_att") 317), (.str (Str.ofString "/claim/cut.py") 318), (.int (61) 0), (.int (1) 0), (.int (0) 0), (.int (0) 0), (.int (3) 0), (.ref 118), (.bool true), (.int (181) 0), (.ref 119), .none, (.ref 120), (.ref 121), (.ref 122), (.int (322) 0), (.int (61) 0), (.str (Str.ofString "/claim/cut.py") 323)]), #[]⟩) ::
  (nat_lit 124, ⟨(.type "function"), none, (.func (fnD (stAt 14) (Str.ofString "memory_att") .none (.str (Str.ofString "octetmint.printer") 284) (.ref 123))), #[]⟩) ::
  (nat_lit 130, ⟨(.type "code"), none, (.fields #[(.str (Str.ofString "operand_att") 325), (.str (Str.ofString "operand_att") 326), (.str (Str.ofString "/claim/cut.py") 327), (.int (77) 0), (.int (1) 0), (.int (0) 0), (.int (0) 0), (.int (3) 0), (.ref 125), (.bool true), (.int (181) 0), (.ref 126), .none, (.ref 127), (.ref 128), (.ref 129), (.int (329) 0), (.int (77) 0), (.str (Str.ofString "/claim/cut.py") 330)]), #[]⟩) ::
  (nat_lit 131, ⟨(.type "function"), none, (.func (fnD (stAt 15) (Str.ofString "operand_att") .none (.str (Str.ofString "octetmint.printer") 284) (.ref 130))), #[]⟩) ::
  (nat_lit 137, ⟨(.type "code"), none, (.fields #[(.str (Str.ofString "memory_intel") 332), (.str (Str.ofString "memory_intel") 333), (.str (Str.ofString "/claim/cut.py") 334), (.int (89) 0), (.int (1) 0), (.int (0) 0), (.int (0) 0), (.int (3) 0), (.ref 132), (.bool true), (.int (181) 0), (.ref 133), .none, (.ref 134), (.ref 135), (.ref 136), (.int (340) 0), (.int (89) 0), (.str (Str.ofString "/claim/cut.py") 341)]), #[]⟩) ::
  (nat_lit 138, ⟨(.type "function"), none, (.func (fnD (stAt 16) (Str.ofString "memory_intel") .none (.str (Str.ofString "octetmint.printer") 284) (.ref 137))), #[]⟩) ::
  (nat_lit 144, ⟨(.type "code"), none, (.fields #[(.str (Str.ofString "operand_intel") 343), (.str (Str.ofString "operand_intel") 344), (.str (Str.ofString "/claim/cut.py") 345), (.int (110) 0), (.int (1) 0), (.int (0) 0), (.int (0) 0), (.int (3) 0), (.ref 139), (.bool true), (.int (181) 0), (.ref 140), .none, (.ref 141), (.ref 142), (.ref 143), (.int (347) 0), (.int (110) 0), (.str (Str.ofString "/claim/cut.py") 348)]), #[]⟩) ::
  (nat_lit 145, ⟨(.type "function"), none, (.func (fnD (stAt 17) (Str.ofString "operand_intel") .none (.str (Str.ofString "octetmint.printer") 284) (.ref 144))), #[]⟩) ::
  (nat_lit 158, ⟨(.type "code"), none, (.fields #[(.str (Str.ofString "__init__") 364), (.str (Str.ofString "Operand.__init__") 365), (.str (Str.ofString "/claim/cut.py") 366), (.int (125) 0), (.int (2) 0), (.int (0) 0), (.int (0) 0), (.int (3) 0), (.ref 153), (.bool true), (.int (181) 0), (.ref 154), .none, (.ref 155), (.ref 156), (.ref 157), (.int (369) 0), (.int (125) 0), (.str (Str.ofString "/claim/cut.py") 370)]), #[]⟩) ::
  (nat_lit 159, ⟨(.type "function"), none, (.func (fnD (methAt 19 0) (Str.ofString "Operand.__init__") .none (.str (Str.ofString "octetmint.operands") 350) (.ref 158))), #[]⟩) ::
  (nat_lit 182, ⟨(.type "dict"), none, (.dict #[.mk (PyData.keyHash P (Str.ofString "__module__")) (.str (Str.ofString "__module__") 359) (.str (Str.ofString "octetmint.operands") 350), .mk (PyData.keyHash P (Str.ofString "__firstlineno__")) (.str (Str.ofString "__firstlineno__") 363) (.int (123) 362), .mk (PyData.keyHash P (Str.ofString "__init__")) (.str (Str.ofString "__init__") 371) (.ref 159), .mk (PyData.keyHash P (Str.ofString "told")) (.str (Str.ofString "told") 378) (.ref 166), .mk (PyData.keyHash P (Str.ofString "symbol")) (.str (Str.ofString "symbol") 385) (.ref 173), .mk (PyData.keyHash P (Str.ofString "registers")) (.str (Str.ofString "registers") 392) (.ref 180), .mk (PyData.keyHash P (Str.ofString "__static_attributes__")) (.str (Str.ofString "__static_attributes__") 394) (.ref 181), .mk (PyData.keyHash P (Str.ofString "__dict__")) (.str (Str.ofString "__dict__") 396) (.ref 184), .mk (PyData.keyHash P (Str.ofString "__weakref__")) (.str (Str.ofString "__weakref__") 398) (.ref 185), .mk (PyData.keyHash P (Str.ofString "__doc__")) (.str (Str.ofString "__doc__") 399) .none] 4), #[]⟩) ::
  (nat_lit 183, ⟨(.type "type"), none, (.cls ⟨(Str.ofString "Operand"), [(.type "object")], [(.ref 183), (.type "object")], 182, (Str.ofString "Operand"), true, [], [(.ref 218), (.ref 252), (.ref 293), (.ref 346)], false, none, false⟩), #[none, none, some (.str (Str.ofString "Operand") 352), some (.str (Str.ofString "Operand") 360), some (.builtin "object.__new__"), some (.bool true)]⟩) ::
  (nat_lit 200, ⟨(.type "code"), none, (.fields #[(.str (Str.ofString "__init__") 414), (.str (Str.ofString "Reg.__init__") 415), (.str (Str.ofString "/claim/cut.py") 416), (.int (138) 0), (.int (2) 0), (.int (0) 0), (.int (0) 0), (.int (3) 0), (.ref 195), (.bool true), (.int (181) 0), (.ref 196), .none, (.ref 197), (.ref 198), (.ref 199), (.int (419) 0), (.int (138) 0), (.str (Str.ofString "/claim/cut.py") 420)]), #[]⟩) ::
  (nat_lit 201, ⟨(.type "function"), none, (.func (fnD (methAt 20 0) (Str.ofString "Reg.__init__") .none (.str (Str.ofString "octetmint.operands") 350) (.ref 200))), #[]⟩) ::
  (nat_lit 217, ⟨(.type "dict"), none, (.dict #[.mk (PyData.keyHash P (Str.ofString "__module__")) (.str (Str.ofString "__module__") 409) (.str (Str.ofString "octetmint.operands") 350), .mk (PyData.keyHash P (Str.ofString "__firstlineno__")) (.str (Str.ofString "__firstlineno__") 413) (.int (136) 412), .mk (PyData.keyHash P (Str.ofString "__init__")) (.str (Str.ofString "__init__") 421) (.ref 201), .mk (PyData.keyHash P (Str.ofString "told")) (.str (Str.ofString "told") 428) (.ref 208), .mk (PyData.keyHash P (Str.ofString "registers")) (.str (Str.ofString "registers") 435) (.ref 215), .mk (PyData.keyHash P (Str.ofString "__static_attributes__")) (.str (Str.ofString "__static_attributes__") 437) (.ref 216), .mk (PyData.keyHash P (Str.ofString "__doc__")) (.str (Str.ofString "__doc__") 438) .none] 2), #[]⟩) ::
  (nat_lit 218, ⟨(.type "type"), none, (.cls ⟨(Str.ofString "Reg"), [(.ref 183)], [(.ref 218), (.ref 183), (.type "object")], 217, (Str.ofString "Reg"), true, [], [], false, none, false⟩), #[some (.ref 188), none, some (.str (Str.ofString "Reg") 402), some (.str (Str.ofString "Reg") 410), some (.builtin "object.__new__"), some (.bool true)]⟩) ::
  (nat_lit 228, ⟨(.type "tuple"), none, (.seq #[(.str (Str.ofString "") 453)] 0), #[]⟩) ::
  (nat_lit 234, ⟨(.type "code"), none, (.fields #[(.str (Str.ofString "__init__") 454), (.str (Str.ofString "Imm.__init__") 455), (.str (Str.ofString "/claim/cut.py") 456), (.int (149) 0), (.int (3) 0), (.int (0) 0), (.int (0) 0), (.int (3) 0), (.ref 229), (.bool true), (.int (181) 0), (.ref 230), .none, (.ref 231), (.ref 232), (.ref 233), (.int (460) 0), (.int (149) 0), (.str (Str.ofString "/claim/cut.py") 461)]), #[]⟩) ::
  (nat_lit 235, ⟨(.type "function"), none, (.func (fnD (methAt 21 0) (Str.ofString "Imm.__init__") (.ref 228) (.str (Str.ofString "octetmint.operands") 350) (.ref 234))), #[]⟩) ::
  (nat_lit 251, ⟨(.type "dict"), none, (.dict #[.mk (PyData.keyHash P (Str.ofString "__module__")) (.str (Str.ofString "__module__") 448) (.str (Str.ofString "octetmint.operands") 350), .mk (PyData.keyHash P (Str.ofString "__firstlineno__")) (.str (Str.ofString "__firstlineno__") 452) (.int (147) 451), .mk (PyData.keyHash P (Str.ofString "__init__")) (.str (Str.ofString "__init__") 462) (.ref 235), .mk (PyData.keyHash P (Str.ofString "told")) (.str (Str.ofString "told") 469) (.ref 242), .mk (PyData.keyHash P (Str.ofString "symbol")) (.str (Str.ofString "symbol") 476) (.ref 249), .mk (PyData.keyHash P (Str.ofString "__static_attributes__")) (.str (Str.ofString "__static_attributes__") 479) (.ref 250), .mk (PyData.keyHash P (Str.ofString "__doc__")) (.str (Str.ofString "__doc__") 480) .none] 2), #[]⟩) ::
  (nat_lit 252, ⟨(.type "type"), none, (.cls ⟨(Str.ofString "Imm"), [(.ref 183)], [(.ref 252), (.ref 183), (.type "object")], 251, (Str.ofString "Imm"), true, [], [], false, none, false⟩), #[some (.ref 221), none, some (.str (Str.ofString "Imm") 441), some (.str (Str.ofString "Imm") 449), some (.builtin "object.__new__"), some (.bool true)]⟩) ::
  (nat_lit 262, ⟨(.type "tuple"), none, (.seq #[(.str (Str.ofString "") 495)] 0), #[]⟩) ::
  (nat_lit 268, ⟨(.type "code"), none, (.fields #[(.str (Str.ofString "__init__") 496), (.str (Str.ofString "Rel.__init__") 497), (.str (Str.ofString "/claim/cut.py") 498), (.int (161) 0), (.int (3) 0), (.int (0) 0), (.int (0) 0), (.int (3) 0), (.ref 263), (.bool true), (.int (181) 0), (.ref 264), .none, (.ref 265), (.ref 266), (.ref 267), (.int (502) 0), (.int (161) 0), (.str (Str.ofString "/claim/cut.py") 503)]), #[]⟩) ::
  (nat_lit 269, ⟨(.type "function"), none, (.func (fnD (methAt 22 0) (Str.ofString "Rel.__init__") (.ref 262) (.str (Str.ofString "octetmint.operands") 350) (.ref 268))), #[]⟩) ::
  (nat_lit 292, ⟨(.type "dict"), none, (.dict #[.mk (PyData.keyHash P (Str.ofString "__module__")) (.str (Str.ofString "__module__") 490) (.str (Str.ofString "octetmint.operands") 350), .mk (PyData.keyHash P (Str.ofString "__firstlineno__")) (.str (Str.ofString "__firstlineno__") 494) (.int (159) 493), .mk (PyData.keyHash P (Str.ofString "__init__")) (.str (Str.ofString "__init__") 504) (.ref 269), .mk (PyData.keyHash P (Str.ofString "told")) (.str (Str.ofString "told") 511) (.ref 276), .mk (PyData.keyHash P (Str.ofString "symbol")) (.str (Str.ofString "symbol") 518) (.ref 283), .mk (PyData.keyHash P (Str.ofString "target")) (.str (Str.ofString "target") 526) (.ref 290), .mk (PyData.keyHash P (Str.ofString "__static_attributes__")) (.str (Str.ofString "__static_attributes__") 529) (.ref 291), .mk (PyData.keyHash P (Str.ofString "__doc__")) (.str (Str.ofString "__doc__") 530) .none] 2), #[]⟩) ::
  (nat_lit 293, ⟨(.type "type"), none, (.cls ⟨(Str.ofString "Rel"), [(.ref 183)], [(.ref 293), (.ref 183), (.type "object")], 292, (Str.ofString "Rel"), true, [], [], false, none, false⟩), #[some (.ref 255), none, some (.str (Str.ofString "Rel") 483), some (.str (Str.ofString "Rel") 491), some (.builtin "object.__new__"), some (.bool true)]⟩) ::
  (nat_lit 303, ⟨(.type "tuple"), none, (.seq #[(.int (0) 545), (.str (Str.ofString "") 546), (.str (Str.ofString "") 547)] 0), #[]⟩) ::
  (nat_lit 309, ⟨(.type "code"), none, (.fields #[(.str (Str.ofString "__init__") 548), (.str (Str.ofString "Mem.__init__") 549), (.str (Str.ofString "/claim/cut.py") 550), (.int (176) 0), (.int (8) 0), (.int (0) 0), (.int (0) 0), (.int (3) 0), (.ref 304), (.bool true), (.int (181) 0), (.ref 305), .none, (.ref 306), (.ref 307), (.ref 308), (.int (559) 0), (.int (176) 0), (.str (Str.ofString "/claim/cut.py") 560)]), #[]⟩) ::
  (nat_lit 310, ⟨(.type "function"), none, (.func (fnD (methAt 23 0) (Str.ofString "Mem.__init__") (.ref 303) (.str (Str.ofString "octetmint.operands") 350) (.ref 309))), #[]⟩) ::
  (nat_lit 345, ⟨(.type "dict"), none, (.dict #[.mk (PyData.keyHash P (Str.ofString "__module__")) (.str (Str.ofString "__module__") 540) (.str (Str.ofString "octetmint.operands") 350), .mk (PyData.keyHash P (Str.ofString "__firstlineno__")) (.str (Str.ofString "__firstlineno__") 544) (.int (174) 543), .mk (PyData.keyHash P (Str.ofString "__init__")) (.str (Str.ofString "__init__") 561) (.ref 310), .mk (PyData.keyHash P (Str.ofString "told")) (.str (Str.ofString "told") 568) (.ref 317), .mk (PyData.keyHash P (Str.ofString "symbol")) (.str (Str.ofString "symbol") 575) (.ref 324), .mk (PyData.keyHash P (Str.ofString "registers")) (.str (Str.ofString "registers") 581) (.ref 329), .mk (PyData.keyHash P (Str.ofString "is_rip")) (.str (Str.ofString "is_rip") 588) (.ref 336), .mk (PyData.keyHash P (Str.ofString "is_absolute")) (.str (Str.ofString "is_absolute") 595) (.ref 343), .mk (PyData.keyHash P (Str.ofString "__static_attributes__")) (.str (Str.ofString "__static_attributes__") 603) (.ref 344), .mk (PyData.keyHash P (Str.ofString "__doc__")) (.str (Str.ofString "__doc__") 604) .none] 2), #[]⟩) ::
  (nat_lit 346, ⟨(.type "type"), none, (.cls ⟨(Str.ofString "Mem"), [(.ref 183)], [(.ref 346), (.ref 183), (.type "object")], 345, (Str.ofString "Mem"), true, [], [], false, none, false⟩), #[some (.ref 296), none, some (.str (Str.ofString "Mem") 533), some (.str (Str.ofString "Mem") 541), some (.builtin "object.__new__"), some (.bool true)]⟩) ::
  (nat_lit 361, ⟨(.type "code"), none, (.fields #[(.str (Str.ofString "__init__") 631), (.str (Str.ofString "Register.__init__") 632), (.str (Str.ofString "/claim/cut.py") 633), (.int (208) 0), (.int (5) 0), (.int (0) 0), (.int (0) 0), (.int (3) 0), (.ref 356), (.bool true), (.int (181) 0), (.ref 357), .none, (.ref 358), (.ref 359), (.ref 360), (.int (639) 0), (.int (208) 0), (.str (Str.ofString "/claim/cut.py") 640)]), #[]⟩) ::
  (nat_lit 362, ⟨(.type "function"), none, (.func (fnD (methAt 30 0) (Str.ofString "Register.__init__") .none (.str (Str.ofString "octetmint.registers") 607) (.ref 361))), #[]⟩) ::
  (nat_lit 399, ⟨(.type "dict"), none, (.dict #[.mk (PyData.keyHash P (Str.ofString "__module__")) (.str (Str.ofString "__module__") 626) (.str (Str.ofString "octetmint.registers") 607), .mk (PyData.keyHash P (Str.ofString "__firstlineno__")) (.str (Str.ofString "__firstlineno__") 630) (.int (206) 629), .mk (PyData.keyHash P (Str.ofString "__init__")) (.str (Str.ofString "__init__") 641) (.ref 362), .mk (PyData.keyHash P (Str.ofString "code")) (.str (Str.ofString "code") 648) (.ref 369), .mk (PyData.keyHash P (Str.ofString "is_extended")) (.str (Str.ofString "is_extended") 655) (.ref 376), .mk (PyData.keyHash P (Str.ofString "is_high")) (.str (Str.ofString "is_high") 662) (.ref 383), .mk (PyData.keyHash P (Str.ofString "needs_rex")) (.str (Str.ofString "needs_rex") 669) (.ref 390), .mk (PyData.keyHash P (Str.ofString "told")) (.str (Str.ofString "told") 676) (.ref 397), .mk (PyData.keyHash P (Str.ofString "__static_attributes__")) (.str (Str.ofString "__static_attributes__") 681) (.ref 398), .mk (PyData.keyHash P (Str.ofString "__dict__")) (.str (Str.ofString "__dict__") 683) (.ref 401), .mk (PyData.keyHash P (Str.ofString "__weakref__")) (.str (Str.ofString "__weakref__") 685) (.ref 402), .mk (PyData.keyHash P (Str.ofString "__doc__")) (.str (Str.ofString "__doc__") 686) .none] 4), #[]⟩) ::
  (nat_lit 400, ⟨(.type "type"), none, (.cls ⟨(Str.ofString "Register"), [(.type "object")], [(.ref 400), (.type "object")], 399, (Str.ofString "Register"), true, [], [], false, none, false⟩), #[none, none, some (.str (Str.ofString "Register") 619), some (.str (Str.ofString "Register") 627), some (.builtin "object.__new__"), some (.bool true)]⟩) ::
  (nat_lit 410, ⟨(.type "code"), none, (.fields #[(.str (Str.ofString "early_names") 689), (.str (Str.ofString "early_names") 690), (.str (Str.ofString "/claim/cut.py") 691), (.int (228) 0), (.int (1) 0), (.int (0) 0), (.int (0) 0), (.int (3) 0), (.ref 405), (.bool true), (.int (181) 0), (.ref 406), .none, (.ref 407), (.ref 408), (.ref 409), (.int (693) 0), (.int (228) 0), (.str (Str.ofString "/claim/cut.py") 694)]), #[]⟩) ::
  (nat_lit 411, ⟨(.type "function"), none, (.func (fnD (stAt 31) (Str.ofString "early_names") .none (.str (Str.ofString "octetmint.registers") 607) (.ref 410))), #[]⟩) ::
  (nat_lit 417, ⟨(.type "code"), none, (.fields #[(.str (Str.ofString "late_ending") 696), (.str (Str.ofString "late_ending") 697), (.str (Str.ofString "/claim/cut.py") 698), (.int (238) 0), (.int (1) 0), (.int (0) 0), (.int (0) 0), (.int (3) 0), (.ref 412), (.bool true), (.int (181) 0), (.ref 413), .none, (.ref 414), (.ref 415), (.ref 416), (.int (700) 0), (.int (238) 0), (.str (Str.ofString "/claim/cut.py") 701)]), #[]⟩) ::
  (nat_lit 418, ⟨(.type "function"), none, (.func (fnD (stAt 32) (Str.ofString "late_ending") .none (.str (Str.ofString "octetmint.registers") 607) (.ref 417))), #[]⟩) ::
  (nat_lit 424, ⟨(.type "code"), none, (.fields #[(.str (Str.ofString "gpr") 703), (.str (Str.ofString "gpr") 704), (.str (Str.ofString "/claim/cut.py") 705), (.int (246) 0), (.int (2) 0), (.int (0) 0), (.int (0) 0), (.int (3) 0), (.ref 419), (.bool true), (.int (181) 0), (.ref 420), .none, (.ref 421), (.ref 422), (.ref 423), (.int (709) 0), (.int (246) 0), (.str (Str.ofString "/claim/cut.py") 710)]), #[]⟩) ::
  (nat_lit 425, ⟨(.type "function"), none, (.func (fnD (stAt 33) (Str.ofString "gpr") .none (.str (Str.ofString "octetmint.registers") 607) (.ref 424))), #[]⟩) ::
  (nat_lit 431, ⟨(.type "code"), none, (.fields #[(.str (Str.ofString "high") 712), (.str (Str.ofString "high") 713), (.str (Str.ofString "/claim/cut.py") 714), (.int (253) 0), (.int (1) 0), (.int (0) 0), (.int (0) 0), (.int (3) 0), (.ref 426), (.bool true), (.int (181) 0), (.ref 427), .none, (.ref 428), (.ref 429), (.ref 430), (.int (716) 0), (.int (253) 0), (.str (Str.ofString "/claim/cut.py") 717)]), #[]⟩) ::
  (nat_lit 432, ⟨(.type "function"), none, (.func (fnD (stAt 34) (Str.ofString "high") .none (.str (Str.ofString "octetmint.registers") 607) (.ref 431))), #[]⟩) ::
  (nat_lit 438, ⟨(.type "code"), none, (.fields #[(.str (Str.ofString "xmm") 719), (.str (Str.ofString "xmm") 720), (.str (Str.ofString "/claim/cut.py") 721), (.int (257) 0), (.int (1) 0), (.int (0) 0), (.int (0) 0), (.int (3) 0), (.ref 433), (.bool true), (.int (181) 0), (.ref 434), .none, (.ref 435), (.ref 436), (.ref 437), (.int (723) 0), (.int (257) 0), (.str (Str.ofString "/claim/cut.py") 724)]), #[]⟩) ::
  (nat_lit 439, ⟨(.type "function"), none, (.func (fnD (stAt 35) (Str.ofString "xmm") .none (.str (Str.ofString "octetmint.registers") 607) (.ref 438))), #[]⟩) ::
  (nat_lit 445, ⟨(.type "code"), none, (.fields #[(.str (Str.ofString "rip") 726), (.str (Str.ofString "rip") 727), (.str (Str.ofString "/claim/cut.py") 728), (.int (261) 0), (.int (0) 0), (.int (0) 0), (.int (0) 0), (.int (3) 0), (.ref 440), (.bool true), (.int (181) 0), (.ref 441), .none, (.ref 442), (.ref 443), (.ref 444), (.int (729) 0), (.int (261) 0), (.str (Str.ofString "/claim/cut.py") 730)]), #[]⟩) ::
  (nat_lit 446, ⟨(.type "function"), none, (.func (fnD (stAt 36) (Str.ofString "rip") .none (.str (Str.ofString "octetmint.registers") 607) (.ref 445))), #[]⟩) ::
  (nat_lit 452, ⟨(.type "code"), none, (.fields #[(.str (Str.ofString "_law_roll") 734), (.str (Str.ofString "_law_roll") 735), (.str (Str.ofString "/claim/cut.py") 736), (.int (264) 0), (.int (2) 0), (.int (0) 0), (.int (0) 0), (.int (3) 0), (.ref 447), (.bool true), (.int (181) 0), (.ref 448), .none, (.ref 449), (.ref 450), (.ref 451), (.int (740) 0), (.int (264) 0), (.str (Str.ofString "/claim/cut.py") 741)]), #[]⟩) ::
  (nat_lit 453, ⟨(.type "function"), none, (.func (fnD (stAt 38) (Str.ofString "_law_roll") .none (.str (Str.ofString "law_pb0422_01") 732) (.ref 452))), #[]⟩) ::
  (nat_lit 459, ⟨(.type "code"), none, (.fields #[(.str (Str.ofString "_law_table") 743), (.str (Str.ofString "_law_table") 744), (.str (Str.ofString "/claim/cut.py") 745), (.int (268) 0), (.int (0) 0), (.int (0) 0), (.int (0) 0), (.int (3) 0), (.ref 454), (.bool true), (.int (181) 0), (.ref 455), .none, (.ref 456), (.ref 457), (.ref 458), (.int (748) 0), (.int (268) 0), (.str (Str.ofString "/claim/cut.py") 749)]), #[]⟩) ::
  (nat_lit 460, ⟨(.type "function"), none, (.func (fnD (stAt 39) (Str.ofString "_law_table") .none (.str (Str.ofString "law_pb0422_01") 732) (.ref 459))), #[]⟩) ::
  (nat_lit 466, ⟨(.type "code"), none, (.fields #[(.str (Str.ofString "_law_worth") 751), (.str (Str.ofString "_law_worth") 752), (.str (Str.ofString "/claim/cut.py") 753), (.int (271) 0), (.int (1) 0), (.int (0) 0), (.int (0) 0), (.int (3) 0), (.ref 461), (.bool true), (.int (181) 0), (.ref 462), .none, (.ref 463), (.ref 464), (.ref 465), (.int (755) 0), (.int (271) 0), (.str (Str.ofString "/claim/cut.py") 756)]), #[]⟩) ::
  (nat_lit 467, ⟨(.type "function"), none, (.func (fnD (stAt 40) (Str.ofString "_law_worth") .none (.str (Str.ofString "law_pb0422_01") 732) (.ref 466))), #[]⟩) ::
  (nat_lit 473, ⟨(.type "code"), none, (.fields #[(.str (Str.ofString "_law_memory") 758), (.str (Str.ofString "_law_memory") 759), (.str (Str.ofString "/claim/cut.py") 760), (.int (275) 0), (.int (1) 0), (.int (0) 0), (.int (0) 0), (.int (3) 0), (.ref 468), (.bool true), (.int (181) 0), (.ref 469), .none, (.ref 470), (.ref 471), (.ref 472), (.int (767) 0), (.int (275) 0), (.str (Str.ofString "/claim/cut.py") 768)]), #[]⟩) ::
  (nat_lit 474, ⟨(.type "function"), none, (.func (fnD (stAt 41) (Str.ofString "_law_memory") .none (.str (Str.ofString "law_pb0422_01") 732) (.ref 473))), #[]⟩) ::
  (nat_lit 480, ⟨(.type "code"), none, (.fields #[(.str (Str.ofString "_law_number") 770), (.str (Str.ofString "_law_number") 771), (.str (Str.ofString "/claim/cut.py") 772), (.int (282) 0), (.int (1) 0), (.int (0) 0), (.int (0) 0), (.int (3) 0), (.ref 475), (.bool true), (.int (181) 0), (.ref 476), .none, (.ref 477), (.ref 478), (.ref 479), (.int (778) 0), (.int (282) 0), (.str (Str.ofString "/claim/cut.py") 779)]), #[]⟩) ::
  (nat_lit 481, ⟨(.type "function"), none, (.func (fnD (stAt 42) (Str.ofString "_law_number") .none (.str (Str.ofString "law_pb0422_01") 732) (.ref 480))), #[]⟩) ::
  (nat_lit 487, ⟨(.type "code"), none, (.fields #[(.str (Str.ofString "_law_sum") 781), (.str (Str.ofString "_law_sum") 782), (.str (Str.ofString "/claim/cut.py") 783), (.int (289) 0), (.int (1) 0), (.int (0) 0), (.int (0) 0), (.int (3) 0), (.ref 482), (.bool true), (.int (181) 0), (.ref 483), .none, (.ref 484), (.ref 485), (.ref 486), (.int (786) 0), (.int (289) 0), (.str (Str.ofString "/claim/cut.py") 787)]), #[]⟩) ::
  (nat_lit 488, ⟨(.type "function"), none, (.func (fnD (stAt 43) (Str.ofString "_law_sum") .none (.str (Str.ofString "law_pb0422_01") 732) (.ref 487))), #[]⟩) ::
  (nat_lit 494, ⟨(.type "code"), none, (.fields #[(.str (Str.ofString "_law_att") 789), (.str (Str.ofString "_law_att") 790), (.str (Str.ofString "/claim/cut.py") 791), (.int (300) 0), (.int (1) 0), (.int (0) 0), (.int (0) 0), (.int (3) 0), (.ref 489), (.bool true), (.int (181) 0), (.ref 490), .none, (.ref 491), (.ref 492), (.ref 493), (.int (799) 0), (.int (300) 0), (.str (Str.ofString "/claim/cut.py") 800)]), #[]⟩) ::
  (nat_lit 495, ⟨(.type "function"), none, (.func (fnD (stAt 44) (Str.ofString "_law_att") .none (.str (Str.ofString "law_pb0422_01") 732) (.ref 494))), #[]⟩) ::
  (nat_lit 501, ⟨(.type "code"), none, (.fields #[(.str (Str.ofString "_law_intel") 802), (.str (Str.ofString "_law_intel") 803), (.str (Str.ofString "/claim/cut.py") 804), (.int (311) 0), (.int (1) 0), (.int (0) 0), (.int (0) 0), (.int (3) 0), (.ref 496), (.bool true), (.int (181) 0), (.ref 497), .none, (.ref 498), (.ref 499), (.ref 500), (.int (816) 0), (.int (311) 0), (.str (Str.ofString "/claim/cut.py") 817)]), #[]⟩) ::
  (nat_lit 502, ⟨(.type "function"), none, (.func (fnD (stAt 45) (Str.ofString "_law_intel") .none (.str (Str.ofString "law_pb0422_01") 732) (.ref 501))), #[]⟩) ::
  (nat_lit 508, ⟨(.type "code"), none, (.fields #[(.str (Str.ofString "_law_is_memory_told") 819), (.str (Str.ofString "_law_is_memory_told") 820), (.str (Str.ofString "/claim/cut.py") 821), (.int (331) 0), (.int (1) 0), (.int (0) 0), (.int (0) 0), (.int (3) 0), (.ref 503), (.bool true), (.int (181) 0), (.ref 504), .none, (.ref 505), (.ref 506), (.ref 507), (.int (831) 0), (.int (331) 0), (.str (Str.ofString "/claim/cut.py") 832)]), #[]⟩) ::
  (nat_lit 509, ⟨(.type "function"), none, (.func (fnD (stAt 46) (Str.ofString "_law_is_memory_told") .none (.str (Str.ofString "law_pb0422_01") 732) (.ref 508))), #[]⟩) ::
  (nat_lit 515, ⟨(.type "code"), none, (.fields #[(.str (Str.ofString "_law_is_told") 834), (.str (Str.ofString "_law_is_told") 835), (.str (Str.ofString "/claim/cut.py") 836), (.int (341) 0), (.int (1) 0), (.int (0) 0), (.int (0) 0), (.int (3) 0), (.ref 510), (.bool true), (.int (181) 0), (.ref 511), .none, (.ref 512), (.ref 513), (.ref 514), (.int (846) 0), (.int (341) 0), (.str (Str.ofString "/claim/cut.py") 847)]), #[]⟩) ::
  (nat_lit 516, ⟨(.type "function"), none, (.func (fnD (stAt 47) (Str.ofString "_law_is_told") .none (.str (Str.ofString "law_pb0422_01") 732) (.ref 515))), #[]⟩) ::
  (nat_lit 520, ⟨(.type "code"), none, (.fields #[(.str (Str.ofString "law") 849), (.str (Str.ofString "law") 850), (.str (Str.ofString "/claim/cut.py") 851), (.int (359) 0), (.int (1) 0), (.int (0) 0), (.int (0) 0), (.int (3) 0), (.ref 517), (.bool true), (.int (181) 0), (.ref 518), .none, .none, .none, (.ref 519), (.int (852) 0), (.int (359) 0), (.str (Str.ofString "/claim/cut.py") 853)]), #[]⟩) ::
  (nat_lit 521, ⟨(.type "function"), none, (.func (fnD (stAt 48) (Str.ofString "law") .none (.str (Str.ofString "law_pb0422_01") 732) (.ref 520))), #[]⟩) ::
  []
noncomputable def Kas : List Nat := [2, 3, 29, 35, 36, 45, 46, 58, 59, 81, 82, 88, 89, 95, 96, 102, 103, 109, 110, 116, 117, 123, 124, 130, 131, 137, 138, 144, 145, 158, 159, 182, 183, 200, 201, 217, 218, 228, 234, 235, 251, 252, 262, 268, 269, 292, 293, 303, 309, 310, 345, 346, 361, 362, 399, 400, 410, 411, 417, 418, 424, 425, 431, 432, 438, 439, 445, 446, 452, 453, 459, 460, 466, 467, 473, 474, 480, 481, 487, 488, 494, 495, 501, 502, 508, 509, 515, 516, 520, 521]

theorem kas (P : Params) : Kas = (K P).map (·.1) := by kernel_rfl

theorem fill0 : PySem.Challenge.rw_pb0422_01 = PySem.Challenge.rw_pb0422_01 ∧ K = K := by
  k_fill
  exact ⟨rfl, rfl⟩
theorem kr_of {d k : Nat} (h : d + k < recursionLimit) : d < recursionLimit := Nat.lt_of_le_of_lt (Nat.le_add_right _ _) h
local macro_rules | `(tactic| k_room) => `(tactic| first
  | (refine' kr_of ?h9; (case h9 => assumption))
  | ((try simp only [depth_under_make, depth_under_kw, depth_in1, depth_deeper, depth_caller]); (try dsimp only [ktrTop]); omega))
local macro_rules | `(tactic| ktr_room) => `(tactic| (refine' kr_of ?h9; (case h9 => assumption)))
theorem ltTr {a b c : Nat} (h : b < c) (g : a < b) : a < c := Nat.lt_trans g h
theorem kw1 : True := by
  k_with "mine lt1" => first | (first | assumption | exact And.left (by assumption) | exact And.left (And.right (by assumption)) | exact And.left (And.right (And.right (by assumption))) | exact And.left (And.right (And.right (And.right (by assumption))))) | fail "none"
  trivial
local macro_rules | `(tactic| k_ne) => `(tactic| first | assumption | exact Nat.ne_of_gt (by walk_at "mine lt1") | exact Nat.ne_of_lt (by walk_at "mine lt1") | exact Nat.ne_of_gt (ltTr (by assumption) (by walk_at "mine lt1")))
abbrev S (s : String) : Str := Str.ofString s
/-- a frame's map, written short -/
theorem fr_as {h₀ h : Heap} {L : Addr} {m : Str → Option Value} {G : Prop} (F : Fr h₀ L h m) (m' : Str → Option Value) (e : m = m') (k : Fr h₀ L h m' → G) : G := k (e ▸ F)
/-- where a call is made: any frame, any ledger -/
structure At (w : World) (k : Nat) (dp un : Nat) (cn : Str) (cs : Scope) (L a : Addr) (ccd : Value) (cl : List (Str × Addr)) (outer : List Env) (A₀ : Around) (base h₀ : Heap) (m : Str → Option Value) (s : Shared) (news : List (Addr × Obj)) (p : Program) (loose : List Str) (mean : ExcName → Option Value) (mg mb : Str → Option Value) : Prop where
  B : Below A₀ base outer h₀
  F : Fr h₀ L s.heap m
  X : (K w.params).In h₀
  N : News h₀ L s.heap news
  T : Top p loose mean mg mb h₀
  hk : cs.kind = .function
  hd : dp + k < recursionLimit
  hu : un + 8 * k + 200 < cLine
/-- a pure def's contract: from any frame it gives back R, and what stood stands -/
noncomputable def Pure (w : World) (k : Nat) (f : Addr) (vs : List Value) (R : Tok → Value) : Prop :=
  ∀ (dp un : Nat) (gd : Option (List Code)) (cn : Str) (cs : Scope) (a : Addr) (ccd : Value) (cl : List (Str × Addr)) (outer : List Env) (A₀ : Around) (base h₀ : Heap) (L : Addr) (m : Str → Option Value) (s : Shared) (news : List (Addr × Obj)) (p : Program) (loose : List Str) (mean : ExcName → Option Value) (mg mb : Str → Option Value) (Q E : Value → Shared → Prop),
    Below A₀ base outer h₀ → Fr h₀ L s.heap m → (K w.params).In h₀ → News h₀ L s.heap news → Top p loose mean mg mb h₀ → cs.kind = .function → dp + k < recursionLimit → un + 8 * k + 200 < cLine →
    (∀ (t : Tok) (h' : Heap) (tk' : Nat), Fr h₀ L h' m → News h₀ L h' news → Q (R t) { s with heap := h', toks := tk' }) →
      wpAny (model PySem.Challenge.rw_pb0422_01.row.prog w) (ktrTop dp un gd cn cs L a ccd cl outer) (call (.ref f) vs) Q E s
section
variable {w : World} {k : Nat} {f : Addr} {vs : List Value} {R : Tok → Value} {dp un : Nat} {gd : Option (List Code)} {cn : Str} {cs : Scope} {a : Addr} {ccd : Value} {cl : List (Str × Addr)} {outer : List Env} {A₀ : Around} {base h₀ : Heap} {L : Addr} {m : Str → Option Value} {s : Shared} {news : List (Addr × Obj)} {p : Program} {loose : List Str} {mean : ExcName → Option Value} {mg mb : Str → Option Value} {Q E : Value → Shared → Prop}
theorem Pure.use (B : Below A₀ base outer h₀) (F : Fr h₀ L s.heap m) (X : (K w.params).In h₀) (N : News h₀ L s.heap news) (T : Top p loose mean mg mb h₀) (hk : cs.kind = .function) (C : Pure w k f vs R) (hd : dp + k < recursionLimit) (hu : un + 8 * k + 200 < cLine)
    (h : ∀ (t : Tok) (h' : Heap) (tk' : Nat), Fr h₀ L h' m → News h₀ L h' news → Q (R t) { s with heap := h', toks := tk' }) :
    wpAny (model PySem.Challenge.rw_pb0422_01.row.prog w) (ktrTop dp un gd cn cs L a ccd cl outer) (call (.ref f) vs) Q E s := C _ _ _ _ _ _ _ _ _ _ _ _ _ _ _ _ _ _ _ _ _ _ _ B F X N T hk hd hu h
end

-- the room for a call's frames and units: by a lemma (a call's omega is some 300 nodes), else by omega
theorem kd_of {d k j : Nat} (h : d + k < recursionLimit) (hj : Nat.ble j k = true) : d + j < recursionLimit := Nat.lt_of_le_of_lt (Nat.add_le_add_left (Nat.le_of_ble_eq_true hj) d) h
theorem ku_of {u k j : Nat} (h : u + k + 200 < cLine) (hj : Nat.ble j k = true) : u + j + 200 < cLine := Nat.lt_of_le_of_lt (Nat.add_le_add_right (Nat.add_le_add_left (Nat.le_of_ble_eq_true hj) u) 200) h
theorem kw2 : True := by
  k_with "mine kd" => first | (first | (refine' kd_of ?h9w ?j9w; (case h9w => assumption); (case j9w => exact rfl)) | ((try simp only [depth_under_make, depth_under_kw, depth_in1, depth_deeper, depth_caller]); (try dsimp only [ktrTop]); omega)) | fail "none"
  k_with "mine ku" => first | (first | (refine' ku_of ?h9w ?j9w; (case h9w => assumption); (case j9w => exact rfl)) | ((try simp only [units_in1, units_deeper, Around.mark_units, units_caller]); (try dsimp only [ktrTop]); omega)) | fail "none"
  trivial
-- the premises of a contract's use, at a walk's goal
theorem kw3 : True := by
  k_with "mine use" => first | (( (case k1w => k_asm); (case k2w => k_asm); (case k3w => k_asm); (case k4w => k_asm); (case k5w => k_asm); (case kKw => first | exact rfl | assumption); (case kdw => walk_at "mine kd"); (case kuw => walk_at "mine ku"); intro t9w h9w tk9w F9w N9w; (try dsimp only); (try k_fold))) | fail "none"
  trivial
-- a contract's own walk: it begins
theorem kw4 : True := by
  k_with "mine start" => first | (( unfold Pure; intro dpw unw gdw cnw csw aw ccdw clw outerw A₀w basew h₀w Lw mw sw newsw pw loosew meanw mgw mbw Qw Ew Bw Fw Xw Nw Tw hkw hdw huw; intro hretw; refine wpAny_call ?_; k_dflt cell_enter)) | fail "none"
  trivial
/-! ### plain functions -/
noncomputable def sizeWord (n : Int) : Str := if n = 8 then S "byte" else if n = 16 then S "word" else if n = 32 then S "dword" else if n = 64 then S "qword" else if n = 128 then S "xmmword" else S ""
/-- the sign of a figure -/
noncomputable def dg (n : Nat) : Nat := if n < 10 then 48 + n else 87 + n
/-- the hex figures of a number, by fuel -/
noncomputable def hx : Nat → Nat → List Nat
  | 0, _ => []
  | k + 1, n => if n < 16 then [dg n] else hx k (n / 16) ++ [dg (n % 16)]
theorem hx_len (k n : Nat) : (hx k n).length ≤ k := by
  induction k generalizing n with
  | zero => exact Nat.le_refl _
  | succ k ih =>
    unfold hx
    split
    · simp
    · rw [List.length_append]
      have := ih (n / 16)
      simp only [List.length_cons, List.length_nil]
      omega
theorem hx_more (k n : Nat) (h : n < 16 ^ k) : hx (k + 1) n = hx k n ∨ k = 0 := by
  induction k generalizing n with
  | zero => exact .inr rfl
  | succ k ih =>
    left
    rw [show hx (k + 1 + 1) n = if n < 16 then [dg n] else hx (k + 1) (n / 16) ++ [dg (n % 16)] from rfl, show hx (k + 1) n = if n < 16 then [dg n] else hx k (n / 16) ++ [dg (n % 16)] from rfl]
    split
    · rfl
    · rename_i h16
      rcases ih (n / 16) (by rw [Nat.pow_succ] at h; omega) with e | e
      · rw [e]
      · subst e; simp at h; omega
noncomputable def figT (n : Int) : Str := ⟨(hx 12 n.toNat).toArray⟩
/-- between two turns of figures_of -/
noncomputable def FigInv (r₀ rest : Int) (found : Str) : Prop := 0 ≤ rest ∧ (rest ≤ r₀ ∧ r₀ < 4294967296) ∧ ((found = S "" ∧ rest = r₀) ∨ ((rest < r₀ ∨ r₀ = 0) ∧ 1 ≤ found.length ∧ found.length ≤ 12 ∧ (rest = 0 → hx 12 r₀.toNat = found.cps.toList) ∧ (0 < rest → hx 12 r₀.toNat = hx 12 rest.toNat ++ found.cps.toList)))
theorem fig_item (i : Nat) (h : i < 16) : Txt.item (S "0123456789abcdef") (i : Int) = ⟨#[dg i]⟩ := (by decide +kernel : ∀ i : Nat, i < 16 → Txt.item (S "0123456789abcdef") (i : Int) = ⟨#[dg i]⟩) i h
theorem hx_step (n : Nat) (h : n < 4294967296) : hx 12 n = if n < 16 then [dg n] else hx 12 (n / 16) ++ [dg (n % 16)] := by
  rw [hx]
  split
  · rfl
  · rcases hx_more 11 (n / 16) (by omega) with e | e
    · rw [← e]
    · cases e
theorem fig_start {n : Int} (h0 : 0 ≤ n) (h1 : n < 4294967296) : FigInv n n (S "") := ⟨h0, ⟨Int.le_refl _, h1⟩, .inl ⟨rfl, rfl⟩⟩
theorem len_empty : (S "").length = 0 := by decide
theorem app_cps (a b : Str) : (a ++ b).cps.toList = a.cps.toList ++ b.cps.toList := by rw [Str.cps_append, Array.toList_append]
theorem fig_turn {r₀ rest : Int} {found : Str} (h : FigInv r₀ rest found) (ht : 0 < rest ∨ found.length < 1) : FigInv r₀ (rest.fdiv 16) (Txt.item (S "0123456789abcdef") (rest % 16) ++ found) := by
  obtain ⟨h0, h2, h3⟩ := h
  obtain ⟨n, rfl⟩ := Int.eq_ofNat_of_zero_le h0
  have e1 : ((n : Int) % 16) = ((n % 16 : Nat) : Int) := rfl
  have e2 : (n : Int).fdiv 16 = ((n / 16 : Nat) : Int) := by rw [Int.fdiv_eq_ediv_of_nonneg _ (by decide)]; rfl
  rw [e1, e2, fig_item _ (Nat.mod_lt _ (by decide))]
  have hl : ((⟨#[dg (n % 16)]⟩ : Str) ++ found).length = 1 + found.length := by rw [Str.length_append]; rfl
  refine ⟨by omega, ⟨by omega, h2.2⟩, .inr ?_⟩
  rw [hl, app_cps]
  show _ ∧ _ ∧ _ ∧ (_ → _ = [dg (n % 16)] ++ found.cps.toList) ∧ (_ → _ = _ ++ ([dg (n % 16)] ++ found.cps.toList))
  rcases h3 with ⟨rfl, e⟩ | ⟨h4, h5, h6, h7, h8⟩
  · have hn : n < 4294967296 := by omega
    subst e
    rw [len_empty, show (S "").cps.toList = [] from by decide]
    simp only [Int.toNat_natCast, List.append_nil]
    rw [hx_step n hn]
    refine ⟨by omega, by omega, by omega, fun e => ?_, fun e => ?_⟩
    · have : n < 16 := by omega
      rw [if_pos this, Nat.mod_eq_of_lt this]
    · rw [if_neg (by omega)]
  · have hp : 0 < n := by rcases ht with q | q <;> omega
    have hn : n < 4294967296 := by omega
    have h8' := h8 (by omega)
    simp only [Int.toNat_natCast] at h8' ⊢
    have hl12 : (hx 12 r₀.toNat).length ≤ 12 := hx_len _ _
    have hf : found.cps.toList.length = found.length := Array.length_toList
    rw [h8', hx_step n hn] at hl12
    rw [h8', hx_step n hn]
    refine ⟨by omega, by omega, ?_, fun e => ?_, fun e => ?_⟩
    · split at hl12 <;> simp only [List.length_append, List.length_cons, List.length_nil] at hl12 <;> omega
    · have : n < 16 := by omega
      rw [if_pos this, Nat.mod_eq_of_lt this]
    · rw [if_neg (by omega), List.append_assoc]
theorem fig_end {r₀ rest : Int} {found : Str} (h : FigInv r₀ rest found) (h1 : ¬ 0 < rest) (h2 : ¬ (found.length : Int) < 1) : found = figT r₀ := by
  obtain ⟨h0, _, h3⟩ := h
  have e : rest = 0 := by omega
  rcases h3 with ⟨rfl, _⟩ | ⟨_, _, _, h7, _⟩
  · rw [len_empty] at h2; omega
  · exact StrLaws.mk_of_toList (h7 e).symm
theorem fig_len {r₀ rest : Int} {found : Str} (h : FigInv r₀ rest found) : found.length ≤ 12 := by
  obtain ⟨_, _, h3⟩ := h
  rcases h3 with ⟨rfl, _⟩ | ⟨_, _, h, _⟩
  · rw [len_empty]; omega
  · exact h
theorem fig_less {rest : Int} {found : Str} (h0 : 0 ≤ rest) (h : 0 < rest ∨ found.length < 1) : (rest.fdiv 16).toNat + (1 - (Txt.item (S "0123456789abcdef") (rest % 16) ++ found).length) < rest.toNat + (1 - found.length) := by
  obtain ⟨n, rfl⟩ := Int.eq_ofNat_of_zero_le h0
  have e2 : (n : Int).fdiv 16 = ((n / 16 : Nat) : Int) := by rw [Int.fdiv_eq_ediv_of_nonneg _ (by decide)]; rfl
  rw [e2, Str.length_append, show (Txt.item (S "0123456789abcdef") ((n : Int) % 16)).length = 1 from rfl]
  simp only [Int.toNat_natCast]
  omega
section
variable {prog : Program} {w : World} {A : Around} {E : Value → Shared → Prop} {s : Shared} {value slice : PySem.Expr} {t u : Tok} {i : Int} {Q : Value → Shared → Prop}
theorem r_fig (h : Q (.str (Txt.item (S "0123456789abcdef") (i % 16)) s.toks) { s with toks := s.toks + 1 })
    (hs : subscripted slice false (.str (S "0123456789abcdef") t) (.int (Builtin.bitAnd i 15) u) = operate [.str (S "0123456789abcdef") t, .int (Builtin.bitAnd i 15) u] (getItem (.str (S "0123456789abcdef") t) (.int (Builtin.bitAnd i 15) u)) := by with_unfolding_all rfl)
    (ht : ∀ r, letTemporaryGo value (.str (S "0123456789abcdef") t) r = pure () := by intro _; with_unfolding_all rfl) :
    wpAny (model prog w) A (subscriptTail value slice (.str (S "0123456789abcdef") t) (.int (Builtin.bitAnd i 15) u)) Q E s := by
  have e := bitAnd_m4 i
  refine KXi.item (n := 16) (by decide +kernel) (by omega) (by omega) (by decide) (fun _ => ?_) hs ht
  rw [e]
  exact h
end

theorem kw5 : True := by
  k_with "own subscriptTail" => first | ((k_here; (with_reducible show wpAny _ _ (subscriptTail _ _ (Value.str _ _) (Value.int (Builtin.bitAnd _ _) _)) _ _ _); (refine r_fig ?_))) | fail "none"
  trivial
set_option maxRecDepth 100000 in
set_option maxHeartbeats 8000000 in
theorem figures_of_c (w : World) (n : Int) (t u : Tok) (h0 : 0 ≤ n) (h1 : n < 4294967296) : Pure w 1 82 [.int n t, .int 1 u] (fun t => .str (figT n) t) := by
  walk_at "mine start"
  k_with "state" => first | exact ⟨fig_start (by assumption) (by assumption), by decide⟩ | (exact ⟨fig_turn (by assumption) (by first | (left; assumption) | (right; omega)), fig_len (fig_turn (by assumption) (by first | (left; assumption) | (right; omega)))⟩)
  k_with "measure" => exact fig_less (And.left (a := _) (b := _) (by assumption : FigInv _ _ _)) (by first | (left; assumption) | (right; omega))
  k_with "exec While BoolOp cons nil" => k_while_given ["rest!"] (fun r₀ _ rest found => FigInv r₀ rest found ∧ found.length ≤ 12) (fun _ _ rest found => rest.toNat + (1 - found.length)) "rest" "found"
  k_steps
  rename FigInv _ _ _ => hI
  exact cb_retS (by assumption) (fig_end hI (by assumption) (by assumption)) (by assumption) (by assumption)

noncomputable def hexT (n : Int) : Str := if n < 0 then S "-0x" ++ figT (-n) else S "0x" ++ figT n
theorem figT_len (n : Int) : (figT n).length ≤ 12 := by
  show (hx 12 n.toNat).toArray.size ≤ 12
  rw [List.size_toArray]
  exact hx_len _ _
theorem kw6 : True := by
  k_with "own call ref" => first | ((k_here; (with_reducible show wpAny _ _ (call (Value.ref 82) [Value.int _ _, Value.int 1 _]) _ _ _); k_dflt (refine' Pure.use ?k1w ?k2w ?k3w ?k4w ?k5w ?kKw (figures_of_c _ _ _ _ (by omega) (by omega)) ?kdw ?kuw ?_; walk_at "mine use"))) | fail "none"
  trivial
set_option maxRecDepth 100000 in
set_option maxHeartbeats 8000000 in
theorem hex_text_c (w : World) (n : Int) (t : Tok) (h0 : -4294967296 < n) (h1 : n < 4294967296) : Pure w 2 89 [.int n t] (fun t => .str (hexT n) t) := by
  walk_at "mine start"
  have hl := figT_len n
  have hl' := figT_len (-n)
  k_steps
  all_goals exact cb_retS (by assumption) (by simp only [hexT]; split <;> first | rfl | (exfalso; omega)) (by assumption) (by assumption)

/-! ### the short texts -/
-- a text's length is small
theorem kw7 : True := by
  k_with "mine len" => first | (((try simp only [PySem.Str.length_append]); (try kopn_lits); omega)) | fail "none"
  trivial
theorem hexT_len (n : Int) : (hexT n).length ≤ 15 := by
  have h1 := figT_len n
  have h2 := figT_len (-n)
  unfold hexT
  split <;> rw [Str.length_append] <;> (first | rw [show (S "-0x").length = 3 from by decide] | rw [show (S "0x").length = 2 from by decide]) <;> omega
theorem kw8 : True := by
  k_with "own call ref" => first | ((k_here; (with_reducible show wpAny _ _ (call (Value.ref 89) [Value.int _ _]) _ _ _); k_dflt (refine' Pure.use ?k1w ?k2w ?k3w ?k4w ?k5w ?kKw (hex_text_c _ _ _ (by omega) (by omega)) ?kdw ?kuw ?_; walk_at "mine use"))) | fail "none"
  trivial
noncomputable def plusT (x : Str) (n : Int) : Str := if n = 0 then x else if n < 0 then x ++ hexT n else (x ++ S "+") ++ hexT n
noncomputable def sumT (x : Str) (n : Int) : Str := if n = 0 then x else if n < 0 then (x ++ S " - ") ++ hexT (-n) else (x ++ S " + ") ++ hexT n
noncomputable def aheadT (n : Int) : Str := if n < 0 then S ". - " ++ hexT (-n) else S ". + " ++ hexT n
set_option maxRecDepth 100000 in
set_option maxHeartbeats 8000000 in
theorem size_word_c (w : World) (n : Int) (t : Tok) : Pure w 1 96 [.int n t] (fun t => .str (sizeWord n) t) := by
  walk_at "mine start"
  (rename Fr _ _ _ _ => hF0)
  refine fr_as hF0 (fun y => List.lookup y [(Str.ofString "size", .int n t)]) rfl ?_
  clear hF0
  intro hF0
  k_steps
  all_goals exact cb_retS (by assumption) (by unfold sizeWord; (repeat' split) <;> first | rfl | (exfalso; omega)) (by assumption) (by assumption)
set_option maxRecDepth 100000 in
set_option maxHeartbeats 8000000 in
theorem plus_text_c (w : World) (x : Str) (n : Int) (u t : Tok) (hx : x.length ≤ 1000) (h0 : -4294967296 < n) (h1 : n < 4294967296) : Pure w 3 103 [.str x u, .int n t] (fun t => .str (plusT x n) t) := by
  walk_at "mine start"
  (rename Fr _ _ _ _ => hF0)
  refine fr_as hF0 (fun y => List.lookup y [(Str.ofString "worth", .int n t), (Str.ofString "name", .str x u)]) rfl ?_
  clear hF0
  intro hF0
  have hl := hexT_len n
  k_steps
  all_goals exact cb_retS (by assumption) (by unfold plusT; (repeat' split) <;> first | rfl | (exfalso; omega)) (by assumption) (by assumption)
set_option maxRecDepth 100000 in
set_option maxHeartbeats 8000000 in
theorem sum_text_c (w : World) (x : Str) (n : Int) (u t : Tok) (hx : x.length ≤ 1000) (h0 : -4294967296 < n) (h1 : n < 4294967296) : Pure w 3 110 [.str x u, .int n t] (fun t => .str (sumT x n) t) := by
  walk_at "mine start"
  (rename Fr _ _ _ _ => hF0)
  refine fr_as hF0 (fun y => List.lookup y [(Str.ofString "worth", .int n t), (Str.ofString "name", .str x u)]) rfl ?_
  clear hF0
  intro hF0
  have hl := hexT_len n
  have hl' := hexT_len (-n)
  k_steps
  all_goals exact cb_retS (by assumption) (by unfold sumT; (repeat' split) <;> first | rfl | (exfalso; omega)) (by assumption) (by assumption)
set_option maxRecDepth 100000 in
set_option maxHeartbeats 8000000 in
theorem ahead_text_c (w : World) (n : Int) (t : Tok) (h0 : -4294967296 < n) (h1 : n < 4294967296) : Pure w 3 117 [.int n t] (fun t => .str (aheadT n) t) := by
  walk_at "mine start"
  (rename Fr _ _ _ _ => hF0)
  refine fr_as hF0 (fun y => List.lookup y [(Str.ofString "worth", .int n t)]) rfl ?_
  clear hF0
  intro hF0
  have hl := hexT_len n
  have hl' := hexT_len (-n)
  k_steps
  all_goals exact cb_retS (by assumption) (by unfold aheadT; (repeat' split) <;> first | rfl | (exfalso; omega)) (by assumption) (by assumption)
theorem plusT_len (x : Str) (n : Int) : (plusT x n).length ≤ x.length + 16 := by
  have := hexT_len n
  unfold plusT
  (repeat' split) <;> (try simp only [Str.length_append, show (S "+").length = 1 from by decide])
  all_goals omega
theorem sumT_len (x : Str) (n : Int) : (sumT x n).length ≤ x.length + 18 := by
  have := hexT_len n
  have := hexT_len (-n)
  unfold sumT
  (repeat' split) <;> (try simp only [Str.length_append, show (S " + ").length = 3 from by decide, show (S " - ").length = 3 from by decide])
  all_goals omega
theorem aheadT_len (n : Int) : (aheadT n).length ≤ 19 := by
  have := hexT_len n
  have := hexT_len (-n)
  unfold aheadT
  (repeat' split) <;> (try simp only [Str.length_append, show (S ". + ").length = 4 from by decide, show (S ". - ").length = 4 from by decide])
  all_goals omega
theorem sizeWord_len (n : Int) : (sizeWord n).length ≤ 7 := by
  unfold sizeWord
  (repeat' split) <;> decide

theorem kw9 : True := by
  k_with "own call ref" => first | ((k_here; (with_reducible show wpAny _ _ (call (Value.ref 96) [Value.int _ _]) _ _ _); k_dflt (refine' Pure.use ?k1w ?k2w ?k3w ?k4w ?k5w ?kKw (size_word_c _ _ _) ?kdw ?kuw ?_; walk_at "mine use"))) | fail "none"
  k_with "own call ref" => first | ((k_here; (with_reducible show wpAny _ _ (call (Value.ref 103) [Value.str _ _, Value.int _ _]) _ _ _); k_dflt (refine' Pure.use ?k1w ?k2w ?k3w ?k4w ?k5w ?kKw (plus_text_c _ _ _ _ _ (by walk_at "mine len") (by omega) (by omega)) ?kdw ?kuw ?_; walk_at "mine use"))) | fail "none"
  k_with "own call ref" => first | ((k_here; (with_reducible show wpAny _ _ (call (Value.ref 110) [Value.str _ _, Value.int _ _]) _ _ _); k_dflt (refine' Pure.use ?k1w ?k2w ?k3w ?k4w ?k5w ?kKw (sum_text_c _ _ _ _ _ (by walk_at "mine len") (by omega) (by omega)) ?kdw ?kuw ?_; walk_at "mine use"))) | fail "none"
  k_with "own call ref" => first | ((k_here; (with_reducible show wpAny _ _ (call (Value.ref 117) [Value.int _ _]) _ _ _); k_dflt (refine' Pure.use ?k1w ?k2w ?k3w ?k4w ?k5w ?kKw (ahead_text_c _ _ _ (by omega) (by omega)) ?kdw ?kuw ?_; walk_at "mine use"))) | fail "none"
  trivial
/-! ### the dice -/
/-- the dice: how often thrown, the cells -/
abbrev diceO (n : Int) (t : Tok) (c : Addr) (e : Nat) : Obj := listOf #[.int n t, .ref c] e
local macro_rules | `(tactic| k_all) => `(tactic| assumption)
set_option maxRecDepth 100000 in
set_option maxHeartbeats 8000000 in
theorem roll_in (w : World) (d c : Addr) (n : Int) (tn : Tok) (e ce : Nat) (vs : List Value) (ns : List Int) (sides : Int) (ts : Tok) (hi : IntsAre vs ns) (hne : 0 < ns.length) (hlen : ns.length ≤ 1000) (_hn : 0 ≤ n) (_hn2 : n ≤ 100000) (hs : 0 < sides)
    (dp un : Nat) (gd : Option (List Code)) (cn : Str) (cs : Scope) (a : Addr) (ccd : Value) (cl : List (Str × Addr)) (outer : List Env) (A₀ : Around) (base h₀ : Heap) (L : Addr) (m : Str → Option Value) (s : Shared) (rest : List (Addr × Obj)) (p : Program) (loose : List Str) (mean : ExcName → Option Value) (mg mb : Str → Option Value) (Q E : Value → Shared → Prop)
    (B : Below A₀ base outer h₀) (F : Fr h₀ L s.heap m) (X : (K w.params).In h₀) (N : News h₀ L s.heap ((d, diceO n tn c e) :: (c, listOf vs.toArray ce) :: rest)) (T : Top p loose mean mg mb h₀) (hk : cs.kind = .function) (hd : dp + 1 < recursionLimit) (hu : un + 8 * 1 + 200 < cLine)
    (hdc : c ≠ d) (hrest : ∀ p ∈ rest, p.1 ≠ d)
    (hret : ∀ (v : Int) (tn' : Tok) (e' : Nat) (t : Tok) (h' : Heap) (tk' : Nat), 0 ≤ v → v < sides → Fr h₀ L h' m → News h₀ L h' ((d, diceO (n + 1) tn' c e') :: (c, listOf vs.toArray ce) :: rest) → Q (.int v t) { s with heap := h', toks := tk' }) :
      wpAny (model PySem.Challenge.rw_pb0422_01.row.prog w) (ktrTop dp un gd cn cs L a ccd cl outer) (call (.ref 453) [.ref d, .int sides ts]) Q E s := by
  refine wpAny_call ?_
  k_dflt cell_enter
  k_steps
  exact hret _ _ _ _ _ _ (Int.fmod_nonneg_of_pos _ hs) (Int.fmod_lt_of_pos _ hs) (by assumption) (by assumption)
/-- the ledger holds o at d, and is f o' when o' stands there -/
inductive Spl (d : Addr) (o : Obj) : List (Addr × Obj) → (Obj → List (Addr × Obj)) → Prop
  | head {r : List (Addr × Obj)} : (∀ p ∈ r, p.1 ≠ d) → Spl d o ((d, o) :: r) (fun o' => (d, o') :: r)
  | tail {p : Addr × Obj} {r : List (Addr × Obj)} {f : Obj → List (Addr × Obj)} : p.1 ≠ d → Spl d o r f → Spl d o (p :: r) (fun o' => p :: f o')
theorem Spl.rest {d : Addr} {o : Obj} {news : List (Addr × Obj)} {f : Obj → List (Addr × Obj)} (H : Spl d o news f) :
    ∃ rest, (∀ p ∈ rest, p.1 ≠ d) ∧ (∀ x ∈ (d, o) :: rest, x ∈ news) ∧ (∀ x ∈ news, x ∈ (d, o) :: rest) ∧ ∀ o', ∀ x ∈ f o', x ∈ (d, o') :: rest := by
  induction H with
  | head h => exact ⟨_, h, fun _ h => h, fun _ h => h, fun _ _ h => h⟩
  | @tail p r f h _ ih =>
    obtain ⟨rest, h1, h2, h3, h4⟩ := ih
    refine ⟨p :: rest, ?_, ?_, ?_, ?_⟩
    · intro q hp
      rcases List.mem_cons.mp hp with rfl | hp
      · exact h
      · exact h1 q hp
    · intro x hx
      rcases List.mem_cons.mp hx with rfl | hx
      · exact .tail _ (h2 _ (.head _))
      · rcases List.mem_cons.mp hx with rfl | hx
        · exact .head _
        · exact .tail _ (h2 _ (.tail _ hx))
    · intro x hx
      rcases List.mem_cons.mp hx with rfl | hx
      · exact .tail _ (.head _)
      · rcases List.mem_cons.mp (h3 x hx) with rfl | hx
        · exact .head _
        · exact .tail _ (.tail _ hx)
    · intro o' x hx
      rcases List.mem_cons.mp hx with rfl | hx
      · exact .tail _ (.head _)
      · rcases List.mem_cons.mp (h4 o' x hx) with rfl | hx
        · exact .head _
        · exact .tail _ (.tail _ hx)
theorem roll_c {w : World} {d c : Addr} {n : Int} {tn : Tok} {e ce : Nat} {vs : List Value} {ns : List Int} {sides : Int} {ts : Tok}
    {dp un : Nat} {gd : Option (List Code)} {cn : Str} {cs : Scope} {a : Addr} {ccd : Value} {cl : List (Str × Addr)} {outer : List Env} {A₀ : Around} {base h₀ : Heap} {L : Addr} {m : Str → Option Value} {s : Shared} {news : List (Addr × Obj)} {f : Obj → List (Addr × Obj)} {p : Program} {loose : List Str} {mean : ExcName → Option Value} {mg mb : Str → Option Value} {Q E : Value → Shared → Prop}
    (B : Below A₀ base outer h₀) (F : Fr h₀ L s.heap m) (X : (K w.params).In h₀) (N : News h₀ L s.heap news) (T : Top p loose mean mg mb h₀) (hk : cs.kind = .function) (hS : Spl d (diceO n tn c e) news f) (hc : (c, listOf vs.toArray ce) ∈ news) (hdc : c ≠ d)
    (hi : IntsAre vs ns) (hne : 0 < ns.length ∧ ns.length ≤ 1000) (hn : 0 ≤ n ∧ n ≤ 100000) (hs : 0 < sides) (hd : dp + 1 < recursionLimit) (hu : un + 8 * 1 + 200 < cLine)
    (hret : ∀ (v : Int) (tn' : Tok) (e' : Nat) (t : Tok) (h' : Heap) (tk' : Nat), 0 ≤ v → v < sides → Fr h₀ L h' m → News h₀ L h' (f (diceO (n + 1) tn' c e')) → Q (.int v t) { s with heap := h', toks := tk' }) :
      wpAny (model PySem.Challenge.rw_pb0422_01.row.prog w) (ktrTop dp un gd cn cs L a ccd cl outer) (call (.ref 453) [.ref d, .int sides ts]) Q E s := by
  obtain ⟨rest, h1, h2, h3, h4⟩ := hS.rest
  refine roll_in w d c n tn e ce vs ns sides ts hi hne.1 hne.2 hn.1 hn.2 hs dp un gd cn cs a ccd cl outer A₀ base h₀ L m s rest p loose mean mg mb Q E B F X ?_ T hk hd hu hdc h1 ?_
  · intro x hx
    rcases List.mem_cons.mp hx with rfl | hx
    · exact N _ (h2 _ (.head _))
    · rcases List.mem_cons.mp hx with rfl | hx
      · exact N _ hc
      · exact N _ (h2 _ (.tail _ hx))
  · intro v tn' e' t h' tk' v0 v1 F' N'
    refine hret v tn' e' t h' tk' v0 v1 F' fun x hx => ?_
    rcases List.mem_cons.mp (h4 _ x hx) with rfl | hx
    · exact N' _ (.head _)
    · exact N' _ (.tail _ (.tail _ hx))
theorem kw10 : True := by
  k_with "mine spl" => first | (first | (refine' Spl.head ?aw; (case aw => k_all)) | (refine' Spl.tail ?aw ?bw; (case aw => k_ne); (case bw => walk_at "mine spl"))) | fail "none"
  k_with "mine use dice" => first | (( (case k1w => k_asm); (case k2w => k_asm); (case k3w => k_asm); (case k4w => k_asm); (case k5w => k_asm); (case kKw => first | exact rfl | assumption); (case kSw => walk_at "mine spl"); (case kcw => k_mem); (case kdcw => k_ne); (case kiw => assumption); (case kew => assumption); (case knw => omega); (case kdw => walk_at "mine kd"); (case kuw => walk_at "mine ku"))) | fail "none"
  k_with "own call ref" => first | ((k_here; (with_reducible show wpAny _ _ (call (Value.ref 453) [Value.ref _, Value.int _ _]) _ _ _); k_dflt (refine' roll_c ?k1w ?k2w ?k3w ?k4w ?k5w ?kKw ?kSw ?kcw ?kdcw ?kiw ?kew ?knw ?kpw ?kdw ?kuw ?_; (walk_at "mine use dice"); (case kpw => decide); intro v9w tn9w e9w t9w h9w tk9w v0w v1w F9w N9w; (try dsimp only at N9w); (try dsimp only); (try k_fold); (try k_sweep)))) | fail "none"
  trivial
/-- the contract of a def that throws the dice: at most b throws; it makes what Out says -/
noncomputable def Dice (w : World) (k : Nat) (f : Addr) (b : Int) (Out : Value → List (Addr × Obj) → Prop) : Prop :=
  ∀ (d c : Addr) (n : Int) (tn : Tok) (e ce : Nat) (vs : List Value) (ns : List Int) (dp un : Nat) (gd : Option (List Code)) (cn : Str) (cs : Scope) (a : Addr) (ccd : Value) (cl : List (Str × Addr)) (outer : List Env) (A₀ : Around) (base h₀ : Heap) (L : Addr) (m : Str → Option Value) (s : Shared) (rest : List (Addr × Obj)) (p : Program) (loose : List Str) (mean : ExcName → Option Value) (mg mb : Str → Option Value) (Q E : Value → Shared → Prop),
    IntsAre vs ns → (0 < ns.length ∧ ns.length ≤ 1000) → (0 ≤ n ∧ n + 1000 * k ≤ 100000) → Below A₀ base outer h₀ → Fr h₀ L s.heap m → (K w.params).In h₀ → News h₀ L s.heap ((d, diceO n tn c e) :: (c, listOf vs.toArray ce) :: rest) → Top p loose mean mg mb h₀ → cs.kind = .function → dp + k < recursionLimit → un + 8 * k + 200 < cLine →
    c ≠ d → (∀ p ∈ rest, p.1 ≠ d) →
    (∀ (v : Value) (made : List (Addr × Obj)) (n' : Int) (tn' : Tok) (e' : Nat) (h' : Heap) (tk' : Nat), n ≤ n' → n' ≤ n + b → Out v made → Fr h₀ L h' m → News h₀ L h' (made ++ (d, diceO n' tn' c e') :: (c, listOf vs.toArray ce) :: rest) → Q v { s with heap := h', toks := tk' }) →
      wpAny (model PySem.Challenge.rw_pb0422_01.row.prog w) (ktrTop dp un gd cn cs L a ccd cl outer) (call (.ref f) [.ref d]) Q E s
theorem Dice.use {w : World} {k : Nat} {f : Addr} {b : Int} {Out : Value → List (Addr × Obj) → Prop} {d c : Addr} {n : Int} {tn : Tok} {e ce : Nat} {vs : List Value} {ns : List Int}
    {dp un : Nat} {gd : Option (List Code)} {cn : Str} {cs : Scope} {a : Addr} {ccd : Value} {cl : List (Str × Addr)} {outer : List Env} {A₀ : Around} {base h₀ : Heap} {L : Addr} {m : Str → Option Value} {s : Shared} {news : List (Addr × Obj)} {fl : Obj → List (Addr × Obj)} {p : Program} {loose : List Str} {mean : ExcName → Option Value} {mg mb : Str → Option Value} {Q E : Value → Shared → Prop}
    (B : Below A₀ base outer h₀) (F : Fr h₀ L s.heap m) (X : (K w.params).In h₀) (N : News h₀ L s.heap news) (T : Top p loose mean mg mb h₀) (hk : cs.kind = .function) (hS : Spl d (diceO n tn c e) news fl) (hc : (c, listOf vs.toArray ce) ∈ news) (hdc : c ≠ d)
    (hi : IntsAre vs ns) (hne : 0 < ns.length ∧ ns.length ≤ 1000) (hn : 0 ≤ n ∧ n + 1000 * k ≤ 100000) (C : Dice w k f b Out) (hd : dp + k < recursionLimit) (hu : un + 8 * k + 200 < cLine)
    (hret : ∀ (v : Value) (made : List (Addr × Obj)) (n' : Int) (tn' : Tok) (e' : Nat) (h' : Heap) (tk' : Nat), n ≤ n' → n' ≤ n + b → Out v made → Fr h₀ L h' m → News h₀ L h' (made ++ fl (diceO n' tn' c e')) → Q v { s with heap := h', toks := tk' }) :
      wpAny (model PySem.Challenge.rw_pb0422_01.row.prog w) (ktrTop dp un gd cn cs L a ccd cl outer) (call (.ref f) [.ref d]) Q E s := by
  obtain ⟨rest, h1, h2, h3, h4⟩ := hS.rest
  refine C d c n tn e ce vs ns dp un gd cn cs a ccd cl outer A₀ base h₀ L m s rest p loose mean mg mb Q E hi hne hn B F X ?_ T hk hd hu hdc h1 ?_
  · intro x hx
    rcases List.mem_cons.mp hx with rfl | hx
    · exact N _ (h2 _ (.head _))
    · rcases List.mem_cons.mp hx with rfl | hx
      · exact N _ hc
      · exact N _ (h2 _ (.tail _ hx))
  · intro v made n' tn' e' h' tk' v0 v1 ho F' N'
    refine hret v made n' tn' e' h' tk' v0 v1 ho F' fun x hx => ?_
    rcases List.mem_append.mp hx with hx | hx
    · exact N' _ (List.mem_append.mpr (.inl hx))
    · rcases List.mem_cons.mp (h4 _ x hx) with rfl | hx
      · exact N' _ (List.mem_append.mpr (.inr (.head _)))
      · exact N' _ (List.mem_append.mpr (.inr (.tail _ (.tail _ hx))))
theorem newsT {h₀ h : Heap} {L : Addr} {x : Addr × Obj} {l : List (Addr × Obj)} (N : News h₀ L h (x :: l)) : News h₀ L h l := fun p hp => N p (.tail _ hp)
/-- an int between two bounds, and nothing made -/
abbrev IntOut (lo hi : Int) : Value → List (Addr × Obj) → Prop := fun v made => made = [] ∧ ∃ i t, v = .int i t ∧ lo ≤ i ∧ i < hi
set_option maxRecDepth 100000 in
set_option maxHeartbeats 8000000 in
theorem worth_c (w : World) : Dice w 2 467 2 (IntOut (-2147483648) 2147483648) := by
  unfold Dice
  intro d c n tn e ce vs ns dp un gd cn cs a ccd cl outer A₀ base h₀ L m s rest p loose mean mg mb Q E hi hne hn B F X N T hk hd hu hdc hrest hret
  refine wpAny_call ?_
  k_dflt cell_enter
  (rename Fr _ _ _ _ => hF0)
  refine fr_as hF0 (fun y => List.lookup y [(Str.ofString "dice", .ref d)]) rfl ?_
  clear hF0
  intro hF0
  k_steps
  · refine hret _ [] _ _ _ _ _ ?_ ?_ ⟨rfl, _, _, rfl, Int.le_trans (by decide) (kmn_any (lo := -128) (hi := 4096) (by decide)).1, Int.lt_of_le_of_lt (kmn_any (lo := -128) (hi := 4096) (by decide)).2 (by decide)⟩ (by assumption) (newsT (by assumption)) <;> omega
  · have e31 : (2 : Int) ^ Int.toNat 31 = 2147483648 := by decide
    have e32 : (2 : Int) ^ Int.toNat 32 = 4294967296 := by decide
    refine hret _ [] _ _ _ _ _ ?_ ?_ ⟨rfl, _, _, rfl, ?_, ?_⟩ (by assumption) (by assumption) <;> omega
theorem IntOut.use {lo hi n b : Int} {c : Addr} {h₀ : Heap} {L : Addr} {m : Str → Option Value} {Q : Value → Shared → Prop} {s : Shared} {fl : Obj → List (Addr × Obj)}
    (h : ∀ (i : Int) (t : Tok) (n' : Int) (tn' : Tok) (e' : Nat) (h' : Heap) (tk' : Nat), n ≤ n' → n' ≤ n + b → lo ≤ i → i < hi → Fr h₀ L h' m → News h₀ L h' (fl (diceO n' tn' c e')) → Q (.int i t) { s with heap := h', toks := tk' }) :
    ∀ (v : Value) (made : List (Addr × Obj)) (n' : Int) (tn' : Tok) (e' : Nat) (h' : Heap) (tk' : Nat), n ≤ n' → n' ≤ n + b → IntOut lo hi v made → Fr h₀ L h' m → News h₀ L h' (made ++ fl (diceO n' tn' c e')) → Q v { s with heap := h', toks := tk' } := by
  rintro v made n' tn' e' h' tk' h1 h2 ⟨rfl, i, t, rfl, h3, h4⟩ F N
  exact h i t n' tn' e' h' tk' h1 h2 h3 h4 F N

theorem kw11 : True := by
  k_with "own call ref" => first | ((k_here; (with_reducible show wpAny _ _ (call (Value.ref 467) [Value.ref _]) _ _ _); k_dflt (refine' Dice.use ?k1w ?k2w ?k3w ?k4w ?k5w ?kKw ?kSw ?kcw ?kdcw ?kiw ?kew ?knw (worth_c _) ?kdw ?kuw (IntOut.use ?_); (walk_at "mine use dice"); intro i9w t9w n9w tn9w e9w h9w tk9w v0w v1w w0w w1w F9w N9w; (try dsimp only at N9w); (try dsimp only); (try k_fold); (try k_sweep)))) | fail "none"
  trivial
/-! ### the makers of registers -/
/-- the contract of a def that makes things -/
noncomputable def Make (w : World) (k : Nat) (f : Addr) (vs : List Value) (Out : Value → List (Addr × Obj) → Prop) : Prop :=
  ∀ (dp un : Nat) (gd : Option (List Code)) (cn : Str) (cs : Scope) (a : Addr) (ccd : Value) (cl : List (Str × Addr)) (outer : List Env) (A₀ : Around) (base h₀ : Heap) (L : Addr) (m : Str → Option Value) (s : Shared) (news : List (Addr × Obj)) (p : Program) (loose : List Str) (mean : ExcName → Option Value) (mg mb : Str → Option Value) (Q E : Value → Shared → Prop),
    Below A₀ base outer h₀ → Fr h₀ L s.heap m → (K w.params).In h₀ → News h₀ L s.heap news → Top p loose mean mg mb h₀ → cs.kind = .function → dp + k < recursionLimit → un + 8 * k + 200 < cLine →
    (∀ (v : Value) (made : List (Addr × Obj)) (h' : Heap) (tk' : Nat), Out v made → (∀ q ∈ news, ∀ p ∈ made, q.1 < p.1) → Fr h₀ L h' m → News h₀ L h' (made ++ news) → Q v { s with heap := h', toks := tk' }) →
      wpAny (model PySem.Challenge.rw_pb0422_01.row.prog w) (ktrTop dp un gd cn cs L a ccd cl outer) (call (.ref f) vs) Q E s
theorem Make.use {w : World} {k : Nat} {f : Addr} {vs : List Value} {Out : Value → List (Addr × Obj) → Prop} {dp un : Nat} {gd : Option (List Code)} {cn : Str} {cs : Scope} {a : Addr} {ccd : Value} {cl : List (Str × Addr)} {outer : List Env} {A₀ : Around} {base h₀ : Heap} {L : Addr} {m : Str → Option Value} {s : Shared} {news : List (Addr × Obj)} {p : Program} {loose : List Str} {mean : ExcName → Option Value} {mg mb : Str → Option Value} {Q E : Value → Shared → Prop}
    (B : Below A₀ base outer h₀) (F : Fr h₀ L s.heap m) (X : (K w.params).In h₀) (N : News h₀ L s.heap news) (T : Top p loose mean mg mb h₀) (hk : cs.kind = .function) (C : Make w k f vs Out) (hd : dp + k < recursionLimit) (hu : un + 8 * k + 200 < cLine)
    (h : ∀ (v : Value) (made : List (Addr × Obj)) (h' : Heap) (tk' : Nat), Out v made → (∀ q ∈ news, ∀ p ∈ made, q.1 < p.1) → Fr h₀ L h' m → News h₀ L h' (made ++ news) → Q v { s with heap := h', toks := tk' }) :
    wpAny (model PySem.Challenge.rw_pb0422_01.row.prog w) (ktrTop dp un gd cn cs L a ccd cl outer) (call (.ref f) vs) Q E s := C _ _ _ _ _ _ _ _ _ _ _ _ _ _ _ _ _ _ _ _ _ _ _ B F X N T hk hd hu h
/-- a register's fields -/
noncomputable def regD (P : Params) (name : Str) (t1 : Tok) (kind : Str) (t2 : Tok) (num : Int) (t3 : Tok) (size : Int) (t4 : Tok) (k1 k2 k3 k4 : Tok) (e : Nat) : Obj :=
  dictOf [⟨PyData.keyHash P (Str.ofString "name"), .str (Str.ofString "name") k1, .str name t1⟩, ⟨PyData.keyHash P (Str.ofString "kind"), .str (Str.ofString "kind") k2, .str kind t2⟩, ⟨PyData.keyHash P (Str.ofString "number"), .str (Str.ofString "number") k3, .int num t3⟩, ⟨PyData.keyHash P (Str.ofString "size"), .str (Str.ofString "size") k4, .int size t4⟩] e
noncomputable def names64 : List Str := [S "rax", S "rcx", S "rdx", S "rbx", S "rsp", S "rbp", S "rsi", S "rdi"]
/-- the name of a register of 64 bits -/
noncomputable def gprN (n : Int) : Str := if n < 8 then names64.getD n.toNat PySem.Str.empty else (S "r" ++ Str.ofString (toString n)) ++ S ""
/-- a new register -/
abbrev RegOut (P : Params) (name : Str → Prop) (kind : Str) (num size : Int) : Value → List (Addr × Obj) → Prop := fun v made => ∃ nm x dx t1 t2 t3 t4 k1 k2 k3 k4 e, v = .ref x ∧ made = [(x, instObj 400 dx), (dx, regD P nm t1 kind t2 num t3 size t4 k1 k2 k3 k4 e)] ∧ dx < x ∧ name nm
theorem newsCut {h₀ h : Heap} {L : Addr} {a b : Addr × Obj} {l l' : List (Addr × Obj)} (N : News h₀ L h (a :: b :: l')) (hs : ∀ x ∈ l, x ∈ l') : News h₀ L h ([a, b] ++ l) := fun p hp => by
  rcases List.mem_cons.mp hp with rfl | hp
  · exact N _ (.head _)
  · rcases List.mem_cons.mp hp with rfl | hp
    · exact N _ (.tail _ (.head _))
    · exact N _ (.tail _ (.tail _ (hs _ hp)))
theorem ordCut {x dx : Addr} {o o' : Obj} {news l : List (Addr × Obj)} (h1 : AllLt dx l) (h2 : dx < x) (hs : ∀ p ∈ news, p ∈ l) : ∀ q ∈ news, ∀ p ∈ [(x, o), (dx, o')], q.1 < p.1 := fun q hq p hp => by
  have := ktn_ltOf h1 q (hs q hq)
  rcases List.mem_cons.mp hp with rfl | hp
  · exact Nat.lt_trans this h2
  · rw [List.mem_singleton.mp hp]; exact this
theorem regEnd {P : Params} {name : Str → Prop} {kind : Str} {num size : Int} {h₀ h' : Heap} {L x dx : Addr} {m : Str → Option Value} {s : Shared} {news l : List (Addr × Obj)} {Q : Value → Shared → Prop} {tk' : Nat} {nm : Str} {t1 t2 t3 t4 k1 k2 k3 k4 : Tok} {e : Nat}
    (hret : ∀ (v : Value) (made : List (Addr × Obj)) (h' : Heap) (tk' : Nat), RegOut P name kind num size v made → (∀ q ∈ news, ∀ p ∈ made, q.1 < p.1) → Fr h₀ L h' m → News h₀ L h' (made ++ news) → Q v { s with heap := h', toks := tk' })
    (F : Fr h₀ L h' m) (N : News h₀ L h' ((x, instObj 400 dx) :: (dx, dictOf [⟨PyData.keyHash P (Str.ofString "name"), .str (Str.ofString "name") k1, .str nm t1⟩, ⟨PyData.keyHash P (Str.ofString "kind"), .str (Str.ofString "kind") k2, .str kind t2⟩, ⟨PyData.keyHash P (Str.ofString "number"), .str (Str.ofString "number") k3, .int num t3⟩, ⟨PyData.keyHash P (Str.ofString "size"), .str (Str.ofString "size") k4, .int size t4⟩] e) :: l))
    (hs : ∀ x ∈ news, x ∈ l) (h2 : dx < x) (h1 : AllLt dx news) (hn : name nm) : Q (.ref x) { s with heap := h', toks := tk' } :=
  hret _ _ _ _ ⟨nm, x, dx, t1, t2, t3, t4, k1, k2, k3, k4, e, rfl, rfl, h2, hn⟩ (ordCut h1 h2 fun _ h => h) F (newsCut N hs)
theorem gprN_len (n : Int) (h0 : 0 ≤ n) (h1 : n ≤ 15) : (gprN n).length ≤ 8 := by
  obtain ⟨k, rfl⟩ := Int.eq_ofNat_of_zero_le h0
  exact (by decide +kernel : ∀ k : Nat, k ≤ 15 → (gprN (k : Int)).length ≤ 8) k (by omega)
theorem numT_len (n : Int) (h0 : 0 ≤ n) (h1 : n ≤ 15) : (Str.ofString (toString n)).length ≤ 2 := by
  obtain ⟨k, rfl⟩ := Int.eq_ofNat_of_zero_le h0
  exact (by decide +kernel : ∀ k : Nat, k ≤ 15 → (Str.ofString (toString (k : Int))).length ≤ 2) k (by omega)
theorem AllLt.sub {d : Addr} {p : Addr × Obj} {l : List (Addr × Obj)} (h : AllLt d (p :: l)) : AllLt d l := h.2

theorem kw12 : True := by
  k_with "mine in" => first | ((intro xw hxw; first | assumption | exact .tail _ hxw | exact .tail _ (.tail _ hxw) | exact .tail _ (.tail _ (.tail _ hxw)))) | fail "none"
  k_with "mine lt" => first | (first | assumption | exact allLt_of (by assumption) | exact And.right (by assumption) | exact And.right (And.right (by assumption)) | exact And.right (And.right (And.right (by assumption)))) | fail "none"
  trivial
/-! ### the makers' walks -/
/-- the early names of a size -/
noncomputable def earlyN (size : Int) : List Str := if size = 64 then names64 else if size = 32 then [S "eax", S "ecx", S "edx", S "ebx", S "esp", S "ebp", S "esi", S "edi"] else if size = 16 then [S "ax", S "cx", S "dx", S "bx", S "sp", S "bp", S "si", S "di"] else [S "al", S "cl", S "dl", S "bl", S "spl", S "bpl", S "sil", S "dil"]
/-- the late ending of a size -/
noncomputable def lateN (size : Int) : Str := if size = 32 then S "d" else if size = 16 then S "w" else if size = 8 then S "b" else S ""
theorem lateN_len (size : Int) : (lateN size).length ≤ 1 := by
  unfold lateN
  (repeat' split) <;> decide
set_option maxRecDepth 100000 in
set_option maxHeartbeats 8000000 in
theorem late_c (w : World) (n : Int) (t : Tok) : Pure w 1 418 [.int n t] (fun t => .str (lateN n) t) := by
  walk_at "mine start"
  k_steps
  all_goals exact cb_retS (by assumption) (by unfold lateN; (repeat' split) <;> first | rfl | (exfalso; omega)) (by assumption) (by assumption)
/-- the new list of the early names -/
abbrev EarlyOut (ss : List Str) : Value → List (Addr × Obj) → Prop := fun v made => ∃ (l : Addr) (vs : List Value) (nn : Nat), v = .ref l ∧ made = [(l, listOf vs.toArray nn)] ∧ StrsAre vs ss
theorem words_end {ss : List Str} {T : Str} {l : Addr} {vs : List (Str × Tok)} {nn : Nat} {h₀ h' : Heap} {L : Addr} {m : Str → Option Value} {s : Shared} {news : List (Addr × Obj)} {Q : Value → Shared → Prop} {tk' : Nat}
    (hret : ∀ (v : Value) (made : List (Addr × Obj)) (h' : Heap) (tk' : Nat), EarlyOut ss v made → (∀ q ∈ news, ∀ p ∈ made, q.1 < p.1) → Fr h₀ L h' m → News h₀ L h' (made ++ news) → Q v { s with heap := h', toks := tk' })
    (F : Fr h₀ L h' m) (N : News h₀ L h' ((l, listOf (strValues vs).toArray nn) :: news)) (hl : AllLt l news) (e : vs.map (·.1) = Txt.words T) (hs : StrsAre (strValues vs) (vs.map (·.1))) (hT : Txt.words T = ss) : Q (.ref l) { s with heap := h', toks := tk' } := by
  refine hret _ [_] _ _ ⟨l, _, nn, rfl, rfl, hT ▸ e ▸ hs⟩ ?_ F N
  intro q hq p hp
  rw [List.mem_singleton.mp hp]
  exact ktn_ltOf hl q hq
theorem early_words {size : Int} : (size = 64 → Txt.words (S "rax rcx rdx rbx rsp rbp rsi rdi") = earlyN size) ∧ (size = 32 → Txt.words (S "eax ecx edx ebx esp ebp esi edi") = earlyN size) ∧ (size = 16 → Txt.words (S "ax cx dx bx sp bp si di") = earlyN size) ∧ (size = 8 → Txt.words (S "al cl dl bl spl bpl sil dil") = earlyN size) := by
  refine ⟨?_, ?_, ?_, ?_⟩ <;> (rintro rfl; decide +kernel)
-- a written text's words stay a list that a fact tells
theorem kw13 : True := by
  k_with "mine words" => first | ((k_here; (with_reducible show wpAny _ _ (call (Value.builtin "str.split") [Value.str _ _]) _ _ _); k_dflt (refine KSpl.split0 (by k_asm) (by k_asm) ?_ (by kspl_size)); (intro D'w l'w h'w k'w e'w a'w F'w N'w l1w); (try k_lt l1w))) | fail "none"
  trivial
section OnlyHere
local macro_rules | `(tactic| walk_at $s:str) => `(tactic| k_extra $(Lean.Syntax.mkStrLit ("h1 " ++ s.getString)):str)
theorem kw14 : True := by
  k_with "h1 call builtin:str.split" => first | (walk_at "mine words") | fail "none"
  trivial
set_option maxRecDepth 100000 in
set_option maxHeartbeats 8000000 in
theorem early_c (w : World) (size : Int) (u : Tok) (hs : size = 8 ∨ size = 16 ∨ size = 32 ∨ size = 64) : Make w 2 411 [.int size u] (EarlyOut (earlyN size)) := by
  unfold Make
  intro dp un gd cn cs a ccd cl outer A₀ base h₀ L m s news p loose mean mg mb Q E B F X N T hk hd hu hret
  refine wpAny_call ?_
  k_dflt cell_enter
  (rename Fr _ _ _ _ => hF0)
  refine fr_as hF0 (fun y => List.lookup y [(Str.ofString "size", .int size u)]) rfl ?_
  clear hF0
  intro hF0
  k_steps
  all_goals (rename Fr _ _ _ _ => hF; rename News _ _ _ _ => hN)
  · (rename StrsAre _ _ => hS); exact words_end hret hF hN (by walk_at "mine lt") (by assumption) hS (early_words.1 (by assumption))
  · (rename StrsAre _ _ => hS); exact words_end hret hF hN (by walk_at "mine lt") (by assumption) hS (early_words.2.1 (by assumption))
  · (rename StrsAre _ _ => hS); exact words_end hret hF hN (by walk_at "mine lt") (by assumption) hS (early_words.2.2.1 (by assumption))
  · (rename StrsAre _ _ => hS); exact words_end hret hF hN (by walk_at "mine lt") (by assumption) hS (early_words.2.2.2 (by assumption))
  · exfalso
    omega
end OnlyHere
theorem EarlyOut.use {ss : List Str} {news : List (Addr × Obj)} {h₀ : Heap} {L : Addr} {m : Str → Option Value} {Q : Value → Shared → Prop} {s : Shared}
    (h : ∀ (l : Addr) (vs : List Value) (nn : Nat) (h' : Heap) (tk' : Nat), (∀ p ∈ news, p.1 < l) → StrsAre vs ss → Fr h₀ L h' m → News h₀ L h' ((l, listOf vs.toArray nn) :: news) → Q (.ref l) { s with heap := h', toks := tk' }) :
    ∀ (v : Value) (made : List (Addr × Obj)) (h' : Heap) (tk' : Nat), EarlyOut ss v made → (∀ q ∈ news, ∀ p ∈ made, q.1 < p.1) → Fr h₀ L h' m → News h₀ L h' (made ++ news) → Q v { s with heap := h', toks := tk' } := by
  rintro v made h' tk' ⟨l, vs, nn, rfl, rfl, hs⟩ hl F N
  exact h l vs nn h' tk' (fun p hp => hl p hp _ (.head _)) hs F N
theorem readsStrs (h : Heap) : ∀ {vs : List Value} {ys : List Str}, StrsAre vs ys → ReadsAll h vs (ys.map .str) []
  | _, _, .nil => .nil
  | _, _, .cons y t r => ReadsAll.cons (as := []) (bs := []) (.str y t) (readsStrs h r)
section
variable {prog : Program} {w : World} {A : Around} {E : Value → Shared → Prop} {s : Shared} {h₀ : Heap} {L a b l : Addr} {news : List (Addr × Obj)} {Q : Value → Shared → Prop} {vs : List Value} {ss : List Str} {nn n2 : Nat} {value slice : PySem.Expr} {v : Int} {u : Tok}
theorem names_ne (N : News h₀ L s.heap news) (ha : (a, listOf vs.toArray nn) ∈ news) (hb : (b, listOf #[] n2) ∈ news) (hi : StrsAre vs ss) (h1 : PySem.SeqAt.shaped (.list (ss.map .str)) = true) (h2 : PySem.SeqAt.noMix (.list (ss.map .str)) (.list []) = true) (h3 : PySem.Spec.same (.list (ss.map .str)) (.list []) = false) (hu : A.units + 64 < cLine)
    (h : Q (.bool false) s) : wpAny (model prog w) A (compareOp .Eq (.ref a) (.ref b)) Q E s := by
  obtain ⟨o, ho, hc, n, hd⟩ := News.isList N ha
  obtain ⟨o', ho', hc', n', hd'⟩ := News.isList N (show (b, listOf ([] : List Value).toArray n2) ∈ news from hb)
  refine eq_dataH_same (Reads.list ho hc hd (by simpa using readsStrs s.heap hi)) (Reads.list (xs := []) ho' hc' hd' (by exact ReadsAll.nil)) h1 rfl hu h2 ?_
  rw [h3]
  exact h
theorem names_item (N : News h₀ L s.heap news) (hm : (l, listOf vs.toArray nn) ∈ news) (hi : StrsAre vs ss) (h0 : 0 ≤ v) (h1 : v < (ss.length : Int)) (hl : ss.length ≤ 8) (h : ∀ t, Q (.str (ss.getD v.toNat PySem.Str.empty) t) s)
    (hs : subscripted slice false (.ref l) (.int v u) = operate [.ref l, .int v u] (getItem (.ref l) (.int v u)) := by with_unfolding_all rfl) :
    wpAny (model prog w) A (subscriptTail value slice (.ref l) (.int v u)) Q E s := by
  have hlt : v.toNat < ss.length := by omega
  obtain ⟨t, ht⟩ := hi.at (List.getElem?_eq_getElem hlt)
  refine kba_turn (value' := PySem.Expr.Name (PySem.Str.ofString "_") ⟨0, 0, 0, 0⟩) (fun _ => rfl) (tail_any (News.isList N hm).typeIs slot_list_getitem.lookup (wpAny_getItem_list (News.isList N hm) h0 (by omega) (by simpa using ht) ?_) hs)
  have := h t
  rw [List.getD_eq_getElem?_getD, List.getElem?_eq_getElem hlt] at this
  exact this
end
theorem early_facts (size : Int) (hs : size = 8 ∨ size = 16 ∨ size = 32 ∨ size = 64) : (earlyN size).length = 8 ∧ PySem.SeqAt.shaped (.list ((earlyN size).map .str)) = true ∧ PySem.SeqAt.noMix (.list ((earlyN size).map .str)) (.list []) = true ∧ PySem.Spec.same (.list ((earlyN size).map .str)) (.list []) = false ∧ ∀ i : Nat, i < 8 → ((earlyN size).getD i PySem.Str.empty).length ≤ 8 := by
  rcases hs with rfl | rfl | rfl | rfl <;> decide +kernel
/-! ### the class Register -/
/-- a new register whose name is told -/
abbrev RegIs (P : Params) (nm kind : Str) (num size : Int) : Value → List (Addr × Obj) → Prop := fun v made => ∃ x dx t1 t2 t3 t4 k1 k2 k3 k4 e, v = .ref x ∧ made = [(x, instObj 400 dx), (dx, regD P nm t1 kind t2 num t3 size t4 k1 k2 k3 k4 e)] ∧ dx < x
theorem RegIs.out {P : Params} {nm kind : Str} {num size : Int} {name : Str → Prop} {v : Value} {made : List (Addr × Obj)} (h : RegIs P nm kind num size v made) (hn : name nm) : RegOut P name kind num size v made := by
  obtain ⟨x, dx, t1, t2, t3, t4, k1, k2, k3, k4, e, h1, h2, h3⟩ := h
  exact ⟨nm, x, dx, t1, t2, t3, t4, k1, k2, k3, k4, e, h1, h2, h3, hn⟩
theorem RegIs.last {P : Params} {kind : Str} {num size : Int} {h₀ h' : Heap} {L x dx : Addr} {m : Str → Option Value} {s : Shared} {news l : List (Addr × Obj)} {Q : Value → Shared → Prop} {tk' : Nat} {nm : Str} {t1 t2 t3 t4 k1 k2 k3 k4 : Tok} {e : Nat}
    (hret : ∀ (v : Value) (made : List (Addr × Obj)) (h' : Heap) (tk' : Nat), RegIs P nm kind num size v made → (∀ q ∈ news, ∀ p ∈ made, q.1 < p.1) → Fr h₀ L h' m → News h₀ L h' (made ++ news) → Q v { s with heap := h', toks := tk' })
    (F : Fr h₀ L h' m) (N : News h₀ L h' ((x, instObj 400 dx) :: (dx, dictOf [⟨PyData.keyHash P (Str.ofString "name"), .str (Str.ofString "name") k1, .str nm t1⟩, ⟨PyData.keyHash P (Str.ofString "kind"), .str (Str.ofString "kind") k2, .str kind t2⟩, ⟨PyData.keyHash P (Str.ofString "number"), .str (Str.ofString "number") k3, .int num t3⟩, ⟨PyData.keyHash P (Str.ofString "size"), .str (Str.ofString "size") k4, .int size t4⟩] e) :: l))
    (hs : ∀ x ∈ news, x ∈ l) (h2 : dx < x) (h1 : AllLt dx news) : Q (.ref x) { s with heap := h', toks := tk' } :=
  hret _ _ _ _ ⟨x, dx, t1, t2, t3, t4, k1, k2, k3, k4, e, rfl, rfl, h2⟩ (ordCut h1 h2 fun _ h => h) F (newsCut N hs)
/-- a maker ends with what another made -/
theorem make_end {Out Out' : Value → List (Addr × Obj) → Prop} {h₀ h' : Heap} {L : Addr} {m : Str → Option Value} {s : Shared} {news l made : List (Addr × Obj)} {Q : Value → Shared → Prop} {tk' : Nat} {v : Value}
    (hret : ∀ (v : Value) (made : List (Addr × Obj)) (h' : Heap) (tk' : Nat), Out v made → (∀ q ∈ news, ∀ p ∈ made, q.1 < p.1) → Fr h₀ L h' m → News h₀ L h' (made ++ news) → Q v { s with heap := h', toks := tk' })
    (F : Fr h₀ L h' m) (N : News h₀ L h' (made ++ l)) (ho : Out' v made) (hl : ∀ q ∈ l, ∀ p ∈ made, q.1 < p.1) (hs : ∀ x ∈ news, x ∈ l) (hm : Out' v made → Out v made) : Q v { s with heap := h', toks := tk' } :=
  hret v made h' tk' (hm ho) (fun q hq => hl q (hs q hq)) F fun p hp => N p ((List.mem_append.mp hp).elim (fun h => List.mem_append.mpr (.inl h)) fun h => List.mem_append.mpr (.inr (hs p h)))
-- a class is called from a frame that is not written
theorem kw15 : True := by
  k_with "mine class" => first | (( k_dflt (refine' call_cls ?k1w ?k2w ?k3w ?k4w ?k5w ?k6w ?_); (case k1w => k_asm); (case k2w => k_asm); (case k3w => k_asm); (case k4w => k_is); (case k5w => k_is); (case k6w => k_is); intro x'w d'w h'w F'w N'w l1w l2w; (try k_lt l1w); (try k_lt2 l2w); (try k_sweep); refine' code_def ?k1w ?k2w ?k3w ?k4w ?k5w ?kAw ?kFw ?kKw ?k6w ?k7w ?k8w ?k9w ?kBw ?_ ?c2w ?c3w ?c4w ?c5w; (case kAw => exact rfl); (case kFw => exact rfl); (case kKw => assumption); (case k1w => k_asm); (case k2w => k_asm); (case k3w => k_asm); (case k4w => k_asm); (case k5w => k_asm); (case k6w => k_is); (case k7w => k_is); (case k8w => k_room); (case k9w => first | exact BindsTo.of_eq rfl | exact binds_K (by k_in) rfl (by k_is) rfl rfl rfl); (case c5w => decide); (case kBw => exact locs rfl); (case c2w => exact rfl); (case c3w => exact rfl); (case c4w => exact rfl); intro g'w L'w h'w FG'w F'w N'w B'w X'w T'w; (try dsimp only); (try k_lift B'w); (try k_fold))) | fail "none"
  trivial
set_option maxRecDepth 100000 in
set_option maxHeartbeats 8000000 in
theorem register_c (w : World) (nm kind : Str) (num size : Int) (t1 t2 t3 t4 : Tok) : Make w 2 400 [.str nm t1, .str kind t2, .int num t3, .int size t4] (RegIs w.params nm kind num size) := by
  unfold Make
  intro dp un gd cn cs a ccd cl outer A₀ base₀ h₀ L m s news p loose mean mg mb Q E B F X N T hk hd hu hret
  walk_at "mine class"
  k_steps
  (rename Fr _ _ _ _ => hF; rename News _ _ _ _ => hN)
  exact RegIs.last hret hF hN (by walk_at "mine in") (by with_reducible assumption) (by walk_at "mine lt")
theorem high_words : Txt.words (Str.ofString "ah ch dh bh") = [S "ah", S "ch", S "dh", S "bh"] := by decide +kernel
theorem high_len (n : Int) (h0 : 4 ≤ n) (h1 : n < 8) : ([S "ah", S "ch", S "dh", S "bh"].getD (n - 4).toNat PySem.Str.empty).length ≤ 8 ∧ (n = 4 → [S "ah", S "ch", S "dh", S "bh"].getD (n - 4).toNat PySem.Str.empty = S "ah") := by
  rcases (by omega : n = 4 ∨ n = 5 ∨ n = 6 ∨ n = 7) with rfl | rfl | rfl | rfl <;> decide +kernel
section OnlyHere
local macro_rules | `(tactic| walk_at $s:str) => `(tactic| k_extra $(Lean.Syntax.mkStrLit ("h2 " ++ s.getString)):str)
theorem kw16 : True := by
  k_with "h2 call ref" => first | ((k_here; (with_reducible show wpAny _ _ (call (Value.ref 411) [Value.int _ _]) _ _ _); k_dflt (refine' Make.use ?k1w ?k2w ?k3w ?k4w ?k5w ?kKw (early_c _ _ _ (by with_reducible assumption)) ?kdw ?kuw (EarlyOut.use ?_); (case k1w => k_asm); (case k2w => k_asm); (case k3w => k_asm); (case k4w => k_asm); (case k5w => k_asm); (case kKw => first | exact rfl | assumption); (case kdw => walk_at "mine kd"); (case kuw => walk_at "mine ku"); intro l9w vs9w nn9w h9w tk9w lt9w hs9w F9w N9w; (try k_lt lt9w); (try dsimp only); (try k_fold)))) | fail "none"
  k_with "h2 call ref" => first | ((k_here; (with_reducible show wpAny _ _ (call (Value.ref 418) [Value.int _ _]) _ _ _); k_dflt (refine' Pure.use ?k1w ?k2w ?k3w ?k4w ?k5w ?kKw (late_c _ _ _) ?kdw ?kuw ?_; walk_at "mine use"))) | fail "none"
  k_with "h2 call ref" => first | ((k_here; (with_reducible show wpAny _ _ (call (Value.ref 400) _) _ _ _); k_dflt (refine' Make.use ?k1w ?k2w ?k3w ?k4w ?k5w ?kKw (register_c _ _ _ _ _ _ _ _ _) ?kdw ?kuw ?_; (case k1w => k_asm); (case k2w => k_asm); (case k3w => k_asm); (case k4w => k_asm); (case k5w => k_asm); (case kKw => first | exact rfl | assumption); (case kdw => walk_at "mine kd"); (case kuw => walk_at "mine ku"); intro v9w mk9w h9w tk9w hO9w hL9w F9w N9w; (try dsimp only); (try k_fold)))) | fail "none"
  k_with "h2 compareOp Eq ref ref" => first | ((k_here; (with_reducible show wpAny _ _ (compareOp CmpOp.Eq (Value.ref _) (Value.ref _)) _ _ _); k_dflt (refine' names_ne ?kNw ?kaw ?kbw ?kiw ?m1w ?m2w ?m3w ?kuw ?_; (case kNw => k_asm); (case kaw => k_mem); (case kbw => k_mem); (case kiw => assumption); (case m1w => with_reducible assumption); (case m2w => with_reducible assumption); (case m3w => with_reducible assumption); (case kuw => ke_room)))) | fail "none"
  k_with "h2 subscriptTail Name Name ref int" => first | ((k_here; (with_reducible show wpAny _ _ (subscriptTail _ _ (Value.ref _) (Value.int _ _)) _ _ _); k_dflt (refine' names_item ?kNw ?kmw ?kiw ?k0w ?k1w ?klw ?_; (case kNw => k_asm); (case kmw => k_mem); (case kiw => assumption); (case k0w => first | assumption | omega); (case k1w => first | assumption | (simp only [List.length_cons, List.length_nil]; omega)); (case klw => first | assumption | decide)); intro t9w)) | fail "none"
  k_with "h2 subscriptTail" => first | ((k_here; (with_reducible show wpAny _ _ (subscriptTail _ _ (Value.ref _) (Value.int _ _)) _ _ _); k_dflt (walk_at "subscriptTail Name Name ref int"))) | fail "none"
  k_with "h2 call builtin:str.split" => first | (((walk_at "mine words"); (rename StrsAre _ _ => hS9w); (rename List.map _ _ = Txt.words _ => e9w); (rw [e9w, high_words] at hS9w))) | fail "none"
  trivial
set_option maxRecDepth 100000 in
set_option maxHeartbeats 8000000 in
theorem gpr_c (w : World) (n size : Int) (t u : Tok) (h0 : 0 ≤ n) (h1 : n ≤ 15) (hs : size = 8 ∨ size = 16 ∨ size = 32 ∨ size = 64) : Make w 3 425 [.int n t, .int size u] (RegOut w.params (fun nm => nm.length ≤ 8 ∧ (size = 64 → nm = gprN n)) (S "gpr") n size) := by
  unfold Make
  intro dp un gd cn cs a ccd cl outer A₀ base h₀ L m s news p loose mean mg mb Q E B F X N T hk hd hu hret
  refine wpAny_call ?_
  k_dflt cell_enter
  (rename Fr _ _ _ _ => hF0)
  refine fr_as hF0 (fun y => List.lookup y [(Str.ofString "size", .int size u), (Str.ofString "number", .int n t)]) rfl ?_
  clear hF0
  intro hF0
  have hnl := numT_len n h0 h1
  have hll := lateN_len size
  obtain ⟨e1, e2, e3, e4, e5⟩ := early_facts size hs
  have hle : (earlyN size).length ≤ 8 := Nat.le_of_eq e1
  by_cases hn8 : n < 8
  · have hlt : n < ((earlyN size).length : Int) := by rw [e1]; exact hn8
    k_steps
    (rename Fr _ _ _ _ => hF; rename News _ _ _ _ => hN; rename RegIs _ _ _ _ _ _ _ => hO)
    refine make_end hret hF hN hO (by assumption) (by walk_at "mine in") fun h => h.out ⟨e5 n.toNat (by omega), ?_⟩
    intro h
    subst h
    unfold gprN
    rw [if_pos hn8]
    rfl
  · k_steps
    (rename Fr _ _ _ _ => hF; rename News _ _ _ _ => hN; rename RegIs _ _ _ _ _ _ _ => hO)
    refine make_end hret hF hN hO (by assumption) (by walk_at "mine in") fun h => h.out ⟨by walk_at "mine len", ?_⟩
    intro h
    subst h
    unfold gprN
    rw [if_neg hn8]
    rfl
set_option maxRecDepth 100000 in
set_option maxHeartbeats 8000000 in
theorem high_c (w : World) (n : Int) (t : Tok) (h0 : 4 ≤ n) (h1 : n < 8) : Make w 3 432 [.int n t] (RegOut w.params (fun nm => nm.length ≤ 8 ∧ (n = 4 → nm = S "ah")) (S "high") n 8) := by
  unfold Make
  intro dp un gd cn cs a ccd cl outer A₀ base h₀ L m s news p loose mean mg mb Q E B F X N T hk hd hu hret
  refine wpAny_call ?_
  k_dflt cell_enter
  (rename Fr _ _ _ _ => hF0)
  refine fr_as hF0 (fun y => List.lookup y [(Str.ofString "number", .int n t)]) rfl ?_
  clear hF0
  intro hF0
  k_steps
  all_goals (
    (rename Fr _ _ _ _ => hF; rename News _ _ _ _ => hN; rename RegIs _ _ _ _ _ _ _ => hO)
    exact make_end hret hF hN hO (by assumption) (by walk_at "mine in") fun h => h.out (high_len n h0 h1))
set_option maxRecDepth 100000 in
set_option maxHeartbeats 8000000 in
theorem xmm_c (w : World) (n : Int) (t : Tok) (h0 : 0 ≤ n) (h1 : n ≤ 15) : Make w 3 439 [.int n t] (RegOut w.params (fun nm => nm.length ≤ 8) (S "xmm") n 128) := by
  unfold Make
  intro dp un gd cn cs a ccd cl outer A₀ base h₀ L m s news p loose mean mg mb Q E B F X N T hk hd hu hret
  refine wpAny_call ?_
  k_dflt cell_enter
  (rename Fr _ _ _ _ => hF0)
  refine fr_as hF0 (fun y => List.lookup y [(Str.ofString "number", .int n t)]) rfl ?_
  clear hF0
  intro hF0
  have hnl := numT_len n h0 h1
  k_steps
  all_goals (
    (rename Fr _ _ _ _ => hF; rename News _ _ _ _ => hN; rename RegIs _ _ _ _ _ _ _ => hO)
    exact make_end hret hF hN hO (by assumption) (by walk_at "mine in") fun h => h.out (by walk_at "mine len"))
set_option maxRecDepth 100000 in
set_option maxHeartbeats 8000000 in
theorem rip_c (w : World) : Make w 3 446 [] (RegOut w.params (fun nm => nm = S "rip") (S "rip") 0 64) := by
  unfold Make
  intro dp un gd cn cs a ccd cl outer A₀ base h₀ L m s news p loose mean mg mb Q E B F X N T hk hd hu hret
  refine wpAny_call ?_
  k_dflt cell_enter
  k_steps
  all_goals (
    (rename Fr _ _ _ _ => hF; rename News _ _ _ _ => hN; rename RegIs _ _ _ _ _ _ _ => hO)
    exact make_end hret hF hN hO (by assumption) (by walk_at "mine in") fun h => h.out rfl)
end OnlyHere

/-! ### operands -/
/-- the contract of a def that reads: the ledger has what Has says -/
noncomputable def Read (w : World) (k : Nat) (f : Addr) (vs : List Value) (Has : List (Addr × Obj) → Prop) (R : Tok → Value) : Prop :=
  ∀ (dp un : Nat) (gd : Option (List Code)) (cn : Str) (cs : Scope) (a : Addr) (ccd : Value) (cl : List (Str × Addr)) (outer : List Env) (A₀ : Around) (base h₀ : Heap) (L : Addr) (m : Str → Option Value) (s : Shared) (news : List (Addr × Obj)) (p : Program) (loose : List Str) (mean : ExcName → Option Value) (mg mb : Str → Option Value) (Q E : Value → Shared → Prop),
    Has news → Below A₀ base outer h₀ → Fr h₀ L s.heap m → (K w.params).In h₀ → News h₀ L s.heap news → Top p loose mean mg mb h₀ → cs.kind = .function → dp + k < recursionLimit → un + 8 * k + 200 < cLine →
    (∀ (t : Tok) (h' : Heap) (tk' : Nat), Fr h₀ L h' m → News h₀ L h' news → Q (R t) { s with heap := h', toks := tk' }) →
      wpAny (model PySem.Challenge.rw_pb0422_01.row.prog w) (ktrTop dp un gd cn cs L a ccd cl outer) (call (.ref f) vs) Q E s
section
variable {w : World} {k : Nat} {f : Addr} {vs : List Value} {Has : List (Addr × Obj) → Prop} {R : Tok → Value} {dp un : Nat} {gd : Option (List Code)} {cn : Str} {cs : Scope} {a : Addr} {ccd : Value} {cl : List (Str × Addr)} {outer : List Env} {A₀ : Around} {base h₀ : Heap} {L : Addr} {m : Str → Option Value} {s : Shared} {news : List (Addr × Obj)} {p : Program} {loose : List Str} {mean : ExcName → Option Value} {mg mb : Str → Option Value} {Q E : Value → Shared → Prop}
theorem Read.use (B : Below A₀ base outer h₀) (F : Fr h₀ L s.heap m) (X : (K w.params).In h₀) (N : News h₀ L s.heap news) (T : Top p loose mean mg mb h₀) (hk : cs.kind = .function) (C : Read w k f vs Has R) (hh : Has news) (hd : dp + k < recursionLimit) (hu : un + 8 * k + 200 < cLine)
    (h : ∀ (t : Tok) (h' : Heap) (tk' : Nat), Fr h₀ L h' m → News h₀ L h' news → Q (R t) { s with heap := h', toks := tk' }) :
    wpAny (model PySem.Challenge.rw_pb0422_01.row.prog w) (ktrTop dp un gd cn cs L a ccd cl outer) (call (.ref f) vs) Q E s := C _ _ _ _ _ _ _ _ _ _ _ _ _ _ _ _ _ _ _ _ _ _ _ hh B F X N T hk hd hu h
end
/-- a cut behind a statement that gives the name x a text: at its end -/
noncomputable def CutEnd (h₀ : Heap) (L : Addr) (m : Str → Option Value) (news : List (Addr × Obj)) (x : Str) (T : Str) (s : Shared) (fl : Flow) (s' : Shared) : Prop :=
  fl = .next ∧ ∃ (t : Tok) (h' : Heap) (tk' : Nat), s' = { s with heap := h', toks := tk' } ∧ Fr h₀ L h' (fun y => if y = x then some (.str T t) else m y) ∧ News h₀ L h' news
section
variable {M : Model} {A : Around} {E : Value → Shared → Prop} {s : Shared} {env : Env} {st : Stmt} {rest : List Stmt} {Q : Flow → Shared → Prop} {h₀ h' : Heap} {L : Addr} {m : Str → Option Value} {news : List (Addr × Obj)} {x T V : Str} {t : Tok} {tk' : Nat}
theorem cut_str (x T : Str) (_F : Fr h₀ L s.heap m) (_N : News h₀ L s.heap news) (h1 : wpAny M A (exec st env) (CutEnd h₀ L m news x T s) E s)
    (h2 : ∀ (t : Tok) (h' : Heap) (tk' : Nat), Fr h₀ L h' (fun y => if y = x then some (.str T t) else m y) → News h₀ L h' news → wpAny M A (execs rest env) Q E { s with heap := h', toks := tk' }) :
    wpAny M A (execs (st :: rest) env) Q E s := by
  refine wpAny_execs_cons (wpAny_mono h1 (fun fl s' hh => ?_) fun _ _ h => h)
  obtain ⟨rfl, t, h', tk', rfl, F, N⟩ := hh
  exact h2 t h' tk' F N
theorem cut_set (F : Fr h₀ L h' (fun y => if y = x then some (.str V t) else m y)) (N : News h₀ L h' news) (e : V = T) : CutEnd h₀ L m news x T s .next { s with heap := h', toks := tk' } := by
  subst e
  exact ⟨rfl, t, h', tk', rfl, F, N⟩
theorem cut_keep (F : Fr h₀ L h' m) (N : News h₀ L h' news) (hx : m x = some (.str V t)) (e : V = T) : CutEnd h₀ L m news x T s .next { s with heap := h', toks := tk' } := by
  subst e
  have em : (fun y => if y = x then some (Value.str V t) else m y) = m := by
    funext y
    by_cases hy : y = x
    · rw [if_pos hy, hy, hx]
    · rw [if_neg hy]
  exact ⟨rfl, t, h', tk', rfl, by rw [em]; exact F, N⟩
end
theorem kw17 : True := by
  k_with "mine steps" => first | (repeat' ((fail_if_success (walk_at "mine stop")); first | (k_unfold; (try dsimp only)) | (k_end; wrow_close) | (walk1; (try dsimp only)) | (dsimp only; walk1) | (leave1; walk_say "STEP leave1"; try dsimp only) | fail "no step")) | fail "none"
  k_with "mine cut" => first | (((rename Fr _ _ _ _ => hFw); (rename News _ _ _ _ => hNw); first | refine cut_set hFw hNw ?_ | refine cut_keep hFw hNw rfl ?_)) | fail "none"
  k_with "mine ifs" => first | ((repeat (first | rw [if_pos (by with_reducible assumption)] | rw [if_neg ((Bool.not_eq_true _).mpr (by with_reducible assumption))] | rw [if_neg (by with_reducible assumption)] | rw [if_neg (not_not_intro (by with_reducible assumption))] | dsimp only | with_reducible rfl))) | fail "none"
  trivial
/-- a register, or none, in the ledger: its name and kind -/
inductive RegAt (P : Params) (news : List (Addr × Obj)) : Value → Option (Str × Str) → Prop
  | none : RegAt P news .none none
  | some {b db : Addr} {nm kind : Str} {num size : Int} {t1 t2 t3 t4 k1 k2 k3 k4 : Tok} {e : Nat} : (b, instObj 400 db) ∈ news → (db, regD P nm t1 kind t2 num t3 size t4 k1 k2 k3 k4 e) ∈ news → RegAt P news (.ref b) (some (nm, kind))
/-- a memory operand's fields -/
abbrev memD (P : Params) (base index : Value) (scale worth size : Int) (seg name : Str) (t0 ts tw tz tg tn k0 k1 k2 k3 k4 k5 k6 k7 : Tok) (e : Nat) : Obj :=
  dictOf [⟨PyData.keyHash P (Str.ofString "kind"), .str (Str.ofString "kind") k0, .str (Str.ofString "mem") t0⟩, ⟨PyData.keyHash P (Str.ofString "base"), .str (Str.ofString "base") k1, base⟩, ⟨PyData.keyHash P (Str.ofString "index"), .str (Str.ofString "index") k2, index⟩, ⟨PyData.keyHash P (Str.ofString "scale"), .str (Str.ofString "scale") k3, .int scale ts⟩,
    ⟨PyData.keyHash P (Str.ofString "worth"), .str (Str.ofString "worth") k4, .int worth tw⟩, ⟨PyData.keyHash P (Str.ofString "size"), .str (Str.ofString "size") k5, .int size tz⟩, ⟨PyData.keyHash P (Str.ofString "segment"), .str (Str.ofString "segment") k6, .str seg tg⟩, ⟨PyData.keyHash P (Str.ofString "name"), .str (Str.ofString "name") k7, .str name tn⟩] e
noncomputable def MemAt (P : Params) (x : Addr) (base index : Option (Str × Str)) (scale worth size : Int) (seg name : Str) (news : List (Addr × Obj)) : Prop :=
  ∃ (dx : Addr) (bv iv : Value) (t0 ts tw tz tg tn k0 k1 k2 k3 k4 k5 k6 k7 : Tok) (e : Nat), RegAt P news bv base ∧ RegAt P news iv index ∧ (x, instObj 346 dx) ∈ news ∧ (dx, memD P bv iv scale worth size seg name t0 ts tw tz tg tn k0 k1 k2 k3 k4 k5 k6 k7 e) ∈ news
noncomputable def scaleT (n : Int) : Str := Str.ofString (toString n)
noncomputable def segT (seg : Str) : Str := if (seg != S "") = true then (S "%" ++ seg) ++ S ":" else S ""
noncomputable def dispT (seg name : Str) (worth : Int) (base : Option (Str × Str)) : Str :=
  if (name != S "") = true then segT seg ++ plusT name worth else if worth ≠ 0 then segT seg ++ hexT worth else match base with | none => segT seg ++ hexT worth | some (_, k) => if (k == S "rip") = true then segT seg ++ hexT worth else segT seg
noncomputable def attT (seg name : Str) (worth : Int) (base index : Option (Str × Str)) (scale : Int) : Str :=
  match base, index with
  | none, none => dispT seg name worth base
  | some b, none => ((dispT seg name worth base ++ S "(") ++ (S "%" ++ b.1)) ++ S ")"
  | none, some i => (((((dispT seg name worth base ++ S "(") ++ S "") ++ S ",%") ++ i.1) ++ S ",") ++ scaleT scale ++ S ")"
  | some b, some i => (((((dispT seg name worth base ++ S "(") ++ (S "%" ++ b.1)) ++ S ",%") ++ i.1) ++ S ",") ++ scaleT scale ++ S ")"
theorem segT_len (seg : Str) (h : seg.length ≤ 10) : (segT seg).length ≤ 12 := by
  unfold segT
  split <;> (try simp only [Str.length_append, show (S "%").length = 1 from by decide, show (S ":").length = 1 from by decide, show (S "").length = 0 from by decide]) <;> omega
theorem dispT_len (seg name : Str) (worth : Int) (base : Option (Str × Str)) (h : seg.length ≤ 10) (h' : name.length ≤ 10) : (dispT seg name worth base).length ≤ 40 := by
  have h1 := segT_len seg h
  have h2 := plusT_len name worth
  have h3 := hexT_len worth
  unfold dispT
  (repeat' split) <;> (try simp only [Str.length_append]) <;> omega
theorem pct_ne (x : Str) : (S "%" ++ x != S "") = true := by
  cases h : (S "%" ++ x != S "") with
  | true => rfl
  | false =>
    have e : S "%" ++ x = S "" := by simpa using h
    have := congrArg PySem.Str.length e
    rw [Str.length_append, show (S "%").length = 1 from by decide, show (S "").length = 0 from by decide] at this
    omega
theorem scaleT_len (n : Int) (h0 : 0 ≤ n) (h1 : n ≤ 15) : (scaleT n).length ≤ 2 := numT_len n h0 h1
theorem attT_len (seg name : Str) (worth : Int) (base index : Option (Str × Str)) (scale : Int) (h : seg.length ≤ 10) (h' : name.length ≤ 10) (hb : ∀ b ∈ base, b.1.length ≤ 10) (hi : ∀ b ∈ index, b.1.length ≤ 10) (h0 : 0 ≤ scale) (h1 : scale ≤ 15) : (attT seg name worth base index scale).length ≤ 80 := by
  have h3 := dispT_len seg name worth base h h'
  have h4 := scaleT_len scale h0 h1
  unfold attT
  rcases base with _ | b <;> rcases index with _ | i <;> (try have hb' := hb _ rfl) <;> (try have hi' := hi _ rfl) <;> simp only [Str.length_append, show (S "%").length = 1 from by decide, show (S ",%").length = 2 from by decide, show (S "(").length = 1 from by decide, show (S ")").length = 1 from by decide, show (S ",").length = 1 from by decide, show (S "").length = 0 from by decide] <;> omega
theorem kw18 : True := by
  k_with "mine stop" => first | ((with_reducible show wpAny _ _ (execs (Stmt.If (Expr.Compare (Expr.Attribute _ (Str.ofString "segment") _) _ _ _) _ _ _ :: Stmt.If _ _ _ _ :: _) _) _ _ _)) | fail "none"
  trivial
set_option maxRecDepth 100000 in
set_option maxHeartbeats 8000000 in
theorem memory_att_c (w : World) (x : Addr) (base index : Option (Str × Str)) (scale worth size : Int) (seg name : Str) (h0 : -4294967296 < worth) (h1 : worth < 4294967296) (hs0 : 0 ≤ scale) (hs : scale ≤ 15) (hseg : seg.length ≤ 10) (hname : name.length ≤ 10) (hb : ∀ b ∈ base, b.1.length ≤ 10) (hi : ∀ b ∈ index, b.1.length ≤ 10) :
    Read w 4 124 [.ref x] (MemAt w.params x base index scale worth size seg name) (fun t => .str (attT seg name worth base index scale) t) := by
  unfold Read
  intro dp un gd cn cs a ccd cl outer A₀ base₀ h₀ L m s news p loose mean mg mb Q E hh B F X N T hk hd hu hret
  obtain ⟨dx, bv, iv, t0, ts, tw, tz, tg, tn, k0, k1, k2, k3, k4, k5, k6, k7, e, rb, ri, hx, hdx⟩ := hh
  refine wpAny_call ?_
  k_dflt cell_enter
  (rename Fr _ _ _ _ => hF0)
  refine fr_as hF0 (fun y => List.lookup y [(Str.ofString "mem", .ref x)]) rfl ?_
  clear hF0
  intro hF0
  have hnl := numT_len scale hs0 hs
  have hl := hexT_len worth
  have hpl := plusT_len name worth
  have hsl := segT_len seg hseg
  have hdl := dispT_len seg name worth base hseg hname
  walk_at "mine steps"
  (rename Fr _ _ _ _ => hF; rename News _ _ _ _ => hN)
  refine cut_str (S "text") (segT seg) hF hN ?_ ?_
  · k_steps
    all_goals (walk_at "mine cut")
    all_goals (unfold segT; walk_at "mine ifs")
  clear hF hN
  intro tT hT tkT hF hN
  dsimp only
  rcases rb with _ | @⟨b, db, nm, kind, num, sz, r1, r2, r3, r4, j1, j2, j3, j4, e', hb1, hb2⟩
  · refine cut_str (S "text") (dispT seg name worth none) hF hN ?_ ?_
    · k_steps
      all_goals (walk_at "mine cut")
      all_goals (unfold dispT; walk_at "mine ifs")
    clear hF hN
    intro tT hT tkT hF hN
    dsimp only
    cases ri
    · k_steps
      exact cb_retS (by assumption) rfl (by assumption) (by assumption)
    · have hi' := hi _ rfl
      k_steps
      exact cb_retS (by assumption) rfl (by assumption) (by assumption)
  · have hb' := hb _ rfl
    refine cut_str (S "text") (dispT seg name worth (some (nm, kind))) hF hN ?_ ?_
    · k_steps
      all_goals (walk_at "mine cut")
      all_goals (unfold dispT; walk_at "mine ifs")
    clear hF hN
    intro tT hT tkT hF hN
    dsimp only
    have hne : (S "%" ++ nm != S "") = true := pct_ne nm
    cases ri
    · k_steps
      exact cb_retS (by assumption) rfl (by assumption) (by assumption)
    · have hi' := hi _ rfl
      k_steps
      exact cb_retS (by assumption) rfl (by assumption) (by assumption)
theorem kw19 : True := by
  k_with "mine use read" => first | (( (case k1w => k_asm); (case k2w => k_asm); (case k3w => k_asm); (case k4w => k_asm); (case k5w => k_asm); (case kKw => first | exact rfl | assumption); (case kdw => walk_at "mine kd"); (case kuw => walk_at "mine ku"))) | fail "none"
  k_with "own call ref" => first | ((k_here; (with_reducible show wpAny _ _ (call (Value.ref 124) [Value.ref _]) _ _ _); k_dflt (refine' Read.use ?k1w ?k2w ?k3w ?k4w ?k5w ?kKw (memory_att_c _ _ _ _ _ _ _ _ _ ?p1w ?p2w ?p3w ?p4w ?p5w ?p6w ?p7w ?p8w) ?khw ?kdw ?kuw ?_; (case khw => assumption); (case p1w => assumption); (case p2w => assumption); (case p3w => assumption); (case p4w => assumption); (case p5w => assumption); (case p6w => assumption); (case p7w => assumption); (case p8w => assumption); (walk_at "mine use read"); intro t9w h9w tk9w F9w N9w; (try dsimp only); (try k_fold)))) | fail "none"
  trivial
set_option maxRecDepth 100000 in
set_option maxHeartbeats 8000000 in
theorem att_mem_c (w : World) (x : Addr) (base index : Option (Str × Str)) (scale worth size : Int) (seg name : Str) (h0 : -4294967296 < worth) (h1 : worth < 4294967296) (hs0 : 0 ≤ scale) (hs : scale ≤ 15) (hseg : seg.length ≤ 10) (hname : name.length ≤ 10) (hb : ∀ b ∈ base, b.1.length ≤ 10) (hi : ∀ b ∈ index, b.1.length ≤ 10) :
    Read w 5 131 [.ref x] (MemAt w.params x base index scale worth size seg name) (fun t => .str (attT seg name worth base index scale) t) := by
  unfold Read
  intro dp un gd cn cs a ccd cl outer A₀ base₀ h₀ L m s news p loose mean mg mb Q E hh B F X N T hk hd hu hret
  have hh' := hh
  obtain ⟨dx, bv, iv, t0, ts, tw, tz, tg, tn, k0, k1, k2, k3, k4, k5, k6, k7, e, rb, ri, hx, hdx⟩ := hh
  refine wpAny_call ?_
  k_dflt cell_enter
  (rename Fr _ _ _ _ => hF0)
  refine fr_as hF0 (fun y => List.lookup y [(Str.ofString "operand", .ref x)]) rfl ?_
  clear hF0
  intro hF0
  k_steps
  exact cb_retS (by assumption) rfl (by assumption) (by assumption)
/-- an operand that is a register -/
noncomputable def RegOpAt (P : Params) (x : Addr) (nm : Str) (news : List (Addr × Obj)) : Prop :=
  ∃ (dx r : Addr) (t0 k0 k1 : Tok) (e : Nat) (kind : Str), (x, instObj 218 dx) ∈ news ∧ (dx, dictOf [⟨PyData.keyHash P (Str.ofString "kind"), .str (Str.ofString "kind") k0, .str (Str.ofString "reg") t0⟩, ⟨PyData.keyHash P (Str.ofString "register"), .str (Str.ofString "register") k1, .ref r⟩] e) ∈ news ∧ RegAt P news (.ref r) (some (nm, kind))
/-- an operand that is a number or a target, of the class C -/
noncomputable def NumAt (P : Params) (C : Addr) (kind : Str) (x : Addr) (worth : Int) (name : Str) (news : List (Addr × Obj)) : Prop :=
  ∃ (dx : Addr) (t0 tw tn k0 k1 k2 : Tok) (e : Nat), (x, instObj C dx) ∈ news ∧ (dx, dictOf [⟨PyData.keyHash P (Str.ofString "kind"), .str (Str.ofString "kind") k0, .str kind t0⟩, ⟨PyData.keyHash P (Str.ofString "worth"), .str (Str.ofString "worth") k1, .int worth tw⟩, ⟨PyData.keyHash P (Str.ofString "name"), .str (Str.ofString "name") k2, .str name tn⟩] e) ∈ news
noncomputable def immAtt (name : Str) (worth : Int) : Str := if (name != S "") = true then S "$" ++ plusT name worth else S "$" ++ hexT worth
noncomputable def relAtt (name : Str) (worth : Int) : Str := if (name != S "") = true then plusT name worth else aheadT worth
set_option maxRecDepth 100000 in
set_option maxHeartbeats 8000000 in
theorem att_reg_c (w : World) (x : Addr) (nm : Str) (hn : nm.length ≤ 10) : Read w 5 131 [.ref x] (RegOpAt w.params x nm) (fun t => .str (S "%" ++ nm) t) := by
  unfold Read
  intro dp un gd cn cs a ccd cl outer A₀ base₀ h₀ L m s news p loose mean mg mb Q E hh B F X N T hk hd hu hret
  obtain ⟨dx, r, t0, k0, k1, e, kind, hx, hdx, ra⟩ := hh
  rcases ra with _ | @⟨b, db, _, _, num, sz, r1, r2, r3, r4, j1, j2, j3, j4, e', hb1, hb2⟩
  refine wpAny_call ?_
  k_dflt cell_enter
  (rename Fr _ _ _ _ => hF0)
  refine fr_as hF0 (fun y => List.lookup y [(Str.ofString "operand", .ref x)]) rfl ?_
  clear hF0
  intro hF0
  k_steps
  exact cb_retS (by assumption) rfl (by assumption) (by assumption)
set_option maxRecDepth 100000 in
set_option maxHeartbeats 8000000 in
theorem att_imm_c (w : World) (x : Addr) (name : Str) (worth : Int) (h0 : -4294967296 < worth) (h1 : worth < 4294967296) (hn : name.length ≤ 10) : Read w 5 131 [.ref x] (NumAt w.params 252 (Str.ofString "imm") x worth name) (fun t => .str (immAtt name worth) t) := by
  unfold Read
  intro dp un gd cn cs a ccd cl outer A₀ base₀ h₀ L m s news p loose mean mg mb Q E hh B F X N T hk hd hu hret
  obtain ⟨dx, t0, tw, tn, k0, k1, k2, e, hx, hdx⟩ := hh
  have hl := hexT_len worth
  have hpl := plusT_len name worth
  refine wpAny_call ?_
  k_dflt cell_enter
  (rename Fr _ _ _ _ => hF0)
  refine fr_as hF0 (fun y => List.lookup y [(Str.ofString "operand", .ref x)]) rfl ?_
  clear hF0
  intro hF0
  k_steps
  all_goals exact cb_retS (by assumption) (by unfold immAtt; walk_at "mine ifs") (by assumption) (by assumption)
set_option maxRecDepth 100000 in
set_option maxHeartbeats 8000000 in
theorem att_rel_c (w : World) (x : Addr) (name : Str) (worth : Int) (h0 : -4294967296 < worth) (h1 : worth < 4294967296) (hn : name.length ≤ 10) : Read w 5 131 [.ref x] (NumAt w.params 293 (Str.ofString "rel") x worth name) (fun t => .str (relAtt name worth) t) := by
  unfold Read
  intro dp un gd cn cs a ccd cl outer A₀ base₀ h₀ L m s news p loose mean mg mb Q E hh B F X N T hk hd hu hret
  obtain ⟨dx, t0, tw, tn, k0, k1, k2, e, hx, hdx⟩ := hh
  have hl := hexT_len worth
  have hpl := plusT_len name worth
  refine wpAny_call ?_
  k_dflt cell_enter
  (rename Fr _ _ _ _ => hF0)
  refine fr_as hF0 (fun y => List.lookup y [(Str.ofString "operand", .ref x)]) rfl ?_
  clear hF0
  intro hF0
  k_steps
  all_goals exact cb_retS (by assumption) (by unfold relAtt; walk_at "mine ifs") (by assumption) (by assumption)

/-! ### the operands' makers -/
theorem regAt_sub {P : Params} {big mk : List (Addr × Obj)} {v : Value} {o : Option (Str × Str)} (h : RegAt P big v o) (hs : ∀ p ∈ big, p.2.cls ≠ .type "list" → p ∈ mk) : RegAt P mk v o := by
  cases h with
  | none => exact .none
  | some h1 h2 => exact .some (hs _ h1 fun e => by have e' : Value.ref 400 = Value.type "list" := e; cases e') (hs _ h2 fun e => by have e' : Value.type "dict" = Value.type "list" := e; injection e' with e'; exact absurd e' (by decide))
theorem regAt_mono {P : Params} {a b : List (Addr × Obj)} {v : Value} {o : Option (Str × Str)} (h : RegAt P a v o) (hs : ∀ p ∈ a, p ∈ b) : RegAt P b v o := regAt_sub h fun p hp _ => hs p hp
theorem kw20 : True := by
  k_with "mine mem2" => first | (first | with_reducible exact List.mem_cons_self | (refine List.mem_cons_of_mem _ ?_; walk_at "mine mem2") | with_reducible assumption) | fail "none"
  k_with "mine in" => first | ((intro xw hxw; (repeat (first | with_reducible assumption | refine List.mem_cons_of_mem _ ?_)))) | fail "none"
  trivial
-- reading the operands made here
section
variable {P : Params} {x dx r C : Addr} {t0 tw tn k0 k1 k2 : Tok} {e : Nat} {kind nm name : Str} {worth : Int} {news : List (Addr × Obj)}
theorem NumAt.of (h1 : (x, instObj C dx) ∈ news) (h2 : (dx, dictOf [⟨PyData.keyHash P (Str.ofString "kind"), .str (Str.ofString "kind") k0, .str kind t0⟩, ⟨PyData.keyHash P (Str.ofString "worth"), .str (Str.ofString "worth") k1, .int worth tw⟩, ⟨PyData.keyHash P (Str.ofString "name"), .str (Str.ofString "name") k2, .str name tn⟩] e) ∈ news) : NumAt P C kind x worth name news :=
  ⟨dx, t0, tw, tn, k0, k1, k2, e, h1, h2⟩
theorem RegOpAt.of (h1 : (x, instObj 218 dx) ∈ news) (h2 : (dx, dictOf [⟨PyData.keyHash P (Str.ofString "kind"), .str (Str.ofString "kind") k0, .str (Str.ofString "reg") t0⟩, ⟨PyData.keyHash P (Str.ofString "register"), .str (Str.ofString "register") k1, .ref r⟩] e) ∈ news) (h3 : RegAt P news (.ref r) (some (nm, kind))) : RegOpAt P x nm news :=
  ⟨dx, r, t0, k0, k1, e, kind, h1, h2, h3⟩
end
theorem kw21 : True := by
  k_with "mine opreg" => first | ((exact RegOpAt.of (by walk_at "mine mem2") (by walk_at "mine mem2") (.some (by walk_at "mine mem2") (by walk_at "mine mem2")))) | fail "none"
  k_with "mine opnum" => first | ((exact NumAt.of (by walk_at "mine mem2") (by walk_at "mine mem2"))) | fail "none"
  trivial
/-- the contract of a def that makes things, told of the whole ledger behind it -/
noncomputable def MakeR (w : World) (k : Nat) (f : Addr) (vs : List Value) (Has : List (Addr × Obj) → Prop) (Out : Value → List (Addr × Obj) → Prop) : Prop :=
  ∀ (dp un : Nat) (gd : Option (List Code)) (cn : Str) (cs : Scope) (a : Addr) (ccd : Value) (cl : List (Str × Addr)) (outer : List Env) (A₀ : Around) (base h₀ : Heap) (L : Addr) (m : Str → Option Value) (s : Shared) (news : List (Addr × Obj)) (p : Program) (loose : List Str) (mean : ExcName → Option Value) (mg mb : Str → Option Value) (Q E : Value → Shared → Prop),
    Has news → Below A₀ base outer h₀ → Fr h₀ L s.heap m → (K w.params).In h₀ → News h₀ L s.heap news → Top p loose mean mg mb h₀ → cs.kind = .function → dp + k < recursionLimit → un + 8 * k + 200 < cLine →
    (∀ (v : Value) (big : List (Addr × Obj)) (h' : Heap) (tk' : Nat), Out v big → (∀ p ∈ news, p ∈ big) → Fr h₀ L h' m → News h₀ L h' big → Q v { s with heap := h', toks := tk' }) →
      wpAny (model PySem.Challenge.rw_pb0422_01.row.prog w) (ktrTop dp un gd cn cs L a ccd cl outer) (call (.ref f) vs) Q E s
theorem MakeR.use {w : World} {k : Nat} {f : Addr} {vs : List Value} {Has : List (Addr × Obj) → Prop} {Out : Value → List (Addr × Obj) → Prop} {dp un : Nat} {gd : Option (List Code)} {cn : Str} {cs : Scope} {a : Addr} {ccd : Value} {cl : List (Str × Addr)} {outer : List Env} {A₀ : Around} {base h₀ : Heap} {L : Addr} {m : Str → Option Value} {s : Shared} {news : List (Addr × Obj)} {p : Program} {loose : List Str} {mean : ExcName → Option Value} {mg mb : Str → Option Value} {Q E : Value → Shared → Prop}
    (B : Below A₀ base outer h₀) (F : Fr h₀ L s.heap m) (X : (K w.params).In h₀) (N : News h₀ L s.heap news) (T : Top p loose mean mg mb h₀) (hk : cs.kind = .function) (C : MakeR w k f vs Has Out) (hh : Has news) (hd : dp + k < recursionLimit) (hu : un + 8 * k + 200 < cLine)
    (h : ∀ (v : Value) (big : List (Addr × Obj)) (h' : Heap) (tk' : Nat), Out v big → (∀ p ∈ news, p ∈ big) → Fr h₀ L h' m → News h₀ L h' big → Q v { s with heap := h', toks := tk' }) :
    wpAny (model PySem.Challenge.rw_pb0422_01.row.prog w) (ktrTop dp un gd cn cs L a ccd cl outer) (call (.ref f) vs) Q E s := C _ _ _ _ _ _ _ _ _ _ _ _ _ _ _ _ _ _ _ _ _ _ _ hh B F X N T hk hd hu h
/-- a ref of which R holds in the ledger -/
abbrev RefOut (R : Addr → List (Addr × Obj) → Prop) : Value → List (Addr × Obj) → Prop := fun v big => ∃ x, v = .ref x ∧ R x big
section
variable {R : Addr → List (Addr × Obj) → Prop} {news : List (Addr × Obj)} {h₀ : Heap} {L : Addr} {m : Str → Option Value} {Q : Value → Shared → Prop} {s : Shared}
theorem RefOut.use (h : ∀ (x : Addr) (big : List (Addr × Obj)) (h' : Heap) (tk' : Nat), R x big → (∀ p ∈ news, p ∈ big) → Fr h₀ L h' m → News h₀ L h' big → Q (.ref x) { s with heap := h', toks := tk' }) :
    ∀ (v : Value) (big : List (Addr × Obj)) (h' : Heap) (tk' : Nat), RefOut R v big → (∀ p ∈ news, p ∈ big) → Fr h₀ L h' m → News h₀ L h' big → Q v { s with heap := h', toks := tk' } := by
  rintro v big h' tk' ⟨x, rfl, hx⟩ hs F N
  exact h x big h' tk' hx hs F N
theorem ref_end {x : Addr} {big : List (Addr × Obj)} {h' : Heap} {tk' : Nat} (hret : ∀ (v : Value) (big : List (Addr × Obj)) (h' : Heap) (tk' : Nat), RefOut R v big → (∀ p ∈ news, p ∈ big) → Fr h₀ L h' m → News h₀ L h' big → Q v { s with heap := h', toks := tk' })
    (F : Fr h₀ L h' m) (N : News h₀ L h' big) (hs : ∀ p ∈ news, p ∈ big) (hx : R x big) : Q (.ref x) { s with heap := h', toks := tk' } := hret _ big h' tk' ⟨x, rfl, hx⟩ hs F N
end
theorem Make.toR {w : World} {k : Nat} {f : Addr} {vs : List Value} {name : Str → Prop} {kind : Str} {num size : Int} {nm : Str} (C : Make w k f vs (RegOut w.params name kind num size)) (hn : ∀ x, name x → x = nm) : MakeR w k f vs (fun _ => True) (RefOut fun x big => RegAt w.params big (.ref x) (some (nm, kind))) := by
  intro dp un gd cn cs a ccd cl outer A₀ base h₀ L m s news p loose mean mg mb Q E _ B F X N T hk hd hu hret
  refine C dp un gd cn cs a ccd cl outer A₀ base h₀ L m s news p loose mean mg mb Q E B F X N T hk hd hu ?_
  rintro v made h' tk' ⟨nm', x, dx, t1, t2, t3, t4, k1, k2, k3, k4, e, rfl, rfl, _, hnm⟩ _ F' N'
  obtain rfl := hn _ hnm
  exact hret _ _ _ _ ⟨x, rfl, .some (.head _) (.tail _ (.head _))⟩ (fun p hp => .tail _ (.tail _ hp)) F' N'
section
variable {P : Params} {x dx : Addr} {bv iv : Value} {base index : Option (Str × Str)} {scale worth size : Int} {seg name : Str} {t0 ts tw tz tg tm k0 k1 k2 k3 k4 k5 k6 k7 : Tok} {e0 : Nat} {news big : List (Addr × Obj)}
theorem MemAt.of (rb : RegAt P news bv base) (ri : RegAt P news iv index) (hs : ∀ p ∈ news, p ∈ big) (h1 : (x, instObj 346 dx) ∈ big) (h2 : (dx, memD P bv iv scale worth size seg name t0 ts tw tz tg tm k0 k1 k2 k3 k4 k5 k6 k7 e0) ∈ big) : MemAt P x base index scale worth size seg name big :=
  ⟨dx, bv, iv, t0, ts, tw, tz, tg, tm, k0, k1, k2, k3, k4, k5, k6, k7, e0, regAt_mono rb hs, regAt_mono ri hs, h1, h2⟩
end
set_option maxRecDepth 100000 in
set_option maxHeartbeats 8000000 in
theorem mem7_c (w : World) (bv iv : Value) (base index : Option (Str × Str)) (scale worth size : Int) (seg name : Str) (ts tw tz tg tn : Tok) :
    MakeR w 4 346 [bv, iv, .int scale ts, .int worth tw, .int size tz, .str seg tg, .str name tn] (fun l => RegAt w.params l bv base ∧ RegAt w.params l iv index) (RefOut fun x big => MemAt w.params x base index scale worth size seg name big) := by
  unfold MakeR
  intro dp un gd cn cs a ccd cl outer A₀ base₀ h₀ L m s news p loose mean mg mb Q E hh B F X N T hk hd hu hret
  walk_at "mine class"
  k_steps
  (rename Fr _ _ _ _ => hF; rename News _ _ _ _ => hN)
  exact ref_end hret hF hN (by walk_at "mine in") (MemAt.of hh.1 hh.2 (by walk_at "mine in") (by walk_at "mine mem2") (by walk_at "mine mem2"))
set_option maxRecDepth 100000 in
set_option maxHeartbeats 8000000 in
theorem mem6_c (w : World) (bv iv : Value) (base index : Option (Str × Str)) (scale worth size : Int) (seg : Str) (ts tw tz tg : Tok) :
    MakeR w 4 346 [bv, iv, .int scale ts, .int worth tw, .int size tz, .str seg tg] (fun l => RegAt w.params l bv base ∧ RegAt w.params l iv index) (RefOut fun x big => MemAt w.params x base index scale worth size seg (Str.ofString "") big) := by
  unfold MakeR
  intro dp un gd cn cs a ccd cl outer A₀ base₀ h₀ L m s news p loose mean mg mb Q E hh B F X N T hk hd hu hret
  walk_at "mine class"
  k_steps
  (rename Fr _ _ _ _ => hF; rename News _ _ _ _ => hN)
  exact ref_end hret hF hN (by walk_at "mine in") (MemAt.of hh.1 hh.2 (by walk_at "mine in") (by walk_at "mine mem2") (by walk_at "mine mem2"))
set_option maxRecDepth 100000 in
set_option maxHeartbeats 8000000 in
theorem mem5_c (w : World) (bv iv : Value) (base index : Option (Str × Str)) (scale worth size : Int) (ts tw tz : Tok) :
    MakeR w 4 346 [bv, iv, .int scale ts, .int worth tw, .int size tz] (fun l => RegAt w.params l bv base ∧ RegAt w.params l iv index) (RefOut fun x big => MemAt w.params x base index scale worth size (Str.ofString "") (Str.ofString "") big) := by
  unfold MakeR
  intro dp un gd cn cs a ccd cl outer A₀ base₀ h₀ L m s news p loose mean mg mb Q E hh B F X N T hk hd hu hret
  walk_at "mine class"
  k_steps
  (rename Fr _ _ _ _ => hF; rename News _ _ _ _ => hN)
  exact ref_end hret hF hN (by walk_at "mine in") (MemAt.of hh.1 hh.2 (by walk_at "mine in") (by walk_at "mine mem2") (by walk_at "mine mem2"))
set_option maxRecDepth 100000 in
set_option maxHeartbeats 8000000 in
theorem imm2_c (w : World) (n : Int) (name : Str) (t u : Tok) : MakeR w 4 252 [.int n t, .str name u] (fun _ => True) (RefOut fun x big => NumAt w.params 252 (Str.ofString "imm") x n name big) := by
  unfold MakeR
  intro dp un gd cn cs a ccd cl outer A₀ base₀ h₀ L m s news p loose mean mg mb Q E hh B F X N T hk hd hu hret
  walk_at "mine class"
  k_steps
  (rename Fr _ _ _ _ => hF; rename News _ _ _ _ => hN)
  exact ref_end hret hF hN (by walk_at "mine in") (by walk_at "mine opnum")
set_option maxRecDepth 100000 in
set_option maxHeartbeats 8000000 in
theorem imm1_c (w : World) (n : Int) (t : Tok) : MakeR w 4 252 [.int n t] (fun _ => True) (RefOut fun x big => NumAt w.params 252 (Str.ofString "imm") x n (Str.ofString "") big) := by
  unfold MakeR
  intro dp un gd cn cs a ccd cl outer A₀ base₀ h₀ L m s news p loose mean mg mb Q E hh B F X N T hk hd hu hret
  walk_at "mine class"
  k_steps
  (rename Fr _ _ _ _ => hF; rename News _ _ _ _ => hN)
  exact ref_end hret hF hN (by walk_at "mine in") (by walk_at "mine opnum")
set_option maxRecDepth 100000 in
set_option maxHeartbeats 8000000 in
theorem rel2_c (w : World) (n : Int) (name : Str) (t u : Tok) : MakeR w 4 293 [.int n t, .str name u] (fun _ => True) (RefOut fun x big => NumAt w.params 293 (Str.ofString "rel") x n name big) := by
  unfold MakeR
  intro dp un gd cn cs a ccd cl outer A₀ base₀ h₀ L m s news p loose mean mg mb Q E hh B F X N T hk hd hu hret
  walk_at "mine class"
  k_steps
  (rename Fr _ _ _ _ => hF; rename News _ _ _ _ => hN)
  exact ref_end hret hF hN (by walk_at "mine in") (by walk_at "mine opnum")
set_option maxRecDepth 100000 in
set_option maxHeartbeats 8000000 in
theorem rel1_c (w : World) (n : Int) (t : Tok) : MakeR w 4 293 [.int n t] (fun _ => True) (RefOut fun x big => NumAt w.params 293 (Str.ofString "rel") x n (Str.ofString "") big) := by
  unfold MakeR
  intro dp un gd cn cs a ccd cl outer A₀ base₀ h₀ L m s news p loose mean mg mb Q E hh B F X N T hk hd hu hret
  walk_at "mine class"
  k_steps
  (rename Fr _ _ _ _ => hF; rename News _ _ _ _ => hN)
  exact ref_end hret hF hN (by walk_at "mine in") (by walk_at "mine opnum")
theorem RegOpAt.ofR {P : Params} {x dx r : Addr} {t0 k0 k1 : Tok} {e : Nat} {nm kind : Str} {news big : List (Addr × Obj)} (h3 : RegAt P news (.ref r) (some (nm, kind))) (hs : ∀ p ∈ news, p ∈ big) (h1 : (x, instObj 218 dx) ∈ big) (h2 : (dx, dictOf [⟨PyData.keyHash P (Str.ofString "kind"), .str (Str.ofString "kind") k0, .str (Str.ofString "reg") t0⟩, ⟨PyData.keyHash P (Str.ofString "register"), .str (Str.ofString "register") k1, .ref r⟩] e) ∈ big) : RegOpAt P x nm big :=
  ⟨dx, r, t0, k0, k1, e, kind, h1, h2, regAt_mono h3 hs⟩
set_option maxRecDepth 100000 in
set_option maxHeartbeats 8000000 in
theorem reg1_c (w : World) (r : Addr) (nm kind : Str) : MakeR w 4 218 [.ref r] (fun l => RegAt w.params l (.ref r) (some (nm, kind))) (RefOut fun x big => RegOpAt w.params x nm big) := by
  unfold MakeR
  intro dp un gd cn cs a ccd cl outer A₀ base₀ h₀ L m s news p loose mean mg mb Q E hh B F X N T hk hd hu hret
  walk_at "mine class"
  k_steps
  (rename Fr _ _ _ _ => hF; rename News _ _ _ _ => hN)
  exact ref_end hret hF hN (by walk_at "mine in") (RegOpAt.ofR hh (by walk_at "mine in") (by walk_at "mine mem2") (by walk_at "mine mem2"))
theorem sub_of {a b : List (Addr × Obj)} {x : Addr × Obj} (hs : ∀ p ∈ a, p ∈ b) (h : x ∈ a) : x ∈ b := hs x h
theorem kw22 : True := by
  k_with "mine chain1" => first | (first | with_reducible assumption | with_reducible exact List.mem_cons_self | (refine List.mem_cons_of_mem _ ?_; walk_at "mine chain1") | (refine' sub_of ?hs9w ?hm9w; (case hs9w => with_reducible assumption); (case hm9w => walk_at "mine chain1"))) | fail "none"
  k_with "mine chain" => first | ((intro xw hxw; walk_at "mine chain1")) | fail "none"
  k_with "mine regat" => first | (first | exact RegAt.none | with_reducible assumption | (refine' regAt_mono ?raw ?rcw; (case raw => with_reducible assumption); (case rcw => walk_at "mine chain"))) | fail "none"
  k_with "mine got" => first | ((intro x9w big9w h9w tk9w R9w S9w F9w N9w; (try dsimp only); (try k_fold))) | fail "none"
  k_with "mine made" => first | (((walk_at "mine use read"); walk_at "mine got")) | fail "none"
  k_with "own call ref" => first | ((k_here; (with_reducible show wpAny _ _ (call (Value.ref 252) [Value.int _ _, Value.str _ _]) _ _ _); k_dflt (refine' MakeR.use ?k1w ?k2w ?k3w ?k4w ?k5w ?kKw (imm2_c _ _ _ _ _) True.intro ?kdw ?kuw (RefOut.use ?_); walk_at "mine made"))) | fail "none"
  k_with "own call ref" => first | ((k_here; (with_reducible show wpAny _ _ (call (Value.ref 252) [Value.int _ _]) _ _ _); k_dflt (refine' MakeR.use ?k1w ?k2w ?k3w ?k4w ?k5w ?kKw (imm1_c _ _ _) True.intro ?kdw ?kuw (RefOut.use ?_); walk_at "mine made"))) | fail "none"
  k_with "own call ref" => first | ((k_here; (with_reducible show wpAny _ _ (call (Value.ref 293) [Value.int _ _, Value.str _ _]) _ _ _); k_dflt (refine' MakeR.use ?k1w ?k2w ?k3w ?k4w ?k5w ?kKw (rel2_c _ _ _ _ _) True.intro ?kdw ?kuw (RefOut.use ?_); walk_at "mine made"))) | fail "none"
  k_with "own call ref" => first | ((k_here; (with_reducible show wpAny _ _ (call (Value.ref 293) [Value.int _ _]) _ _ _); k_dflt (refine' MakeR.use ?k1w ?k2w ?k3w ?k4w ?k5w ?kKw (rel1_c _ _ _) True.intro ?kdw ?kuw (RefOut.use ?_); walk_at "mine made"))) | fail "none"
  k_with "mine two" => first | ((refine ⟨?_, ?_⟩ <;> walk_at "mine regat")) | fail "none"
  k_with "own call ref" => first | ((k_here; (with_reducible show wpAny _ _ (call (Value.ref 346) [_, _, Value.int _ _, Value.int _ _, Value.int _ _]) _ _ _); k_dflt (refine' MakeR.use ?k1w ?k2w ?k3w ?k4w ?k5w ?kKw (mem5_c _ _ _ _ _ _ _ _ _ _ _) ?khw ?kdw ?kuw (RefOut.use ?_); (walk_at "mine use read"); (case khw => walk_at "mine two"); walk_at "mine got"))) | fail "none"
  k_with "own call ref" => first | ((k_here; (with_reducible show wpAny _ _ (call (Value.ref 346) [_, _, Value.int _ _, Value.int _ _, Value.int _ _, Value.str _ _]) _ _ _); k_dflt (refine' MakeR.use ?k1w ?k2w ?k3w ?k4w ?k5w ?kKw (mem6_c _ _ _ _ _ _ _ _ _ _ _ _ _) ?khw ?kdw ?kuw (RefOut.use ?_); (walk_at "mine use read"); (case khw => walk_at "mine two"); walk_at "mine got"))) | fail "none"
  k_with "own call ref" => first | ((k_here; (with_reducible show wpAny _ _ (call (Value.ref 346) [_, _, Value.int _ _, Value.int _ _, Value.int _ _, Value.str _ _, Value.str _ _]) _ _ _); k_dflt (refine' MakeR.use ?k1w ?k2w ?k3w ?k4w ?k5w ?kKw (mem7_c _ _ _ _ _ _ _ _ _ _ _ _ _ _ _) ?khw ?kdw ?kuw (RefOut.use ?_); (walk_at "mine use read"); (case khw => walk_at "mine two"); walk_at "mine got"))) | fail "none"
  trivial
section
variable {P : Params} {a b : List (Addr × Obj)} {x C : Addr} {base index : Option (Str × Str)} {scale worth size : Int} {seg name kind nm : Str}
theorem MemAt.mono (h : MemAt P x base index scale worth size seg name a) (hs : ∀ p ∈ a, p ∈ b) : MemAt P x base index scale worth size seg name b := by
  obtain ⟨dx, bv, iv, t0, ts, tw, tz, tg, tm, k0, k1, k2, k3, k4, k5, k6, k7, e0, r1, r2, q1, q2⟩ := h
  exact ⟨dx, bv, iv, t0, ts, tw, tz, tg, tm, k0, k1, k2, k3, k4, k5, k6, k7, e0, regAt_mono r1 hs, regAt_mono r2 hs, hs _ q1, hs _ q2⟩
theorem NumAt.mono (h : NumAt P C kind x worth name a) (hs : ∀ p ∈ a, p ∈ b) : NumAt P C kind x worth name b := by
  obtain ⟨dx, t0, tw, tn, k0, k1, k2, e, q1, q2⟩ := h
  exact ⟨dx, t0, tw, tn, k0, k1, k2, e, hs _ q1, hs _ q2⟩
theorem RegOpAt.mono (h : RegOpAt P x nm a) (hs : ∀ p ∈ a, p ∈ b) : RegOpAt P x nm b := by
  obtain ⟨dx, r, t0, k0, k1, e, kind, q1, q2, q3⟩ := h
  exact ⟨dx, r, t0, k0, k1, e, kind, hs _ q1, hs _ q2, regAt_mono q3 hs⟩
end

/-! ### Intel's way -/
/-- a cut behind statements that give x a text and let z go -/
noncomputable def CutEndF (h₀ : Heap) (L : Addr) (m : Str → Option Value) (news : List (Addr × Obj)) (x T z : Str) (s : Shared) (fl : Flow) (s' : Shared) : Prop :=
  fl = .next ∧ ∃ (t : Tok) (u : Option Value) (h' : Heap) (tk' : Nat), s' = { s with heap := h', toks := tk' } ∧ Fr h₀ L h' (fun y => if y = x then some (.str T t) else if y = z then u else m y) ∧ News h₀ L h' news
section
variable {M : Model} {A : Around} {E : Value → Shared → Prop} {s : Shared} {env : Env} {pre rest : List Stmt} {P Q : Flow → Shared → Prop} {h₀ h' : Heap} {L : Addr} {m m' : Str → Option Value} {news : List (Addr × Obj)} {x T V z : Str} {t : Tok} {tk' : Nat}
theorem wp_execs_app {Γ : PySem.Ctx} (hΓ : Γ.In A) (h1 : ∀ s', P .next s' → wpAny M A (execs rest env) Q E s') (h2 : ∀ fl s', fl ≠ .next → P fl s' → Q fl s') : ∀ (pre : List Stmt) (p : Pos) (s : Shared), Sem.wp M Γ (execs pre env) (fun a _ s' => P a s') (fun e _ s' => E e s') p s → Sem.wp M Γ (execs (pre ++ rest) env) (fun a _ s' => Q a s') (fun e _ s' => E e s') p s
  | [], p, s, h => h1 s h Γ p hΓ
  | st :: r, p, s, h => by
    rw [execs_cons, Sem.wp_bind'] at h
    show Sem.wp M Γ (execs (st :: (r ++ rest)) env) _ _ p s
    rw [execs_cons, Sem.wp_bind']
    refine Sem.wp_mono M Γ _ (fun f p' s' h' => ?_) (fun _ _ _ h' => h') _ _ h
    cases f with
    | next => exact wp_execs_app hΓ h1 h2 r p' s' h'
    | brk => exact h2 _ _ (by intro e; cases e) h'
    | cont => exact h2 _ _ (by intro e; cases e) h'
    | ret v => exact h2 _ _ (by intro e; cases e) h'
theorem cut_seq (pre : List Stmt) (x T z : Str) (_F : Fr h₀ L s.heap m) (_N : News h₀ L s.heap news) (h1 : wpAny M A (execs pre env) (CutEndF h₀ L m news x T z s) E s)
    (h2 : ∀ (t : Tok) (u : Option Value) (h' : Heap) (tk' : Nat), Fr h₀ L h' (fun y => if y = x then some (.str T t) else if y = z then u else m y) → News h₀ L h' news → wpAny M A (execs rest env) Q E { s with heap := h', toks := tk' }) :
    wpAny M A (execs (pre ++ rest) env) Q E s := fun Γ p hΓ =>
  wp_execs_app hΓ (P := CutEndF h₀ L m news x T z s) (fun s' (hh : CutEndF h₀ L m news x T z s .next s') => by obtain ⟨_, t, u, h', tk', rfl, F, N⟩ := hh; exact h2 t u h' tk' F N) (fun fl s' hn (hh : CutEndF h₀ L m news x T z s fl s') => absurd hh.1 hn) pre p s (h1 Γ p hΓ)
theorem cut_f (F : Fr h₀ L h' m') (N : News h₀ L h' news) (hx : m' x = some (.str V t)) (hr : ∀ y, y ≠ x → y ≠ z → m' y = m y) (e : V = T) : CutEndF h₀ L m news x T z s .next { s with heap := h', toks := tk' } := by
  subst e
  have em : (fun y => if y = x then some (Value.str V t) else if y = z then m' y else m y) = m' := by
    funext y
    by_cases hy : y = x
    · rw [if_pos hy, hy, hx]
    · rw [if_neg hy]
      by_cases hz : y = z
      · rw [if_pos hz]
      · rw [if_neg hz, hr y hy hz]
  refine ⟨rfl, t, m' z, h', tk', rfl, ?_, N⟩
  have em2 : (fun y => if y = x then some (Value.str V t) else if y = z then m' z else m y) = m' := by
    rw [← em]
    funext y
    by_cases hy : y = x
    · rw [if_pos hy, if_pos hy]
    · rw [if_neg hy, if_neg hy]
      by_cases hz : y = z
      · rw [if_pos hz, if_pos hz, hz]
        rw [em]
      · rw [if_neg hz, if_neg hz]
  rw [em2]
  exact F
end
/-- a cut behind the statements that build the list of the terms -/
noncomputable def CutTerms (h₀ : Heap) (L : Addr) (m : Str → Option Value) (news : List (Addr × Obj)) (ts : List Str) (s : Shared) (fl : Flow) (s' : Shared) : Prop :=
  fl = .next ∧ ∃ (l : Addr) (vs : List Value) (nn : Nat) (h' : Heap) (tk' : Nat), s' = { s with heap := h', toks := tk' } ∧ Fr h₀ L h' (fun y => if y = S "terms" then some (.ref l) else m y) ∧ News h₀ L h' ((l, listOf vs.toArray nn) :: news) ∧ StrsAre vs ts
section
variable {M : Model} {A : Around} {E : Value → Shared → Prop} {s : Shared} {env : Env} {rest : List Stmt} {Q : Flow → Shared → Prop} {h₀ h' : Heap} {L l : Addr} {m m' : Str → Option Value} {news : List (Addr × Obj)} {ts : List Str} {vs : List Value} {nn tk' : Nat}
theorem cut_terms (pre : List Stmt) (ts : List Str) (_F : Fr h₀ L s.heap m) (_N : News h₀ L s.heap news) (h1 : wpAny M A (execs pre env) (CutTerms h₀ L m news ts s) E s)
    (h2 : ∀ (l : Addr) (vs : List Value) (nn : Nat) (h' : Heap) (tk' : Nat), StrsAre vs ts → Fr h₀ L h' (fun y => if y = S "terms" then some (.ref l) else m y) → News h₀ L h' ((l, listOf vs.toArray nn) :: news) → wpAny M A (execs rest env) Q E { s with heap := h', toks := tk' }) :
    wpAny M A (execs (pre ++ rest) env) Q E s := fun Γ p hΓ =>
  wp_execs_app hΓ (P := CutTerms h₀ L m news ts s) (fun s' (hh : CutTerms h₀ L m news ts s .next s') => by obtain ⟨_, l, vs, nn, h', tk', rfl, F, N, a⟩ := hh; exact h2 l vs nn h' tk' a F N) (fun fl s' hn (hh : CutTerms h₀ L m news ts s fl s') => absurd hh.1 hn) pre p s (h1 Γ p hΓ)
theorem terms_end (F : Fr h₀ L h' m') (N : News h₀ L h' ((l, listOf vs.toArray nn) :: news)) (hx : m' (S "terms") = some (.ref l)) (hr : ∀ y, y ≠ S "terms" → m' y = m y) (a : StrsAre vs ts) : CutTerms h₀ L m news ts s .next { s with heap := h', toks := tk' } := by
  refine ⟨rfl, l, vs, nn, h', tk', rfl, ?_, N, a⟩
  have em : (fun y => if y = S "terms" then some (.ref l) else m y) = m' := by
    funext y
    by_cases hy : y = S "terms"
    · rw [if_pos hy, hy, hx]
    · rw [if_neg hy, hr y hy]
  rw [em]
  exact F
end
section
variable {prog : Program} {w : World} {A : Around} {E : Value → Shared → Prop} {s : Shared} {h₀ : Heap} {L l : Addr} {news : List (Addr × Obj)} {Q : Value → Shared → Prop} {vs : List Value} {ts : List Str} {nn : Nat}
theorem len_strs (N : News h₀ L s.heap news) (hm : (l, listOf vs.toArray nn) ∈ news) (hi : StrsAre vs ts) (hl : ts.length ≤ 3) (h : Q (.int ts.length (s.toks + 1)) { s with toks := s.toks + 1 + 1 }) : wpAny (model prog w) A (call (.builtin "len") [.ref l]) Q E s := by
  have e : vs.toArray.size = ts.length := by rw [List.size_toArray, hi.len_eq]
  exact PyProof.Rows.len_list (News.isList N hm) (by rw [e]; omega) (by rw [e]; exact h)
end
theorem kw23 : True := by
  k_with "mine mem" => first | (first | exact List.Mem.head _ | (refine' List.mem_cons_of_mem _ ?mw; (case mw => walk_at "mine mem")) | ktr_member) | fail "none"
  trivial
local macro_rules | `(tactic| k_mem) => `(tactic| walk_at "mine mem")
theorem kw24 : True := by
  k_with "mine sum" => first | (((simp only [List.map_cons, List.map_nil, List.sum_cons, List.sum_nil, List.length_cons, List.length_nil, PySem.Str.length_append]); (try kopn_lits); omega)) | fail "none"
  k_with "own call builtin:str.join" => first | ((k_here; (with_reducible show wpAny _ _ (call (Value.builtin "str.join") [Value.str _ _, Value.ref _]) _ _ _); k_dflt (refine' join_list ?k1w ?k2w ?k3w ?_; (case k1w => exact News.isList (by k_asm) (by k_mem)); (case k2w => first | with_reducible assumption | exact StrsAre.cons _ _ StrsAre.nil | exact StrsAre.cons _ _ (StrsAre.cons _ _ StrsAre.nil) | exact StrsAre.cons _ _ (StrsAre.cons _ _ (StrsAre.cons _ _ StrsAre.nil))); (case k3w => first | with_reducible assumption | walk_at "mine sum"); intro _ _; (try dsimp only); (try k_fold)))) | fail "none"
  k_with "mine cutf" => first | (((rename Fr _ _ _ _ => hFw); (rename News _ _ _ _ => hNw); refine cut_f hFw (by first | exact hNw | exact newsT hNw | exact newsT (newsT hNw) | exact newsT (newsT (newsT hNw))) rfl (by intro yw hyw hzw; repeat (first | rfl | rw [if_neg hyw] | rw [if_neg hzw])) ?_)) | fail "none"
  trivial
noncomputable def termsOf (base index : Option (Str × Str)) (scale : Int) (name : Str) : List Str :=
  (match base with | none => [] | some b => [b.1]) ++ (match index with | none => [] | some i => [(i.1 ++ S "*") ++ scaleT scale]) ++ (if (name != S "") = true then [name] else [])
noncomputable def innerT (base index : Option (Str × Str)) (scale : Int) (name : Str) (worth : Int) : Str :=
  if (termsOf base index scale name).length = 0 then hexT worth else
  if worth = 0 ∧ (name == S "") = true ∧ ∃ b ∈ base, (b.2 == S "rip") = true then sumT (Txt.join (S " + ") (termsOf base index scale name)) worth ++ S " + 0x0" else sumT (Txt.join (S " + ") (termsOf base index scale name)) worth
section
variable {base index : Option (Str × Str)} {scale : Int} {name : Str} {worth : Int} {l : List Str}
theorem inner_nil (h : termsOf base index scale name = []) : hexT worth = innerT base index scale name worth := by
  unfold innerT
  rw [h]
  rfl
theorem inner_no (h : termsOf base index scale name = l) (h1 : l ≠ []) (h2 : ¬ (worth = 0 ∧ (name == S "") = true ∧ ∃ b ∈ base, (b.2 == S "rip") = true)) : sumT (Txt.join (S " + ") l) worth = innerT base index scale name worth := by
  unfold innerT
  rw [h, if_neg (fun e => h1 (List.eq_nil_of_length_eq_zero e)), if_neg h2]
theorem inner_yes (h : termsOf base index scale name = l) (h1 : l ≠ []) (h2 : worth = 0 ∧ (name == S "") = true ∧ ∃ b ∈ base, (b.2 == S "rip") = true) : sumT (Txt.join (S " + ") l) worth ++ S " + 0x0" = innerT base index scale name worth := by
  unfold innerT
  rw [h, if_neg (fun e => h1 (List.eq_nil_of_length_eq_zero e)), if_pos h2]
end
noncomputable def intelT (seg name : Str) (worth : Int) (base index : Option (Str × Str)) (scale size : Int) : Str :=
  if (sizeWord size != S "") = true then (sizeWord size ++ S " ptr ") ++ (if (seg != S "") = true then (seg ++ S ":") ++ ((S "[" ++ innerT base index scale name worth) ++ S "]") else (S "[" ++ innerT base index scale name worth) ++ S "]")
  else if (seg != S "") = true then (seg ++ S ":") ++ ((S "[" ++ innerT base index scale name worth) ++ S "]") else (S "[" ++ innerT base index scale name worth) ++ S "]"
noncomputable def bracT (seg I : Str) : Str := if (seg != S "") = true then (seg ++ S ":") ++ ((S "[" ++ I) ++ S "]") else (S "[" ++ I) ++ S "]"
noncomputable def sizedT (size : Int) (X : Str) : Str := if (sizeWord size != S "") = true then (sizeWord size ++ S " ptr ") ++ X else X
theorem intelT_is (seg name : Str) (worth : Int) (base index : Option (Str × Str)) (scale size : Int) : intelT seg name worth base index scale size = sizedT size (bracT seg (innerT base index scale name worth)) := by
  unfold intelT sizedT bracT
  rfl
theorem sum_small : ∀ l : List Str, (∀ a ∈ l, a.length ≤ 20) → (l.map (·.length)).sum ≤ 20 * l.length
  | [], _ => by simp
  | a :: r, h => by
    have h1 := h a (.head _)
    have h2 := sum_small r fun b hb => h b (.tail _ hb)
    rw [List.map_cons, List.sum_cons, List.length_cons]
    omega
theorem sum_fits (l : List Str) (h : ∀ a ∈ l, a.length ≤ 20) (hl : l.length ≤ 3) : (l.map (·.length)).sum + l.length * (Str.ofString " + ").length ≤ 16777216 := by
  have h1 := sum_small l h
  rw [show (Str.ofString " + ").length = 3 from by decide]
  omega
theorem joinT_len (l : List Str) (h : ∀ a ∈ l, a.length ≤ 20) (hl : l.length ≤ 3) : (Txt.join (S " + ") l).length ≤ 100 := by
  show (Builtin.Str.glued (S " + ") l).length ≤ 100
  rw [StrLaws.glued_eq_join]
  have h1 := StrLaws.join_length_le (S " + ") l
  have h2 := StrLaws.sumLen_le l h
  rw [show (S " + ").length = 3 from by decide] at h1
  omega
theorem kw25 : True := by
  k_with "mine stop" => first | ((with_reducible show wpAny _ _ (execs (Stmt.Assign [Expr.Name (Str.ofString "terms") _] _ _ :: _) _) _ _ _)) | fail "none"
  trivial
theorem termsOf_len {base index : Option (Str × Str)} {scale : Int} {name : Str} (hs0 : 0 ≤ scale) (hs : scale ≤ 15) (hname : name.length ≤ 10) (hb : ∀ b ∈ base, b.1.length ≤ 10) (hi : ∀ b ∈ index, b.1.length ≤ 10) : (∀ a ∈ termsOf base index scale name, a.length ≤ 20) ∧ (termsOf base index scale name).length ≤ 3 := by
  have hsc := scaleT_len scale hs0 hs
  unfold termsOf
  constructor
  · intro a ha
    rcases List.mem_append.mp ha with ha | ha
    · rcases List.mem_append.mp ha with ha | ha
      · cases base with
        | none => cases ha
        | some b =>
          have := hb _ rfl
          rcases List.mem_singleton.mp ha with rfl
          omega
      · cases index with
        | none => cases ha
        | some b =>
          have := hi _ rfl
          rcases List.mem_singleton.mp ha with rfl
          simp only [Str.length_append, show (S "*").length = 1 from by decide]
          omega
    · split at ha
      · rcases List.mem_singleton.mp ha with rfl
        omega
      · cases ha
  · have hlen : (if (name != S "") = true then [name] else []).length ≤ 1 := by split <;> simp
    simp only [List.length_append]
    cases base <;> cases index <;> simp only [List.length_cons, List.length_nil] <;> omega
theorem innerT_len {base index : Option (Str × Str)} {scale : Int} {name : Str} {worth : Int} (hs0 : 0 ≤ scale) (hs : scale ≤ 15) (hname : name.length ≤ 10) (hb : ∀ b ∈ base, b.1.length ≤ 10) (hi : ∀ b ∈ index, b.1.length ≤ 10) : (innerT base index scale name worth).length ≤ 130 := by
  have h1 := hexT_len worth
  have ⟨h2, h3⟩ := termsOf_len hs0 hs hname hb hi
  have h4 := joinT_len _ h2 h3
  have h5 := sumT_len (Txt.join (S " + ") (termsOf base index scale name)) worth
  unfold innerT
  (repeat' split) <;> (try simp only [Str.length_append, show (S " + 0x0").length = 6 from by decide]) <;> omega
theorem kw26 : True := by
  k_with "mine stop" => first | ((with_reducible show wpAny _ _ (execs (Stmt.If (Expr.Compare (Expr.Attribute _ (Str.ofString "segment") _) _ _ _) _ _ _ :: Stmt.Assign _ _ _ :: _) _) _ _ _)) | fail "none"
  k_with "mine stop" => first | ((with_reducible show wpAny _ _ (execs (Stmt.If (Expr.Compare (Expr.Name (Str.ofString "word") _) _ _ _) _ _ _ :: Stmt.Return _ _ :: _) _) _ _ _)) | fail "none"
  trivial
section OnlyHere
local macro_rules | `(tactic| walk_at $s:str) => `(tactic| k_extra $(Lean.Syntax.mkStrLit ("h3 " ++ s.getString)):str)
theorem kw27 : True := by
  k_with "h3 call builtin:len" => first | ((k_here; (with_reducible show wpAny _ _ (call (Value.builtin "len") [Value.ref _]) _ _ _); k_dflt (refine' len_strs ?k1w ?k2w ?k3w ?k4w ?_; (case k1w => k_asm); (case k2w => k_mem); (case k3w => with_reducible assumption); (case k4w => with_reducible assumption)); (try dsimp only))) | fail "none"
  trivial
-- a state that has grown within a statement is folded at each test
theorem kw28 : True := by
  k_with "h3 isTrue BoolOp" => first | ((dsimp only; walk_at "isTrue BoolOp")) | fail "none"
  k_with "h3 exec If" => first | ((dsimp only; walk_at "exec If")) | fail "none"
  k_with "h3 callWith builtin:list.append cons nil" => first | ((dsimp only; walk_at "callWith builtin:list.append cons nil")) | fail "none"
  trivial
set_option maxRecDepth 100000 in
set_option maxHeartbeats 8000000 in
theorem memory_intel_c (w : World) (x : Addr) (base index : Option (Str × Str)) (scale worth size : Int) (seg name : Str) (h0 : -4294967296 < worth) (h1 : worth < 4294967296) (hs0 : 0 ≤ scale) (hs : scale ≤ 15) (hseg : seg.length ≤ 10) (hname : name.length ≤ 10) (hb : ∀ b ∈ base, b.1.length ≤ 10) (hi : ∀ b ∈ index, b.1.length ≤ 10) :
    Read w 4 138 [.ref x] (MemAt w.params x base index scale worth size seg name) (fun t => .str (intelT seg name worth base index scale size) t) := by
  unfold Read
  intro dp un gd cn cs a ccd cl outer A₀ base₀ h₀ L m s news p loose mean mg mb Q E hh B F X N T hk hd hu hret
  obtain ⟨dx, bv, iv, t0, ts, tw, tz, tg, tn, k0, k1, k2, k3, k4, k5, k6, k7, e, rb, ri, hx, hdx⟩ := hh
  refine wpAny_call ?_
  k_dflt cell_enter
  (rename Fr _ _ _ _ => hF0)
  refine fr_as hF0 (fun y => List.lookup y [(Str.ofString "mem", .ref x)]) rfl ?_
  clear hF0
  intro hF0
  have hnl := numT_len scale hs0 hs
  have hl := hexT_len worth
  walk_at "mine steps"
  (rename Fr _ _ _ _ => hF; rename News _ _ _ _ => hN)
  have hsc := scaleT_len scale hs0 hs
  show wpAny _ _ (execs ([_, _, _, _] ++ _) _) _ _ _
  refine cut_terms _ (termsOf base index scale name) hF hN ?_ ?_
  · rcases rb with _ | @⟨b, db, nm, kind, num, sz, r1, r2, r3, r4, j1, j2, j3, j4, e', hb1, hb2⟩ <;> rcases ri with _ | @⟨b', db', nm', kind', num', sz', r1', r2', r3', r4', j1', j2', j3', j4', e'', hb1', hb2'⟩ <;> (try have hb' := hb _ rfl) <;> (try have hi' := hi _ rfl) <;> (try dsimp only at hb') <;> (try dsimp only at hi') <;> by_cases hn : (name != S "") = true
    all_goals (
      k_steps
      (rename Fr _ _ _ _ => hF; rename News _ _ _ _ => hN)
      refine terms_end hF hN rfl (by intro y hy; repeat (first | rfl | rw [if_neg hy])) ?_
      unfold termsOf
      first | rw [if_pos hn] | rw [if_neg hn]
      repeat' constructor)
  clear hF hN
  intro lT vs nnT hT0 tkT0 hSA hF hN
  dsimp only
  have htl := termsOf_len (base := base) (index := index) (scale := scale) (name := name) hs0 hs hname hb hi
  have hj : (Txt.join (Str.ofString " + ") (termsOf base index scale name)).length ≤ 100 := joinT_len (termsOf base index scale name) htl.1 htl.2
  have hsm := sumT_len (Txt.join (Str.ofString " + ") (termsOf base index scale name)) worth
  show wpAny _ _ (execs ([_] ++ _) _) _ _ _
  refine cut_seq _ (S "inner") (innerT base index scale name worth) (S "terms") hF (newsT hN) ?_ ?_
  · by_cases hnil : termsOf base index scale name = []
    · rw [hnil] at hSA
      cases hSA
      k_steps
      all_goals (walk_at "mine cutf")
      all_goals exact inner_nil hnil
    · obtain ⟨t0', tr, hcons⟩ := List.exists_cons_of_ne_nil hnil
      have htl2 := htl.2
      have hw9 := sum_fits _ htl.1 htl.2
      rw [hcons] at hSA hj hsm htl2 hw9
      have hl0 : (((t0' :: tr).length : Int) == 0) = false := beq_eq_false_iff_ne.mpr (by rw [List.length_cons]; omega)
      rcases rb with _ | @⟨b, db, nm, kind, num, sz, r1, r2, r3, r4, j1, j2, j3, j4, e', hb1, hb2⟩
      · k_steps
        all_goals (walk_at "mine cutf")
        all_goals (first
          | exact inner_no hcons (by intro h; cases h) (by
              rintro ⟨h1, h2, b, hb9, h3⟩
              first
                | (cases hb9; done)
                | exact absurd h1 (by with_reducible assumption)
                | exact absurd (h2.symm.trans (show (name == S "") = false by with_reducible assumption)) (by decide)
                | (cases hb9; exact absurd (h3.symm.trans (show (kind == S "rip") = false by with_reducible assumption)) (by decide)))
          | exact inner_yes hcons (by intro h; cases h) ⟨by with_reducible assumption, by with_reducible assumption, _, rfl, by with_reducible assumption⟩)
      · k_steps
        all_goals (walk_at "mine cutf")
        all_goals (first
          | exact inner_no hcons (by intro h; cases h) (by
              rintro ⟨h1, h2, b, hb9, h3⟩
              first
                | (cases hb9; done)
                | exact absurd h1 (by with_reducible assumption)
                | exact absurd (h2.symm.trans (show (name == S "") = false by with_reducible assumption)) (by decide)
                | (cases hb9; exact absurd (h3.symm.trans (show (kind == S "rip") = false by with_reducible assumption)) (by decide)))
          | exact inner_yes hcons (by intro h; cases h) ⟨by with_reducible assumption, by with_reducible assumption, _, rfl, by with_reducible assumption⟩)
  · clear hF hN
    intro tI uI hI tkI hF hN
    dsimp only
    have hil := innerT_len (worth := worth) hs0 hs hname hb hi
    have hwl := sizeWord_len size
    generalize hI' : innerT base index scale name worth = I at hF hil
    walk_at "mine steps"
    (rename Fr _ _ _ _ => hF; rename News _ _ _ _ => hN)
    refine cut_str (S "text") (bracT seg I) hF hN ?_ ?_
    · k_steps
      all_goals (walk_at "mine cut")
      all_goals (unfold bracT; walk_at "mine ifs")
    clear hF hN
    intro tT hT tkT hF hN
    have hbl : (bracT seg I).length ≤ 150 := by
      unfold bracT
      split <;> simp only [Str.length_append, show (S "[").length = 1 from by decide, show (S "]").length = 1 from by decide, show (S ":").length = 1 from by decide] <;> omega
    dsimp only
    walk_at "mine steps"
    (rename Fr _ _ _ _ => hF; rename News _ _ _ _ => hN)
    refine cut_str (S "text") (sizedT size (bracT seg I)) hF hN ?_ ?_
    · k_steps
      all_goals (walk_at "mine cut")
      all_goals (unfold sizedT; walk_at "mine ifs")
    clear hF hN
    intro tT hT tkT hF hN
    dsimp only
    k_steps
    exact cb_retS (by assumption) (by rw [intelT_is, hI']) (by assumption) (by assumption)
end OnlyHere

/-! ### operand_intel -/
theorem kw29 : True := by
  k_with "own call ref" => first | ((k_here; (with_reducible show wpAny _ _ (call (Value.ref 138) [Value.ref _]) _ _ _); k_dflt (refine' Read.use ?k1w ?k2w ?k3w ?k4w ?k5w ?kKw (memory_intel_c _ _ _ _ _ _ _ _ _ ?p1w ?p2w ?p3w ?p4w ?p5w ?p6w ?p7w ?p8w) ?khw ?kdw ?kuw ?_; (case khw => assumption); (case p1w => assumption); (case p2w => assumption); (case p3w => assumption); (case p4w => assumption); (case p5w => assumption); (case p6w => assumption); (case p7w => assumption); (case p8w => assumption); (walk_at "mine use read"); intro t9w h9w tk9w F9w N9w; (try dsimp only); (try k_fold)))) | fail "none"
  trivial
theorem intelT_len {seg name : Str} {worth : Int} {base index : Option (Str × Str)} {scale size : Int} (hs0 : 0 ≤ scale) (hs : scale ≤ 15) (hseg : seg.length ≤ 10) (hname : name.length ≤ 10) (hb : ∀ b ∈ base, b.1.length ≤ 10) (hi : ∀ b ∈ index, b.1.length ≤ 10) : (intelT seg name worth base index scale size).length ≤ 200 := by
  have h1 := innerT_len (worth := worth) hs0 hs hname hb hi
  have h2 := sizeWord_len size
  rw [intelT_is]
  have h3 : (bracT seg (innerT base index scale name worth)).length ≤ 150 := by
    unfold bracT
    split <;> simp only [Str.length_append, show (S "[").length = 1 from by decide, show (S "]").length = 1 from by decide, show (S ":").length = 1 from by decide] <;> omega
  unfold sizedT
  split <;> (try simp only [Str.length_append, show (S " ptr ").length = 5 from by decide]) <;> omega
set_option maxRecDepth 100000 in
set_option maxHeartbeats 8000000 in
theorem int_mem_c (w : World) (x : Addr) (base index : Option (Str × Str)) (scale worth size : Int) (seg name : Str) (h0 : -4294967296 < worth) (h1 : worth < 4294967296) (hs0 : 0 ≤ scale) (hs : scale ≤ 15) (hseg : seg.length ≤ 10) (hname : name.length ≤ 10) (hb : ∀ b ∈ base, b.1.length ≤ 10) (hi : ∀ b ∈ index, b.1.length ≤ 10) :
    Read w 5 145 [.ref x] (MemAt w.params x base index scale worth size seg name) (fun t => .str (intelT seg name worth base index scale size) t) := by
  unfold Read
  intro dp un gd cn cs a ccd cl outer A₀ base₀ h₀ L m s news p loose mean mg mb Q E hh B F X N T hk hd hu hret
  have hh' := hh
  obtain ⟨dx, bv, iv, t0, ts, tw, tz, tg, tn, k0, k1, k2, k3, k4, k5, k6, k7, e, rb, ri, hx, hdx⟩ := hh
  refine wpAny_call ?_
  k_dflt cell_enter
  (rename Fr _ _ _ _ => hF0)
  refine fr_as hF0 (fun y => List.lookup y [(Str.ofString "operand", .ref x)]) rfl ?_
  clear hF0
  intro hF0
  k_steps
  exact cb_retS (by assumption) rfl (by assumption) (by assumption)
noncomputable def immIntel (name : Str) (worth : Int) : Str := if (name != S "") = true then S "offset " ++ sumT name worth else hexT worth
noncomputable def relIntel (name : Str) (worth : Int) : Str := if (name != S "") = true then sumT name worth else aheadT worth
set_option maxRecDepth 100000 in
set_option maxHeartbeats 8000000 in
theorem int_reg_c (w : World) (x : Addr) (nm : Str) (hn : nm.length ≤ 10) : Read w 5 145 [.ref x] (RegOpAt w.params x nm) (fun t => .str nm t) := by
  unfold Read
  intro dp un gd cn cs a ccd cl outer A₀ base₀ h₀ L m s news p loose mean mg mb Q E hh B F X N T hk hd hu hret
  obtain ⟨dx, r, t0, k0, k1, e, kind, hx, hdx, ra⟩ := hh
  rcases ra with _ | @⟨b, db, _, _, num, sz, r1, r2, r3, r4, j1, j2, j3, j4, e', hb1, hb2⟩
  refine wpAny_call ?_
  k_dflt cell_enter
  (rename Fr _ _ _ _ => hF0)
  refine fr_as hF0 (fun y => List.lookup y [(Str.ofString "operand", .ref x)]) rfl ?_
  clear hF0
  intro hF0
  k_steps
  exact cb_retS (by assumption) rfl (by assumption) (by assumption)
set_option maxRecDepth 100000 in
set_option maxHeartbeats 8000000 in
theorem int_imm_c (w : World) (x : Addr) (name : Str) (worth : Int) (h0 : -4294967296 < worth) (h1 : worth < 4294967296) (hn : name.length ≤ 10) : Read w 5 145 [.ref x] (NumAt w.params 252 (Str.ofString "imm") x worth name) (fun t => .str (immIntel name worth) t) := by
  unfold Read
  intro dp un gd cn cs a ccd cl outer A₀ base₀ h₀ L m s news p loose mean mg mb Q E hh B F X N T hk hd hu hret
  obtain ⟨dx, t0, tw, tn, k0, k1, k2, e, hx, hdx⟩ := hh
  have hl := hexT_len worth
  have hsl := sumT_len name worth
  refine wpAny_call ?_
  k_dflt cell_enter
  (rename Fr _ _ _ _ => hF0)
  refine fr_as hF0 (fun y => List.lookup y [(Str.ofString "operand", .ref x)]) rfl ?_
  clear hF0
  intro hF0
  k_steps
  all_goals exact cb_retS (by assumption) (by unfold immIntel; walk_at "mine ifs") (by assumption) (by assumption)
set_option maxRecDepth 100000 in
set_option maxHeartbeats 8000000 in
theorem int_rel_c (w : World) (x : Addr) (name : Str) (worth : Int) (h0 : -4294967296 < worth) (h1 : worth < 4294967296) (hn : name.length ≤ 10) : Read w 5 145 [.ref x] (NumAt w.params 293 (Str.ofString "rel") x worth name) (fun t => .str (relIntel name worth) t) := by
  unfold Read
  intro dp un gd cn cs a ccd cl outer A₀ base₀ h₀ L m s news p loose mean mg mb Q E hh B F X N T hk hd hu hret
  obtain ⟨dx, t0, tw, tn, k0, k1, k2, e, hx, hdx⟩ := hh
  refine wpAny_call ?_
  k_dflt cell_enter
  (rename Fr _ _ _ _ => hF0)
  refine fr_as hF0 (fun y => List.lookup y [(Str.ofString "operand", .ref x)]) rfl ?_
  clear hF0
  intro hF0
  k_steps
  all_goals exact cb_retS (by assumption) (by unfold relIntel; walk_at "mine ifs") (by assumption) (by assumption)

/-! ### reading numbers -/
section
variable {prog : Program} {w : World} {A : Around} {E : Value → Shared → Prop} {s : Shared} {value slice : PySem.Expr} {x : Str} {t : Tok} {h₀ : Heap} {L : Addr} {m : Str → Option Value} {news : List (Addr × Obj)} {Q : Value → Shared → Prop}
theorem r_slice_ns {j : Int} {uj : Tok} (hF : Fr h₀ L s.heap m) (hN : News h₀ L s.heap news) (hsz : x.length ≤ 1000) (h : ∀ h' t' k, (Txt.slice x none (some j)).length ≤ x.length → Fr h₀ L h' m → News h₀ L h' news → Q (.str (Txt.slice x none (some j)) t') { s with heap := h', toks := k })
    (hs : subscripted slice false (.str x t) (.ref s.heap.objs.size) = operate [.ref s.heap.objs.size, .str x t] (getItem (.str x t) (.ref s.heap.objs.size)) := by with_unfolding_all rfl)
    (ht : ∀ r, letTemporaryGo value (.str x t) r = pure () := by intro _; with_unfolding_all rfl) :
    wpAny (model prog w) A (subscriptTail value slice (.str x t) (.ref s.heap.objs.size)) Q E { s with heap := s.heap.push { cls := .type "slice", data := .fields #[.none, .int j uj, .none] } } :=
  slice_strN_ns hF hN (fun h' t' k => h h' t' k (Txt.slice_le _ _ _)) hs ht (by rw [sizeLine_eq]; omega)
theorem r_slice_sn {i : Int} {ui : Tok} (hF : Fr h₀ L s.heap m) (hN : News h₀ L s.heap news) (hsz : x.length ≤ 1000) (h : ∀ h' t' k, (Txt.slice x (some i) none).length ≤ x.length → Fr h₀ L h' m → News h₀ L h' news → Q (.str (Txt.slice x (some i) none) t') { s with heap := h', toks := k })
    (hs : subscripted slice false (.str x t) (.ref s.heap.objs.size) = operate [.ref s.heap.objs.size, .str x t] (getItem (.str x t) (.ref s.heap.objs.size)) := by with_unfolding_all rfl)
    (ht : ∀ r, letTemporaryGo value (.str x t) r = pure () := by intro _; with_unfolding_all rfl) :
    wpAny (model prog w) A (subscriptTail value slice (.str x t) (.ref s.heap.objs.size)) Q E { s with heap := s.heap.push { cls := .type "slice", data := .fields #[.int i ui, .none, .none] } } :=
  slice_strN_sn hF hN (fun h' t' k => h h' t' k (Txt.slice_le _ _ _)) hs ht (by rw [sizeLine_eq]; omega)
theorem r_slice_ss {i j : Int} {ui uj : Tok} (hF : Fr h₀ L s.heap m) (hN : News h₀ L s.heap news) (hsz : x.length ≤ 1000) (h : ∀ h' t' k, (Txt.slice x (some i) (some j)).length ≤ x.length → Fr h₀ L h' m → News h₀ L h' news → Q (.str (Txt.slice x (some i) (some j)) t') { s with heap := h', toks := k })
    (hs : subscripted slice false (.str x t) (.ref s.heap.objs.size) = operate [.ref s.heap.objs.size, .str x t] (getItem (.str x t) (.ref s.heap.objs.size)) := by with_unfolding_all rfl)
    (ht : ∀ r, letTemporaryGo value (.str x t) r = pure () := by intro _; with_unfolding_all rfl) :
    wpAny (model prog w) A (subscriptTail value slice (.str x t) (.ref s.heap.objs.size)) Q E { s with heap := s.heap.push { cls := .type "slice", data := .fields #[.int i ui, .int j uj, .none] } } :=
  slice_strN_ss hF hN (fun h' t' k => h h' t' k (Txt.slice_le _ _ _)) hs ht (by rw [sizeLine_eq]; omega)
end
theorem kw30 : True := by
  k_with "mine slice" => first | ((k_here; (with_reducible show wpAny _ _ (subscriptTail _ (Expr.Slice _ _ _ _) (Value.str _ _) (Value.ref _)) _ _ _); (first | ((with_reducible show wpAny _ _ (subscriptTail _ (Expr.Slice none (some _) none _) _ _) _ _ _); (refine' r_slice_ns (s := ⟨_, _, _, _, _⟩) ?hFw ?hNw ?hszw ?_); (case hFw => with_reducible assumption); (case hNw => with_reducible assumption); (case hszw => walk_at "mine len")) | ((with_reducible show wpAny _ _ (subscriptTail _ (Expr.Slice (some _) none none _) _ _) _ _ _); (refine' r_slice_sn (s := ⟨_, _, _, _, _⟩) ?hFw ?hNw ?hszw ?_); (case hFw => with_reducible assumption); (case hNw => with_reducible assumption); (case hszw => walk_at "mine len")) | ((with_reducible show wpAny _ _ (subscriptTail _ (Expr.Slice (some _) (some _) none _) _ _) _ _ _); (refine' r_slice_ss (s := ⟨_, _, _, _, _⟩) ?hFw ?hNw ?hszw ?_); (case hFw => with_reducible assumption); (case hNw => with_reducible assumption); (case hszw => walk_at "mine len"))); intro _ _ _ _ _ _)) | fail "none"
  k_with "own subscriptTail Name Slice str ref" => first | (k_dflt (walk_at "mine slice")) | fail "none"
  k_with "own binaryOp Mult int int" => first | ((first | (refine mul_int ?_ (IntMulOk.of_right (by decide))) | (refine mul_int ?_ (IntMulOk.of_left (by decide))))) | fail "none"
  trivial
/-- one sign on -/
noncomputable def numStep (a : Int) (c : Nat) : Int := a * 16 + Txt.find (S "0123456789abcdef") ⟨#[c]⟩
noncomputable def numOf (l : List Nat) : Int := l.foldl numStep 0
theorem num_turn {pre : List Int} {n : Nat} {total : Int} (h : total = numOf (pre.map Int.toNat)) : total * 16 + Txt.find (S "0123456789abcdef") ⟨#[n]⟩ = numOf ((pre ++ [(n : Int)]).map Int.toNat) := by
  unfold numOf at h ⊢
  rw [List.map_append, List.foldl_append, ← h]
  rfl
theorem num_start : (0 : Int) = numOf (([] : List Int).map Int.toNat) := rfl
/-- a number by its sign and its text without it -/
noncomputable def lawNumA (sg : Int) (f : Str) : Option Int := if (Txt.slice f none (some 2) == S "0x") = true then if (2 : Int) < f.length then some (sg * numOf (Txt.slice f (some 2) none).cps.toList) else none else none
/-- what _law_number gives back -/
noncomputable def lawNum (x : Str) : Option Int := if (Txt.slice x none (some 1) == S "-") = true then lawNumA (-1) (Txt.slice x (some 1) none) else lawNumA 1 x
theorem lawNum_neg {x : Str} (h : (Txt.slice x none (some 1) == S "-") = true) : lawNum x = lawNumA (-1) (Txt.slice x (some 1) none) := if_pos h
theorem lawNum_pos {x : Str} (h : (Txt.slice x none (some 1) == S "-") = false) : lawNum x = lawNumA 1 x := if_neg ((Bool.not_eq_true _).mpr h)
/-- a value for it -/
noncomputable def numV (o : Option Int) (t : Tok) : Value := match o with | some i => .int i t | none => .none
theorem codes_nat (x : Str) : (KStt.codes x).map Int.toNat = x.cps.toList := by
  unfold KStt.codes
  rw [List.map_map]
  exact (List.map_congr_left (g := _root_.id) fun c _ => Int.toNat_natCast c).trans (List.map_id _)
/-- a pure def's contract that tells that a token has been taken -/
noncomputable def PureT (w : World) (k : Nat) (f : Addr) (vs : List Value) (R : Tok → Value) : Prop :=
  ∀ (dp un : Nat) (gd : Option (List Code)) (cn : Str) (cs : Scope) (a : Addr) (ccd : Value) (cl : List (Str × Addr)) (outer : List Env) (A₀ : Around) (base h₀ : Heap) (L : Addr) (m : Str → Option Value) (s : Shared) (news : List (Addr × Obj)) (p : Program) (loose : List Str) (mean : ExcName → Option Value) (mg mb : Str → Option Value) (Q E : Value → Shared → Prop),
    Below A₀ base outer h₀ → Fr h₀ L s.heap m → (K w.params).In h₀ → News h₀ L s.heap news → Top p loose mean mg mb h₀ → cs.kind = .function → dp + k < recursionLimit → un + 8 * k + 200 < cLine →
    (∀ (t : Tok) (h' : Heap) (tk' : Nat), 0 < tk' → Fr h₀ L h' m → News h₀ L h' news → Q (R t) { s with heap := h', toks := tk' }) →
      wpAny (model PySem.Challenge.rw_pb0422_01.row.prog w) (ktrTop dp un gd cn cs L a ccd cl outer) (call (.ref f) vs) Q E s
theorem PureT.use {w : World} {k : Nat} {f : Addr} {vs : List Value} {R : Tok → Value} {dp un : Nat} {gd : Option (List Code)} {cn : Str} {cs : Scope} {a : Addr} {ccd : Value} {cl : List (Str × Addr)} {outer : List Env} {A₀ : Around} {base h₀ : Heap} {L : Addr} {m : Str → Option Value} {s : Shared} {news : List (Addr × Obj)} {p : Program} {loose : List Str} {mean : ExcName → Option Value} {mg mb : Str → Option Value} {Q E : Value → Shared → Prop}
    (B : Below A₀ base outer h₀) (F : Fr h₀ L s.heap m) (X : (K w.params).In h₀) (N : News h₀ L s.heap news) (T : Top p loose mean mg mb h₀) (hk : cs.kind = .function) (C : PureT w k f vs R) (hd : dp + k < recursionLimit) (hu : un + 8 * k + 200 < cLine)
    (h : ∀ (t : Tok) (h' : Heap) (tk' : Nat), 0 < tk' → Fr h₀ L h' m → News h₀ L h' news → Q (R t) { s with heap := h', toks := tk' }) :
    wpAny (model PySem.Challenge.rw_pb0422_01.row.prog w) (ktrTop dp un gd cn cs L a ccd cl outer) (call (.ref f) vs) Q E s := C _ _ _ _ _ _ _ _ _ _ _ _ _ _ _ _ _ _ _ _ _ _ _ B F X N T hk hd hu h
theorem PureT.pure {w : World} {k : Nat} {f : Addr} {vs : List Value} {R : Tok → Value} (C : PureT w k f vs R) : Pure w k f vs R := by
  intro dp un gd cn cs a ccd cl outer A₀ base h₀ L m s news p loose mean mg mb Q E B F X N T hk hd hu h
  exact C dp un gd cn cs a ccd cl outer A₀ base h₀ L m s news p loose mean mg mb Q E B F X N T hk hd hu fun t h' tk' _ => h t h' tk'
theorem num_some {x : Str} {i : Int} {h₀ h' : Heap} {L : Addr} {m : Str → Option Value} {news : List (Addr × Obj)} {s : Shared} {Q : Value → Shared → Prop} {t : Tok} {tk' : Nat} (hret : ∀ (t : Tok) (h' : Heap) (tk' : Nat), 0 < tk' → Fr h₀ L h' m → News h₀ L h' news → Q (numV (lawNum x) t) { s with heap := h', toks := tk' }) (e : lawNum x = some i) (F : Fr h₀ L h' m) (N : News h₀ L h' news) (hp : 0 < tk') : Q (.int i t) { s with heap := h', toks := tk' } := by
  have := hret t h' tk' hp F N
  rw [e] at this
  exact this
theorem num_none {x : Str} {h₀ h' : Heap} {L : Addr} {m : Str → Option Value} {news : List (Addr × Obj)} {s : Shared} {Q : Value → Shared → Prop} {tk' : Nat} (hret : ∀ (t : Tok) (h' : Heap) (tk' : Nat), 0 < tk' → Fr h₀ L h' m → News h₀ L h' news → Q (numV (lawNum x) t) { s with heap := h', toks := tk' }) (e : lawNum x = none) (F : Fr h₀ L h' m) (N : News h₀ L h' news) (hp : 0 < tk') : Q .none { s with heap := h', toks := tk' } := by
  have := hret 0 h' tk' hp F N
  rw [e] at this
  exact this
theorem kw31 : True := by
  k_with "own exec For Name Subscript cons nil" => first | ((k_here; (rename Fr _ _ _ _ => lF'w); (with_unfolding_all refine' For_invVF lF'w ?k1w ?k2w ?_; (case k1w => exact rfl); (case k2w => exact rfl); k_whole))) | fail "none"
  trivial
set_option maxRecDepth 100000 in
set_option maxHeartbeats 8000000 in
theorem law_number_t (w : World) (x : Str) (u : Tok) (hx : x.length ≤ 40) : PureT w 2 481 [.str x u] (fun t => numV (lawNum x) t) := by
  unfold PureT
  intro dp un gd cn cs a ccd cl outer A₀ base h₀ L m s news p loose mean mg mb Q E B F X N T hk hd hu hret
  refine wpAny_call ?_
  k_dflt cell_enter
  (rename Fr _ _ _ _ => hF0)
  refine fr_as hF0 (fun y => List.lookup y [(Str.ofString "text", .str x u)]) rfl ?_
  clear hF0
  intro hF0
  k_with "state" => first | (with_reducible exact num_start) | (with_reducible exact num_turn (by assumption))
  k_with "pyIter str" => k_state (fun pre total => total = numOf (pre.map Int.toNat)) "total"
  k_steps
  all_goals first
    | with_reducible refine num_none hret ?_ (by with_reducible assumption) (by with_reducible assumption) (by omega)
    | with_reducible refine num_some hret ?_ (by with_reducible assumption) (by with_reducible assumption) (by omega)
  all_goals (first | rw [lawNum_neg (by with_reducible assumption)] | rw [lawNum_pos (by with_reducible assumption)])
  all_goals (unfold lawNumA; walk_at "mine ifs")
  all_goals (rename _ = numOf _ => hI; rw [hI, codes_nat])
theorem law_number_c (w : World) (x : Str) (u : Tok) (hx : x.length ≤ 40) : Pure w 2 481 [.str x u] (fun t => numV (lawNum x) t) := (law_number_t w x u hx).pure

/-! ### a name with a number -/
theorem kw32 : True := by
  k_with "mine use t" => first | (( (case k1w => k_asm); (case k2w => k_asm); (case k3w => k_asm); (case k4w => k_asm); (case k5w => k_asm); (case kKw => first | exact rfl | assumption); (case kdw => walk_at "mine kd"); (case kuw => walk_at "mine ku"); intro t9w h9w tk9w p9w F9w N9w; (try dsimp only); (try k_fold))) | fail "none"
  trivial
/-- a sign that ends a name -/
noncomputable def isEnd (c : Nat) : Bool := c == 43 || c == 45
noncomputable def endOf (x : Str) : Nat := (x.cps.toList.takeWhile fun c => !isEnd c).length
noncomputable def sumE (x : Str) (e : Nat) : Str × Option Int := if e = x.length then (x, some 0) else (Txt.slice x none (some (e : Int)), lawNum (if (Txt.item x (e : Int) == S "-") = true then Txt.slice x (some (e : Int)) none else Txt.slice x (some ((e : Int) + 1)) none))
/-- what _law_sum gives back -/
noncomputable def lawSum (x : Str) : Str × Option Int :=
  if (x == S "") = true then (S "", some 0) else
  if (Builtin.Str.occurrences (S "-0") (Txt.item x 0) 0 (S "-0").length 1).isEmpty = true then sumE x (endOf x) else (S "", lawNum x)
/-- a new tuple of a text and a number or none -/
abbrev SumOut (a : Str) (b : Option Int) : Value → List (Addr × Obj) → Prop := fun v made => ∃ r t1 t2, v = .ref r ∧ made = [(r, { cls := .type "tuple", data := .seq #[.str a t1, numV b t2] })]
theorem tw_in {l : List Nat} {p : Nat → Bool} {i c : Nat} (h : i < (l.takeWhile p).length) (hc : l[i]? = some c) : p c = true := by
  induction l generalizing i with
  | nil => simp at hc
  | cons a r ih =>
    rw [List.takeWhile_cons] at h
    split at h
    · rename_i ha
      cases i with
      | zero => simp only [List.getElem?_cons_zero, Option.some.injEq] at hc; rw [← hc]; exact ha
      | succ i => exact ih (by simpa using h) (by simpa using hc)
    · simp at h
theorem tw_end {l : List Nat} {p : Nat → Bool} {c : Nat} (hc : l[(l.takeWhile p).length]? = some c) : p c = false := by
  induction l with
  | nil => simp at hc
  | cons a r ih =>
    rw [List.takeWhile_cons] at hc
    split at hc
    · exact ih (by simpa using hc)
    · rename_i ha
      simp only [List.length_nil, List.getElem?_cons_zero, Option.some.injEq] at hc
      rw [← hc]
      simpa using ha
theorem item_code {x : Str} {e : Int} (h0 : 0 ≤ e) (h1 : e < (x.length : Int)) : ∃ c, x.cps.toList[e.toNat]? = some c ∧ Txt.item x e = ⟨#[c]⟩ := by
  obtain ⟨n, hn⟩ := StrLaws.some_at h0 h1
  refine ⟨n, by rw [Array.getElem?_toList]; exact hn, ?_⟩
  unfold Txt.item Txt.charAt
  rw [StrLaws.at_nonneg h0 hn]
  rfl
theorem occ_end (c : Nat) : (Builtin.Str.occurrences (S "+-") ⟨#[c]⟩ 0 (S "+-").length 1).isEmpty = !isEnd c := by
  have h := StrLaws.found_one (S "+-") c
  rw [show (S "+-").cps.toList = [43, 45] from by decide] at h
  have e : decide (c ∈ [43, 45]) = isEnd c := by
    unfold isEnd
    rw [Bool.eq_iff_iff]
    simp
  rw [e] at h
  rw [← h, Bool.not_not]
/-- between two turns of the search for a name's end -/
noncomputable def EndInv (x : Str) (e : Int) : Prop := 0 ≤ e ∧ e ≤ (x.length : Int) ∧ e.toNat ≤ endOf x
theorem end_start (x : Str) : EndInv x 0 := ⟨by omega, by omega, Nat.zero_le _⟩
theorem end_turn {x : Str} {e : Int} (h : EndInv x e) (h1 : e < (x.length : Int)) (h2 : (Builtin.Str.occurrences (S "+-") (Txt.item x e) 0 (S "+-").length 1).isEmpty = true) : EndInv x (e + 1) := by
  obtain ⟨a, b, c⟩ := h
  obtain ⟨k, hk, hi⟩ := item_code a h1
  rw [hi, occ_end] at h2
  refine ⟨by omega, by omega, ?_⟩
  have hne : e.toNat ≠ endOf x := by
    intro q
    unfold endOf at q
    rw [q] at hk
    rw [tw_end hk] at h2
    cases h2
  omega
theorem end_start3 (x : Str) : EndInv x 0 ∧ (0 : Int) ≤ 0 ∧ (0 : Int) ≤ (x.length : Int) := ⟨end_start x, (end_start x).1, (end_start x).2.1⟩
theorem end_turn3 {x : Str} {e : Int} (h : EndInv x e) (h1 : e < (x.length : Int)) (h2 : (Builtin.Str.occurrences (S "+-") (Txt.item x e) 0 (S "+-").length 1).isEmpty = true) : EndInv x (e + 1) ∧ 0 ≤ e + 1 ∧ e + 1 ≤ (x.length : Int) := ⟨end_turn h h1 h2, (end_turn h h1 h2).1, (end_turn h h1 h2).2.1⟩
theorem endOf_le (x : Str) : endOf x ≤ x.length := by
  unfold endOf
  have := (List.takeWhile_sublist (fun c => !isEnd c) (l := x.cps.toList)).length_le
  have h2 : x.cps.toList.length = x.length := Array.length_toList
  omega
theorem end_all {x : Str} {e : Int} (h : EndInv x e) (h1 : ¬ e < (x.length : Int)) : e = (endOf x : Int) := by
  obtain ⟨a, b, c⟩ := h
  have := endOf_le x
  omega
theorem end_found {x : Str} {e : Int} (h : EndInv x e) (h1 : e < (x.length : Int)) (h2 : (Builtin.Str.occurrences (S "+-") (Txt.item x e) 0 (S "+-").length 1).isEmpty = false) : e = (endOf x : Int) := by
  obtain ⟨a, b, c⟩ := h
  obtain ⟨k, hk, hi⟩ := item_code a h1
  rw [hi, occ_end] at h2
  have hn : ¬ e.toNat < endOf x := by
    intro q
    have := tw_in q hk
    rw [this] at h2
    cases h2
  omega
theorem kw33 : True := by
  k_with "own call ref" => first | ((k_here; (with_reducible show wpAny _ _ (call (Value.ref 481) [Value.str _ _]) _ _ _); k_dflt (refine' PureT.use ?k1w ?k2w ?k3w ?k4w ?k5w ?kKw (law_number_t _ _ _ (by walk_at "mine len")) ?kdw ?kuw ?_; walk_at "mine use t"))) | fail "none"
  trivial
/-- a maker's contract that tells that a token has been taken -/
noncomputable def MakeT (w : World) (k : Nat) (f : Addr) (vs : List Value) (Out : Value → List (Addr × Obj) → Prop) : Prop :=
  ∀ (dp un : Nat) (gd : Option (List Code)) (cn : Str) (cs : Scope) (a : Addr) (ccd : Value) (cl : List (Str × Addr)) (outer : List Env) (A₀ : Around) (base h₀ : Heap) (L : Addr) (m : Str → Option Value) (s : Shared) (news : List (Addr × Obj)) (p : Program) (loose : List Str) (mean : ExcName → Option Value) (mg mb : Str → Option Value) (Q E : Value → Shared → Prop),
    Below A₀ base outer h₀ → Fr h₀ L s.heap m → (K w.params).In h₀ → News h₀ L s.heap news → Top p loose mean mg mb h₀ → cs.kind = .function → dp + k < recursionLimit → un + 8 * k + 200 < cLine →
    (∀ (v : Value) (made : List (Addr × Obj)) (h' : Heap) (tk' : Nat), 0 < tk' → Out v made → (∀ q ∈ news, ∀ p ∈ made, q.1 < p.1) → Fr h₀ L h' m → News h₀ L h' (made ++ news) → Q v { s with heap := h', toks := tk' }) →
      wpAny (model PySem.Challenge.rw_pb0422_01.row.prog w) (ktrTop dp un gd cn cs L a ccd cl outer) (call (.ref f) vs) Q E s
theorem MakeT.use {w : World} {k : Nat} {f : Addr} {vs : List Value} {Out : Value → List (Addr × Obj) → Prop} {dp un : Nat} {gd : Option (List Code)} {cn : Str} {cs : Scope} {a : Addr} {ccd : Value} {cl : List (Str × Addr)} {outer : List Env} {A₀ : Around} {base h₀ : Heap} {L : Addr} {m : Str → Option Value} {s : Shared} {news : List (Addr × Obj)} {p : Program} {loose : List Str} {mean : ExcName → Option Value} {mg mb : Str → Option Value} {Q E : Value → Shared → Prop}
    (B : Below A₀ base outer h₀) (F : Fr h₀ L s.heap m) (X : (K w.params).In h₀) (N : News h₀ L s.heap news) (T : Top p loose mean mg mb h₀) (hk : cs.kind = .function) (C : MakeT w k f vs Out) (hd : dp + k < recursionLimit) (hu : un + 8 * k + 200 < cLine)
    (h : ∀ (v : Value) (made : List (Addr × Obj)) (h' : Heap) (tk' : Nat), 0 < tk' → Out v made → (∀ q ∈ news, ∀ p ∈ made, q.1 < p.1) → Fr h₀ L h' m → News h₀ L h' (made ++ news) → Q v { s with heap := h', toks := tk' }) :
    wpAny (model PySem.Challenge.rw_pb0422_01.row.prog w) (ktrTop dp un gd cn cs L a ccd cl outer) (call (.ref f) vs) Q E s := C _ _ _ _ _ _ _ _ _ _ _ _ _ _ _ _ _ _ _ _ _ _ _ B F X N T hk hd hu h
theorem MakeT.make {w : World} {k : Nat} {f : Addr} {vs : List Value} {Out : Value → List (Addr × Obj) → Prop} (C : MakeT w k f vs Out) : Make w k f vs Out := by
  intro dp un gd cn cs a ccd cl outer A₀ base h₀ L m s news p loose mean mg mb Q E B F X N T hk hd hu h
  exact C dp un gd cn cs a ccd cl outer A₀ base h₀ L m s news p loose mean mg mb Q E B F X N T hk hd hu fun v made h' tk' _ => h v made h' tk'
section
variable {x y : Str} {h₀ h' : Heap} {L r : Addr} {m : Str → Option Value} {s : Shared} {news : List (Addr × Obj)} {Q : Value → Shared → Prop} {tk' : Nat} {t1 t2 : Tok}
theorem sumEndN {o : Option Int}
    (hret : ∀ (v : Value) (made : List (Addr × Obj)) (h' : Heap) (tk' : Nat), 0 < tk' → SumOut (lawSum x).1 (lawSum x).2 v made → (∀ q ∈ news, ∀ p ∈ made, q.1 < p.1) → Fr h₀ L h' m → News h₀ L h' (made ++ news) → Q v { s with heap := h', toks := tk' })
    (F : Fr h₀ L h' m) (N : News h₀ L h' ((r, ({ cls := .type "tuple", data := .seq #[.str y t1, numV o t2] } : Obj)) :: news)) (hl : ∀ p ∈ news, p.1 < r) (e : lawSum x = (y, o)) (hp : 0 < tk') : Q (.ref r) { s with heap := h', toks := tk' } := by
  refine hret _ [_] _ _ hp ⟨r, t1, t2, rfl, rfl⟩ ?_ F ?_
  · intro q hq p hp
    rw [List.mem_singleton.mp hp]
    exact hl q hq
  · rw [e]
    exact N
theorem sumEndI {i : Int}
    (hret : ∀ (v : Value) (made : List (Addr × Obj)) (h' : Heap) (tk' : Nat), 0 < tk' → SumOut (lawSum x).1 (lawSum x).2 v made → (∀ q ∈ news, ∀ p ∈ made, q.1 < p.1) → Fr h₀ L h' m → News h₀ L h' (made ++ news) → Q v { s with heap := h', toks := tk' })
    (F : Fr h₀ L h' m) (N : News h₀ L h' ((r, ({ cls := .type "tuple", data := .seq #[.str y t1, .int i t2] } : Obj)) :: news)) (hl : ∀ p ∈ news, p.1 < r) (e : lawSum x = (y, some i)) (hp : 0 < tk') : Q (.ref r) { s with heap := h', toks := tk' } := sumEndN hret F N hl e hp
theorem sum_nil (h : (x == S "") = true) : lawSum x = (S "", some 0) := if_pos h
theorem sum_num (h : (x == S "") = false) (h2 : (Builtin.Str.occurrences (S "-0") (Txt.item x 0) 0 (S "-0").length 1).isEmpty = false) : lawSum x = (S "", lawNum x) := by
  unfold lawSum
  rw [if_neg ((Bool.not_eq_true _).mpr h), if_neg ((Bool.not_eq_true _).mpr h2)]
theorem sum_all {e : Int} (h : (x == S "") = false) (h2 : (Builtin.Str.occurrences (S "-0") (Txt.item x 0) 0 (S "-0").length 1).isEmpty = true) (h3 : EndInv x e) (h5 : e = (x.length : Int)) (h4 : ¬ e < (x.length : Int) ∨ (e < (x.length : Int) ∧ (Builtin.Str.occurrences (S "+-") (Txt.item x e) 0 (S "+-").length 1).isEmpty = false)) : lawSum x = (x, some 0) := by
  have he : e = (endOf x : Int) := h4.elim (end_all h3) fun q => end_found h3 q.1 q.2
  unfold lawSum
  rw [if_neg ((Bool.not_eq_true _).mpr h), if_pos h2]
  unfold sumE
  rw [if_pos (by omega)]
theorem sum_minus {e : Int} (h : (x == S "") = false) (h2 : (Builtin.Str.occurrences (S "-0") (Txt.item x 0) 0 (S "-0").length 1).isEmpty = true) (h3 : EndInv x e) (h5 : ¬ e = (x.length : Int)) (h4 : ¬ e < (x.length : Int) ∨ (e < (x.length : Int) ∧ (Builtin.Str.occurrences (S "+-") (Txt.item x e) 0 (S "+-").length 1).isEmpty = false)) (h6 : (Txt.item x e == S "-") = true) : lawSum x = (Txt.slice x none (some e), lawNum (Txt.slice x (some e) none)) := by
  have he : e = (endOf x : Int) := h4.elim (end_all h3) fun q => end_found h3 q.1 q.2
  unfold lawSum
  rw [if_neg ((Bool.not_eq_true _).mpr h), if_pos h2]
  unfold sumE
  rw [← he, if_neg (by omega), if_pos h6]
theorem sum_plus {e : Int} (h : (x == S "") = false) (h2 : (Builtin.Str.occurrences (S "-0") (Txt.item x 0) 0 (S "-0").length 1).isEmpty = true) (h3 : EndInv x e) (h5 : ¬ e = (x.length : Int)) (h4 : ¬ e < (x.length : Int) ∨ (e < (x.length : Int) ∧ (Builtin.Str.occurrences (S "+-") (Txt.item x e) 0 (S "+-").length 1).isEmpty = false)) (h6 : (Txt.item x e == S "-") = false) : lawSum x = (Txt.slice x none (some e), lawNum (Txt.slice x (some (e + 1)) none)) := by
  have he : e = (endOf x : Int) := h4.elim (end_all h3) fun q => end_found h3 q.1 q.2
  unfold lawSum
  rw [if_neg ((Bool.not_eq_true _).mpr h), if_pos h2]
  unfold sumE
  rw [← he, if_neg (by omega), if_neg ((Bool.not_eq_true _).mpr h6)]
end
set_option maxRecDepth 100000 in
set_option maxHeartbeats 8000000 in
theorem law_sum_t (w : World) (x : Str) (u : Tok) (hx : x.length ≤ 40) : MakeT w 3 488 [.str x u] (SumOut (lawSum x).1 (lawSum x).2) := by
  unfold MakeT
  intro dp un gd cn cs a ccd cl outer A₀ base h₀ L m s news p loose mean mg mb Q E B F X N T hk hd hu hret
  refine wpAny_call ?_
  k_dflt cell_enter
  (rename Fr _ _ _ _ => hF0)
  refine fr_as hF0 (fun y => List.lookup y [(Str.ofString "text", .str x u)]) rfl ?_
  clear hF0
  intro hF0
  k_with "state" => (dsimp only; first | (with_reducible exact end_start3 _) | (have q := end_turn3 (x := x) (by with_reducible assumption) (by with_reducible assumption) (by with_reducible assumption); with_reducible exact q))
  k_with "exec While BoolOp cons nil" => k_while (fun _ e => EndInv x e ∧ 0 ≤ e ∧ e ≤ (x.length : Int)) (fun _ e => x.length - e.toNat) "end"
  k_steps
  rotate_left 1
  · have q := end_turn3 (x := x) (by with_reducible assumption) (by with_reducible assumption) (by with_reducible assumption)
    k_with "state" => (dsimp only; with_reducible exact q)
    ksw_close
  all_goals (rename Fr _ _ _ _ => hF)
  all_goals (rename News _ _ _ _ => hN)
  · with_reducible refine sumEndI hret hF hN ?_ ?_ (by omega)
    · with_reducible assumption
    · exact sum_all (by with_reducible assumption) (by with_reducible assumption) (by with_reducible assumption) (by with_reducible assumption) (by first | (left; with_reducible assumption) | (right; constructor <;> with_reducible assumption))
  · with_reducible refine sumEndN hret hF hN ?_ ?_ (by omega)
    · with_reducible assumption
    · exact sum_minus (by with_reducible assumption) (by with_reducible assumption) (by with_reducible assumption) (by with_reducible assumption) (by first | (left; with_reducible assumption) | (right; constructor <;> with_reducible assumption)) (by with_reducible assumption)
  · with_reducible refine sumEndN hret hF hN ?_ ?_ (by omega)
    · with_reducible assumption
    · exact sum_plus (by with_reducible assumption) (by with_reducible assumption) (by with_reducible assumption) (by with_reducible assumption) (by first | (left; with_reducible assumption) | (right; constructor <;> with_reducible assumption)) (by with_reducible assumption)
  · with_reducible refine sumEndI hret hF hN ?_ ?_ (by omega)
    · with_reducible assumption
    · exact sum_all (by with_reducible assumption) (by with_reducible assumption) (by with_reducible assumption) (by with_reducible assumption) (by first | (left; with_reducible assumption) | (right; constructor <;> with_reducible assumption))
  · with_reducible refine sumEndN hret hF hN ?_ ?_ (by omega)
    · with_reducible assumption
    · exfalso; rename EndInv _ _ => hE; have := hE.2.1; omega
  · with_reducible refine sumEndN hret hF hN ?_ ?_ (by omega)
    · with_reducible assumption
    · exact sum_num (by with_reducible assumption) (by with_reducible assumption)
  · with_reducible refine sumEndI hret hF hN ?_ ?_ (by omega)
    · with_reducible assumption
    · exact sum_nil (by with_reducible assumption)
theorem law_sum_c (w : World) (x : Str) (u : Tok) (hx : x.length ≤ 40) : Make w 3 488 [.str x u] (SumOut (lawSum x).1 (lawSum x).2) := (law_sum_t w x u hx).make

/-! ### AT&T's texts taken apart -/
section
variable {prog : Program} {w : World} {A : Around} {E : Value → Shared → Prop} {s : Shared} {value slice : PySem.Expr} {l : Addr} {v : Int} {u : Tok} {Q : Value → Shared → Prop}
theorem item_at {vs : List Value} {x : Value} (hl : s.heap.IsList l vs.toArray) (h0 : 0 ≤ v) (h1 : v < 1000) (hx : vs[v.toNat]? = some x) (h : Q x s)
    (hs : subscripted slice false (.ref l) (.int v u) = operate [.ref l, .int v u] (getItem (.ref l) (.int v u)) := by with_unfolding_all rfl) :
    wpAny (model prog w) A (subscriptTail value slice (.ref l) (.int v u)) Q E s :=
  kba_turn (value' := PySem.Expr.Name (PySem.Str.ofString "_") ⟨0, 0, 0, 0⟩) (fun _ => rfl) (tail_any hl.typeIs slot_list_getitem.lookup (wpAny_getItem_list hl h0 (by omega) (by simpa using hx) h) hs)
end
theorem kw34 : True := by
  k_with "own subscriptTail Name Constant ref int" => first | ((k_here; (with_reducible show wpAny _ _ (subscriptTail _ _ (Value.ref _) (Value.int _ _)) _ _ _); k_dflt (refine' item_at (News.isList ?kNw ?kmw) ?k0w ?k1w ?kxw ?_; (case kNw => k_asm); (case kmw => k_mem); (case k0w => decide); (case k1w => decide); (case kxw => rfl)); (try dsimp only))) | fail "none"
  k_with "own subscriptTail Subscript Name Constant Slice str ref" => first | (k_dflt (walk_at "mine slice")) | fail "none"
  trivial
/-- a cut behind statements that give two names texts -/
noncomputable def CutEnd2 (h₀ : Heap) (L : Addr) (m : Str → Option Value) (news : List (Addr × Obj)) (x T y U : Str) (s : Shared) (fl : Flow) (s' : Shared) : Prop :=
  fl = .next ∧ ∃ (t u : Tok) (h' : Heap) (tk' : Nat), s' = { s with heap := h', toks := tk' } ∧ Fr h₀ L h' (fun z => if z = x then some (.str T t) else if z = y then some (.str U u) else m z) ∧ News h₀ L h' news
section
variable {M : Model} {A : Around} {E : Value → Shared → Prop} {s : Shared} {env : Env} {st : Stmt} {rest : List Stmt} {P Q : Flow → Shared → Prop} {h₀ h' : Heap} {L : Addr} {m m' : Str → Option Value} {news : List (Addr × Obj)} {x T V y U W : Str} {t u : Tok} {tk' : Nat}
theorem cut_two (x T y U : Str) (_F : Fr h₀ L s.heap m) (_N : News h₀ L s.heap news) (h1 : wpAny M A (exec st env) (CutEnd2 h₀ L m news x T y U s) E s)
    (h2 : ∀ (t u : Tok) (h' : Heap) (tk' : Nat), Fr h₀ L h' (fun z => if z = x then some (.str T t) else if z = y then some (.str U u) else m z) → News h₀ L h' news → wpAny M A (execs rest env) Q E { s with heap := h', toks := tk' }) :
    wpAny M A (execs (st :: rest) env) Q E s := by
  refine wpAny_execs_cons (wpAny_mono h1 (fun fl s' hh => ?_) fun _ _ h => h)
  obtain ⟨rfl, t, u, h', tk', rfl, F, N⟩ := hh
  exact h2 t u h' tk' F N
theorem cut_2 (F : Fr h₀ L h' m') (N : News h₀ L h' news) (hx : m' x = some (.str V t)) (hy : m' y = some (.str W u)) (hr : ∀ z, z ≠ x → z ≠ y → m' z = m z) (e : V = T) (e' : W = U) : CutEnd2 h₀ L m news x T y U s .next { s with heap := h', toks := tk' } := by
  subst e
  subst e'
  have em : (fun z => if z = x then some (Value.str V t) else if z = y then some (Value.str W u) else m z) = m' := by
    funext z
    by_cases hz : z = x
    · rw [if_pos hz, hz, hx]
    · rw [if_neg hz]
      by_cases hz' : z = y
      · rw [if_pos hz', hz', hy]
      · rw [if_neg hz', hr z hz hz']
  exact ⟨rfl, t, u, h', tk', rfl, by rw [em]; exact F, N⟩
end
theorem kw35 : True := by
  k_with "mine cut2" => first | (((rename Fr _ _ _ _ => hFw); (rename News _ _ _ _ => hNw); refine cut_2 hFw (by first | exact hNw | exact newsT hNw | exact newsT (newsT hNw) | exact newsT (newsT (newsT hNw))) rfl rfl (by intro yw hyw hzw; repeat (first | rfl | rw [if_neg hyw] | rw [if_neg hzw])) ?_ ?_)) | fail "none"
  trivial
/-- a new tuple of a text and a number -/
abbrev SumGot (a : Str) (n : Int) : Value → List (Addr × Obj) → Prop := fun v made => ∃ r t1 t2, v = .ref r ∧ made = [(r, { cls := .type "tuple", data := .seq #[.str a t1, .int n t2] })]
theorem law_sum_s (w : World) (x : Str) (u : Tok) (a : Str) (n : Int) (hx : x.length ≤ 40) (e : lawSum x = (a, some n)) : Make w 3 488 [.str x u] (SumGot a n) := by
  have h := law_sum_c w x u hx
  rw [e] at h
  exact h
theorem kw36 : True := by
  k_with "mine use make" => first | (( (case k1w => k_asm); (case k2w => k_asm); (case k3w => k_asm); (case k4w => k_asm); (case k5w => k_asm); (case kKw => first | exact rfl | assumption); (case kdw => walk_at "mine kd"); (case kuw => walk_at "mine ku"))) | fail "none"
  trivial
theorem SumGot.use {a : Str} {n : Int} {news : List (Addr × Obj)} {h₀ : Heap} {L : Addr} {m : Str → Option Value} {Q : Value → Shared → Prop} {s : Shared}
    (h : ∀ (r : Addr) (t1 t2 : Tok) (h' : Heap) (tk' : Nat), (∀ p ∈ news, p.1 < r) → Fr h₀ L h' m → News h₀ L h' ((r, { cls := .type "tuple", data := .seq #[.str a t1, .int n t2] }) :: news) → Q (.ref r) { s with heap := h', toks := tk' }) :
    ∀ (v : Value) (made : List (Addr × Obj)) (h' : Heap) (tk' : Nat), SumGot a n v made → (∀ q ∈ news, ∀ p ∈ made, q.1 < p.1) → Fr h₀ L h' m → News h₀ L h' (made ++ news) → Q v { s with heap := h', toks := tk' } := by
  rintro v made h' tk' ⟨r, t1, t2, rfl, rfl⟩ hl F N
  exact h r t1 t2 h' tk' (fun p hp => hl p hp _ (.head _)) F N
theorem kw37 : True := by
  k_with "own call ref" => first | ((k_here; (with_reducible show wpAny _ _ (call (Value.ref 488) [Value.str _ _]) _ _ _); k_dflt (refine' Make.use ?k1w ?k2w ?k3w ?k4w ?k5w ?kKw (law_sum_s _ _ _ _ _ (by walk_at "mine len") (by assumption)) ?kdw ?kuw (SumGot.use ?_); (walk_at "mine use make"); intro r9w t91w t92w h9w tk9w l9w F9w N9w; (try k_lt l9w); (try dsimp only); (try k_fold)))) | fail "none"
  trivial
-- split on a text that a fact takes apart
theorem lenLine {n : Nat} (h : n ≤ 1000) : n + 2 ≤ sizeLine := by rw [sizeLine_eq]; omega
theorem kw38 : True := by
  k_with "own call builtin:str.split" => first | ((k_here; (with_reducible show wpAny _ _ (call (Value.builtin "str.split") [Value.str _ _, Value.str _ _]) _ _ _); k_dflt (refine KSpl.split1 (by k_asm) (by k_asm) (by decide) ?_ (lenLine (by walk_at "mine len")); (intro D'w l'w h'w k'w e'w a'w F'w N'w l1w); (try k_lt l1w); (rename Txt.split _ _ = _ => hspw); (replace e'w := e'w.trans hspw); (kspl_open e'w); (simp only [strValues, List.map_cons, List.map_nil] at N'w a'w)))) | fail "none"
  k_with "own call builtin:str.find" => first | (k_dflt (k_here; (with_reducible show wpAny _ _ (call (Value.builtin "str.find") [Value.str _ _, Value.str _ _]) _ _ _); (refine SC.find ?_))) | fail "none"
  k_with "own call type:int" => first | ((k_here; (with_reducible show wpAny _ _ (call (Value.type "int") [Value.str _ _]) _ _ _); k_dflt (refine KIN.call_text (by assumption) (by omega) ?_))) | fail "none"
  trivial
section
variable {a b i g : Str} {n k : Int} {h₀ h' : Heap} {L r : Addr} {m : Str → Option Value} {s : Shared} {news l : List (Addr × Obj)} {Q : Value → Shared → Prop} {tk' : Nat} {t1 t2 t3 t4 t5 t6 : Tok}
/-- the segment in front -/
inductive AttSeg (x : Str) : Str → Str → Prop
  | yes : (Txt.slice x none (some 1) == S "%") = true → (Txt.slice x (some 3) (some 4) == S ":") = true → AttSeg x (Txt.slice x (some 4) none) (Txt.slice x (some 1) (some 3))
  | no : (Txt.slice x none (some 1) == S "%") = false → AttSeg x x (S "")
/-- the rest -/
inductive AttRest (y : Str) : Str → Int → Str → Str → Int → Prop
  | plain {a : Str} {n : Int} : (Txt.slice y (some (-1)) none != S ")") = true → y.length ≤ 40 → lawSum y = (a, some n) → AttRest y a n (S "") (S "") 1
  | base {a b : Str} {n : Int} : (Txt.slice y (some (-1)) none != S ")") = false → 0 ≤ Txt.find y (S "(") → Txt.find y (S "(") ≤ 100 → Txt.split (Txt.slice y (some (Txt.find y (S "(") + 1)) (some (-1))) (S ",") = [b] → b.length ≤ 40 → lawSum (Txt.slice y none (some (Txt.find y (S "(")))) = (a, some n) → (Txt.slice y none (some (Txt.find y (S "(")))).length ≤ 40 → AttRest y a n (Txt.slice b (some 1) none) (S "") 1
  | index {a b i c : Str} {n k : Int} : (Txt.slice y (some (-1)) none != S ")") = false → 0 ≤ Txt.find y (S "(") → Txt.find y (S "(") ≤ 100 → Txt.split (Txt.slice y (some (Txt.find y (S "(") + 1)) (some (-1))) (S ",") = [b, i, c] → b.length ≤ 40 → i.length ≤ 40 → c.length ≤ 40 → PySem.intText? c = some k → lawSum (Txt.slice y none (some (Txt.find y (S "(")))) = (a, some n) → (Txt.slice y none (some (Txt.find y (S "(")))).length ≤ 40 → AttRest y a n (Txt.slice b (some 1) none) (Txt.slice i (some 1) none) k
/-- what _law_att gives back -/
abbrev AttGot (a : Str) (n : Int) (b i : Str) (k : Int) (g : Str) : Value → List (Addr × Obj) → Prop := fun v made => ∃ r t1 t2 t3 t4 t5 t6, v = .ref r ∧ made = [(r, { cls := .type "tuple", data := .seq #[.str a t1, .int n t2, .str b t3, .str i t4, .int k t5, .str g t6] })]
theorem attEnd (hret : ∀ (v : Value) (made : List (Addr × Obj)) (h' : Heap) (tk' : Nat), AttGot a n b i k g v made → (∀ q ∈ news, ∀ p ∈ made, q.1 < p.1) → Fr h₀ L h' m → News h₀ L h' (made ++ news) → Q v { s with heap := h', toks := tk' })
    (F : Fr h₀ L h' m) (N : News h₀ L h' ((r, ({ cls := .type "tuple", data := .seq #[.str a t1, .int n t2, .str b t3, .str i t4, .int k t5, .str g t6] } : Obj)) :: l)) (hs : ∀ x ∈ news, x ∈ l) (hl : AllLt r news) : Q (.ref r) { s with heap := h', toks := tk' } := by
  refine hret _ [_] _ _ ⟨r, t1, t2, t3, t4, t5, t6, rfl, rfl⟩ ?_ F ?_
  · intro q hq p hp
    rw [List.mem_singleton.mp hp]
    exact ktn_ltOf hl q hq
  · intro p hp
    rcases List.mem_cons.mp hp with rfl | hp
    · exact N _ (.head _)
    · exact N _ (.tail _ (hs _ hp))
end
theorem kw39 : True := by
  k_with "mine in" => first | ((intro xw hxw; (repeat (first | with_reducible assumption | refine List.mem_cons_of_mem _ ?_)))) | fail "none"
  k_with "mine lt" => first | (first | with_reducible assumption | exact allLt_of (by with_reducible assumption) | exact And.right (by with_reducible assumption) | exact And.right (And.right (by with_reducible assumption)) | exact And.right (And.right (And.right (by with_reducible assumption))) | exact And.right (And.right (And.right (And.right (by with_reducible assumption)))) | exact And.right (And.right (And.right (And.right (And.right (by with_reducible assumption)))))) | fail "none"
  k_with "mine stop" => first | ((with_reducible show wpAny _ _ (execs (Stmt.If (Expr.BoolOp _ _ _) _ _ _ :: Stmt.If _ _ _ _ :: _) _) _ _ _)) | fail "none"
  trivial
set_option maxRecDepth 100000 in
set_option maxHeartbeats 8000000 in
theorem law_att_c (w : World) (x y g a b i : Str) (n k : Int) (u : Tok) (hx : x.length ≤ 80) (hs : AttSeg x y g) (hr : AttRest y a n b i k) (hy : y.length ≤ 80) : Make w 4 495 [.str x u] (AttGot a n b i k g) := by
  unfold Make
  intro dp un gd cn cs a₀ ccd cl outer A₀ base h₀ L m s news p loose mean mg mb Q E B F X N T hk hd hu hret
  refine wpAny_call ?_
  k_dflt cell_enter
  (rename Fr _ _ _ _ => hF0)
  refine fr_as hF0 (fun y => List.lookup y [(Str.ofString "text", .str x u)]) rfl ?_
  clear hF0
  intro hF0
  walk_at "mine steps"
  (rename Fr _ _ _ _ => hF; rename News _ _ _ _ => hN)
  refine cut_two (S "text") y (S "segment_name") g hF hN ?_ ?_
  · cases hs
    · k_steps
      all_goals (walk_at "mine cut2")
      all_goals rfl
    · k_steps
      all_goals (walk_at "mine cut2")
      all_goals rfl
  clear hF hN
  intro tT tG hT tkT hF hN
  dsimp only
  cases hr
  · k_steps
    show qk _ _
    k_steps
    (rename Fr _ _ _ _ => hF; rename News _ _ _ _ => hN)
    with_reducible refine attEnd hret hF hN ?_ ?_
    · walk_at "mine in"
    · walk_at "mine lt"
  · k_steps
    (rename Fr _ _ _ _ => hF; rename News _ _ _ _ => hN)
    with_reducible refine attEnd hret hF hN ?_ ?_
    · walk_at "mine in"
    · walk_at "mine lt"
  · k_steps
    (rename Fr _ _ _ _ => hF; rename News _ _ _ _ => hN)
    with_reducible refine attEnd hret hF hN ?_ ?_
    · walk_at "mine in"
    · walk_at "mine lt"

/-! ### Intel's texts taken apart -/
section
variable {prog : Program} {w : World} {A : Around} {E : Value → Shared → Prop} {s : Shared} {env : Env} {h₀ : Heap} {x : Str} {body : List Stmt} {Q : Flow → Shared → Prop}
/-- a turn's end: the names as J says for what is left -/
noncomputable def TurnEnd (h₀ : Heap) (L : Addr) (J : (Str → Option Value) → Prop) (news : List (Addr × Obj)) (s : Shared) (fl : Flow) (s' : Shared) : Prop :=
  fl = .next ∧ ∃ (h' : Heap) (tk' : Nat) (m' : Str → Option Value), s' = { s with heap := h', toks := tk' } ∧ Fr h₀ L h' m' ∧ News h₀ L h' news ∧ J m'
theorem loop_strs {l : Addr} {vs : List Value} {ss : List Str} {nn : Nat} {m₀ : Str → Option Value} {news big : List (Addr × Obj)} (J : List Str → (Str → Option Value) → Prop)
    (hh : A.handled = none) (hi : StrsAre vs ss) (F : Fr h₀ env.locals s.heap m₀) (N : News h₀ env.locals s.heap big) (hl : (l, listOf vs.toArray nn) ∈ big) (hs : ∀ p ∈ news, p ∈ big) (hlt : AllLt l news) (hj : J ss m₀)
    (turn : ∀ (t : Str) (rest : List Str) (m₁ : Str → Option Value) (u : Tok) (h : Heap) (tk : Nat) (own : List (Addr × Obj)), J (t :: rest) m₁ → Fr h₀ env.locals h (fun y => if y = x then some (.str t u) else m₁ y) → News h₀ env.locals h (news ++ own) →
      wpAny (model prog w) A (execs body env) (TurnEnd h₀ env.locals (J rest) (news ++ own) { s with heap := h, toks := tk }) E { s with heap := h, toks := tk })
    (done : ∀ (m₁ : Str → Option Value) (h : Heap) (tk : Nat), J [] m₁ → Fr h₀ env.locals h m₁ → News h₀ env.locals h news → Q .next { s with heap := h, toks := tk }) :
    wpAny (model prog w) A (pyIter (.ref l)) (fun it s₂ => LoopAtV prog w A h₀ env x body Q E it s₂) E s := by
  have hol : s.heap.get? l = some (listOf vs.toArray nn) := (N _ hl).1
  have hls : s.heap.IsList l vs.toArray := ⟨_, hol, rfl, nn, rfl⟩
  have hne : l ≠ s.heap.objs.size := Nat.ne_of_lt (Heap.lt_size hol)
  have Nn : News h₀ env.locals s.heap news := fun p hp => N p (hs p hp)
  refine wpAny_pyIter_list hls ?_
  have W := Walks.list (prog := prog) (w := w) hh s.heap.objs.size l hne vs.toArray
  have hlen : vs.toArray.size = ss.length := by rw [List.size_toArray]; exact hi.len_eq
  rw [hlen] at W
  refine loop_invN (news := news) (fun i m nx => nx = news ∧ J (ss.drop i) m) W ?_ ?_ ?_ ?_ ⟨⟨_, Heap.get?_push_size _ rfl, rfl, rfl⟩, hls.at fun o e => Heap.get?_push_of_some _ e⟩ (F.push _) (fun p hp => ⟨Heap.get?_push_of_some _ (Nn p hp).1, (Nn p hp).2⟩) ⟨rfl, hj⟩ ?_ ?_
  · intro hm
    rcases List.mem_cons.mp hm with e | hm
    · exact absurd F.ns.lt (e ▸ Nat.lt_irrefl _)
    · exact (N _ hl).2.1 ((List.mem_singleton.mp hm).symm)
  · intro b hb
    rw [List.mem_singleton.mp hb]
    exact next_is_new F
  · intro p hp hI
    exact absurd (Heap.lt_size (Nn p hp).1) ((List.mem_singleton.mp hI) ▸ Nat.lt_irrefl _)
  · intro p hp hI
    rcases List.mem_cons.mp hI with e | hI
    · exact absurd (Heap.lt_size (Nn p hp).1) (e ▸ Nat.lt_irrefl _)
    · exact absurd (ktn_ltOf hlt p hp) ((List.mem_singleton.mp hI) ▸ Nat.lt_irrefl _)
  · rintro i v m₁ news₁ h tk own hin hP _ _ ⟨rfl, hJ⟩ F₁ N₁
    have hv : vs[i]? = some v := by simpa using hP
    obtain ⟨t, u, rfl, ht⟩ := hi.item i v hv
    have hd : ss.drop i = t :: ss.drop (i + 1) := by
      obtain ⟨h1, h2⟩ := List.getElem?_eq_some_iff.mp ht
      rw [← h2]
      exact List.drop_eq_getElem_cons h1
    rw [hd] at hJ
    refine wpAny_mono (turn t _ m₁ u h tk own hJ F₁ N₁) (fun f s₂ hh => ?_) fun _ _ e => e
    obtain ⟨rfl, h', tk', m', rfl, F', N', hJ'⟩ := hh
    exact ⟨h', tk', m', _, news₁, rfl, F', N', fun p hp => List.mem_append.mpr (.inl hp), fun p hp => List.mem_append.mpr (.inr hp), rfl, rfl, hJ'⟩
  · rintro m₁ news₁ h tk ⟨rfl, hJ⟩ F₁ N₁
    rw [List.drop_length] at hJ
    exact done m₁ h tk hJ F₁ N₁
end
/-- the names that the loop over the terms turns -/
structure IS where
  sym : Str
  num : Int
  base : Str
  idx : Str
  scale : Int
  sign : Int
/-- a in x -/
abbrev has (a x : Str) : Bool := !(Builtin.Str.occurrences x a 0 x.length 1).isEmpty
/-- a cut behind statements that give two names values and let one go -/
noncomputable def CutEndV (h₀ : Heap) (L : Addr) (m : Str → Option Value) (news : List (Addr × Obj)) (x : Str) (V : Tok → Value) (y : Str) (U : Tok → Value) (z : Str) (s : Shared) (fl : Flow) (s' : Shared) : Prop :=
  fl = .next ∧ ∃ (t u : Tok) (o : Option Value) (h' : Heap) (tk' : Nat), s' = { s with heap := h', toks := tk' } ∧ Fr h₀ L h' (fun k => if k = x then some (V t) else if k = y then some (U u) else if k = z then o else m k) ∧ News h₀ L h' news
section
variable {M : Model} {A : Around} {E : Value → Shared → Prop} {s : Shared} {env : Env} {st : Stmt} {pre rest : List Stmt} {P Q : Flow → Shared → Prop} {h₀ h' : Heap} {L : Addr} {m m' : Str → Option Value} {news : List (Addr × Obj)} {x y z : Str} {V U : Tok → Value} {t u : Tok} {tk' : Nat}
theorem cut_vals (x : Str) (V : Tok → Value) (y : Str) (U : Tok → Value) (z : Str) (_F : Fr h₀ L s.heap m) (_N : News h₀ L s.heap news) (h1 : wpAny M A (exec st env) (CutEndV h₀ L m news x V y U z s) E s)
    (h2 : ∀ (t u : Tok) (o : Option Value) (h' : Heap) (tk' : Nat), Fr h₀ L h' (fun k => if k = x then some (V t) else if k = y then some (U u) else if k = z then o else m k) → News h₀ L h' news → wpAny M A (execs rest env) Q E { s with heap := h', toks := tk' }) :
    wpAny M A (execs (st :: rest) env) Q E s := by
  refine wpAny_execs_cons (wpAny_mono h1 (fun fl s' hh => ?_) fun _ _ h => h)
  obtain ⟨rfl, t, u, o, h', tk', rfl, F, N⟩ := hh
  exact h2 t u o h' tk' F N
theorem cut_v (F : Fr h₀ L h' m') (N : News h₀ L h' news) (hx : m' x = some (V t)) (hy : m' y = some (U u)) (hr : ∀ k, k ≠ x → k ≠ y → k ≠ z → m' k = m k) : CutEndV h₀ L m news x V y U z s .next { s with heap := h', toks := tk' } := by
  have em : (fun k => if k = x then some (V t) else if k = y then some (U u) else if k = z then m' z else m k) = m' := by
    funext k
    by_cases hz : k = x
    · rw [if_pos hz, hz, hx]
    · rw [if_neg hz]
      by_cases hz' : k = y
      · rw [if_pos hz', hz', hy]
      · rw [if_neg hz']
        by_cases hz2 : k = z
        · rw [if_pos hz2, hz2]
        · rw [if_neg hz2, hr k hz hz' hz2]
  exact ⟨rfl, t, u, m' z, h', tk', rfl, by rw [em]; exact F, N⟩
end
theorem kw40 : True := by
  k_with "mine cutv" => first | (((rename Fr _ _ _ _ => hFw); (rename News _ _ _ _ => hNw); refine cut_v hFw (kst_newsOf hNw (by walk_at "mine in")) rfl rfl (by intro yw hyw hzw hww; repeat (first | rfl | rw [if_neg hyw] | rw [if_neg hzw] | rw [if_neg hww])))) | fail "none"
  trivial
-- split on a text that a fact takes apart
theorem kw41 : True := by
  k_with "own call builtin:str.split" => first | ((k_here; (with_reducible show wpAny _ _ (call (Value.builtin "str.split") [Value.str _ _, Value.str _ _]) _ _ _); k_dflt (refine KSpl.split1 (by k_asm) (by k_asm) (by decide) ?_ (lenLine (by walk_at "mine len")); (intro D'w l'w h'w k'w e'w a'w F'w N'w l1w); (try k_lt l1w); (replace e'w := e'w.trans (by with_reducible assumption)); first | (kspl_open e'w; (simp only [strValues, List.map_cons, List.map_nil] at N'w a'w)) | (rw [e'w] at a'w)))) | fail "none"
  trivial
section
variable {w : World} {prog : Program} {A : Around} {E : Value → Shared → Prop} {s : Shared} {h₀ : Heap} {L d : Addr} {news : List (Addr × Obj)} {o : Obj} {Q : Value → Shared → Prop} {value slice : PySem.Expr} {x : Str} {t : Tok} {n : Int} {t1 t2 t3 t4 t5 u1 u2 u3 u4 u5 : Tok}
/-- the sizes of the words -/
noncomputable def sizeD : List (PyData × PyData) := [(.str (S "byte"), .int 8), (.str (S "word"), .int 16), (.str (S "dword"), .int 32), (.str (S "qword"), .int 64), (.str (S "xmmword"), .int 128)]
theorem item_size (N : News h₀ L s.heap news) (hm : (d, o) ∈ news) (lo : (d == sysModules) = false)
    (hd : Obj.IsDictOf (PySem.strKind prog w) o (strPairs [(.str (Str.ofString "byte") t1, .int 8 u1), (.str (Str.ofString "word") t2, .int 16 u2), (.str (Str.ofString "dword") t3, .int 32 u3), (.str (Str.ofString "qword") t4, .int 64 u4), (.str (Str.ofString "xmmword") t5, .int 128 u5)]))
    (hl : PySem.Spec.lookup (.str x) sizeD = some (.int n)) (h : ∀ t, Q (.int n t) { s with toks := s.toks + 1 })
    (hs : subscripted slice false (.ref d) (.str x t) = operate [.ref d, .str x t] (getItem (.ref d) (.str x t)) := by with_unfolding_all rfl) :
    wpAny (model prog w) A (subscriptTail value slice (.ref d) (.str x t)) Q E s :=
  kba_turn (value' := PySem.Expr.Name (PySem.Str.ofString "_") ⟨0, 0, 0, 0⟩) (fun _ => rfl) (item_strTab (D := sizeD) (TabAt.ofNews N hm lo hd (.cons (.int _ _) (.cons (.int _ _) (.cons (.int _ _) (.cons (.int _ _) (.cons (.int _ _) .nil)))))) hl (fun v hv => by obtain ⟨t, rfl⟩ := PyProof.V.Flat.int_inv hv; exact h t) hs (fun _ => rfl))
end
theorem kw42 : True := by
  k_with "own subscriptTail" => first | ((k_here; (with_reducible show wpAny _ _ (subscriptTail (Expr.Dict _ _ _) _ (Value.ref _) (Value.str _ _)) _ _ _); (try dsimp only); k_dflt (refine' item_size ?k1w ?k2w ?k3w ?k4w ?k5w ?_; (case k1w => k_asm); (case k2w => exact List.Mem.head _); (case k3w => assumption); (case k4w => assumption); (case k5w => first | with_reducible assumption | exact rfl)); intro _; (try dsimp only))) | fail "none"
  trivial
/-- the size in front -/
inductive IntPtr (x : Str) : Str → Int → Prop
  | no : has (S " ptr ") x = false → IntPtr x x 0
  | yes {wd y : Str} {sz : Int} : has (S " ptr ") x = true → Txt.split x (S " ptr ") = [wd, y] → (wd = S "byte" ∧ sz = 8 ∨ wd = S "word" ∧ sz = 16 ∨ wd = S "dword" ∧ sz = 32 ∨ wd = S "qword" ∧ sz = 64 ∨ wd = S "xmmword" ∧ sz = 128) → IntPtr x y sz
/-- the segment in front -/
inductive IntSeg (y : Str) : Str → Str → Prop
  | no : (Txt.slice y (some 2) (some 3) == S ":") = false → IntSeg y y (S "")
  | yes : (Txt.slice y (some 2) (some 3) == S ":") = true → IntSeg y (Txt.slice y (some 3) none) (Txt.slice y none (some 2))
/-- one term more -/
inductive StepI : IS → Str → IS → Prop
  | plus {a n b i k g} : StepI ⟨a, n, b, i, k, g⟩ (S "+") ⟨a, n, b, i, k, 1⟩
  | minus {a n b i k g} : StepI ⟨a, n, b, i, k, g⟩ (S "-") ⟨a, n, b, i, k, -1⟩
  | beta {a n b i k g t} : ([Str.ofString "+", Str.ofString "-"].any fun x => x == t) = false → has (S "0x") t = false → has (S "*") t = false → (t == S "beta") = true → t.length ≤ 40 → StepI ⟨a, n, b, i, k, g⟩ t ⟨t, n, b, i, k, g⟩
  | num {a n b i k g t v} : ([Str.ofString "+", Str.ofString "-"].any fun x => x == t) = false → has (S "0x") t = true → t.length ≤ 40 → lawNum t = some v → g = 1 ∨ g = -1 → StepI ⟨a, n, b, i, k, g⟩ t ⟨a, g * v, b, i, k, g⟩
  | idx {a n b i k g t i' k' c} : ([Str.ofString "+", Str.ofString "-"].any fun x => x == t) = false → has (S "0x") t = false → has (S "*") t = true → t.length ≤ 40 → Txt.split t (S "*") = [i', c] → PySem.intText? c = some k' → c.length ≤ 40 → StepI ⟨a, n, b, i, k, g⟩ t ⟨a, n, b, i', k', g⟩
  | base {a n b i k g t} : ([Str.ofString "+", Str.ofString "-"].any fun x => x == t) = false → has (S "0x") t = false → has (S "*") t = false → (t == S "beta") = false → b.length ≤ 40 → t.length ≤ 40 → StepI ⟨a, n, b, i, k, g⟩ t ⟨a, n, b ++ t, i, k, g⟩
inductive StepsI : IS → List Str → IS → Prop
  | nil {c} : StepsI c [] c
  | cons {c t c' r c''} : StepI c t c' → StepsI c' r c'' → StepsI c (t :: r) c''
/-- the names' values -/
abbrev isP (c : IS × (Tok × Tok × Tok × Tok × Tok × Tok)) : List (Str × Value) :=
  [(S "symbol", .str c.1.sym c.2.1), (S "number", .int c.1.num c.2.2.1), (S "base", .str c.1.base c.2.2.2.1), (S "index", .str c.1.idx c.2.2.2.2.1), (S "scale", .int c.1.scale c.2.2.2.2.2.1), (S "sign", .int c.1.sign c.2.2.2.2.2.2)]
/-- between two turns -/
noncomputable def IntJ (m₀ : Str → Option Value) (c' : IS) (rest : List Str) (m : Str → Option Value) : Prop :=
  ∃ c : IS × (Tok × Tok × Tok × Tok × Tok × Tok), (∀ p ∈ isP c, m p.1 = some p.2) ∧ (∀ z, z ≠ S "term" → (∀ p ∈ isP c, z ≠ p.1) → ([] : List Str).contains z = false → m z = m₀ z) ∧ StepsI c.1 rest c'
section
variable {prog : Program} {w : World} {A : Around} {E : Value → Shared → Prop} {s : Shared} {env : Env} {h₀ : Heap} {body : List Stmt} {Q : Flow → Shared → Prop}
theorem int_loop {l : Addr} {vs : List Value} {ss : List Str} {nn : Nat} {m₀ : Str → Option Value} {news big : List (Addr × Obj)} {c c₀ : IS} {k1 k2 k3 k4 k5 k6 : Tok}
    (hh : A.handled = none) (hi : StrsAre vs ss) (F : Fr h₀ env.locals s.heap m₀) (N : News h₀ env.locals s.heap big) (hl : (l, listOf vs.toArray nn) ∈ big) (hs : ∀ p ∈ news, p ∈ big) (hlt : AllLt l news) (hc : StepsI c₀ ss c)
    (e1 : m₀ (S "symbol") = some (.str c₀.sym k1)) (e2 : m₀ (S "number") = some (.int c₀.num k2)) (e3 : m₀ (S "base") = some (.str c₀.base k3)) (e4 : m₀ (S "index") = some (.str c₀.idx k4)) (e5 : m₀ (S "scale") = some (.int c₀.scale k5)) (e6 : m₀ (S "sign") = some (.int c₀.sign k6))
    (turn : ∀ (t : Str) (rest : List Str) (b b' : IS) (k1 k2 k3 k4 k5 k6 u : Tok) (h : Heap) (tk : Nat) (own : List (Addr × Obj)), StepI b t b' → StepsI b' rest c →
      Fr h₀ env.locals h (fun y => if y = S "term" then some (.str t u) else if y = S "symbol" then some (.str b.sym k1) else if y = S "number" then some (.int b.num k2) else if y = S "base" then some (.str b.base k3) else if y = S "index" then some (.str b.idx k4) else if y = S "scale" then some (.int b.scale k5) else if y = S "sign" then some (.int b.sign k6) else m₀ y) → News h₀ env.locals h (news ++ own) →
      wpAny (model prog w) A (execs body env) (TurnEnd h₀ env.locals (IntJ m₀ c rest) (news ++ own) { s with heap := h, toks := tk }) E { s with heap := h, toks := tk })
    (done : ∀ (k1 k2 k3 k4 k5 k6 : Tok) (u : Option Value) (h : Heap) (tk : Nat),
      Fr h₀ env.locals h (fun y => if y = S "term" then u else if y = S "symbol" then some (.str c.sym k1) else if y = S "number" then some (.int c.num k2) else if y = S "base" then some (.str c.base k3) else if y = S "index" then some (.str c.idx k4) else if y = S "scale" then some (.int c.scale k5) else if y = S "sign" then some (.int c.sign k6) else m₀ y) → News h₀ env.locals h news → Q .next { s with heap := h, toks := tk }) :
    wpAny (model prog w) A (pyIter (.ref l)) (fun it s₂ => LoopAtV prog w A h₀ env (S "term") body Q E it s₂) E s := by
  refine loop_strs (IntJ m₀ c) hh hi F N hl hs hlt ⟨(c₀, k1, k2, k3, k4, k5, k6), ?_, fun _ _ _ _ => rfl, hc⟩ ?_ ?_
  · intro p hp
    simp only [isP, List.mem_cons, List.not_mem_nil, or_false] at hp
    rcases hp with rfl | rfl | rfl | rfl | rfl | rfl
    · exact e1
    · exact e2
    · exact e3
    · exact e4
    · exact e5
    · exact e6
  · rintro t rest m₁ u h tk own ⟨⟨b, q1, q2, q3, q4, q5, q6⟩, h1, h2, h3⟩ F₁ N₁
    cases h3 with
    | cons g1 g2 =>
      refine turn t rest b _ q1 q2 q3 q4 q5 q6 u h tk own g1 g2 ?_ N₁
      exact kst_fr h1 h2 F₁
  · rintro m₁ h tk ⟨⟨b, q1, q2, q3, q4, q5, q6⟩, h1, h2, h3⟩ F₁ N₁
    cases h3 with
    | nil =>
      have F₂ := kst_frOut h1 h2 F₁
      refine done q1 q2 q3 q4 q5 q6 (m₁ (S "term")) h tk ?_ N₁
      refine cast (congrArg (Fr h₀ env.locals h) ?_) F₂
      funext y
      by_cases hy : y = S "term"
      · rw [if_pos hy, if_pos hy, hy]
      · rw [if_neg hy, if_neg hy]
        rfl
theorem turn_end {L : Addr} {h' : Heap} {m₀ m' : Str → Option Value} {news l : List (Addr × Obj)} {c b' : IS} {rest : List Str} {k1 k2 k3 k4 k5 k6 : Tok} {tk' : Nat} (F : Fr h₀ L h' m') (N : News h₀ L h' l) (hs : ∀ p ∈ news, p ∈ l) (hc : StepsI b' rest c)
    (e1 : m' (S "symbol") = some (.str b'.sym k1)) (e2 : m' (S "number") = some (.int b'.num k2)) (e3 : m' (S "base") = some (.str b'.base k3)) (e4 : m' (S "index") = some (.str b'.idx k4)) (e5 : m' (S "scale") = some (.int b'.scale k5)) (e6 : m' (S "sign") = some (.int b'.sign k6))
    (hr : ∀ z, z ≠ S "term" → z ≠ S "symbol" → z ≠ S "number" → z ≠ S "base" → z ≠ S "index" → z ≠ S "scale" → z ≠ S "sign" → m' z = m₀ z) : TurnEnd h₀ L (IntJ m₀ c rest) news s .next { s with heap := h', toks := tk' } := by
  refine ⟨rfl, h', tk', m', rfl, F, kst_newsOf N hs, (b', k1, k2, k3, k4, k5, k6), ?_, ?_, hc⟩
  · intro p hp
    simp only [isP, List.mem_cons, List.not_mem_nil, or_false] at hp
    rcases hp with rfl | rfl | rfl | rfl | rfl | rfl
    · exact e1
    · exact e2
    · exact e3
    · exact e4
    · exact e5
    · exact e6
  · intro z hz hn _
    refine hr z hz (hn (S "symbol", _) (.head _)) (hn (S "number", _) (.tail _ (.head _))) (hn (S "base", _) (.tail _ (.tail _ (.head _)))) (hn (S "index", _) (.tail _ (.tail _ (.tail _ (.head _))))) (hn (S "scale", _) (.tail _ (.tail _ (.tail _ (.tail _ (.head _)))))) (hn (S "sign", _) (.tail _ (.tail _ (.tail _ (.tail _ (.tail _ (.head _)))))))
end
theorem kw43 : True := by
  k_with "mine turn" => first | (((rename Fr _ _ _ _ => hFw); (rename News _ _ _ _ => hNw); (rename StepsI _ _ _ => hSw); refine turn_end hFw hNw (by walk_at "mine in") hSw rfl rfl rfl rfl rfl rfl (by intro zw q1w q2w q3w q4w q5w q6w q7w; repeat (first | rfl | rw [if_neg q1w] | rw [if_neg q2w] | rw [if_neg q3w] | rw [if_neg q4w] | rw [if_neg q5w] | rw [if_neg q6w] | rw [if_neg q7w])))) | fail "none"
  trivial
theorem law_number_s (w : World) (x : Str) (u : Tok) (n : Int) (hx : x.length ≤ 40) (e : lawNum x = some n) : Pure w 2 481 [.str x u] (fun t => .int n t) := by
  have h := law_number_c w x u hx
  rw [e] at h
  exact h
theorem kw44 : True := by
  k_with "own call ref" => first | ((k_here; (with_reducible show wpAny _ _ (call (Value.ref 481) [Value.str _ _]) _ _ _); k_dflt (refine' Pure.use ?k1w ?k2w ?k3w ?k4w ?k5w ?kKw (law_number_s _ _ _ _ (by walk_at "mine len") (by with_reducible assumption)) ?kdw ?kuw ?_; walk_at "mine use"))) | fail "none"
  trivial
/-- what _law_intel gives back -/
abbrev IntGot (a : Str) (n : Int) (b i : Str) (k : Int) (g : Str) (z : Int) : Value → List (Addr × Obj) → Prop := fun v made => ∃ r t1 t2 t3 t4 t5 t6 t7, v = .ref r ∧ made = [(r, { cls := .type "tuple", data := .seq #[.str a t1, .int n t2, .str b t3, .str i t4, .int k t5, .str g t6, .int z t7] })]
theorem intEnd {a b i g : Str} {n k z : Int} {h₀ h' : Heap} {L r : Addr} {m : Str → Option Value} {s : Shared} {news l : List (Addr × Obj)} {Q : Value → Shared → Prop} {tk' : Nat} {t1 t2 t3 t4 t5 t6 t7 : Tok}
    (hret : ∀ (v : Value) (made : List (Addr × Obj)) (h' : Heap) (tk' : Nat), IntGot a n b i k g z v made → (∀ q ∈ news, ∀ p ∈ made, q.1 < p.1) → Fr h₀ L h' m → News h₀ L h' (made ++ news) → Q v { s with heap := h', toks := tk' })
    (F : Fr h₀ L h' m) (N : News h₀ L h' ((r, ({ cls := .type "tuple", data := .seq #[.str a t1, .int n t2, .str b t3, .str i t4, .int k t5, .str g t6, .int z t7] } : Obj)) :: l)) (hs : ∀ x ∈ news, x ∈ l) (hl : AllLt r news) : Q (.ref r) { s with heap := h', toks := tk' } := by
  refine hret _ [_] _ _ ⟨r, t1, t2, t3, t4, t5, t6, t7, rfl, rfl⟩ ?_ F ?_
  · intro q hq p hp
    rw [List.mem_singleton.mp hp]
    exact ktn_ltOf hl q hq
  · intro p hp
    rcases List.mem_cons.mp hp with rfl | hp
    · exact N _ (.head _)
    · exact N _ (.tail _ (hs _ hp))
theorem kw45 : True := by
  k_with "mine stop" => first | ((with_reducible show wpAny _ _ (execs (Stmt.If (Expr.Compare (Expr.Constant _ _ _) _ _ _) _ _ _ :: Stmt.If _ _ _ _ :: _) _) _ _ _)) | fail "none"
  k_with "mine stop" => first | ((with_reducible show wpAny _ _ (pyIter _) _ _ _)) | fail "none"
  trivial
set_option maxRecDepth 100000 in
set_option maxHeartbeats 8000000 in
theorem law_intel_c (w : World) (x y z g : Str) (sz : Int) (ts : List Str) (c : IS) (u : Tok) (hx : x.length ≤ 200) (hp : IntPtr x y sz) (hy : y.length ≤ 200) (hs : IntSeg y z g) (hz : z.length ≤ 200) (ht : Txt.split (Txt.slice z (some 1) (some (-1))) (S " ") = ts) (hc : StepsI ⟨S "", 0, S "", S "", 1, 1⟩ ts c) : Make w 4 502 [.str x u] (IntGot c.sym c.num c.base c.idx c.scale g sz) := by
  unfold Make
  intro dp un gd cn cs a₀ ccd cl outer A₀ base h₀ L m s news p loose mean mg mb Q E B F X N T hk hd hu hret
  refine wpAny_call ?_
  k_dflt cell_enter
  (rename Fr _ _ _ _ => hF0)
  refine fr_as hF0 (fun y => List.lookup y [(Str.ofString "text", Value.str x u)]) rfl ?_
  clear hF0
  intro hF0
  try k_gentoks
  walk_at "mine steps"
  (rename Fr _ _ _ _ => hF; rename News _ _ _ _ => hN)
  refine cut_vals (S "text") (fun t => .str y t) (S "size") (fun t => .int sz t) (S "word") hF (kst_newsOf hN (by walk_at "mine in") : News _ _ _ news) ?_ ?_
  · rcases hp with h | @⟨wd, y, sz, h, hsp, hw⟩
    · k_steps
      all_goals (walk_at "mine cutv")
    · have hlk : PySem.Spec.lookup (.str wd) sizeD = some (.int sz) := by rcases hw with ⟨rfl, rfl⟩ | ⟨rfl, rfl⟩ | ⟨rfl, rfl⟩ | ⟨rfl, rfl⟩ | ⟨rfl, rfl⟩ <;> rfl
      k_steps
      all_goals (walk_at "mine cutv")
  clear hF hN
  intro tT tZ oW hT tkT hF hN
  dsimp only
  refine cut_two (S "text") z (S "segment_name") g hF hN ?_ ?_
  · cases hs
    · k_steps
      all_goals (walk_at "mine cut2")
      all_goals rfl
    · k_steps
      all_goals (walk_at "mine cut2")
      all_goals rfl
  clear hF hN
  intro tT tG hT tkT hF hN
  dsimp only
  walk_at "mine steps"
  (rename Fr _ _ _ _ => hF; rename News _ _ _ _ => hN)
  (rename StrsAre _ _ => hA)
  with_unfolding_all refine' int_loop (news := news) (c := c) rfl hA hF hN ?km ?ki ?kl hc ?e1 ?e2 ?e3 ?e4 ?e5 ?e6 ?kt ?kd
  case km => exact List.Mem.head _
  case ki => walk_at "mine in"
  case kl => walk_at "mine lt"
  case e1 => rfl
  case e2 => rfl
  case e3 => rfl
  case e4 => rfl
  case e5 => rfl
  case e6 => rfl
  case kt =>
    clear hF hN
    intro t rest b b' q1 q2 q3 q4 q5 q6 u h tk own g1 g2 hF hN
    cases g1
    · k_steps
      all_goals (walk_at "mine turn")
    · k_steps
      all_goals (walk_at "mine turn")
    · k_steps
      all_goals (walk_at "mine turn")
    · rename (_ = 1 ∨ _ = -1) => hg
      rcases hg with rfl | rfl
      · k_steps
        all_goals (walk_at "mine turn")
      · k_steps
        all_goals (walk_at "mine turn")
    · k_steps
      all_goals (walk_at "mine turn")
    · k_steps
      all_goals (walk_at "mine turn")
  case kd =>
    clear hF hN
    intro q1 q2 q3 q4 q5 q6 o h tk hF hN
    k_steps
    (rename Fr _ _ _ _ => hF; rename News _ _ _ _ => hN)
    with_reducible refine intEnd hret hF hN ?_ ?_
    · walk_at "mine in"
    · walk_at "mine lt"

/-! ### plain laws of texts -/
/-- a text's signs -/
abbrev tl (x : Str) : List Nat := x.cps.toList
theorem str_ext {x y : Str} (h : tl x = tl y) : x = y := Str.ext' (Array.toList_inj.mp h)
theorem tl_app (a b : Str) : tl (a ++ b) = tl a ++ tl b := app_cps a b
theorem tl_len (a : Str) : (tl a).length = a.length := Array.length_toList
theorem mk_tl (a : Str) : (⟨(tl a).toArray⟩ : Str) = a := (StrLaws.mk_of_toList rfl).symm
theorem tl_mk (l : List Nat) : tl (⟨l.toArray⟩ : Str) = l := rfl
section
variable {x a b c : Str} {i j : Int}
theorem sl_to (h : x = a ++ b) (hi : i = a.length) : Txt.slice x none (some i) = a := by
  subst h hi
  show StrLaws.sliceText _ _ _ = _
  rw [StrLaws.sliceText_to ⟨by omega, by rw [show (a ++ b).cps.toList = tl a ++ tl b from tl_app a b, List.length_append, tl_len]; omega⟩]
  rw [show (a ++ b).cps.toList = tl a ++ tl b from tl_app a b]
  have e : ((a.length : Int) - 0).toNat = (tl a).length := by rw [tl_len]; omega
  rw [e, List.drop_zero, List.take_left' rfl]
theorem sl_from (h : x = a ++ b) (hi : i = a.length) : Txt.slice x (some i) none = b := by
  subst h hi
  show StrLaws.sliceText _ _ _ = _
  have hx : (a ++ b).cps.toList = tl a ++ tl b := tl_app a b
  rw [StrLaws.sliceText_from ⟨by omega, by rw [hx, List.length_append, tl_len]; omega⟩]
  rw [hx]
  have e : ((a.length : Int)).toNat = (tl a).length := by rw [tl_len]; omega
  have e2 : (((tl a ++ tl b).length : Int) - (a.length : Int)).toNat = (tl b).length := by rw [List.length_append, tl_len]; omega
  rw [e2, e, List.drop_left' rfl, List.take_length]
theorem sl_mid (h : x = a ++ (b ++ c)) (hi : i = a.length) (hj : j = a.length + b.length) : Txt.slice x (some i) (some j) = b := by
  subst h hi hj
  show StrLaws.sliceText _ _ _ = _
  have hx : (a ++ (b ++ c)).cps.toList = tl a ++ (tl b ++ tl c) := by rw [show (a ++ (b ++ c)).cps.toList = tl a ++ tl (b ++ c) from tl_app _ _, tl_app]
  rw [StrLaws.sliceText_plain ⟨by omega, by omega, by rw [hx, List.length_append, List.length_append, tl_len, tl_len]; omega⟩]
  rw [hx]
  have e : ((a.length : Int)).toNat = (tl a).length := by rw [tl_len]; omega
  have e2 : ((a.length : Int) + (b.length : Int) - (a.length : Int)).toNat = (tl b).length := by rw [tl_len]; omega
  rw [e2, e, List.drop_left' rfl, List.take_left' rfl]
theorem sl_last (h : x = a ++ b) (hb : b.length = 1) : Txt.slice x (some (-1)) none = b := by
  subst h
  have hl : (a ++ b).length = a.length + 1 := by rw [Str.length_append, hb]
  have e : Txt.slice (a ++ b) (some (-1)) none = Txt.slice (a ++ b) (some (-1 + ((a ++ b).length : Int))) none := StrLaws.sliceText_neg_lo _ none (by decide) (by omega)
  rw [e]
  exact sl_from rfl (by rw [hl]; omega)
theorem sl_cut (h : x = a ++ (b ++ c)) (hi : i = a.length) (hc : c.length = 1) : Txt.slice x (some i) (some (-1)) = b := by
  have hl : x.length = a.length + b.length + 1 := by rw [h, Str.length_append, Str.length_append, hc]; omega
  have e : Txt.slice x (some i) (some (-1)) = Txt.slice x (some i) (some (-1 + (x.length : Int))) := StrLaws.sliceText_neg_hi _ _ (by decide) (by omega)
  rw [e]
  exact sl_mid h hi (by rw [hl]; omega)
end
theorem ne_str {a b : Str} (h : tl a ≠ tl b) : (a == b) = false := by
  cases e : (a == b) with
  | false => rfl
  | true => exact absurd (congrArg tl (eq_of_beq e)) h
theorem eq_str {a b : Str} (h : a = b) : (a == b) = true := by rw [h]; exact beq_self_eq_true b
/-- y in x, told of their signs -/
theorem has_iff (x y : Str) : (!(Builtin.Str.occurrences x y 0 x.length 1).isEmpty) = true ↔ ∃ a b, tl x = a ++ (tl y ++ b) := by
  rw [StrLaws.found_iff]
  constructor
  · rintro ⟨i, h1, h2⟩
    rw [StrLaws.subAt_eq] at h2
    have h3 := eq_of_beq h2
    refine ⟨(tl x).take i, (tl x).drop (i + y.length), ?_⟩
    have e1 : tl x = (tl x).take i ++ (tl x).drop i := (List.take_append_drop i _).symm
    have e2 : (tl x).drop i = ((tl x).drop i).take y.length ++ ((tl x).drop i).drop y.length := (List.take_append_drop _ _).symm
    rw [List.drop_drop] at e2
    rw [h3] at e2
    exact e1.trans (by rw [e2])
  · rintro ⟨a, b, h⟩
    refine ⟨a.length, ?_, ?_⟩
    · rw [← tl_len x, h, List.length_append, List.length_append, tl_len y]
      omega
    · rw [StrLaws.subAt_eq, show x.cps.toList = a ++ (tl y ++ b) from h, List.drop_left' rfl, List.take_left' (tl_len y)]
      exact beq_self_eq_true _
theorem has_one (x : Str) (c : Nat) : (!(Builtin.Str.occurrences x ⟨#[c]⟩ 0 x.length 1).isEmpty) = decide (c ∈ tl x) := StrLaws.found_one x c
/-- the first place of a sign -/
theorem find_one {x a b : Str} {c : Nat} (h : x = a ++ ((⟨#[c]⟩ : Str) ++ b)) (hc : c ∉ tl a) : Txt.find x ⟨#[c]⟩ = (a.length : Int) := by
  have hx : tl x = tl a ++ (c :: tl b) := by rw [h, tl_app, tl_app]; rfl
  unfold Txt.find
  rcases StrLaws.occ_head x ⟨#[c]⟩ 1 (Nat.le_refl _) with ⟨_, hn⟩ | ⟨i, r, e, hi, hm⟩
  · exfalso
    refine hn a.length ((StrLaws.subAt_one x c a.length).mpr ?_)
    rw [show x.cps.toList = tl a ++ (c :: tl b) from hx, List.getElem?_append_right (by rw [tl_len]; omega), tl_len]
    simp
  · rw [e]
    have h1 : x.cps.toList[i]? = some c := (StrLaws.subAt_one x c i).mp hi
    rw [show x.cps.toList = tl a ++ (c :: tl b) from hx] at h1
    have h2 : ¬ i < a.length := by
      intro q
      rw [List.getElem?_append_left (by rw [tl_len]; exact q)] at h1
      exact hc (List.mem_of_getElem? h1)
    have h3 : ¬ a.length < i := by
      intro q
      refine hm a.length q ((StrLaws.subAt_one x c a.length).mpr ?_)
      rw [show x.cps.toList = tl a ++ (c :: tl b) from hx, List.getElem?_append_right (by rw [tl_len]; omega), tl_len]
      simp
    show (i : Int) = _
    omega
/-! split by one sign -/
theorem app_free {c : Nat} : ∀ {p q u v : List Nat}, c ∉ p → c ∉ q → p ++ (c :: u) = q ++ (c :: v) → p = q ∧ u = v
  | [], [], _, _, _, _, h => ⟨rfl, (List.cons.inj h).2⟩
  | [], b :: q, _, _, _, h2, h => absurd ((List.cons.inj h).1 ▸ List.mem_cons_self) h2
  | a :: p, [], _, _, h1, _, h => absurd ((List.cons.inj h).1 ▸ List.mem_cons_self) h1
  | a :: p, b :: q, u, v, h1, h2, h => by
    obtain ⟨e1, e2⟩ := List.cons.inj h
    obtain ⟨e3, e4⟩ := app_free (fun m => h1 (.tail _ m)) (fun m => h2 (.tail _ m)) e2
    exact ⟨by rw [e1, e3], e4⟩
theorem join_inj (c : Nat) : ∀ (l l' : List Str), l ≠ [] → l' ≠ [] → (∀ p ∈ l, c ∉ tl p) → (∀ p ∈ l', c ∉ tl p) → Str.join ⟨#[c]⟩ l = Str.join ⟨#[c]⟩ l' → l = l'
  | [], _, h, _, _, _, _ => absurd rfl h
  | _, [], _, h, _, _, _ => absurd rfl h
  | [a], [b], _, _, _, _, h => by rw [show a = b from h]
  | [a], b :: b' :: r, _, _, h1, _, h => by
    exfalso
    have e : tl a = tl b ++ (c :: tl (Str.join ⟨#[c]⟩ (b' :: r))) := by
      rw [show a = b ++ ⟨#[c]⟩ ++ Str.join ⟨#[c]⟩ (b' :: r) from h, tl_app, tl_app, List.append_assoc]
      rfl
    exact h1 a (.head _) (by rw [e]; simp)
  | b :: b' :: r, [a], _, _, _, h1, h => by
    exfalso
    have e : tl a = tl b ++ (c :: tl (Str.join ⟨#[c]⟩ (b' :: r))) := by
      rw [← show b ++ ⟨#[c]⟩ ++ Str.join ⟨#[c]⟩ (b' :: r) = a from h, tl_app, tl_app, List.append_assoc]
      rfl
    exact h1 a (.head _) (by rw [e]; simp)
  | a :: a' :: r, b :: b' :: q, _, _, h1, h2, h => by
    have e : tl a ++ (c :: tl (Str.join ⟨#[c]⟩ (a' :: r))) = tl b ++ (c :: tl (Str.join ⟨#[c]⟩ (b' :: q))) := by
      have := congrArg tl (show a ++ ⟨#[c]⟩ ++ Str.join ⟨#[c]⟩ (a' :: r) = b ++ ⟨#[c]⟩ ++ Str.join ⟨#[c]⟩ (b' :: q) from h)
      rw [tl_app, tl_app, tl_app, tl_app, List.append_assoc, List.append_assoc] at this
      exact this
    obtain ⟨e1, e2⟩ := app_free (h1 a (.head _)) (h2 b (.head _)) e
    rw [str_ext e1, join_inj c (a' :: r) (b' :: q) (by simp) (by simp) (fun p hp => h1 p (.tail _ hp)) (fun p hp => h2 p (.tail _ hp)) (str_ext e2)]
theorem split_ne (x : Str) (c : Nat) : Txt.split x ⟨#[c]⟩ ≠ [] := by
  unfold Txt.split
  split
  · simp
  · split
    · simp
    · rw [StrLaws.partsBetween_eq]
      obtain ⟨p, r, e⟩ := StrLaws.partsFrom_ne x (⟨#[c]⟩ : Str).length 0 (Builtin.Str.occurrences x ⟨#[c]⟩ 0 x.length (x.length + 1))
      rw [e]
      simp
theorem split_is {x : Str} {c : Nat} {l : List Str} (hl : l ≠ []) (hf : ∀ p ∈ l, c ∉ tl p) (h : Str.join ⟨#[c]⟩ l = x) : Txt.split x ⟨#[c]⟩ = l :=
  join_inj c _ _ (split_ne x c) hl (StrLaws.split_free x c) hf (by rw [StrLaws.join_split, h])
/-! numbers -/
theorem dg_val (n : Nat) (h : n < 16) : Txt.find (S "0123456789abcdef") ⟨#[dg n]⟩ = (n : Int) := (by decide +kernel : ∀ n : Nat, n < 16 → Txt.find (S "0123456789abcdef") ⟨#[dg n]⟩ = (n : Int)) n h
theorem numOf_app (l : List Nat) (c : Nat) : numOf (l ++ [c]) = numStep (numOf l) c := by
  unfold numOf
  rw [List.foldl_append]
  rfl
theorem numOf_hx : ∀ (k n : Nat), n < 16 ^ k → 0 < k → numOf (hx k n) = (n : Int)
  | 0, _, _, h => absurd h (by decide)
  | k + 1, n, h, _ => by
    unfold hx
    split
    · rename_i h16
      show numStep 0 (dg n) = _
      unfold numStep
      rw [dg_val n h16]
      omega
    · rename_i h16
      have hk : 0 < k := by
        rcases Nat.eq_zero_or_pos k with e | e
        · subst e; simp at h; omega
        · exact e
      rw [numOf_app, numOf_hx k (n / 16) (by rw [Nat.pow_succ] at h; omega) hk]
      unfold numStep
      rw [dg_val (n % 16) (Nat.mod_lt _ (by decide))]
      omega
theorem hx_ne : ∀ (k n : Nat), 0 < k → hx k n ≠ []
  | 0, _, h => absurd h (by decide)
  | k + 1, n, _ => by
    unfold hx
    split <;> simp
theorem fig_pos (n : Int) : 0 < (figT n).length := by
  show 0 < (hx 12 n.toNat).toArray.size
  rw [List.size_toArray]
  exact List.length_pos_iff.mpr (hx_ne 12 _ (by decide))
theorem lawNumA_hex {f : Str} {n g : Int} (h : f = S "0x" ++ figT n) (h0 : 0 ≤ n) (h1 : n < 4294967296) : lawNumA g f = some (g * n) := by
  have e1 : Txt.slice f none (some 2) = S "0x" := sl_to h (by decide)
  have e2 : Txt.slice f (some 2) none = figT n := sl_from h (by decide)
  have hl : (2 : Int) < f.length := by
    rw [h, Str.length_append, show (S "0x").length = 2 from by decide]
    have := fig_pos n
    omega
  unfold lawNumA
  rw [e1, e2, if_pos (eq_str rfl), if_pos hl]
  show some (g * numOf (hx 12 n.toNat)) = _
  rw [numOf_hx 12 n.toNat (by have : (16 : Nat) ^ 12 = 281474976710656 := by decide
                              omega) (by decide)]
  rw [Int.toNat_of_nonneg h0]
theorem lawNum_hex (n : Int) (h0 : -4294967296 < n) (h1 : n < 4294967296) : lawNum (hexT n) = some n := by
  unfold hexT
  split
  · rename_i hn
    have h : S "-0x" ++ figT (-n) = S "-" ++ (S "0x" ++ figT (-n)) := by rw [← Str.append_assoc]; rfl
    rw [lawNum_neg (eq_str (sl_to h (by decide))), sl_from h (by decide), lawNumA_hex rfl (by omega) (by omega)]
    congr 1
    omega
  · rename_i hn
    have h : S "0x" ++ figT n = S "0" ++ (S "x" ++ figT n) := by rw [← Str.append_assoc]; rfl
    rw [lawNum_pos (by rw [sl_to h (by decide)]; decide), lawNumA_hex rfl (by omega) (by omega)]
    congr 1
    omega
/-! lawSum of the texts -/
theorem item_of {x a b : Str} {c : Nat} {i : Int} (h : x = a ++ ((⟨#[c]⟩ : Str) ++ b)) (hi : i = a.length) : Txt.item x i = ⟨#[c]⟩ := by
  have hx : tl x = tl a ++ (c :: tl b) := by rw [h, tl_app, tl_app]; rfl
  have hl : a.length < x.length := by rw [← tl_len x, hx, List.length_append, tl_len, List.length_cons]; omega
  obtain ⟨d, hd, e⟩ := item_code (x := x) (e := i) (by omega) (by omega)
  rw [e]
  rw [hi, Int.toNat_natCast, show x.cps.toList = tl a ++ (c :: tl b) from hx, List.getElem?_append_right (by rw [tl_len]; omega), tl_len] at hd
  simp at hd
  rw [hd]
theorem tw_all {p : Nat → Bool} : ∀ {l : List Nat}, (∀ c ∈ l, p c = true) → l.takeWhile p = l
  | [], _ => rfl
  | a :: r, h => by rw [List.takeWhile_cons, if_pos (h a (.head _)), tw_all fun c hc => h c (.tail _ hc)]
theorem tw_stop {p : Nat → Bool} {c : Nat} {r : List Nat} : ∀ {l : List Nat}, (∀ c ∈ l, p c = true) → p c = false → (l ++ (c :: r)).takeWhile p = l
  | [], _, h => by rw [List.nil_append, List.takeWhile_cons, if_neg (by rw [h]; decide)]
  | a :: t, h, h' => by rw [List.cons_append, List.takeWhile_cons, if_pos (h a (.head _)), tw_stop (fun c hc => h c (.tail _ hc)) h']
/-- a name as the law's texts have it -/
noncomputable def NameOk (y : Str) : Prop := y ≠ S "" ∧ (∀ c ∈ tl y, isEnd c = false) ∧ ∃ c r, tl y = c :: r ∧ c ≠ 45 ∧ c ≠ 48
theorem first_of {x : Str} {c : Nat} {r : List Nat} (h : tl x = c :: r) : Txt.item x 0 = ⟨#[c]⟩ := by
  have e : x = (⟨#[]⟩ : Str) ++ ((⟨#[c]⟩ : Str) ++ ⟨r.toArray⟩) := str_ext (by rw [tl_app, tl_app, h]; rfl)
  exact item_of e (by decide)
theorem occ0 (c : Nat) : (Builtin.Str.occurrences (S "-0") ⟨#[c]⟩ 0 (S "-0").length 1).isEmpty = !(decide (c ∈ [45, 48])) := by
  have h := StrLaws.found_one (S "-0") c
  rw [show (S "-0").cps.toList = [45, 48] from by decide] at h
  rw [← h, Bool.not_not]
theorem sum_hex (n : Int) (h0 : -4294967296 < n) (h1 : n < 4294967296) : lawSum (hexT n) = (S "", some n) := by
  have h : ∃ c r, tl (hexT n) = c :: r ∧ c ∈ [45, 48] := by
    unfold hexT
    split
    · exact ⟨45, _, by rw [tl_app]; rfl, by decide⟩
    · exact ⟨48, _, by rw [tl_app]; rfl, by decide⟩
  obtain ⟨c, r, e, hc⟩ := h
  rw [sum_num (ne_str (by rw [e]; intro h; cases h)) (by rw [first_of e, occ0, decide_eq_true hc]; rfl), lawNum_hex n h0 h1]
theorem sum_name {y : Str} (h : NameOk y) : lawSum y = (y, some 0) := by
  obtain ⟨h1, h2, c, r, e, h3, h4⟩ := h
  have he : endOf y = y.length := by
    unfold endOf
    rw [tw_all (fun c hc => by rw [h2 c hc]; rfl)]
    exact tl_len y
  unfold lawSum
  rw [if_neg ((Bool.not_eq_true _).mpr (ne_str (fun q => h1 (str_ext q)))), if_pos (by rw [first_of e, occ0]; simp [h3, h4])]
  unfold sumE
  rw [if_pos he]
theorem sum_name_at {x y z : Str} {c : Nat} (h : NameOk y) (hx : x = y ++ ((⟨#[c]⟩ : Str) ++ z)) (hc : isEnd c = true) : lawSum x = sumE x y.length := by
  obtain ⟨h1, h2, d, r, e, h3, h4⟩ := h
  have hl : tl x = tl y ++ (c :: tl z) := by rw [hx, tl_app, tl_app]; rfl
  have hf : tl x = d :: (r ++ (c :: tl z)) := by rw [hl, e]; rfl
  have he : endOf x = y.length := by
    unfold endOf
    rw [show x.cps.toList = tl y ++ (c :: tl z) from hl, tw_stop (fun c hc => by rw [h2 c hc]; rfl) (by rw [hc]; rfl)]
    exact tl_len y
  unfold lawSum
  rw [if_neg ((Bool.not_eq_true _).mpr (ne_str (fun q => by rw [hf] at q; cases q))), if_pos (by rw [first_of hf, occ0]; simp [h3, h4]), he]
theorem sum_plusT {y : Str} (h : NameOk y) (n : Int) (h0 : -4294967296 < n) (h1 : n < 4294967296) : lawSum (plusT y n) = (y, some n) := by
  unfold plusT
  split
  · rename_i e
    rw [e]
    exact sum_name h
  · split
    · rename_i hn
      have e : y ++ hexT n = y ++ ((⟨#[45]⟩ : Str) ++ (S "0x" ++ figT (-n))) := by
        unfold hexT
        rw [if_pos hn]
        congr 1
        rw [← Str.append_assoc]
        rfl
      have hl : ((y ++ hexT n).length : Int) ≠ y.length := by
        rw [Str.length_append]
        have := fig_pos (-n)
        unfold hexT
        rw [if_pos hn, Str.length_append]
        omega
      rw [sum_name_at h e (by decide)]
      unfold sumE
      rw [if_neg (by omega), item_of e rfl, if_pos (by decide), sl_to rfl rfl, sl_from rfl rfl, lawNum_hex n h0 h1]
    · rename_i hz hn
      have e : (y ++ S "+") ++ hexT n = y ++ ((⟨#[43]⟩ : Str) ++ hexT n) := by rw [Str.append_assoc]; rfl
      have hl : (((y ++ S "+") ++ hexT n).length : Int) ≠ y.length := by
        rw [Str.length_append, Str.length_append, show (S "+").length = 1 from by decide]
        omega
      rw [sum_name_at h e (by decide)]
      unfold sumE
      rw [if_neg (by omega), item_of e rfl, if_neg (by decide), sl_to e rfl, sl_from (a := y ++ S "+") rfl (by rw [Str.length_append, show (S "+").length = 1 from by decide]; omega), lawNum_hex n h0 h1]
theorem name_beta : NameOk (S "beta") := ⟨by decide, by decide, 98, [101, 116, 97], by decide, by decide, by decide⟩
/-! ### is 0x0 in a text: a machine of four states -/
noncomputable def st (s c : Nat) : Nat := if s = 3 then 3 else if c = 48 then (if s = 2 then 3 else 1) else if c = 120 ∧ s = 1 then 2 else 0
noncomputable def run (s : Nat) (l : List Nat) : Nat := l.foldl st s
noncomputable def Has0 (l : List Nat) : Prop := ∃ a b, l = a ++ ([48, 120, 48] ++ b)
noncomputable def pfx (s : Nat) : List Nat := if s = 1 then [48] else if s = 2 then [48, 120] else if s = 3 then [48, 120, 48] else []
theorem run_app (s : Nat) (a b : List Nat) : run s (a ++ b) = run (run s a) b := List.foldl_append
theorem has0_cons (c : Nat) (l : List Nat) : Has0 (c :: l) ↔ (∃ b, c :: l = [48, 120, 48] ++ b) ∨ Has0 l := by
  constructor
  · rintro ⟨a, b, h⟩
    cases a with
    | nil => exact .inl ⟨b, h⟩
    | cons d a =>
      obtain ⟨_, h⟩ := List.cons.inj h
      exact .inr ⟨a, b, h⟩
  · rintro (⟨b, h⟩ | ⟨a, b, h⟩)
    · exact ⟨[], b, h⟩
    · exact ⟨c :: a, b, by rw [h]; rfl⟩
theorem run3 (l : List Nat) : run 3 l = 3 := by
  induction l with
  | nil => rfl
  | cons c r ih => exact ih
theorem run_iff : ∀ (l : List Nat) (s : Nat), s ≤ 3 → (run s l = 3 ↔ Has0 (pfx s ++ l))
  | l, 3, _ => ⟨fun _ => ⟨[], l, rfl⟩, fun _ => run3 l⟩
  | [], 0, _ => ⟨fun h => absurd h (by decide), fun ⟨a, b, h⟩ => by simp [pfx] at h⟩
  | [], 1, _ => ⟨fun h => absurd h (by decide), fun ⟨a, b, h⟩ => by
      have := congrArg List.length h
      simp [pfx] at this
      omega⟩
  | [], 2, _ => ⟨fun h => absurd h (by decide), fun ⟨a, b, h⟩ => by
      have := congrArg List.length h
      simp [pfx] at this
      omega⟩
  | c :: l, 0, _ => by
    have h0 := run_iff l 0 (by decide)
    have h1 := run_iff l 1 (by decide)
    show run (st 0 c) l = 3 ↔ Has0 (c :: l)
    by_cases e : c = 48
    · subst e
      exact h1
    · rw [show st 0 c = 0 from by unfold st; simp [e], h0, has0_cons]
      constructor
      · exact fun h => .inr h
      · rintro (⟨b, h⟩ | h)
        · exact absurd (List.cons.inj h).1 e
        · exact h
  | c :: l, 1, _ => by
    have h0 := run_iff l 0 (by decide)
    have h1 := run_iff l 1 (by decide)
    have h2 := run_iff l 2 (by decide)
    show run (st 1 c) l = 3 ↔ Has0 (48 :: c :: l)
    rw [has0_cons]
    by_cases e : c = 48
    · subst e
      rw [show st 1 48 = 1 from by decide, h1]
      constructor
      · exact fun h => .inr h
      · rintro (⟨b, h⟩ | h)
        · exact absurd (List.cons.inj (List.cons.inj h).2).1 (by decide)
        · exact h
    · by_cases e2 : c = 120
      · subst e2
        rw [show st 1 120 = 2 from by decide, h2]
        show Has0 (48 :: 120 :: l) ↔ _
        exact has0_cons _ _
      · rw [show st 1 c = 0 from by unfold st; simp [e, e2], h0]
        constructor
        · exact fun h => .inr ((has0_cons _ _).mpr (.inr h))
        · rintro (⟨b, h⟩ | h)
          · exact absurd (List.cons.inj (List.cons.inj h).2).1 e2
          · rcases (has0_cons _ _).mp h with ⟨b, h⟩ | h
            · exact absurd (List.cons.inj h).1 e
            · exact h
  | c :: l, 2, _ => by
    have h0 := run_iff l 0 (by decide)
    have h3 := run_iff l 3 (by decide)
    show run (st 2 c) l = 3 ↔ Has0 (48 :: 120 :: c :: l)
    by_cases e : c = 48
    · subst e
      exact ⟨fun _ => ⟨[], l, rfl⟩, fun _ => run3 l⟩
    · rw [show st 2 c = 0 from by unfold st; simp [e], h0, has0_cons, has0_cons, has0_cons]
      constructor
      · exact fun h => .inr (.inr (.inr h))
      · rintro (⟨b, h⟩ | ⟨b, h⟩ | ⟨b, h⟩ | h)
        · exact absurd (List.cons.inj (List.cons.inj (List.cons.inj h).2).2).1 e
        · exact absurd (List.cons.inj h).1 (by decide)
        · exact absurd (List.cons.inj h).1 e
        · exact h
/-- a piece that neither holds 0x0 nor ends in its beginning's 0x -/
abbrev Quiet (l : List Nat) : Prop := run 0 l ≤ 1 ∧ run 1 l ≤ 1
theorem Quiet.to {l : List Nat} (h : Quiet l) {s : Nat} (hs : s ≤ 1) : run s l ≤ 1 := by
  rcases Nat.le_one_iff_eq_zero_or_eq_one.mp hs with rfl | rfl
  · exact h.1
  · exact h.2
theorem Quiet.app {a b : List Nat} (h : Quiet a) (h' : Quiet b) : Quiet (a ++ b) := ⟨by rw [run_app]; exact h'.to h.1, by rw [run_app]; exact h'.to h.2⟩
theorem has0_no {x : Str} (h : Quiet (tl x)) : has (S "0x0") x = false := by
  cases e : has (S "0x0") x with
  | false => rfl
  | true =>
    have := (run_iff (tl x) 0 (by decide)).mpr ((has_iff x (S "0x0")).mp e)
    have := h.1
    omega
theorem has0_yes {x : Str} (h : run 0 (tl x) = 3) : has (S "0x0") x = true := (has_iff x (S "0x0")).mpr ((run_iff (tl x) 0 (by decide)).mp h)
theorem run_mid {a b : List Nat} (h : Quiet a) {m : List Nat} (hm : run 0 m = 3 ∧ run 1 m = 3) : run 0 (a ++ (m ++ b)) = 3 := by
  rw [run_app, run_app]
  rcases Nat.le_one_iff_eq_zero_or_eq_one.mp h.1 with e | e
  · rw [e, hm.1, run3]
  · rw [e, hm.2, run3]
theorem hx_head : ∀ (k n : Nat), 0 < n → 0 < k → n < 16 ^ k → ∃ c r, hx k n = c :: r ∧ c ≠ 48
  | 0, _, _, h, _ => absurd h (by decide)
  | k + 1, n, hn, _, hb => by
    unfold hx
    split
    · refine ⟨dg n, [], rfl, ?_⟩
      unfold dg
      split <;> omega
    · rename_i h16
      have hk : 0 < k := by
        rcases Nat.eq_zero_or_pos k with e | e
        · subst e; simp at hb; omega
        · exact e
      obtain ⟨c, r, e, hc⟩ := hx_head k (n / 16) (by omega) hk (by rw [Nat.pow_succ] at hb; omega)
      exact ⟨c, r ++ [dg (n % 16)], by rw [e]; rfl, hc⟩
theorem dg_ok (n : Nat) : dg n ≠ 120 ∨ 16 ≤ n := by
  unfold dg
  split <;> omega
theorem hx_all : ∀ (k n : Nat), ∀ c ∈ hx k n, ∃ d, d < 16 ∧ c = dg d
  | 0, _, c, h => by cases h
  | k + 1, n, c, h => by
    unfold hx at h
    split at h
    · rename_i h16
      exact ⟨n, h16, List.mem_singleton.mp h⟩
    · rcases List.mem_append.mp h with h | h
      · exact hx_all k _ c h
      · exact ⟨n % 16, Nat.mod_lt _ (by decide), List.mem_singleton.mp h⟩
theorem run_no (l : List Nat) (h : ∀ c ∈ l, c ≠ 120) : ∀ s, s ≤ 1 → run s l ≤ 1 := by
  induction l with
  | nil => exact fun s hs => hs
  | cons c r ih =>
    intro s hs
    refine ih (fun d hd => h d (.tail _ hd)) (st s c) ?_
    have := h c (.head _)
    unfold st
    split
    · omega
    · split
      · split <;> omega
      · rw [if_neg (by omega)]; omega
theorem quiet_no {l : List Nat} (h : ∀ c ∈ l, c ≠ 120) : Quiet l := ⟨run_no l h 0 (by decide), run_no l h 1 (by decide)⟩
theorem fig_run (n : Int) (h0 : 0 < n) (h1 : n < 4294967296) : run 2 (tl (figT n)) ≤ 1 := by
  have hl : (16 : Nat) ^ 12 = 281474976710656 := by decide
  obtain ⟨c, r, e, hc⟩ := hx_head 12 n.toNat (by omega) (by decide) (by omega)
  have ha : ∀ d ∈ r, d ≠ 120 := by
    intro d hd
    obtain ⟨q, hq, e'⟩ := hx_all 12 n.toNat d (by rw [e]; exact .tail _ hd)
    rw [e']
    rcases dg_ok q with h | h
    · exact h
    · omega
  show run 2 (hx 12 n.toNat) ≤ 1
  rw [e]
  show run (st 2 c) r ≤ 1
  refine run_no r ha _ ?_
  unfold st
  rw [if_neg (by decide), if_neg hc, if_neg (by omega)]
  omega
theorem quiet_hex (n : Int) (h0 : -4294967296 < n) (h1 : n < 4294967296) (hn : n ≠ 0) : Quiet (tl (hexT n)) := by
  unfold hexT
  split
  · rw [tl_app]
    exact ⟨by rw [run_app]; exact fig_run (-n) (by omega) (by omega), by rw [run_app]; exact fig_run (-n) (by omega) (by omega)⟩
  · rw [tl_app]
    exact ⟨by rw [run_app]; exact fig_run n (by omega) (by omega), by rw [run_app]; exact fig_run n (by omega) (by omega)⟩
theorem run_hex0 : run 0 (tl (hexT 0)) = 3 ∧ run 1 (tl (hexT 0)) = 3 := by decide +kernel

/-! ### is a memory operand told -/
section
variable {s : Shared} {h₀ h' : Heap} {L : Addr} {m m' : Str → Option Value} {news : List (Addr × Obj)} {x y z T T' : Str} {t : Tok} {tk' : Nat} {b b' B B' : Bool}
theorem cut_strE (F : Fr h₀ L h' m') (N : News h₀ L h' news) (hx : m' x = some (.str T' t)) (hr : ∀ k, k ≠ x → m' k = m k) (e : T' = T) : CutEndV h₀ L m news x (fun t => .str T t) x (fun t => .str T t) x s .next { s with heap := h', toks := tk' } :=
  cut_v (t := t) (u := t) F N (hx.trans (by rw [e])) (hx.trans (by rw [e])) fun k h _ _ => hr k h
theorem cut_boolE (F : Fr h₀ L h' m') (N : News h₀ L h' news) (hx : m' x = some (.bool b)) (hy : m' y = some (.bool b')) (hr : ∀ k, k ≠ x → k ≠ y → m' k = m k) (e : b = B) (e' : b' = B') : CutEndV h₀ L m news x (fun _ => .bool B) y (fun _ => .bool B') y s .next { s with heap := h', toks := tk' } :=
  cut_v (t := 0) (u := 0) F N (hx.trans (by rw [e])) (hy.trans (by rw [e'])) fun k h h' _ => hr k h h'
end
theorem kw46 : True := by
  k_with "mine cute" => first | (((rename Fr _ _ _ _ => hFw); (rename News _ _ _ _ => hNw); first | refine cut_strE hFw (kst_newsOf hNw (by walk_at "mine in")) rfl (by intro yw hyw; repeat (first | rfl | rw [if_neg hyw])) ?_ | refine cut_boolE hFw (kst_newsOf hNw (by walk_at "mine in")) rfl rfl (by intro yw hyw hzw; repeat (first | with_reducible rfl | rw [if_neg hyw] | rw [if_neg hzw])) ?_ ?_)) | fail "none"
  trivial
noncomputable def regName (b : Option (Str × Str)) : Str := match b with | none => S "" | some p => p.1
noncomputable def bareB (worth : Int) (name : Str) : Bool := decide (worth = 0) && (name == S "")
noncomputable def needsA (worth : Int) (name bn : Str) : Bool := bareB worth name && ([Str.ofString "", Str.ofString "rip"].any fun x => x == bn)
noncomputable def needsI (worth : Int) (name bn inn : Str) : Bool := bareB worth name && ((bn == S "rip") || (bn ++ inn == S ""))
theorem kw47 : True := by
  k_with "mine stop" => first | ((with_reducible show wpAny _ _ (execs (Stmt.Assign [Expr.Name (Str.ofString "base") _] _ _ :: _) _) _ _ _)) | fail "none"
  k_with "mine stop" => first | ((with_reducible show wpAny _ _ (execs (Stmt.Assign [Expr.Name (Str.ofString "is_bare") _] _ _ :: _) _) _ _ _)) | fail "none"
  k_with "own call ref" => first | ((k_here; (with_reducible show wpAny _ _ (call (Value.ref 131) [Value.ref _]) _ _ _); k_dflt (refine' Read.use ?k1w ?k2w ?k3w ?k4w ?k5w ?kKw (by with_reducible assumption) ?khw ?kdw ?kuw ?_; (case khw => assumption); (walk_at "mine use read"); intro t9w h9w tk9w F9w N9w; (try dsimp only); (try k_fold)))) | fail "none"
  k_with "own call ref" => first | ((k_here; (with_reducible show wpAny _ _ (call (Value.ref 145) [Value.ref _]) _ _ _); k_dflt (refine' Read.use ?k1w ?k2w ?k3w ?k4w ?k5w ?kKw (by with_reducible assumption) ?khw ?kdw ?kuw ?_; (case khw => assumption); (walk_at "mine use read"); intro t9w h9w tk9w F9w N9w; (try dsimp only); (try k_fold)))) | fail "none"
  trivial
section
variable {prog : Program} {w : World} {A : Around} {E : Value → Shared → Prop} {s : Shared} {h₀ : Heap} {L r1 r2 : Addr} {news : List (Addr × Obj)} {Q : Value → Shared → Prop} {a b i g : Str} {n k z : Int} {t1 t2 t3 t4 t5 t6 t7 u1 u2 u3 u4 u5 u6 u7 : Tok}
theorem shaped_true {d : PyData} (h1 : d.canLay0 = true) (h2 : d.depth ≤ 64) : PySem.SeqAt.shaped d = true := Bool.and_eq_true_iff.mpr ⟨h1, decide_eq_true h2⟩
theorem tup6 (N : News h₀ L s.heap news) (h1 : (r1, ({ cls := .type "tuple", data := .seq #[.str a t1, .int n t2, .str b t3, .str i t4, .int k t5, .str g t6] } : Obj)) ∈ news) (h2 : (r2, ({ cls := .type "tuple", data := .seq #[.str a u1, .int n u2, .str b u3, .str i u4, .int k u5, .str g u6] } : Obj)) ∈ news)
    (ok : PyData.strOk a = true ∧ PyData.strOk b = true ∧ PyData.strOk i = true ∧ PyData.strOk g = true) (hu : A.units + 64 < cLine) (h : Q (.bool true) s) : wpAny (model prog w) A (compareOp .Eq (.ref r1) (.ref r2)) Q E s := by
  have hl : (PyData.tuple [.str a, .int n, .str b, .str i, .int k, .str g]).canLay0 = true := by
    simp only [PyData.canLay0, PyData.canLayAll0, ok.1, ok.2.1, ok.2.2.1, ok.2.2.2, Bool.and_true]
  have hs := shaped_true hl (by simp [PyData.depth, PyData.depthAll])
  refine eq_dataH (reads_tuple_at (News.get N h1) rfl rfl (.cons (.str _ _) (.cons (.int _ _) (.cons (.str _ _) (.cons (.str _ _) (.cons (.int _ _) (.cons (.str _ _) .nil))))))) (reads_tuple_at (News.get N h2) rfl rfl (.cons (.str _ _) (.cons (.int _ _) (.cons (.str _ _) (.cons (.str _ _) (.cons (.int _ _) (.cons (.str _ _) .nil))))))) hs hs hu ?_
  rw [PySem.SeqAt.eqv_refl _ hl]
  exact h
theorem tup7 (N : News h₀ L s.heap news) (h1 : (r1, ({ cls := .type "tuple", data := .seq #[.str a t1, .int n t2, .str b t3, .str i t4, .int k t5, .str g t6, .int z t7] } : Obj)) ∈ news) (h2 : (r2, ({ cls := .type "tuple", data := .seq #[.str a u1, .int n u2, .str b u3, .str i u4, .int k u5, .str g u6, .int z u7] } : Obj)) ∈ news)
    (ok : PyData.strOk a = true ∧ PyData.strOk b = true ∧ PyData.strOk i = true ∧ PyData.strOk g = true) (hu : A.units + 64 < cLine) (h : Q (.bool true) s) : wpAny (model prog w) A (compareOp .Eq (.ref r1) (.ref r2)) Q E s := by
  have hl : (PyData.tuple [.str a, .int n, .str b, .str i, .int k, .str g, .int z]).canLay0 = true := by
    simp only [PyData.canLay0, PyData.canLayAll0, ok.1, ok.2.1, ok.2.2.1, ok.2.2.2, Bool.and_true]
  have hs := shaped_true hl (by simp [PyData.depth, PyData.depthAll])
  refine eq_dataH (reads_tuple_at (News.get N h1) rfl rfl (.cons (.str _ _) (.cons (.int _ _) (.cons (.str _ _) (.cons (.str _ _) (.cons (.int _ _) (.cons (.str _ _) (.cons (.int _ _) .nil)))))))) (reads_tuple_at (News.get N h2) rfl rfl (.cons (.str _ _) (.cons (.int _ _) (.cons (.str _ _) (.cons (.str _ _) (.cons (.int _ _) (.cons (.str _ _) (.cons (.int _ _) .nil)))))))) hs hs hu ?_
  rw [PySem.SeqAt.eqv_refl _ hl]
  exact h
end
theorem kw48 : True := by
  k_with "own compareOp Eq ref ref" => first | ((k_here; (with_reducible show wpAny _ _ (compareOp CmpOp.Eq (Value.ref _) (Value.ref _)) _ _ _); k_dflt (first | (refine' tup6 ?kNw ?kaw ?kbw ?kokw ?kuw ?_; (case kNw => k_asm); (case kaw => k_mem); (case kbw => k_mem); (case kokw => assumption); (case kuw => ke_room)) | (refine' tup7 ?kNw ?kaw ?kbw ?kokw ?kuw ?_; (case kNw => k_asm); (case kaw => k_mem); (case kbw => k_mem); (case kokw => assumption); (case kuw => ke_room))))) | fail "none"
  trivial
structure AttC (w : World) (A : Str) (a : Str) (n : Int) (b i : Str) (k : Int) (g : Str) : Prop where
  h : ∀ u, Make w 4 495 [.str A u] (AttGot a n b i k g)
structure IntC (w : World) (A : Str) (a : Str) (n : Int) (b i : Str) (k : Int) (g : Str) (z : Int) : Prop where
  h : ∀ u, Make w 4 502 [.str A u] (IntGot a n b i k g z)
section
variable {a b i g : Str} {n k z : Int} {news : List (Addr × Obj)} {h₀ : Heap} {L : Addr} {m : Str → Option Value} {Q : Value → Shared → Prop} {s : Shared}
theorem AttGot.use (h : ∀ (r : Addr) (t1 t2 t3 t4 t5 t6 : Tok) (h' : Heap) (tk' : Nat), (∀ p ∈ news, p.1 < r) → Fr h₀ L h' m → News h₀ L h' ((r, { cls := .type "tuple", data := .seq #[.str a t1, .int n t2, .str b t3, .str i t4, .int k t5, .str g t6] }) :: news) → Q (.ref r) { s with heap := h', toks := tk' }) :
    ∀ (v : Value) (made : List (Addr × Obj)) (h' : Heap) (tk' : Nat), AttGot a n b i k g v made → (∀ q ∈ news, ∀ p ∈ made, q.1 < p.1) → Fr h₀ L h' m → News h₀ L h' (made ++ news) → Q v { s with heap := h', toks := tk' } := by
  rintro v made h' tk' ⟨r, t1, t2, t3, t4, t5, t6, rfl, rfl⟩ hl F N
  exact h r t1 t2 t3 t4 t5 t6 h' tk' (fun p hp => hl p hp _ (.head _)) F N
theorem IntGot.use (h : ∀ (r : Addr) (t1 t2 t3 t4 t5 t6 t7 : Tok) (h' : Heap) (tk' : Nat), (∀ p ∈ news, p.1 < r) → Fr h₀ L h' m → News h₀ L h' ((r, { cls := .type "tuple", data := .seq #[.str a t1, .int n t2, .str b t3, .str i t4, .int k t5, .str g t6, .int z t7] }) :: news) → Q (.ref r) { s with heap := h', toks := tk' }) :
    ∀ (v : Value) (made : List (Addr × Obj)) (h' : Heap) (tk' : Nat), IntGot a n b i k g z v made → (∀ q ∈ news, ∀ p ∈ made, q.1 < p.1) → Fr h₀ L h' m → News h₀ L h' (made ++ news) → Q v { s with heap := h', toks := tk' } := by
  rintro v made h' tk' ⟨r, t1, t2, t3, t4, t5, t6, t7, rfl, rfl⟩ hl F N
  exact h r t1 t2 t3 t4 t5 t6 t7 h' tk' (fun p hp => hl p hp _ (.head _)) F N
end
theorem kw49 : True := by
  k_with "own call ref" => first | ((k_here; (with_reducible show wpAny _ _ (call (Value.ref 495) [Value.str _ _]) _ _ _); k_dflt ((rename AttC _ _ _ _ _ _ _ _ => hC9w); refine' Make.use ?k1w ?k2w ?k3w ?k4w ?k5w ?kKw (hC9w.h _) ?kdw ?kuw (AttGot.use ?_); (walk_at "mine use make"); intro r9w t91w t92w t93w t94w t95w t96w h9w tk9w l9w F9w N9w; (try k_lt l9w); (try dsimp only); (try k_fold)))) | fail "none"
  k_with "own call ref" => first | ((k_here; (with_reducible show wpAny _ _ (call (Value.ref 502) [Value.str _ _]) _ _ _); k_dflt ((rename IntC _ _ _ _ _ _ _ _ _ => hC9w); refine' Make.use ?k1w ?k2w ?k3w ?k4w ?k5w ?kKw (hC9w.h _) ?kdw ?kuw (IntGot.use ?_); (walk_at "mine use make"); intro r9w t91w t92w t93w t94w t95w t96w t97w h9w tk9w l9w F9w N9w; (try k_lt l9w); (try dsimp only); (try k_fold)))) | fail "none"
  trivial
section
variable {w : World} {x : Addr} {base index : Option (Str × Str)} {scale worth size : Int} {seg name A I : Str}
set_option maxRecDepth 100000 in
set_option maxHeartbeats 8000000 in
theorem memory_told_walk (C1 : Read w 5 131 [.ref x] (MemAt w.params x base index scale worth size seg name) (fun t => .str A t)) (C2 : Read w 5 145 [.ref x] (MemAt w.params x base index scale worth size seg name) (fun t => .str I t))
    (C3 : AttC w A name worth (regName base) (regName index) scale seg) (C4 : IntC w I name worth (regName base) (regName index) scale seg size)
    (hA : A.length ≤ 200) (hI : I.length ≤ 200) (hn : name.length ≤ 10) (hb : (regName base).length ≤ 10) (hi : (regName index).length ≤ 10)
    (h0A : has (S "0x0") A = needsA worth name (regName base)) (h0I : has (S "0x0") I = needsI worth name (regName base) (regName index)) (hsp : has (S " ") A = false)
    (nA : (has (S "0x0") A != needsA worth name (regName base)) = false) (nI : (has (S "0x0") I != needsI worth name (regName base) (regName index)) = false) (hok : PyData.strOk name = true ∧ PyData.strOk (regName base) = true ∧ PyData.strOk (regName index) = true ∧ PyData.strOk seg = true) :
    Read w 6 509 [.ref x] (MemAt w.params x base index scale worth size seg name) (fun _ => .bool true) := by
  unfold Read
  intro dp un gd cn cs a ccd cl outer A₀ base₀ h₀ L m s news p loose mean mg mb Q E hh B F X N T hk hd hu hret
  have hh' := hh
  obtain ⟨dx, bv, iv, t0, ts, tw, tz, tg, tn, k0, k1, k2, k3, k4, k5, k6, k7, e, rb, ri, hx, hdx⟩ := hh
  refine wpAny_call ?_
  k_dflt cell_enter
  (rename Fr _ _ _ _ => hF0)
  refine fr_as hF0 (fun y => List.lookup y [(Str.ofString "mem", .ref x)]) rfl ?_
  clear hF0
  intro hF0
  walk_at "mine steps"
  (rename Fr _ _ _ _ => hF; rename News _ _ _ _ => hN)
  refine cut_vals (S "base") (fun t => .str (regName base) t) (S "base") (fun t => .str (regName base) t) (S "base") hF (kst_newsOf hN (by walk_at "mine in") : News _ _ _ news) ?_ ?_
  · rcases rb with _ | @⟨b, db, nm, kind, num, sz, r1, r2, r3, r4, j1, j2, j3, j4, e', hb1, hb2⟩
    · k_steps
      all_goals (walk_at "mine cute")
      all_goals exact rfl
    · k_steps
      all_goals (walk_at "mine cute")
      all_goals exact rfl
  clear hF hN
  intro tB tB' oB hT tkT hF hN
  dsimp only
  refine cut_vals (S "index") (fun t => .str (regName index) t) (S "index") (fun t => .str (regName index) t) (S "index") hF hN ?_ ?_
  · rcases ri with _ | @⟨b, db, nm, kind, num, sz, r1, r2, r3, r4, j1, j2, j3, j4, e', hb1, hb2⟩
    · k_steps
      all_goals (walk_at "mine cute")
      all_goals exact rfl
    · k_steps
      all_goals (walk_at "mine cute")
      all_goals exact rfl
  clear hF hN
  intro tI tI' oI hT tkT hF hN
  dsimp only
  walk_at "mine steps"
  (rename Fr _ _ _ _ => hF; rename News _ _ _ _ => hN)
  refine cut_vals (S "is_bare") (fun _ => .bool (bareB worth name)) (S "is_bare") (fun _ => .bool (bareB worth name)) (S "is_bare") hF hN ?_ ?_
  · k_steps
    all_goals (walk_at "mine cute")
    all_goals (unfold bareB; first | (rw [decide_eq_true (by with_reducible assumption), Bool.true_and]; done) | (rw [decide_eq_false (by with_reducible assumption), Bool.false_and]; exact beq_eq_false_iff_ne.mpr (by with_reducible assumption)))
  clear hF hN
  intro tI tI' oI hT tkT hF hN
  dsimp only
  refine cut_vals (S "needs_att") (fun _ => .bool (needsA worth name (regName base))) (S "needs_intel") (fun _ => .bool (needsI worth name (regName base) (regName index))) (S "needs_intel") hF hN ?_ ?_
  · rcases (by cases bareB worth name <;> simp : bareB worth name = false ∨ bareB worth name = true) with hB | hB
    · k_steps
      all_goals (walk_at "mine cute")
      all_goals first
        | (unfold needsA; rw [hB]; done)
        | (unfold needsI; rw [hB]; done)
        | (unfold needsA; rw [hB, Bool.false_and])
        | (unfold needsI; rw [hB, Bool.false_and])
    · k_steps
      all_goals (walk_at "mine cute")
      all_goals first
        | (unfold needsA; rw [hB, Bool.true_and]; done)
        | (unfold needsI; rw [hB, Bool.true_and]; (rename (_ == _) = true => hq); rw [hq]; rfl)
        | (unfold needsI; rw [hB, Bool.true_and]; (rename (_ == _) = false => hq); rw [show (regName base == S "rip") = false from hq, Bool.false_or])
  clear hF hN
  intro tI tI' oI hT tkT hF hN
  dsimp only
  k_steps
  (rename Fr _ _ _ _ => hF; rename News _ _ _ _ => hN)
  have hq : (Builtin.Str.occurrences A (Str.ofString " ") 0 A.length 1).isEmpty = true := by simpa [has] using hsp
  rw [hq]
  exact hret 0 _ _ hF (kst_newsOf hN (by walk_at "mine in"))
end

/-! ### plain laws of the memory operand's texts -/
/-- every sign is at least 43 -/
abbrev Hi (l : List Nat) : Prop := ∀ c ∈ l, 43 ≤ c
theorem Hi.app {a b : List Nat} (h : Hi a) (h' : Hi b) : Hi (a ++ b) := fun c hc => (List.mem_append.mp hc).elim (h c) (h' c)
theorem Hi.no {l : List Nat} (h : Hi l) {c : Nat} (hc : c < 43) : c ∉ l := fun m => by have := h c m; omega
theorem hex_all (n : Int) : ∀ c ∈ tl (hexT n), c = 45 ∨ c = 120 ∨ (48 ≤ c ∧ c ≤ 57) ∨ (97 ≤ c ∧ c ≤ 102) := by
  have hf : ∀ m : Int, ∀ c ∈ tl (figT m), c = 45 ∨ c = 120 ∨ (48 ≤ c ∧ c ≤ 57) ∨ (97 ≤ c ∧ c ≤ 102) := by
    intro m c hc
    obtain ⟨d, hd, rfl⟩ := hx_all 12 m.toNat c hc
    unfold dg
    split <;> omega
  intro c hc
  unfold hexT at hc
  split at hc
  · rw [tl_app] at hc
    rcases List.mem_append.mp hc with hc | hc
    · rw [show tl (S "-0x") = [45, 48, 120] from by decide] at hc
      simp at hc
      omega
    · exact hf _ c hc
  · rw [tl_app] at hc
    rcases List.mem_append.mp hc with hc | hc
    · rw [show tl (S "0x") = [48, 120] from by decide] at hc
      simp at hc
      omega
    · exact hf _ c hc
theorem hex_hi (n : Int) : Hi (tl (hexT n)) := fun c hc => by have := hex_all n c hc; omega
theorem hex_len3 (n : Int) : 3 ≤ (hexT n).length := by
  have h1 := fig_pos n
  have h2 := fig_pos (-n)
  unfold hexT
  split <;> rw [Str.length_append] <;> (first | rw [show (S "-0x").length = 3 from by decide] | rw [show (S "0x").length = 2 from by decide]) <;> omega
theorem plus_hi {y : Str} (h : Hi (tl y)) (n : Int) : Hi (tl (plusT y n)) := by
  unfold plusT
  split
  · exact h
  · split
    · rw [tl_app]; exact h.app (hex_hi n)
    · rw [tl_app, tl_app]; exact (h.app (by decide)).app (hex_hi n)
theorem last_ne {y : Str} (h : Hi (tl y)) (hn : tl y ≠ []) : (Txt.slice y (some (-1)) none != S ")") = true := by
  have e : y = (⟨((tl y).dropLast).toArray⟩ : Str) ++ (⟨#[(tl y).getLast hn]⟩ : Str) := str_ext (by rw [tl_app]; exact (List.dropLast_concat_getLast hn).symm)
  rw [sl_last e (by rfl)]
  have h1 := h _ (List.getLast_mem hn)
  have : ((⟨#[(tl y).getLast hn]⟩ : Str) == S ")") = false := ne_str (by
    intro q
    have q' : [(tl y).getLast hn] = [41] := q
    have := (List.cons.inj q').1
    omega)
  show (!_) = true
  rw [this]
  rfl
noncomputable def GoodB (b : Option (Str × Str)) : Prop := b = none ∨ (∃ k : Nat, k ≤ 15 ∧ b = some (gprN (k : Int), S "gpr")) ∨ b = some (S "rip", S "rip")
noncomputable def GoodI (b : Option (Str × Str)) : Prop := b = none ∨ ∃ k : Nat, k ≤ 15 ∧ b = some (gprN (k : Int), S "gpr")
structure GoodMem (base index : Option (Str × Str)) (scale worth size : Int) (seg name : Str) : Prop where
  b : GoodB base
  i : GoodI index
  rip : base = some (S "rip", S "rip") → index = none
  s : scale = 1 ∨ scale = 2 ∨ scale = 4 ∨ scale = 8
  s1 : index = none → scale = 1
  w0 : -4294967296 < worth
  w1 : worth < 4294967296
  z : size = 0 ∨ size = 8 ∨ size = 16 ∨ size = 32 ∨ size = 64 ∨ size = 128
  g : seg = S "" ∨ seg = S "fs" ∨ seg = S "gs"
  n : name = S "" ∨ name = S "beta"
/-! the pair pt -/
noncomputable def stP (s c : Nat) : Nat := if s = 2 then 2 else if c = 112 then 1 else if c = 116 ∧ s = 1 then 2 else 0
noncomputable def runP (s : Nat) (l : List Nat) : Nat := l.foldl stP s
noncomputable def HasP (l : List Nat) : Prop := ∃ a b, l = a ++ ([112, 116] ++ b)
theorem runP_app (s : Nat) (a b : List Nat) : runP s (a ++ b) = runP (runP s a) b := List.foldl_append
theorem runP2 (l : List Nat) : runP 2 l = 2 := by
  induction l with
  | nil => rfl
  | cons c r ih => exact ih
theorem hasP_cons (c : Nat) (l : List Nat) (h : HasP (c :: l)) : (∃ b, c :: l = [112, 116] ++ b) ∨ HasP l := by
  obtain ⟨a, b, h⟩ := h
  cases a with
  | nil => exact .inl ⟨b, h⟩
  | cons d a =>
    obtain ⟨_, h⟩ := List.cons.inj h
    exact .inr ⟨a, b, h⟩
theorem runP_of : ∀ (l : List Nat), (HasP l → runP 0 l = 2) ∧ (HasP (112 :: l) → runP 1 l = 2)
  | [] => ⟨fun ⟨a, b, h⟩ => by simp at h, fun ⟨a, b, h⟩ => by have := congrArg List.length h; simp at this; omega⟩
  | c :: l => by
    obtain ⟨i0, i1⟩ := runP_of l
    have k0 : HasP (c :: l) → runP 0 (c :: l) = 2 := by
      intro h
      show runP (stP 0 c) l = 2
      by_cases e : c = 112
      · subst e
        exact i1 h
      · rw [show stP 0 c = 0 from by unfold stP; simp [e]]
        rcases hasP_cons _ _ h with ⟨b, h⟩ | h
        · exact absurd (List.cons.inj h).1 e
        · exact i0 h
    refine ⟨k0, fun h => ?_⟩
    show runP (stP 1 c) l = 2
    by_cases e : c = 112
    · subst e
      rcases hasP_cons _ _ h with ⟨b, h⟩ | h
      · exact absurd (List.cons.inj (List.cons.inj h).2).1 (by decide)
      · exact i1 h
    · by_cases e2 : c = 116
      · subst e2
        exact runP2 l
      · rw [show stP 1 c = 0 from by unfold stP; simp [e, e2]]
        rcases hasP_cons _ _ h with ⟨b, h⟩ | h
        · exact absurd (List.cons.inj (List.cons.inj h).2).1 e2
        · rcases hasP_cons _ _ h with ⟨b, h⟩ | h
          · exact absurd (List.cons.inj h).1 e
          · exact i0 h
abbrev QuietP (l : List Nat) : Prop := runP 0 l ≤ 1 ∧ runP 1 l ≤ 1
theorem QuietP.app {a b : List Nat} (h : QuietP a) (h' : QuietP b) : QuietP (a ++ b) := by
  have to : ∀ {s : Nat}, s ≤ 1 → runP s b ≤ 1 := by
    intro s hs
    rcases Nat.le_one_iff_eq_zero_or_eq_one.mp hs with rfl | rfl
    · exact h'.1
    · exact h'.2
  exact ⟨by rw [runP_app]; exact to h.1, by rw [runP_app]; exact to h.2⟩
theorem QuietP.no {l : List Nat} (h : QuietP l) : ¬ HasP l := fun q => by
  have := (runP_of l).1 q
  have := h.1
  omega
theorem runP_no (l : List Nat) (h : ∀ c ∈ l, c ≠ 112 ∧ c ≠ 116) : ∀ s, s ≤ 1 → runP s l ≤ 1 := by
  induction l with
  | nil => exact fun s hs => hs
  | cons c r ih =>
    intro s hs
    refine ih (fun d hd => h d (.tail _ hd)) (stP s c) ?_
    have := h c (.head _)
    unfold stP
    rw [if_neg (by omega), if_neg this.1, if_neg (by omega)]
    omega
theorem quietP_no {l : List Nat} (h : ∀ c ∈ l, c ≠ 112 ∧ c ≠ 116) : QuietP l := ⟨runP_no l h 0 (by decide), runP_no l h 1 (by decide)⟩
theorem quietP_hex (n : Int) : QuietP (tl (hexT n)) := quietP_no fun c hc => by have := hex_all n c hc; omega
/-! tokens -/
/-- what a name of a register is -/
abbrev NameB (x : Str) : Prop := Hi (tl x) ∧ x.length ≤ 8 ∧ 2 ≤ x.length ∧ 58 ∉ tl x ∧ 44 ∉ tl x ∧ Quiet (tl x) ∧ QuietP (tl x) ∧ ([Str.ofString "+", Str.ofString "-"].any fun y => y == x) = false ∧ has (S "0x") x = false ∧ has (S "*") x = false ∧ (x == S "beta") = false ∧ (x == S "") = false
theorem gpr_b (k : Nat) (h : k ≤ 15) : NameB (gprN (k : Int)) := (by decide +kernel : ∀ k : Nat, k ≤ 15 → NameB (gprN (k : Int))) k h
theorem rip_b : NameB (S "rip") := by decide +kernel
theorem gpr_rip (k : Nat) (h : k ≤ 15) : (gprN (k : Int) == S "rip") = false := (by decide +kernel : ∀ k : Nat, k ≤ 15 → (gprN (k : Int) == S "rip") = false) k h
/-- what an index with its scale is -/
abbrev IdxT (x t : Str) (n : Int) : Prop := Hi (tl (S "%" ++ x)).tail ∧ t.length ≤ 40 ∧ 2 ≤ t.length ∧ 32 ∉ tl t ∧ 58 ∉ tl t ∧ Quiet (tl t) ∧ QuietP (tl t) ∧ ([Str.ofString "+", Str.ofString "-"].any fun y => y == t) = false ∧ has (S "0x") t = false ∧ has (S "*") t = true ∧ 42 ∉ tl x ∧ 42 ∉ tl (scaleT n) ∧ 44 ∉ tl (scaleT n) ∧ PySem.intText? (scaleT n) = some n ∧ (scaleT n).length ≤ 2
abbrev IdxB (x : Str) (n : Int) : Prop := IdxT x ((x ++ S "*") ++ scaleT n) n
noncomputable def idxDec (x t : Str) (n : Int) : Decidable (IdxT x t n) := inferInstanceAs (Decidable (_ ∧ _))
theorem idx_b (k : Nat) (h : k ≤ 15) (n : Int) (hn : n = 1 ∨ n = 2 ∨ n = 4 ∨ n = 8) : IdxB (gprN (k : Int)) n := by
  rcases hn with rfl | rfl | rfl | rfl
  · exact @of_decide_eq_true (∀ k : Nat, k ≤ 15 → IdxB (gprN (k : Int)) 1) (@Nat.decidableBallLE 15 (fun k _ => IdxB (gprN (k : Int)) 1) fun k _ => idxDec _ _ _) (by kernel_rfl) k h
  · exact @of_decide_eq_true (∀ k : Nat, k ≤ 15 → IdxB (gprN (k : Int)) 2) (@Nat.decidableBallLE 15 (fun k _ => IdxB (gprN (k : Int)) 2) fun k _ => idxDec _ _ _) (by kernel_rfl) k h
  · exact @of_decide_eq_true (∀ k : Nat, k ≤ 15 → IdxB (gprN (k : Int)) 4) (@Nat.decidableBallLE 15 (fun k _ => IdxB (gprN (k : Int)) 4) fun k _ => idxDec _ _ _) (by kernel_rfl) k h
  · exact @of_decide_eq_true (∀ k : Nat, k ≤ 15 → IdxB (gprN (k : Int)) 8) (@Nat.decidableBallLE 15 (fun k _ => IdxB (gprN (k : Int)) 8) fun k _ => idxDec _ _ _) (by kernel_rfl) k h
theorem steps_app {c c' c'' : IS} {l l' : List Str} (h : StepsI c l c') (h' : StepsI c' l' c'') : StepsI c (l ++ l') c'' := by
  induction h with
  | nil => exact h'
  | cons a _ ih => exact .cons a (ih h')
/-- Intel's terms, one behind the other -/
structure XOk (q : Bool) (X : Str) (c c' : IS) : Prop where
  ts : ∃ ts : List Str, ts ≠ [] ∧ Str.join ⟨#[32]⟩ ts = X ∧ (∀ p ∈ ts, 32 ∉ tl p) ∧ StepsI c ts c'
  colon : 58 ∉ tl X
  pt : QuietP (tl X)
  len : 2 ≤ X.length
  quiet : q = true → Quiet (tl X)
theorem XOk.one {q : Bool} {t : Str} {c c' : IS} (h : StepI c t c') (h1 : 32 ∉ tl t) (h2 : 58 ∉ tl t) (h3 : QuietP (tl t)) (h4 : 2 ≤ t.length) (h5 : q = true → Quiet (tl t)) : XOk q t c c' :=
  ⟨⟨[t], by simp, rfl, fun p hp => by rw [List.mem_singleton.mp hp]; exact h1, .cons h .nil⟩, h2, h3, h4, h5⟩
theorem join_snoc (sep : Str) (t : Str) : ∀ l : List Str, l ≠ [] → Str.join sep (l ++ [t]) = Str.join sep l ++ (sep ++ t)
  | [], h => absurd rfl h
  | [a], _ => Str.append_assoc _ _ _
  | a :: b :: r, _ => by
    show a ++ sep ++ Str.join sep ((b :: r) ++ [t]) = (a ++ sep ++ Str.join sep (b :: r)) ++ (sep ++ t)
    rw [join_snoc sep t (b :: r) (by simp), Str.append_assoc (a ++ sep)]
theorem XOk.more {q : Bool} {X t m : Str} {a : Str} {c c' d c'' : IS} (h : XOk q X c c') (hm : m = S " " ++ (a ++ S " ")) (hs : StepI c' a d) (ha : 32 ∉ tl a) (ha2 : 58 ∉ tl m) (ha3 : QuietP (tl m)) (ha4 : Quiet (tl m)) (h0 : StepI d t c'') (h1 : 32 ∉ tl t) (h2 : 58 ∉ tl t) (h3 : QuietP (tl t)) (h5 : q = true → Quiet (tl t)) : XOk q ((X ++ m) ++ t) c c'' := by
  obtain ⟨⟨ts, e1, e2, e3, e4⟩, g2, g3, g4, g5⟩ := h
  refine ⟨⟨(ts ++ [a]) ++ [t], by simp, ?_, ?_, ?_⟩, ?_, ?_, ?_, ?_⟩
  · rw [join_snoc _ _ _ (by simp), join_snoc _ _ _ e1, e2, hm]
    show _ = X ++ (S " " ++ (a ++ S " ")) ++ t
    rw [show (⟨#[32]⟩ : Str) = S " " from by decide]
    simp only [Str.append_assoc]
  · intro p hp
    rcases List.mem_append.mp hp with hp | hp
    · rcases List.mem_append.mp hp with hp | hp
      · exact e3 p hp
      · rw [List.mem_singleton.mp hp]; exact ha
    · rw [List.mem_singleton.mp hp]; exact h1
  · exact steps_app (steps_app e4 (.cons hs .nil)) (.cons h0 .nil)
  · rw [tl_app, tl_app]
    intro q
    rcases List.mem_append.mp q with q | q
    · rcases List.mem_append.mp q with q | q
      · exact g2 q
      · exact ha2 q
    · exact h2 q
  · rw [tl_app, tl_app]; exact (g3.app ha3).app h3
  · rw [Str.length_append, Str.length_append]; omega
  · intro e
    rw [tl_app, tl_app]
    exact ((g5 e).app ha4).app (h5 e)
theorem XOk.plus {q : Bool} {X t : Str} {c c'' : IS} {a n b i k g} (h : XOk q X c ⟨a, n, b, i, k, g⟩) (h0 : StepI ⟨a, n, b, i, k, 1⟩ t c'') (h1 : 32 ∉ tl t) (h2 : 58 ∉ tl t) (h3 : QuietP (tl t)) (h5 : q = true → Quiet (tl t)) : XOk q ((X ++ S " + ") ++ t) c c'' :=
  h.more (a := S "+") (by decide) .plus (by decide) (by decide) (by decide) (by decide) h0 h1 h2 h3 h5
theorem XOk.minus {q : Bool} {X t : Str} {c c'' : IS} {a n b i k g} (h : XOk q X c ⟨a, n, b, i, k, g⟩) (h0 : StepI ⟨a, n, b, i, k, -1⟩ t c'') (h1 : 32 ∉ tl t) (h2 : 58 ∉ tl t) (h3 : QuietP (tl t)) (h5 : q = true → Quiet (tl t)) : XOk q ((X ++ S " - ") ++ t) c c'' :=
  h.more (a := S "-") (by decide) .minus (by decide) (by decide) (by decide) (by decide) h0 h1 h2 h3 h5
theorem has_hex (n : Int) : has (S "0x") (hexT n) = true := by
  refine (has_iff _ _).mpr ?_
  unfold hexT
  split
  · exact ⟨[45], tl (figT (-n)), by rw [tl_app]; rfl⟩
  · exact ⟨[], tl (figT n), by rw [tl_app]; rfl⟩
theorem pm_hex (n : Int) : ([Str.ofString "+", Str.ofString "-"].any fun y => y == hexT n) = false := by
  have h := hex_len3 n
  have e1 : (Str.ofString "+" == hexT n) = false := ne_str (fun q => by have := congrArg List.length q; rw [tl_len, tl_len, show (Str.ofString "+").length = 1 from by decide] at this; omega)
  have e2 : (Str.ofString "-" == hexT n) = false := ne_str (fun q => by have := congrArg List.length q; rw [tl_len, tl_len, show (Str.ofString "-").length = 1 from by decide] at this; omega)
  simp only [List.any_cons, List.any_nil, e1, e2, Bool.or_false]
theorem step_hex (n : Int) (h0 : -4294967296 < n) (h1 : n < 4294967296) {a b i k g} {m v : Int} (hg : g = 1 ∨ g = -1) (hv : v = g * n) : StepI ⟨a, m, b, i, k, g⟩ (hexT n) ⟨a, v, b, i, k, g⟩ := by
  rw [hv]
  exact .num (pm_hex n) (has_hex n) (by have := hexT_len n; omega) (lawNum_hex n h0 h1) hg
theorem hex32 (n : Int) : 32 ∉ tl (hexT n) := (hex_hi n).no (by decide)
theorem hex58 (n : Int) : 58 ∉ tl (hexT n) := fun m => by have := hex_all n 58 m; omega
theorem step_base {x : Str} (h : NameB x) : StepI ⟨S "", 0, S "", S "", 1, 1⟩ x ⟨S "", 0, x, S "", 1, 1⟩ := by
  obtain ⟨h1, h2, h3, h4, h5, h6, h7, h8, h9, h10, h11, h12⟩ := h
  have := StepI.base (a := S "") (n := 0) (b := S "") (i := S "") (k := 1) (g := 1) h8 h9 h10 h11 (by decide) (by omega)
  rw [show S "" ++ x = x from Str.empty_append x] at this
  exact this
theorem step_idx {a n b i k g} {x : Str} {z : Int} (h : IdxB x z) (hx : NameB x) : StepI ⟨a, n, b, i, k, g⟩ ((x ++ S "*") ++ scaleT z) ⟨a, n, b, x, z, g⟩ := by
  obtain ⟨h1, h2, h3, h4, h5, h6, h7, h8, h9, h10, h11, h12, h13, h14, h15⟩ := h
  refine .idx h8 h9 h10 h2 ?_ h14 (by omega)
  refine split_is (c := 42) (by simp) ?_ rfl
  intro p hp
  simp only [List.mem_cons, List.not_mem_nil, or_false] at hp
  rcases hp with rfl | rfl
  · exact h11
  · exact h12
theorem step_beta {a n b i k g} : StepI ⟨a, n, b, i, k, g⟩ (S "beta") ⟨S "beta", n, b, i, k, g⟩ := .beta (by decide +kernel) (by decide +kernel) (by decide +kernel) (by decide) (by decide)
theorem beta_b : 32 ∉ tl (S "beta") ∧ 58 ∉ tl (S "beta") ∧ QuietP (tl (S "beta")) ∧ 2 ≤ (S "beta").length ∧ Quiet (tl (S "beta")) := by decide +kernel
/-! the terms -/
theorem join1 (a : Str) : Txt.join (S " + ") [a] = a := rfl
theorem join2 (a b : Str) : Txt.join (S " + ") [a, b] = (a ++ S " + ") ++ b := rfl
theorem join3 (a b c : Str) : Txt.join (S " + ") [a, b, c] = (((a ++ S " + ") ++ b) ++ S " + ") ++ c := rfl
theorem NameB.no32 {x : Str} (h : NameB x) : 32 ∉ tl x := h.1.no (by decide)
theorem name_one {x : Str} (h : NameB x) : XOk true x ⟨S "", 0, S "", S "", 1, 1⟩ ⟨S "", 0, x, S "", 1, 1⟩ := .one (step_base h) h.no32 h.2.2.2.1 h.2.2.2.2.2.2.1 h.2.2.1 fun _ => h.2.2.2.2.2.1
section
variable {base index : Option (Str × Str)} {scale worth size : Int} {seg name : Str}
theorem terms_ok (G : GoodMem base index scale worth size seg name) (hne : termsOf base index scale name ≠ []) : XOk true (Txt.join (S " + ") (termsOf base index scale name)) ⟨S "", 0, S "", S "", 1, 1⟩ ⟨name, 0, regName base, regName index, scale, 1⟩ := by
  have hb : base = none ∨ ∃ x kd, base = some (x, kd) ∧ NameB x := by
    rcases G.b with h | ⟨k, hk, h⟩ | h
    · exact .inl h
    · exact .inr ⟨_, _, h, gpr_b k hk⟩
    · exact .inr ⟨_, _, h, rip_b⟩
  have hi : index = none ∨ ∃ x kd, index = some (x, kd) ∧ NameB x ∧ IdxB x scale := by
    rcases G.i with h | ⟨k, hk, h⟩
    · exact .inl h
    · exact .inr ⟨_, _, h, gpr_b k hk, idx_b k hk scale G.s⟩
  have hs := G.s1
  have B := beta_b
  rcases hb with rfl | ⟨x, kd, rfl, hx⟩ <;> rcases hi with rfl | ⟨y, kd', rfl, hy, hz⟩ <;> rcases G.n with rfl | rfl
  · exact absurd rfl hne
  · rw [hs rfl]
    exact .one step_beta B.1 B.2.1 B.2.2.1 B.2.2.2.1 fun _ => B.2.2.2.2
  · exact .one (step_idx hz hy) hz.2.2.2.1 hz.2.2.2.2.1 hz.2.2.2.2.2.2.1 hz.2.2.1 fun _ => hz.2.2.2.2.2.1
  · refine XOk.plus (c := ⟨S "", 0, S "", S "", 1, 1⟩) (X := (y ++ S "*") ++ scaleT scale) (.one (step_idx hz hy) hz.2.2.2.1 hz.2.2.2.2.1 hz.2.2.2.2.2.2.1 hz.2.2.1 fun _ => hz.2.2.2.2.2.1) step_beta B.1 B.2.1 B.2.2.1 fun _ => B.2.2.2.2
  · rw [hs rfl]
    exact name_one hx
  · rw [hs rfl]
    exact XOk.plus (X := x) (name_one hx) step_beta B.1 B.2.1 B.2.2.1 fun _ => B.2.2.2.2
  · exact XOk.plus (X := x) (name_one hx) (step_idx hz hy) hz.2.2.2.1 hz.2.2.2.2.1 hz.2.2.2.2.2.2.1 fun _ => hz.2.2.2.2.2.1
  · exact XOk.plus (X := (x ++ S " + ") ++ ((y ++ S "*") ++ scaleT scale)) (XOk.plus (X := x) (name_one hx) (step_idx hz hy) hz.2.2.2.1 hz.2.2.2.2.1 hz.2.2.2.2.2.2.1 fun _ => hz.2.2.2.2.2.1) step_beta B.1 B.2.1 B.2.2.1 fun _ => B.2.2.2.2
theorem bare_iff {worth : Int} {name : Str} : bareB worth name = true ↔ worth = 0 ∧ (name == S "") = true := by
  unfold bareB
  rw [Bool.and_eq_true, decide_eq_true_eq]
/-- the inside of the brackets -/
theorem inner_ok (G : GoodMem base index scale worth size seg name) :
    ∃ g, XOk (!needsI worth name (regName base) (regName index)) (innerT base index scale name worth) ⟨S "", 0, S "", S "", 1, 1⟩ ⟨name, worth, regName base, regName index, scale, g⟩ := by
  by_cases hne : termsOf base index scale name = []
  · have hb : base = none := by
      cases base with
      | none => rfl
      | some b => simp [termsOf] at hne
    have hi : index = none := by
      cases index with
      | none => rfl
      | some b => simp [termsOf] at hne
    have hn : name = S "" := by
      rcases G.n with h | h
      · exact h
      · subst h; simp [termsOf, show (S "beta" != S "") = true from by decide] at hne
    rw [← inner_nil hne]
    subst hb hi hn
    rw [G.s1 rfl]
    refine ⟨1, .one (step_hex worth G.w0 G.w1 (.inl rfl) (by omega)) (hex32 _) (hex58 _) (quietP_hex _) (by have := hex_len3 worth; omega) fun q => ?_⟩
    have hw : worth ≠ 0 := by
      intro e
      subst e
      revert q
      decide
    exact quiet_hex worth G.w0 G.w1 hw
  · have hT := terms_ok G hne
    generalize hl : termsOf base index scale name = l at hT hne
    by_cases hr : worth = 0 ∧ (name == S "") = true ∧ ∃ b ∈ base, (b.2 == S "rip") = true
    · rw [← inner_yes hl hne hr]
      obtain ⟨h0, h1, b, hb, hb2⟩ := hr
      subst h0
      have hbr : regName base = S "rip" := by
        rcases G.b with h | ⟨k, hk, h⟩ | h
        · rw [h] at hb; cases hb
        · rw [h] at hb
          cases hb
          exact absurd (show (S "gpr" == S "rip") = true from hb2) (by decide)
        · rw [h]; rfl
      have hq : needsI 0 name (regName base) (regName index) = true := by
        unfold needsI
        rw [bare_iff.mpr ⟨rfl, h1⟩, hbr]
        rfl
      rw [hq]
      refine ⟨1, ?_⟩
      have e : sumT (Txt.join (S " + ") l) 0 ++ S " + 0x0" = (Txt.join (S " + ") l ++ S " + ") ++ hexT 0 := by
        rw [Str.append_assoc, show S " + " ++ hexT 0 = S " + 0x0" from by decide +kernel]
        rfl
      rw [e]
      have hT' : XOk false (Txt.join (S " + ") l) ⟨S "", 0, S "", S "", 1, 1⟩ ⟨name, 0, regName base, regName index, scale, 1⟩ := ⟨hT.ts, hT.colon, hT.pt, hT.len, fun q => by cases q⟩
      exact hT'.plus (step_hex 0 (by decide) (by decide) (.inl rfl) (by decide)) (hex32 _) (hex58 _) (quietP_hex _) fun q => by cases q
    · rw [← inner_no hl hne hr]
      have hT' : XOk (!needsI worth name (regName base) (regName index)) (Txt.join (S " + ") l) ⟨S "", 0, S "", S "", 1, 1⟩ ⟨name, 0, regName base, regName index, scale, 1⟩ := ⟨hT.ts, hT.colon, hT.pt, hT.len, fun _ => hT.quiet rfl⟩
      unfold sumT
      split
      · rename_i h0
        subst h0
        exact ⟨1, hT'⟩
      · rename_i h0
        split
        · rename_i hn
          exact ⟨-1, hT'.minus (step_hex (-worth) (by have := G.w1; omega) (by have := G.w0; omega) (.inr rfl) (by omega)) (hex32 _) (hex58 _) (quietP_hex _) fun _ => quiet_hex _ (by have := G.w1; omega) (by have := G.w0; omega) (by omega)⟩
        · rename_i hn
          exact ⟨1, hT'.plus (step_hex worth G.w0 G.w1 (.inl rfl) (by omega)) (hex32 _) (hex58 _) (quietP_hex _) fun _ => quiet_hex _ G.w0 G.w1 h0⟩
/-- where the inside does hold 0x0 -/
theorem inner_needs (G : GoodMem base index scale worth size seg name) (h : needsI worth name (regName base) (regName index) = true) : ∃ a, innerT base index scale name worth = a ++ hexT 0 ∧ Quiet (tl a) := by
  unfold needsI at h
  rw [Bool.and_eq_true, bare_iff] at h
  obtain ⟨⟨h0, hn⟩, h2⟩ := h
  subst h0
  have hn' : name = S "" := eq_of_beq hn
  by_cases hne : termsOf base index scale name = []
  · exact ⟨S "", by rw [← inner_nil hne]; rfl, by decide⟩
  · have hb : base = some (S "rip", S "rip") := by
      rcases G.b with h | ⟨k, hk, h⟩ | h
      · exfalso
        subst h
        rcases G.i with h' | ⟨k, hk, h'⟩
        · subst h' hn'
          exact hne rfl
        · subst h'
          have := gpr_b k hk
          rcases Bool.or_eq_true _ _ |>.mp h2 with q | q
          · exact absurd q (by decide)
          · have q' : (gprN (k : Int) == S "") = true := by
              rw [show regName none ++ regName (some (gprN (k : Int), S "gpr")) = gprN (k : Int) from Str.empty_append _] at q
              exact q
            rw [this.2.2.2.2.2.2.2.2.2.2.2] at q'
            cases q'
      · exfalso
        subst h
        have hk' := gpr_b k hk
        rcases Bool.or_eq_true _ _ |>.mp h2 with q | q
        · rw [show regName (some (gprN (k : Int), S "gpr")) = gprN (k : Int) from rfl, gpr_rip k hk] at q
          cases q
        · have := congrArg (fun t => t.length) (eq_of_beq q)
          simp only [Str.length_append] at this
          have h3 := hk'.2.2.1
          have h4 : (regName (some (gprN (k : Int), S "gpr"))).length = (gprN (k : Int)).length := rfl
          rw [show (S "").length = 0 from by decide] at this
          omega
      · exact h
    have hT := terms_ok G hne
    refine ⟨Txt.join (S " + ") (termsOf base index scale name) ++ S " + ", ?_, ?_⟩
    · rw [← inner_yes rfl hne ⟨rfl, hn, (S "rip", S "rip"), by rw [hb]; rfl, by decide⟩]
      rw [Str.append_assoc, show S " + " ++ hexT 0 = S " + 0x0" from by decide +kernel]
      rfl
    · rw [tl_app]
      exact (hT.quiet rfl).app (by decide)
end
/-! Intel's text -/
/-- split at ' ptr ' -/
theorem split_ptr {wd y : Str} (hw : ∀ i : Nat, i < wd.length + 4 → (tl (wd ++ S " ptr "))[i + 1]? = some 112 → (tl (wd ++ S " ptr "))[i + 2]? = some 116 → i = wd.length) (hw2 : (tl (wd ++ S " ptr "))[wd.length + 4]? = some 32) (hy : ¬ HasP (tl y)) :
    Txt.split (wd ++ (S " ptr " ++ y)) (S " ptr ") = [wd, y] ∧ has (S " ptr ") (wd ++ (S " ptr " ++ y)) = true := by
  have hlp : (S " ptr ").length = 5 := by decide
  have hpat : tl (S " ptr ") = [32, 112, 116, 114, 32] := by decide
  generalize hX : wd ++ (S " ptr " ++ y) = x
  have hx : tl x = tl (wd ++ S " ptr ") ++ tl y := by rw [← hX, tl_app, tl_app, tl_app, List.append_assoc]
  have hx' : tl x = tl wd ++ (tl (S " ptr ") ++ tl y) := by rw [hx, tl_app, List.append_assoc]
  have hlen : x.length = wd.length + 5 + y.length := by rw [← hX, Str.length_append, Str.length_append, hlp]; omega
  have hlP : (tl (wd ++ S " ptr ")).length = wd.length + 5 := by rw [tl_len, Str.length_append, hlp]
  have hat : StrLaws.At x (S " ptr ") x.length wd.length := by
    refine ⟨by omega, ?_⟩
    rw [StrLaws.subAt_eq, show x.cps.toList = tl wd ++ (tl (S " ptr ") ++ tl y) from hx', ← tl_len wd, List.drop_left' rfl, List.take_left' (tl_len _)]
    exact beq_self_eq_true _
  have huniq : ∀ i, StrLaws.At x (S " ptr ") x.length i → i = wd.length := by
    rintro i ⟨h1, h2⟩
    rw [StrLaws.subAt_eq] at h2
    have h3 : (x.cps.toList.drop i).take 5 = [32, 112, 116, 114, 32] := by
      have := eq_of_beq h2
      rw [hlp] at this
      exact this.trans hpat
    have hq : ∃ r, (tl x).drop i = 32 :: 112 :: 116 :: 114 :: 32 :: r := ⟨((tl x).drop i).drop 5, by
      have := (List.take_append_drop 5 ((tl x).drop i)).symm
      rw [show ((tl x).drop i).take 5 = _ from h3] at this
      exact this⟩
    obtain ⟨r, hr⟩ := hq
    have g : ∀ j d, (32 :: 112 :: 116 :: 114 :: 32 :: r)[j]? = some d → (tl x)[i + j]? = some d := by
      intro j d e
      rw [← hr, List.getElem?_drop] at e
      exact e
    have e1 := g 1 112 rfl
    have e2 := g 2 116 rfl
    rw [hx] at e1 e2
    by_cases hi : i < wd.length + 3
    · rw [List.getElem?_append_left (by omega)] at e1 e2
      exact hw i (by omega) e1 e2
    · by_cases hi2 : i = wd.length + 3
      · exfalso
        subst hi2
        rw [List.getElem?_append_left (by omega)] at e1
        rw [hw2] at e1
        cases e1
      · exfalso
        apply hy
        rw [List.getElem?_append_right (by omega), hlP] at e1 e2
        have hj : i + 2 - (wd.length + 5) = (i + 1 - (wd.length + 5)) + 1 := by omega
        rw [hj] at e2
        generalize i + 1 - (wd.length + 5) = j at e1 e2
        obtain ⟨l1, q1⟩ := List.getElem?_eq_some_iff.mp e1
        obtain ⟨l2, q2⟩ := List.getElem?_eq_some_iff.mp e2
        refine ⟨(tl y).take j, (tl y).drop (j + 2), ?_⟩
        have s1 : (tl y).drop j = 112 :: (tl y).drop (j + 1) := by rw [← q1]; exact List.drop_eq_getElem_cons l1
        have s2 : (tl y).drop (j + 1) = 116 :: (tl y).drop (j + 2) := by rw [← q2]; exact List.drop_eq_getElem_cons l2
        have s3 := (List.take_append_drop j (tl y)).symm
        rw [s1, s2] at s3
        exact s3
  constructor
  · obtain ⟨f, hc, hf⟩ := StrLaws.occ_tight x (S " ptr ") (by rw [hlp]; decide)
    have hcuts : Builtin.Str.occurrences x (S " ptr ") 0 x.length (x.length + 1) = [wd.length] := by
      generalize Builtin.Str.occurrences x (S " ptr ") 0 x.length (x.length + 1) = cuts at hc
      cases cuts with
      | nil =>
        have e : f = 0 := hc
        exact absurd hat (hf _ (by omega))
      | cons c r =>
        have ec := huniq c hc.2.1
        have hc2 := hc.2.2.2
        cases r with
        | nil => rw [ec]
        | cons d r =>
          have ed := huniq d hc2.2.1
          have := hc2.1
          rw [hlp] at this
          omega
    unfold Txt.split
    rw [if_neg ?_, if_neg (by rw [hcuts]; simp), hcuts, StrLaws.partsBetween_eq]
    · show [Builtin.Str.strSub x 0 wd.length, Builtin.Str.strSub x (wd.length + (S " ptr ").length) x.length] = [wd, y]
      have p1 : Builtin.Str.strSub x 0 wd.length = wd := str_ext (by
        rw [show tl (Builtin.Str.strSub x 0 wd.length) = (x.cps.toList.drop 0).take (wd.length - 0) from StrLaws.strSub_toList _ _ _, List.drop_zero, show x.cps.toList = tl wd ++ (tl (S " ptr ") ++ tl y) from hx', List.take_left' (by rw [tl_len]; omega)])
      have p2 : Builtin.Str.strSub x (wd.length + (S " ptr ").length) x.length = y := str_ext (by
        rw [show tl (Builtin.Str.strSub x (wd.length + (S " ptr ").length) x.length) = (x.cps.toList.drop _).take _ from StrLaws.strSub_toList _ _ _, show x.cps.toList = tl (wd ++ S " ptr ") ++ tl y from hx, List.drop_left' (by rw [hlP, hlp]), List.take_of_length_le (by rw [tl_len]; omega)])
      rw [p1, p2]
    · intro q
      rcases Bool.or_eq_true _ _ |>.mp q with q | q
      · have := of_decide_eq_true q
        omega
      · have h1 := of_decide_eq_true q
        rw [show Builtin.Str.strKind (S " ptr ") = 1 from by decide +kernel] at h1
        unfold Builtin.Str.strKind at h1
        split at h1
        · omega
        · split at h1 <;> omega
  · exact (StrLaws.found_iff _ _).mpr ⟨wd.length, hat.1, hat.2⟩
/-- the text with its brackets -/
noncomputable def bracB (seg : Str) : Str := if (seg != S "") = true then (seg ++ S ":") ++ S "[" else S "["
theorem brac_is (seg I : Str) : bracT seg I = bracB seg ++ (I ++ S "]") := by
  unfold bracT bracB
  split
  · simp only [Str.append_assoc]
  · exact Str.append_assoc _ _ _
section
variable {base index : Option (Str × Str)} {scale worth size : Int} {seg name : Str}
theorem seg_ok {I : Str} (hg : seg = S "" ∨ seg = S "fs" ∨ seg = S "gs") (hc : 58 ∉ tl I) (hl : 2 ≤ I.length) : IntSeg (bracT seg I) (S "[" ++ (I ++ S "]")) seg := by
  rcases hg with rfl | rfl | rfl
  · have e : bracT (S "") I = S "[" ++ (I ++ S "]") := by rw [brac_is]; rfl
    rw [e]
    refine .no ?_
    have hlt : (tl (S "[" ++ (I ++ S "]"))).length = I.length + 2 := by rw [tl_len, Str.length_append, Str.length_append, show (S "[").length = 1 from by decide, show (S "]").length = 1 from by decide]; omega
    have hno : 58 ∉ tl (S "[" ++ (I ++ S "]")) := by
      rw [tl_app, tl_app]
      intro q
      rcases List.mem_append.mp q with q | q
      · exact absurd q (by decide)
      · rcases List.mem_append.mp q with q | q
        · exact hc q
        · exact absurd q (by decide)
    generalize S "[" ++ (I ++ S "]") = y at hlt hno
    have hq : ∃ a b c r, tl y = a :: b :: c :: r := by
      rcases hty : tl y with _ | ⟨a, _ | ⟨b, _ | ⟨c, r⟩⟩⟩
      · rw [hty] at hlt; simp at hlt
      · rw [hty] at hlt; simp at hlt <;> omega
      · rw [hty] at hlt; simp at hlt <;> omega
      · exact ⟨a, b, c, r, rfl⟩
    obtain ⟨a, b, c, r, e⟩ := hq
    have hs : y = (⟨#[a, b]⟩ : Str) ++ ((⟨#[c]⟩ : Str) ++ ⟨r.toArray⟩) := str_ext (by rw [tl_app, tl_app, e]; rfl)
    rw [sl_mid hs (by rfl) (by rfl)]
    refine ne_str fun q => ?_
    have q' : [c] = [58] := q
    apply hno
    rw [e, (List.cons.inj q').1]
    simp
  · have e : bracT (S "fs") I = S "fs" ++ (S ":" ++ (S "[" ++ (I ++ S "]"))) := by rw [brac_is, show bracB (S "fs") = S "fs" ++ (S ":" ++ S "[") from by decide]; simp only [Str.append_assoc]
    have h := IntSeg.yes (y := bracT (S "fs") I) (by rw [sl_mid e (by decide) (by decide)]; decide)
    rw [sl_to e (by decide), sl_from (a := S "fs" ++ S ":") (b := S "[" ++ (I ++ S "]")) (by rw [e, Str.append_assoc]) (by decide)] at h
    exact h
  · have e : bracT (S "gs") I = S "gs" ++ (S ":" ++ (S "[" ++ (I ++ S "]"))) := by rw [brac_is, show bracB (S "gs") = S "gs" ++ (S ":" ++ S "[") from by decide]; simp only [Str.append_assoc]
    have h := IntSeg.yes (y := bracT (S "gs") I) (by rw [sl_mid e (by decide) (by decide)]; decide)
    rw [sl_to e (by decide), sl_from (a := S "gs" ++ S ":") (b := S "[" ++ (I ++ S "]")) (by rw [e, Str.append_assoc]) (by decide)] at h
    exact h
theorem ptr_ok {y : Str} (hz : size = 0 ∨ size = 8 ∨ size = 16 ∨ size = 32 ∨ size = 64 ∨ size = 128) (hy : ¬ HasP (tl y)) : IntPtr (sizedT size y) y size := by
  have one : ∀ wd : Str, (∀ i : Nat, i < wd.length + 4 → (tl (wd ++ S " ptr "))[i + 1]? = some 112 → (tl (wd ++ S " ptr "))[i + 2]? = some 116 → i = wd.length) → (tl (wd ++ S " ptr "))[wd.length + 4]? = some 32 → ∀ sz : Int, (wd = S "byte" ∧ sz = 8 ∨ wd = S "word" ∧ sz = 16 ∨ wd = S "dword" ∧ sz = 32 ∨ wd = S "qword" ∧ sz = 64 ∨ wd = S "xmmword" ∧ sz = 128) → IntPtr ((wd ++ S " ptr ") ++ y) y sz := by
    intro wd h1 h2 sz h3
    obtain ⟨g1, g2⟩ := split_ptr h1 h2 hy
    rw [Str.append_assoc]
    exact .yes g2 g1 h3
  rcases hz with rfl | rfl | rfl | rfl | rfl | rfl
  · refine .no ?_
    cases e : has (S " ptr ") y with
    | false => exact e
    | true =>
      exfalso
      obtain ⟨a, b, h⟩ := (has_iff _ _).mp e
      exact hy ⟨a ++ [32], 114 :: 32 :: b, by rw [h, show tl (S " ptr ") = [32, 112, 116, 114, 32] from by decide]; simp⟩
  · exact one (S "byte") (by decide +kernel) (by decide) 8 (.inl ⟨rfl, rfl⟩)
  · exact one (S "word") (by decide +kernel) (by decide) 16 (.inr (.inl ⟨rfl, rfl⟩))
  · exact one (S "dword") (by decide +kernel) (by decide) 32 (.inr (.inr (.inl ⟨rfl, rfl⟩)))
  · exact one (S "qword") (by decide +kernel) (by decide) 64 (.inr (.inr (.inr (.inl ⟨rfl, rfl⟩))))
  · exact one (S "xmmword") (by decide +kernel) (by decide) 128 (.inr (.inr (.inr (.inr ⟨rfl, rfl⟩))))
/-- all that is read of Intel's text -/
theorem intel_ok (G : GoodMem base index scale worth size seg name) : ∃ (y z : Str) (ts : List Str) (g : Int), IntPtr (intelT seg name worth base index scale size) y size ∧ IntSeg y z seg ∧ Txt.split (Txt.slice z (some 1) (some (-1))) (S " ") = ts ∧ StepsI ⟨S "", 0, S "", S "", 1, 1⟩ ts ⟨name, worth, regName base, regName index, scale, g⟩ := by
  obtain ⟨g, ⟨ts, t1, t2, t3, t4⟩, hc, hp, hl, _⟩ := inner_ok G
  generalize hI : innerT base index scale name worth = I at t2 hc hp hl
  refine ⟨bracT seg I, S "[" ++ (I ++ S "]"), ts, g, ?_, seg_ok G.g hc hl, ?_, t4⟩
  · rw [intelT_is, hI]
    refine ptr_ok G.z (QuietP.no ?_)
    rw [brac_is, tl_app, tl_app]
    refine QuietP.app ?_ (hp.app (by decide))
    rcases G.g with rfl | rfl | rfl <;> decide
  · rw [sl_cut (a := S "[") (b := I) (c := S "]") rfl (by decide) (by decide)]
    exact split_is t1 t3 t2
theorem pre_quiet {X : Str} (hz : size = 0 ∨ size = 8 ∨ size = 16 ∨ size = 32 ∨ size = 64 ∨ size = 128) : ∃ a, sizedT size X = a ++ X ∧ Quiet (tl a) := by
  rcases hz with rfl | rfl | rfl | rfl | rfl | rfl
  · exact ⟨S "", (Str.empty_append X).symm, by decide⟩
  · exact ⟨S "byte" ++ S " ptr ", rfl, by decide⟩
  · exact ⟨S "word" ++ S " ptr ", rfl, by decide⟩
  · exact ⟨S "dword" ++ S " ptr ", rfl, by decide⟩
  · exact ⟨S "qword" ++ S " ptr ", rfl, by decide⟩
  · exact ⟨S "xmmword" ++ S " ptr ", rfl, by decide⟩
theorem intel_has (G : GoodMem base index scale worth size seg name) : has (S "0x0") (intelT seg name worth base index scale size) = needsI worth name (regName base) (regName index) := by
  rw [intelT_is]
  obtain ⟨a, ha, qa⟩ := pre_quiet (X := bracT seg (innerT base index scale name worth)) G.z
  rw [ha, brac_is]
  have qb : Quiet (tl (bracB seg)) := by rcases G.g with rfl | rfl | rfl <;> decide
  cases hN : needsI worth name (regName base) (regName index) with
  | false =>
    obtain ⟨g, hX⟩ := inner_ok G
    refine has0_no ?_
    rw [tl_app, tl_app, tl_app]
    exact qa.app (qb.app ((hX.quiet (by rw [hN]; rfl)).app (by decide)))
  | true =>
    obtain ⟨b, hb, qc⟩ := inner_needs G hN
    rw [hb]
    refine has0_yes ?_
    rw [tl_app, tl_app, tl_app, tl_app, show tl a ++ (tl (bracB seg) ++ (tl b ++ tl (hexT 0) ++ tl (S "]"))) = (tl a ++ (tl (bracB seg) ++ tl b)) ++ (tl (hexT 0) ++ tl (S "]")) from by simp]
    exact run_mid (qa.app (qb.app qc)) run_hex0
end
/-! AT&T's text -/
noncomputable def dispD (name : Str) (worth : Int) (base : Option (Str × Str)) : Str :=
  if (name != S "") = true then plusT name worth else if worth ≠ 0 then hexT worth else match base with | none => hexT worth | some (_, k) => if (k == S "rip") = true then hexT worth else S ""
noncomputable def tailT (base index : Option (Str × Str)) (scale : Int) : Str :=
  match base, index with
  | none, none => S ""
  | some b, none => S "(" ++ ((S "%" ++ b.1) ++ S ")")
  | none, some i => S "(" ++ ((S "" ++ (S "," ++ ((S "%" ++ i.1) ++ (S "," ++ scaleT scale)))) ++ S ")")
  | some b, some i => S "(" ++ (((S "%" ++ b.1) ++ (S "," ++ ((S "%" ++ i.1) ++ (S "," ++ scaleT scale)))) ++ S ")")
theorem app_none (x : Str) : x ++ S "" = x := Str.append_empty x
theorem none_app (x : Str) : S "" ++ x = x := Str.empty_append x
theorem disp_is (seg name : Str) (worth : Int) (base : Option (Str × Str)) : dispT seg name worth base = segT seg ++ dispD name worth base := by
  unfold dispT dispD
  split
  · rfl
  · split
    · rfl
    · cases base with
      | none => rfl
      | some b =>
        obtain ⟨x, k⟩ := b
        dsimp only
        split
        · rfl
        · exact (app_none _).symm
theorem att_is (seg name : Str) (worth : Int) (base index : Option (Str × Str)) (scale : Int) : attT seg name worth base index scale = segT seg ++ (dispD name worth base ++ tailT base index scale) := by
  have e1 : S ",%" = S "," ++ S "%" := by decide
  unfold attT tailT
  rcases base with _ | b <;> rcases index with _ | i <;> dsimp only <;> rw [disp_is]
  · rw [app_none]
  · rw [e1]; simp only [Str.append_assoc, none_app]
  · simp only [Str.append_assoc]
  · rw [e1]; simp only [Str.append_assoc]
section
variable {base index : Option (Str × Str)} {scale worth size : Int} {seg name : Str}
theorem hi_disp (hn : name = S "" ∨ name = S "beta") : Hi (tl (dispD name worth base)) := by
  have hb : Hi (tl name) := by rcases hn with rfl | rfl <;> decide
  unfold dispD
  split
  · exact plus_hi hb worth
  · split
    · exact hex_hi _
    · cases base with
      | none => exact hex_hi _
      | some b =>
        obtain ⟨x, k⟩ := b
        dsimp only
        split
        · exact hex_hi _
        · decide
theorem sum_disp (G : GoodMem base index scale worth size seg name) : lawSum (dispD name worth base) = (name, some worth) := by
  unfold dispD
  rcases G.n with h | h
  · subst h
    rw [if_neg (by decide)]
    split
    · exact sum_hex worth G.w0 G.w1
    · rename_i h0
      have h0' : worth = 0 := Decidable.not_not.mp h0
      subst h0'
      cases base with
      | none => exact sum_hex 0 (by decide) (by decide)
      | some b =>
        obtain ⟨x, k⟩ := b
        dsimp only
        split
        · exact sum_hex 0 (by decide) (by decide)
        · exact sum_nil (by decide)
  · subst h
    rw [if_pos (by decide)]
    exact sum_plusT name_beta worth G.w0 G.w1
theorem disp_len (G : GoodMem base index scale worth size seg name) : (dispD name worth base).length ≤ 30 := by
  have h1 := plusT_len name worth
  have h2 := hexT_len worth
  have h3 : name.length ≤ 4 := by rcases G.n with h | h <;> rw [h] <;> decide
  unfold dispD
  split
  · omega
  · split
    · omega
    · cases base with
      | none => dsimp only; omega
      | some b =>
        obtain ⟨x, k⟩ := b
        dsimp only
        split
        · omega
        · exact Nat.le_of_ble_eq_true rfl
/-- what AT&T's rest begins with -/
theorem first_ok (G : GoodMem base index scale worth size seg name) : ∃ c r, tl (dispD name worth base ++ tailT base index scale) = c :: r ∧ c ≠ 37 := by
  have hh := hi_disp (base := base) (worth := worth) G.n
  rw [tl_app]
  cases hd : tl (dispD name worth base) with
  | cons c r =>
    refine ⟨c, _, rfl, ?_⟩
    have := hh c (by rw [hd]; exact .head _)
    omega
  | nil =>
    rw [List.nil_append]
    rcases base with _ | b
    · exfalso
      have h1 : tl (dispD name worth none) ≠ [] := by
        intro q
        have q2 := congrArg List.length q
        have := hex_len3 worth
        unfold dispD at q2
        rcases G.n with h | h
        · subst h
          rw [if_neg (by decide)] at q2
          split at q2 <;> (rw [tl_len] at q2; simp at q2; omega)
        · subst h
          rw [if_pos (by decide)] at q2
          unfold plusT at q2
          split at q2
          · exact absurd q2 (by decide)
          · split at q2 <;> (simp only [tl_len, Str.length_append, List.length_nil] at q2; omega)
      exact h1 hd
    · rcases index with _ | i
      · exact ⟨40, _, by unfold tailT; rw [tl_app]; rfl, by decide⟩
      · exact ⟨40, _, by unfold tailT; rw [tl_app]; rfl, by decide⟩
theorem attSeg_ok {y : Str} {c : Nat} {r : List Nat} (hg : seg = S "" ∨ seg = S "fs" ∨ seg = S "gs") (h : tl y = c :: r) (hc : c ≠ 37) : AttSeg (segT seg ++ y) y seg := by
  rcases hg with rfl | rfl | rfl
  · have e : segT (S "") ++ y = y := none_app y
    rw [e]
    refine .no ?_
    have hy : y = (⟨#[c]⟩ : Str) ++ ⟨r.toArray⟩ := str_ext (by rw [tl_app, h]; rfl)
    rw [sl_to hy (by rfl)]
    exact ne_str fun q => hc (List.cons.inj (show [c] = [37] from q)).1
  · have e : segT (S "fs") ++ y = S "%" ++ (S "fs" ++ (S ":" ++ y)) := by rw [show segT (S "fs") = S "%" ++ (S "fs" ++ S ":") from by decide +kernel]; simp only [Str.append_assoc]
    generalize segT (S "fs") ++ y = x at e
    have h := AttSeg.yes (x := x) (by rw [sl_to e (by decide)]; decide) (by rw [sl_mid (a := S "%" ++ S "fs") (b := S ":") (c := y) (by rw [e]; simp only [Str.append_assoc]) (by decide) (by decide)]; decide)
    rw [sl_mid e (by decide) (by decide), sl_from (a := S "%" ++ (S "fs" ++ S ":")) (b := y) (by rw [e]; simp only [Str.append_assoc]) (by decide)] at h
    exact h
  · have e : segT (S "gs") ++ y = S "%" ++ (S "gs" ++ (S ":" ++ y)) := by rw [show segT (S "gs") = S "%" ++ (S "gs" ++ S ":") from by decide +kernel]; simp only [Str.append_assoc]
    generalize segT (S "gs") ++ y = x at e
    have h := AttSeg.yes (x := x) (by rw [sl_to e (by decide)]; decide) (by rw [sl_mid (a := S "%" ++ S "gs") (b := S ":") (c := y) (by rw [e]; simp only [Str.append_assoc]) (by decide) (by decide)]; decide)
    rw [sl_mid e (by decide) (by decide), sl_from (a := S "%" ++ (S "gs" ++ S ":")) (b := y) (by rw [e]; simp only [Str.append_assoc]) (by decide)] at h
    exact h
theorem paren_ok {d mid : Str} (hd : Hi (tl d)) : (Txt.slice (d ++ (S "(" ++ (mid ++ S ")"))) (some (-1)) none != S ")") = false ∧ Txt.find (d ++ (S "(" ++ (mid ++ S ")"))) (S "(") = (d.length : Int) ∧ Txt.slice (d ++ (S "(" ++ (mid ++ S ")"))) (some ((d.length : Int) + 1)) (some (-1)) = mid ∧ Txt.slice (d ++ (S "(" ++ (mid ++ S ")"))) none (some (d.length : Int)) = d := by
  refine ⟨?_, ?_, ?_, sl_to rfl rfl⟩
  · rw [sl_last (a := d ++ (S "(" ++ mid)) (b := S ")") (by simp only [Str.append_assoc]) (by decide)]
    decide
  · exact find_one (a := d) (b := mid ++ S ")") (c := 40) rfl (hd.no (by decide))
  · exact sl_cut (a := d ++ S "(") (b := mid) (c := S ")") (by simp only [Str.append_assoc]) (by rw [Str.length_append, show (S "(").length = 1 from by decide]; omega) (by decide)
theorem pct_from (x : Str) : Txt.slice (S "%" ++ x) (some 1) none = x := sl_from rfl (by decide)
theorem pct_free {x : Str} (h : 44 ∉ tl x) : 44 ∉ tl (S "%" ++ x) := by
  rw [tl_app]
  intro q
  rcases List.mem_append.mp q with q | q
  · exact absurd q (by decide)
  · exact h q
theorem regB (hb : GoodB base) : base = none ∨ ∃ x kd, base = some (x, kd) ∧ NameB x := by
  rcases hb with h | ⟨k, hk, h⟩ | h
  · exact .inl h
  · exact .inr ⟨_, _, h, gpr_b k hk⟩
  · exact .inr ⟨_, _, h, rip_b⟩
theorem regI (hi : GoodI index) (hs : scale = 1 ∨ scale = 2 ∨ scale = 4 ∨ scale = 8) : index = none ∨ ∃ x kd, index = some (x, kd) ∧ NameB x ∧ IdxB x scale := by
  rcases hi with h | ⟨k, hk, h⟩
  · exact .inl h
  · exact .inr ⟨_, _, h, gpr_b k hk, idx_b k hk scale hs⟩
theorem attRest_ok (G : GoodMem base index scale worth size seg name) : AttRest (dispD name worth base ++ tailT base index scale) name worth (regName base) (regName index) scale := by
  have hh := hi_disp (base := base) (worth := worth) G.n
  have hl := disp_len G
  have hsum := sum_disp G
  have hs := G.s1
  have hf := first_ok G
  rcases regB G.b with rfl | ⟨x, kd, rfl, hx⟩ <;> rcases regI G.i G.s with rfl | ⟨y, kd', rfl, hy, hz⟩
  · rw [show tailT none none scale = S "" from rfl, app_none] at hf ⊢
    rw [hs rfl]
    obtain ⟨c, r, e, _⟩ := hf
    exact .plain (last_ne hh (by rw [e]; simp)) (by omega) hsum
  · generalize dispD name worth none = d at hh hl hsum
    obtain ⟨p1, p2, p3, p4⟩ := paren_ok (mid := S "" ++ (S "," ++ ((S "%" ++ y) ++ (S "," ++ scaleT scale)))) hh
    have hsp : Txt.split (S "" ++ (S "," ++ ((S "%" ++ y) ++ (S "," ++ scaleT scale)))) (S ",") = [S "", S "%" ++ y, scaleT scale] := by
      refine split_is (c := 44) (by simp) ?_ (by show S "" ++ ⟨#[44]⟩ ++ ((S "%" ++ y) ++ ⟨#[44]⟩ ++ scaleT scale) = _; rw [show (⟨#[44]⟩ : Str) = S "," from by decide]; simp only [Str.append_assoc])
      intro p hp
      simp only [List.mem_cons, List.not_mem_nil, or_false] at hp
      rcases hp with rfl | rfl | rfl
      · decide
      · exact pct_free hy.2.2.2.2.1
      · exact hz.2.2.2.2.2.2.2.2.2.2.2.2.1
    have h := AttRest.index (y := d ++ (S "(" ++ ((S "" ++ (S "," ++ ((S "%" ++ y) ++ (S "," ++ scaleT scale)))) ++ S ")"))) p1 (by rw [p2]; omega) (by rw [p2]; omega) (by rw [p2, p3]; exact hsp) (by decide) (by rw [Str.length_append, show (S "%").length = 1 from by decide]; have := hy.2.1; omega) (by have := hz.2.2.2.2.2.2.2.2.2.2.2.2.2.2; omega) hz.2.2.2.2.2.2.2.2.2.2.2.2.2.1 (by rw [p2, p4]; exact hsum) (by rw [p2, p4]; omega)
    rw [pct_from, show Txt.slice (S "") (some 1) none = S "" from by decide +kernel] at h
    exact h
  · rw [hs rfl]
    generalize dispD name worth (some (x, kd)) = d at hh hl hsum
    obtain ⟨p1, p2, p3, p4⟩ := paren_ok (mid := S "%" ++ x) hh
    have hsp : Txt.split (S "%" ++ x) (S ",") = [S "%" ++ x] := split_is (c := 44) (by simp) (fun p hp => by rw [List.mem_singleton.mp hp]; exact pct_free hx.2.2.2.2.1) rfl
    have h := AttRest.base (y := d ++ (S "(" ++ ((S "%" ++ x) ++ S ")"))) p1 (by rw [p2]; omega) (by rw [p2]; omega) (by rw [p2, p3]; exact hsp) (by rw [Str.length_append, show (S "%").length = 1 from by decide]; have := hx.2.1; omega) (by rw [p2, p4]; exact hsum) (by rw [p2, p4]; omega)
    rw [pct_from] at h
    exact h
  · generalize dispD name worth (some (x, kd)) = d at hh hl hsum
    obtain ⟨p1, p2, p3, p4⟩ := paren_ok (mid := (S "%" ++ x) ++ (S "," ++ ((S "%" ++ y) ++ (S "," ++ scaleT scale)))) hh
    have hsp : Txt.split ((S "%" ++ x) ++ (S "," ++ ((S "%" ++ y) ++ (S "," ++ scaleT scale)))) (S ",") = [S "%" ++ x, S "%" ++ y, scaleT scale] := by
      refine split_is (c := 44) (by simp) ?_ (by show (S "%" ++ x) ++ ⟨#[44]⟩ ++ ((S "%" ++ y) ++ ⟨#[44]⟩ ++ scaleT scale) = _; rw [show (⟨#[44]⟩ : Str) = S "," from by decide]; simp only [Str.append_assoc])
      intro p hp
      simp only [List.mem_cons, List.not_mem_nil, or_false] at hp
      rcases hp with rfl | rfl | rfl
      · exact pct_free hx.2.2.2.2.1
      · exact pct_free hy.2.2.2.2.1
      · exact hz.2.2.2.2.2.2.2.2.2.2.2.2.1
    have h := AttRest.index (y := d ++ (S "(" ++ (((S "%" ++ x) ++ (S "," ++ ((S "%" ++ y) ++ (S "," ++ scaleT scale)))) ++ S ")"))) p1 (by rw [p2]; omega) (by rw [p2]; omega) (by rw [p2, p3]; exact hsp) (by rw [Str.length_append, show (S "%").length = 1 from by decide]; have := hx.2.1; omega) (by rw [Str.length_append, show (S "%").length = 1 from by decide]; have := hy.2.1; omega) (by have := hz.2.2.2.2.2.2.2.2.2.2.2.2.2.2; omega) hz.2.2.2.2.2.2.2.2.2.2.2.2.2.1 (by rw [p2, p4]; exact hsum) (by rw [p2, p4]; omega)
    rw [pct_from, pct_from] at h
    exact h
theorem att_ok (G : GoodMem base index scale worth size seg name) : ∃ y, AttSeg (attT seg name worth base index scale) y seg ∧ AttRest y name worth (regName base) (regName index) scale := by
  obtain ⟨c, r, e, hc⟩ := first_ok G
  exact ⟨_, by rw [att_is]; exact attSeg_ok G.g e hc, attRest_ok G⟩
end
section
variable {base index : Option (Str × Str)} {scale worth size : Int} {seg name : Str}
theorem tail_quiet (hb : GoodB base) (hi : GoodI index) (hs : scale = 1 ∨ scale = 2 ∨ scale = 4 ∨ scale = 8) : Quiet (tl (tailT base index scale)) := by
  have hq : Quiet (tl (scaleT scale)) := by rcases hs with rfl | rfl | rfl | rfl <;> decide +kernel
  rcases regB hb with rfl | ⟨x, kd, rfl, hx⟩ <;> rcases regI hi hs with rfl | ⟨y, kd', rfl, hy, hz⟩ <;> unfold tailT <;> dsimp only
  · decide
  · have h1 := hy.2.2.2.2.2.1
    simp only [tl_app]
    exact Quiet.app (by decide) (Quiet.app (Quiet.app (by decide) (Quiet.app (by decide) (Quiet.app (Quiet.app (by decide) h1) (Quiet.app (by decide) hq)))) (by decide))
  · have h1 := hx.2.2.2.2.2.1
    simp only [tl_app]
    exact Quiet.app (by decide) (Quiet.app (Quiet.app (by decide) h1) (by decide))
  · have h1 := hx.2.2.2.2.2.1
    have h2 := hy.2.2.2.2.2.1
    simp only [tl_app]
    exact Quiet.app (by decide) (Quiet.app (Quiet.app (Quiet.app (by decide) h1) (Quiet.app (by decide) (Quiet.app (Quiet.app (by decide) h2) (Quiet.app (by decide) hq)))) (by decide))
theorem tail_no32 (hb : GoodB base) (hi : GoodI index) (hs : scale = 1 ∨ scale = 2 ∨ scale = 4 ∨ scale = 8) : 32 ∉ tl (tailT base index scale) := by
  have hq : 32 ∉ tl (scaleT scale) := by rcases hs with rfl | rfl | rfl | rfl <;> decide +kernel
  rcases regB hb with rfl | ⟨x, kd, rfl, hx⟩ <;> rcases regI hi hs with rfl | ⟨y, kd', rfl, hy, hz⟩ <;> unfold tailT <;> dsimp only
  · decide
  · have h1 := hy.no32
    simp only [tl_app, List.mem_append, not_or]
    exact ⟨by decide, ⟨by decide, by decide, ⟨by decide, h1⟩, by decide, hq⟩, by decide⟩
  · have h1 := hx.no32
    simp only [tl_app, List.mem_append, not_or]
    exact ⟨by decide, ⟨by decide, h1⟩, by decide⟩
  · have h1 := hx.no32
    have h2 := hy.no32
    simp only [tl_app, List.mem_append, not_or]
    exact ⟨by decide, ⟨⟨by decide, h1⟩, by decide, ⟨by decide, h2⟩, by decide, hq⟩, by decide⟩
theorem att_sp (G : GoodMem base index scale worth size seg name) : has (S " ") (attT seg name worth base index scale) = false := by
  have h : 32 ∉ tl (attT seg name worth base index scale) := by
    rw [att_is, tl_app, tl_app]
    intro q
    rcases List.mem_append.mp q with q | q
    · revert q
      rcases G.g with rfl | rfl | rfl <;> decide +kernel
    · rcases List.mem_append.mp q with q | q
      · exact (hi_disp (base := base) (worth := worth) G.n).no (by decide) q
      · exact tail_no32 G.b G.i G.s q
  show (!(Builtin.Str.occurrences _ (⟨#[32]⟩ : Str) 0 _ 1).isEmpty) = false
  rw [has_one, decide_eq_false h]
theorem needsA_gpr {k : Nat} (hk : k ≤ 15) : needsA worth name (gprN (k : Int)) = false := by
  have h1 := gpr_rip k hk
  have h2 := (gpr_b k hk).2.2.2.2.2.2.2.2.2.2.2
  have e1 : (Str.ofString "" == gprN (k : Int)) = false := by rw [Bool.beq_comm]; exact h2
  have e2 : (Str.ofString "rip" == gprN (k : Int)) = false := by rw [Bool.beq_comm]; exact h1
  unfold needsA
  simp only [List.any_cons, List.any_nil, e1, e2, Bool.or_false, Bool.and_false]
theorem att_has (G : GoodMem base index scale worth size seg name) : has (S "0x0") (attT seg name worth base index scale) = needsA worth name (regName base) := by
  have ht := tail_quiet (base := base) (index := index) (scale := scale) G.b G.i G.s
  have hg : Quiet (tl (segT seg)) := by rcases G.g with rfl | rfl | rfl <;> decide +kernel
  rw [att_is]
  have no : Quiet (tl (dispD name worth base)) → needsA worth name (regName base) = false → has (S "0x0") (segT seg ++ (dispD name worth base ++ tailT base index scale)) = needsA worth name (regName base) := by
    intro h1 h2
    rw [h2]
    refine has0_no ?_
    rw [tl_app, tl_app]
    exact hg.app (h1.app ht)
  have yes : dispD name worth base = hexT 0 → needsA worth name (regName base) = true → has (S "0x0") (segT seg ++ (dispD name worth base ++ tailT base index scale)) = needsA worth name (regName base) := by
    intro h1 h2
    rw [h1, h2]
    refine has0_yes ?_
    rw [tl_app, tl_app]
    exact run_mid hg run_hex0
  by_cases hb : bareB worth name = true
  · obtain ⟨h0, h1⟩ := bare_iff.mp hb
    subst h0
    have h1' := eq_of_beq h1
    subst h1'
    rcases G.b with rfl | ⟨k, hk, rfl⟩ | rfl
    · exact yes rfl (by decide +kernel)
    · exact no (by unfold dispD; rw [if_neg (by decide), if_neg (by decide)]; dsimp only; rw [if_neg (by decide)]; decide) (needsA_gpr hk)
    · exact yes rfl (by decide +kernel)
  · have hq : needsA worth name (regName base) = false := by
      unfold needsA
      rw [(Bool.not_eq_true _).mp hb]
      rfl
    refine no ?_ hq
    unfold dispD
    rcases G.n with rfl | rfl
    · rw [if_neg (by decide)]
      have h0 : worth ≠ 0 := fun e => hb (bare_iff.mpr ⟨e, by decide⟩)
      rw [if_pos h0]
      exact quiet_hex worth G.w0 G.w1 h0
    · rw [if_pos (by decide)]
      unfold plusT
      split
      · decide
      · rename_i h0
        split
        · rw [tl_app]
          exact Quiet.app (by decide) (quiet_hex worth G.w0 G.w1 h0)
        · rw [tl_app, tl_app]
          exact Quiet.app (Quiet.app (by decide) (by decide)) (quiet_hex worth G.w0 G.w1 h0)
end
/-! ### a memory operand is told -/
section
variable {base index : Option (Str × Str)} {scale worth size : Int} {seg name : Str}
theorem good_lens (G : GoodMem base index scale worth size seg name) : (∀ b ∈ base, b.1.length ≤ 10) ∧ (∀ b ∈ index, b.1.length ≤ 10) ∧ (regName base).length ≤ 10 ∧ (regName index).length ≤ 10 ∧ seg.length ≤ 10 ∧ name.length ≤ 10 ∧ 0 ≤ scale ∧ scale ≤ 15 := by
  have h1 := regB G.b
  have h2 := regI G.i G.s
  have h3 : 0 ≤ scale ∧ scale ≤ 15 := by have := G.s; omega
  refine ⟨?_, ?_, ?_, ?_, ?_, ?_, h3.1, h3.2⟩
  · rcases h1 with rfl | ⟨x, kd, rfl, hx⟩
    · intro b hb; cases hb
    · intro b hb; cases hb; have := hx.2.1; exact Nat.le_trans this (by decide)
  · rcases h2 with rfl | ⟨x, kd, rfl, hx, _⟩
    · intro b hb; cases hb
    · intro b hb; cases hb; have := hx.2.1; exact Nat.le_trans this (by decide)
  · rcases h1 with rfl | ⟨x, kd, rfl, hx⟩
    · decide
    · exact Nat.le_trans hx.2.1 (by decide)
  · rcases h2 with rfl | ⟨x, kd, rfl, hx, _⟩
    · decide
    · exact Nat.le_trans hx.2.1 (by decide)
  · rcases G.g with rfl | rfl | rfl <;> decide
  · rcases G.n with rfl | rfl <;> decide
theorem reg_strOk (hb : GoodB base) : PyData.strOk (regName base) = true := by
  rcases hb with rfl | ⟨k, hk, rfl⟩ | rfl
  · decide +kernel
  · exact (by decide +kernel : ∀ k : Nat, k ≤ 15 → PyData.strOk (gprN (k : Int)) = true) k hk
  · decide +kernel
theorem good_strOk (G : GoodMem base index scale worth size seg name) : PyData.strOk name = true ∧ PyData.strOk (regName base) = true ∧ PyData.strOk (regName index) = true ∧ PyData.strOk seg = true := by
  refine ⟨?_, reg_strOk G.b, reg_strOk ?_, ?_⟩
  · rcases G.n with rfl | rfl <;> decide +kernel
  · rcases G.i with h | h
    · exact .inl h
    · exact .inr (.inl h)
  · rcases G.g with rfl | rfl | rfl <;> decide +kernel
theorem attSeg_len {x y g : Str} (h : AttSeg x y g) : y.length ≤ x.length := by
  cases h with
  | yes _ _ => exact Txt.slice_le _ _ _
  | no _ => exact Nat.le_refl _
theorem intSeg_len {x y g : Str} (h : IntSeg x y g) : y.length ≤ x.length := by
  cases h with
  | yes _ => exact Txt.slice_le _ _ _
  | no _ => exact Nat.le_refl _
theorem intPtr_len {x y : Str} {z : Int} (h : IntPtr x y z) : y.length ≤ x.length := by
  cases h with
  | no _ => exact Nat.le_refl _
  | @yes wd _ _ _ h2 _ =>
    have := StrLaws.join_split x (S " ptr ")
    rw [h2] at this
    have h := congrArg PySem.Str.length this
    rw [show Str.join (S " ptr ") [wd, y] = wd ++ S " ptr " ++ y from rfl, Str.length_append, Str.length_append] at h
    omega
theorem memory_told_c (w : World) (x : Addr) (G : GoodMem base index scale worth size seg name) : Read w 6 509 [.ref x] (MemAt w.params x base index scale worth size seg name) (fun _ => .bool true) := by
  obtain ⟨l1, l2, l3, l4, l5, l6, l7, l8⟩ := good_lens G
  have la := attT_len seg name worth base index scale l5 l6 l1 l2 l7 l8
  have li := intelT_len (worth := worth) (size := size) l7 l8 l5 l6 l1 l2
  obtain ⟨y, a1, a2⟩ := att_ok G
  obtain ⟨y', z, ts, g, i1, i2, i3, i4⟩ := intel_ok G
  have ly' : y'.length ≤ 200 := Nat.le_trans (intPtr_len i1) li
  have lz : z.length ≤ 200 := Nat.le_trans (intSeg_len i2) ly'
  have hA := att_has G
  have hI := intel_has G
  refine memory_told_walk (A := attT seg name worth base index scale) (I := intelT seg name worth base index scale size)
    (att_mem_c w x base index scale worth size seg name G.w0 G.w1 l7 l8 l5 l6 l1 l2) (int_mem_c w x base index scale worth size seg name G.w0 G.w1 l7 l8 l5 l6 l1 l2)
    ⟨fun u => law_att_c w _ y seg name _ _ worth scale u la a1 a2 (Nat.le_trans (attSeg_len a1) la)⟩ ⟨fun u => law_intel_c w _ y' z seg size ts _ u li i1 ly' i2 lz i3 i4⟩
    (by omega) li l6 l3 l4 hA hI (att_sp G) (by rw [hA]; cases needsA worth name (regName base) <;> rfl) (by rw [hI]; cases needsI worth name (regName base) (regName index) <;> rfl) (good_strOk G)
end

/-! ### rolling a memory operand -/
/-- the dice among the made things -/
noncomputable def Led (P : Params) (d c : Addr) (vs : List Value) (ce : Nat) (h₀ : Heap) (L : Addr) (h : Heap) (n : Int) (mk : List (Addr × Obj)) : Prop :=
  ∃ (tn : Tok) (e : Nat), News h₀ L h ((d, diceO n tn c e) :: (c, listOf vs.toArray ce) :: mk) ∧ ∀ p ∈ mk, p.1 ≠ d
section
variable {P : Params} {d c : Addr} {vs : List Value} {ce : Nat} {h₀ h : Heap} {L : Addr} {n : Int} {mk big : List (Addr × Obj)} {tn : Tok} {e : Nat}
theorem led_of (N : News h₀ L h big) (hd : (d, diceO n tn c e) ∈ big) (hc : (c, listOf vs.toArray ce) ∈ big) (hs : ∀ p ∈ mk, p ∈ big) (hm : ∀ p ∈ mk, p.1 ≠ d) :
    ∃ mk', Led P d c vs ce h₀ L h n mk' ∧ (∀ p ∈ mk, p ∈ mk') ∧ ∀ p ∈ big, p.2.cls ≠ .type "list" → p ∈ mk' := by
  refine ⟨big.filter fun p => decide (p.1 ≠ d), ⟨tn, e, ?_, ?_⟩, ?_, ?_⟩
  · intro p hp
    rcases List.mem_cons.mp hp with rfl | hp
    · exact N _ hd
    · rcases List.mem_cons.mp hp with rfl | hp
      · exact N _ hc
      · exact N _ (List.mem_filter.mp hp).1
  · intro p hp
    exact of_decide_eq_true (List.mem_filter.mp hp).2
  · intro p hp
    exact List.mem_filter.mpr ⟨hs p hp, decide_eq_true (hm p hp)⟩
  · intro p hp hcl
    refine List.mem_filter.mpr ⟨hp, decide_eq_true fun q => hcl ?_⟩
    have h1 := (N _ hd).1
    have h2 := (N _ hp).1
    rw [q] at h2
    have h3 : diceO n tn c e = p.2 := Option.some.inj (h1.symm.trans h2)
    rw [← h3]
end
/-- behind the base's statement -/
noncomputable def J1 (P : Params) (d c : Addr) (vs : List Value) (ce : Nat) (h₀ : Heap) (L : Addr) (m : Str → Option Value) (rest : List (Addr × Obj)) (n : Int) (s : Shared) (fl : Flow) (s' : Shared) : Prop :=
  fl = .next ∧ ∃ (h' : Heap) (tk' : Nat) (bv : Value) (bo : Option (Str × Str)) (mk : List (Addr × Obj)) (n' : Int), s' = { s with heap := h', toks := tk' } ∧ Fr h₀ L h' (fun y => if y = S "base" then some bv else m y) ∧ Led P d c vs ce h₀ L h' n' mk ∧ (∀ p ∈ rest, p ∈ mk) ∧ n ≤ n' ∧ n' ≤ n + 3 ∧ GoodB bo ∧ RegAt P mk bv bo
section
variable {M : Model} {A : Around} {E : Value → Shared → Prop} {s : Shared} {env : Env} {st : Stmt} {ss : List Stmt} {Q : Flow → Shared → Prop} {J : Flow → Shared → Prop}
theorem cut_base {P : Params} {d c : Addr} {vs : List Value} {ce : Nat} {h₀ : Heap} {L : Addr} {m : Str → Option Value} (rest : List (Addr × Obj)) (n : Int) (_F : Fr h₀ L s.heap m) (h1 : wpAny M A (exec st env) (J1 P d c vs ce h₀ L m rest n s) E s)
    (h2 : ∀ (h' : Heap) (tk' : Nat) (bv : Value) (bo : Option (Str × Str)) (mk : List (Addr × Obj)) (n' : Int) (tn : Tok) (e : Nat), Fr h₀ L h' (fun y => if y = S "base" then some bv else m y) → News h₀ L h' ((d, diceO n' tn c e) :: (c, listOf vs.toArray ce) :: mk) → (∀ p ∈ mk, p.1 ≠ d) → (∀ p ∈ rest, p ∈ mk) → n ≤ n' → n' ≤ n + 3 → GoodB bo → RegAt P mk bv bo → wpAny M A (execs ss env) Q E { s with heap := h', toks := tk' }) : wpAny M A (execs (st :: ss) env) Q E s := by
  refine wpAny_execs_cons (wpAny_mono h1 (fun fl s' hh => ?_) fun _ _ h => h)
  obtain ⟨rfl, h', tk', bv, bo, mk, n', rfl, F, ⟨tn, e, N, hm⟩, hs, a1, a2, g, r⟩ := hh
  exact h2 h' tk' bv bo mk n' tn e F N hm hs a1 a2 g r
theorem base_end {P : Params} {d c : Addr} {vs : List Value} {ce : Nat} {h₀ h' : Heap} {L : Addr} {m m' : Str → Option Value} {rest big : List (Addr × Obj)} {n n' : Int} {tk' : Nat} {bv : Value} {bo : Option (Str × Str)} {tn : Tok} {e : Nat}
    (F : Fr h₀ L h' m') (N : News h₀ L h' big) (hx : m' (S "base") = some bv) (hr : ∀ k, k ≠ S "base" → m' k = m k) (hd : (d, diceO n' tn c e) ∈ big) (hc : (c, listOf vs.toArray ce) ∈ big) (hs : ∀ p ∈ rest, p ∈ big) (hm : ∀ p ∈ rest, p.1 ≠ d) (a1 : n ≤ n') (a2 : n' ≤ n + 3) (g : GoodB bo) (r : RegAt P big bv bo) :
    J1 P d c vs ce h₀ L m rest n s .next { s with heap := h', toks := tk' } := by
  obtain ⟨mk, hl, k1, k2⟩ := led_of N hd hc hs hm
  refine ⟨rfl, h', tk', bv, bo, mk, n', rfl, ?_, hl, k1, a1, a2, g, regAt_sub r k2⟩
  have em : (fun y => if y = S "base" then some bv else m y) = m' := by
    funext k
    by_cases hz : k = S "base"
    · rw [if_pos hz, hz, hx]
    · rw [if_neg hz, hr k hz]
  rw [em]
  exact F
end
section
variable {P : Params} {name : Str → Prop} {kind : Str} {num size : Int} {news : List (Addr × Obj)} {h₀ : Heap} {L : Addr} {m : Str → Option Value} {Q : Value → Shared → Prop} {s : Shared}
theorem RegOut.use (h : ∀ (nm : Str) (x dx : Addr) (t1 t2 t3 t4 k1 k2 k3 k4 : Tok) (e : Nat) (h' : Heap) (tk' : Nat), name nm → (∀ p ∈ news, p.1 < dx) → dx < x → Fr h₀ L h' m → News h₀ L h' ((x, instObj 400 dx) :: (dx, regD P nm t1 kind t2 num t3 size t4 k1 k2 k3 k4 e) :: news) → Q (.ref x) { s with heap := h', toks := tk' }) :
    ∀ (v : Value) (made : List (Addr × Obj)) (h' : Heap) (tk' : Nat), RegOut P name kind num size v made → (∀ q ∈ news, ∀ p ∈ made, q.1 < p.1) → Fr h₀ L h' m → News h₀ L h' (made ++ news) → Q v { s with heap := h', toks := tk' } := by
  rintro v made h' tk' ⟨nm, x, dx, t1, t2, t3, t4, k1, k2, k3, k4, e, rfl, rfl, hlt, hn⟩ hl F N
  exact h nm x dx t1 t2 t3 t4 k1 k2 k3 k4 e h' tk' hn (fun p hp => hl p hp _ (.tail _ (.head _))) hlt F N
end
/-- behind the index's statement -/
noncomputable def J2 (P : Params) (d c : Addr) (vs : List Value) (ce : Nat) (h₀ : Heap) (L : Addr) (m : Str → Option Value) (rest keep : List (Addr × Obj)) (n : Int) (bo : Option (Str × Str)) (s : Shared) (fl : Flow) (s' : Shared) : Prop :=
  fl = .next ∧ ∃ (h' : Heap) (tk' : Nat) (iv : Value) (io : Option (Str × Str)) (sc : Int) (t : Tok) (mk : List (Addr × Obj)) (n' : Int), s' = { s with heap := h', toks := tk' } ∧ Fr h₀ L h' (fun y => if y = S "index" then some iv else if y = S "scale" then some (.int sc t) else m y) ∧ Led P d c vs ce h₀ L h' n' mk ∧ (∀ p ∈ rest, p ∈ mk) ∧ (∀ p ∈ keep, p ∈ mk) ∧ n ≤ n' ∧ n' ≤ n + 3 ∧ (GoodI io ∧ (bo = some (S "rip", S "rip") → io = none) ∧ (sc = 1 ∨ sc = 2 ∨ sc = 4 ∨ sc = 8) ∧ (io = none → sc = 1)) ∧ RegAt P mk iv io
section
variable {M : Model} {A : Around} {E : Value → Shared → Prop} {s : Shared} {env : Env} {st : Stmt} {ss : List Stmt} {Q : Flow → Shared → Prop}
theorem cut_index {P : Params} {d c : Addr} {vs : List Value} {ce : Nat} {h₀ : Heap} {L : Addr} {m : Str → Option Value} (rest keep : List (Addr × Obj)) (n : Int) (bo : Option (Str × Str)) (_F : Fr h₀ L s.heap m) (h1 : wpAny M A (exec st env) (J2 P d c vs ce h₀ L m rest keep n bo s) E s)
    (h2 : ∀ (h' : Heap) (tk' : Nat) (iv : Value) (io : Option (Str × Str)) (sc : Int) (t : Tok) (mk : List (Addr × Obj)) (n' : Int) (tn : Tok) (e : Nat), Fr h₀ L h' (fun y => if y = S "index" then some iv else if y = S "scale" then some (.int sc t) else m y) → News h₀ L h' ((d, diceO n' tn c e) :: (c, listOf vs.toArray ce) :: mk) → (∀ p ∈ mk, p.1 ≠ d) → (∀ p ∈ rest, p ∈ mk) → (∀ p ∈ keep, p ∈ mk) → n ≤ n' → n' ≤ n + 3 → (GoodI io ∧ (bo = some (S "rip", S "rip") → io = none) ∧ (sc = 1 ∨ sc = 2 ∨ sc = 4 ∨ sc = 8) ∧ (io = none → sc = 1)) → RegAt P mk iv io → wpAny M A (execs ss env) Q E { s with heap := h', toks := tk' }) : wpAny M A (execs (st :: ss) env) Q E s := by
  refine wpAny_execs_cons (wpAny_mono h1 (fun fl s' hh => ?_) fun _ _ h => h)
  obtain ⟨rfl, h', tk', iv, io, sc, t, mk, n', rfl, F, ⟨tn, e, N, hm⟩, hs, hk, a1, a2, g, r⟩ := hh
  exact h2 h' tk' iv io sc t mk n' tn e F N hm hs hk a1 a2 g r
theorem index_end {P : Params} {d c : Addr} {vs : List Value} {ce : Nat} {h₀ h' : Heap} {L : Addr} {m m' : Str → Option Value} {rest keep big mk₀ : List (Addr × Obj)} {n n' sc : Int} {tk' : Nat} {iv : Value} {bo io : Option (Str × Str)} {tn t : Tok} {e : Nat}
    (F : Fr h₀ L h' m') (N : News h₀ L h' big) (hx : m' (S "index") = some iv) (hy : m' (S "scale") = some (.int sc t)) (hr : ∀ k, k ≠ S "index" → k ≠ S "scale" → m' k = m k) (hd : (d, diceO n' tn c e) ∈ big) (hc : (c, listOf vs.toArray ce) ∈ big) (hb : ∀ p ∈ mk₀, p ∈ big) (hs : ∀ p ∈ rest, p ∈ mk₀) (hk : ∀ p ∈ keep, p ∈ mk₀) (hm : ∀ p ∈ mk₀, p.1 ≠ d) (a1 : n ≤ n') (a2 : n' ≤ n + 3) (g : GoodI io ∧ (bo = some (S "rip", S "rip") → io = none) ∧ (sc = 1 ∨ sc = 2 ∨ sc = 4 ∨ sc = 8) ∧ (io = none → sc = 1)) (r : RegAt P big iv io) :
    J2 P d c vs ce h₀ L m rest keep n bo s .next { s with heap := h', toks := tk' } := by
  obtain ⟨mk, hl, k1, k2⟩ := led_of N hd hc hb hm
  refine ⟨rfl, h', tk', iv, io, sc, t, mk, n', rfl, ?_, hl, fun p hp => k1 p (hs p hp), fun p hp => k1 p (hk p hp), a1, a2, g, regAt_sub r k2⟩
  have em : (fun y => if y = S "index" then some iv else if y = S "scale" then some (.int sc t) else m y) = m' := by
    funext k
    by_cases hz : k = S "index"
    · rw [if_pos hz, hz, hx]
    · rw [if_neg hz]
      by_cases hz2 : k = S "scale"
      · rw [if_pos hz2, hz2, hy]
      · rw [if_neg hz2, hr k hz hz2]
  rw [em]
  exact F
end
theorem menuS {v : Int} (h0 : 0 ≤ v) (h1 : v < 4) : ([1, 2, 4, 8] : List Int).getD v.toNat 0 = 1 ∨ ([1, 2, 4, 8] : List Int).getD v.toNat 0 = 2 ∨ ([1, 2, 4, 8] : List Int).getD v.toNat 0 = 4 ∨ ([1, 2, 4, 8] : List Int).getD v.toNat 0 = 8 := by
  have hv : v = 0 ∨ v = 1 ∨ v = 2 ∨ v = 3 := by omega
  rcases hv with rfl | rfl | rfl | rfl
  · exact .inl rfl
  · exact .inr (.inl rfl)
  · exact .inr (.inr (.inl rfl))
  · exact .inr (.inr (.inr rfl))
theorem menuZ (i : Nat) : ([0, 8, 16, 32, 64, 128] : List Int).getD i 0 = 0 ∨ ([0, 8, 16, 32, 64, 128] : List Int).getD i 0 = 8 ∨ ([0, 8, 16, 32, 64, 128] : List Int).getD i 0 = 16 ∨ ([0, 8, 16, 32, 64, 128] : List Int).getD i 0 = 32 ∨ ([0, 8, 16, 32, 64, 128] : List Int).getD i 0 = 64 ∨ ([0, 8, 16, 32, 64, 128] : List Int).getD i 0 = 128 := by
  rcases i with _ | _ | _ | _ | _ | _ | i
  · exact .inl rfl
  · exact .inr (.inl rfl)
  · exact .inr (.inr (.inl rfl))
  · exact .inr (.inr (.inr (.inl rfl)))
  · exact .inr (.inr (.inr (.inr (.inl rfl))))
  · exact .inr (.inr (.inr (.inr (.inr rfl))))
  · exact .inl rfl
theorem menuG (i : Nat) : ([Str.ofString "", Str.ofString "", Str.ofString "fs", Str.ofString "gs"] : List Str).getD i Str.empty = S "" ∨ ([Str.ofString "", Str.ofString "", Str.ofString "fs", Str.ofString "gs"] : List Str).getD i Str.empty = S "fs" ∨ ([Str.ofString "", Str.ofString "", Str.ofString "fs", Str.ofString "gs"] : List Str).getD i Str.empty = S "gs" := by
  rcases i with _ | _ | _ | _ | i
  · exact .inl rfl
  · exact .inl rfl
  · exact .inr (.inl rfl)
  · exact .inr (.inr rfl)
  · exact .inl (show Str.empty = S "" by decide)
theorem menuN (i : Nat) : ([Str.ofString "", Str.ofString "", Str.ofString "beta"] : List Str).getD i Str.empty = S "" ∨ ([Str.ofString "", Str.ofString "", Str.ofString "beta"] : List Str).getD i Str.empty = S "beta" := by
  rcases i with _ | _ | _ | i
  · exact .inl rfl
  · exact .inl rfl
  · exact .inr rfl
  · exact .inl (show Str.empty = S "" by decide)
/-- a rolled memory operand -/
noncomputable def MemOut (P : Params) : Value → List (Addr × Obj) → Prop := fun v made => ∃ (x : Addr) (base index : Option (Str × Str)) (scale worth size : Int) (seg name : Str), v = .ref x ∧ MemAt P x base index scale worth size seg name made ∧ GoodMem base index scale worth size seg name
section
variable {P : Params} {d c : Addr} {vs : List Value} {ce : Nat} {h₀ h' : Heap} {L : Addr} {m : Str → Option Value} {rest big mk : List (Addr × Obj)} {n n' : Int} {tk' : Nat} {Q : Value → Shared → Prop} {s : Shared} {tn : Tok} {e : Nat}
theorem memAt_sub {x : Addr} {base index : Option (Str × Str)} {scale worth size : Int} {seg name : Str} (h : MemAt P x base index scale worth size seg name big) (hs : ∀ p ∈ big, p.2.cls ≠ .type "list" → p ∈ mk) : MemAt P x base index scale worth size seg name mk := by
  obtain ⟨dx, bv, iv, t0, ts, tw, tz, tg, tm, k0, k1, k2, k3, k4, k5, k6, k7, e0, r1, r2, q1, q2⟩ := h
  refine ⟨dx, bv, iv, t0, ts, tw, tz, tg, tm, k0, k1, k2, k3, k4, k5, k6, k7, e0, regAt_sub r1 hs, regAt_sub r2 hs, hs _ q1 fun q => ?_, hs _ q2 fun q => ?_⟩
  · have q' : Value.ref 346 = Value.type "list" := q
    cases q'
  · have q' : Value.type "dict" = Value.type "list" := q
    injection q' with q'
    exact absurd q' (by decide)
theorem mem_end {x : Addr} {base index : Option (Str × Str)} {scale worth size : Int} {seg name : Str}
    (hret : ∀ (v : Value) (made : List (Addr × Obj)) (n' : Int) (tn' : Tok) (e' : Nat) (h' : Heap) (tk' : Nat), n ≤ n' → n' ≤ n + 20 → MemOut P v made → Fr h₀ L h' m → News h₀ L h' (made ++ (d, diceO n' tn' c e') :: (c, listOf vs.toArray ce) :: rest) → Q v { s with heap := h', toks := tk' })
    (hm : MemAt P x base index scale worth size seg name big) (F : Fr h₀ L h' m) (N : News h₀ L h' big) (hd : (d, diceO n' tn c e) ∈ big) (hc : (c, listOf vs.toArray ce) ∈ big)
    (hmk : ∀ p ∈ mk, p ∈ big) (hr : ∀ p ∈ rest, p ∈ mk) (hrd : ∀ p ∈ rest, p.1 ≠ d) (a1 : n ≤ n') (a2 : n' ≤ n + 20) (G : GoodMem base index scale worth size seg name) : Q (.ref x) { s with heap := h', toks := tk' } := by
  obtain ⟨made, ⟨tn', e', Nm, _⟩, k1', k2'⟩ := led_of (P := P) (mk := rest) N hd hc (fun p hp => hmk p (hr p hp)) hrd
  refine hret _ made n' tn' e' h' tk' a1 a2 ⟨x, base, index, scale, worth, size, seg, name, rfl, memAt_sub hm k2', G⟩ F ?_
  intro p hp
  rcases List.mem_append.mp hp with hp | hp
  · exact Nm _ (.tail _ (.tail _ hp))
  · rcases List.mem_cons.mp hp with rfl | hp
    · exact Nm _ (.head _)
    · rcases List.mem_cons.mp hp with rfl | hp
      · exact Nm _ (.tail _ (.head _))
      · exact N _ (hmk _ (hr _ hp))
end
theorem menu10 (v : Int) : 0 ≤ ([0, 1, 2, 3, 5, 6, 8, 12, 13, 15] : List Int).getD v.toNat 0 ∧ ([0, 1, 2, 3, 5, 6, 8, 12, 13, 15] : List Int).getD v.toNat 0 ≤ 15 := kmn_any (by decide)
theorem kw50 : True := by
  k_with "own call ref" => first | ((k_here; (with_reducible show wpAny _ _ (call (Value.ref 425) [Value.int _ _, Value.int 64 _]) _ _ _); k_dflt (refine' Make.use ?k1w ?k2w ?k3w ?k4w ?k5w ?kKw (gpr_c _ _ _ _ _ (by first | omega | exact (menu10 _).1) (by first | omega | exact (menu10 _).2) (by decide)) ?kdw ?kuw (RegOut.use ?_); (walk_at "mine use make"); intro nm9w x9w dx9w t91w t92w t93w t94w k91w k92w k93w k94w e9w h9w tk9w hn9w l9w lt9w F9w N9w; (try k_lt l9w); (try k_lt2 lt9w); (try dsimp only); (try k_fold)))) | fail "none"
  k_with "own call ref" => first | ((k_here; (with_reducible show wpAny _ _ (call (Value.ref 446) _) _ _ _); k_dflt (refine' Make.use ?k1w ?k2w ?k3w ?k4w ?k5w ?kKw (rip_c _) ?kdw ?kuw (RegOut.use ?_); (walk_at "mine use make"); intro nm9w x9w dx9w t91w t92w t93w t94w k91w k92w k93w k94w e9w h9w tk9w hn9w l9w lt9w F9w N9w; (try k_lt l9w); (try k_lt2 lt9w); (try dsimp only); (try k_fold)))) | fail "none"
  trivial
theorem goodB_gpr {nm : Str} {v : Int} (h : nm.length ≤ 8 ∧ ((64 : Int) = 64 → nm = gprN v)) (h0 : 0 ≤ v) (h1 : v < 16) : GoodB (some (nm, S "gpr")) := by
  refine .inr (.inl ⟨v.toNat, by omega, ?_⟩)
  rw [Int.toNat_of_nonneg h0, h.2 rfl]
theorem goodI_gpr {nm : Str} {v : Int} (h : nm.length ≤ 8 ∧ ((64 : Int) = 64 → nm = gprN v)) (h0 : 0 ≤ v) (h1 : v ≤ 15) : GoodI (some (nm, S "gpr")) := by
  refine .inr ⟨v.toNat, by omega, ?_⟩
  rw [Int.toNat_of_nonneg h0, h.2 rfl]
theorem goodB_rip {nm : Str} (h : nm = S "rip") : GoodB (some (nm, S "rip")) := by rw [h]; exact .inr (.inr rfl)
theorem kw51 : True := by
  k_with "mine stop" => first | ((with_reducible show wpAny _ _ (execs (Stmt.Assign [Expr.Name (Str.ofString "base") _] _ _ :: _) _) _ _ _)) | fail "none"
  trivial
section
variable {prog : Program} {w : World} {A : Around} {E : Value → Shared → Prop} {s : Shared} {value slice : PySem.Expr} {l : Addr} {v : Int} {u : Tok} {h₀ : Heap} {L : Addr} {news : List (Addr × Obj)} {Q : Value → Shared → Prop} {a0 a1 a2 a3 : Value} {k : Nat}
theorem item_of4 (N : News h₀ L s.heap news) (hm : (l, listOf #[a0, a1, a2, a3] k) ∈ news) (h0 : 0 ≤ v) (h1 : v < 4) (q0 : Q a0 s) (q1 : Q a1 s) (q2 : Q a2 s) (q3 : Q a3 s)
    (hs : subscripted slice false (.ref l) (.int v u) = operate [.ref l, .int v u] (getItem (.ref l) (.int v u)) := by with_unfolding_all rfl) :
    wpAny (model prog w) A (subscriptTail value slice (.ref l) (.int v u)) Q E s := by
  have hl : s.heap.IsList l ([a0, a1, a2, a3] : List Value).toArray := News.isList N hm
  have hv : v = 0 ∨ v = 1 ∨ v = 2 ∨ v = 3 := by omega
  rcases hv with rfl | rfl | rfl | rfl
  · exact item_at hl (by decide) (by decide) rfl q0 hs
  · exact item_at hl (by decide) (by decide) rfl q1 hs
  · exact item_at hl (by decide) (by decide) rfl q2 hs
  · exact item_at hl (by decide) (by decide) rfl q3 hs
end
theorem kw52 : True := by
  k_with "own subscriptTail" => first | ((k_here; (with_reducible show wpAny _ _ (subscriptTail _ _ (Value.ref _) (Value.int _ _)) _ _ _); k_dflt (refine' item_of4 (a0 := .none) ?kNw ?kmw ?k0w ?k1w ?_ ?_ ?_ ?_; (case kNw => k_asm); (case kmw => exact List.Mem.head _); (case k0w => assumption); (case k1w => assumption)); (try dsimp only))) | fail "none"
  k_with "mine stop" => first | ((with_reducible show wpAny _ _ (execs (Stmt.If _ _ _ _ :: Stmt.Assign _ _ _ :: _) _) _ _ _)) | fail "none"
  trivial
set_option maxRecDepth 100000 in
set_option maxHeartbeats 8000000 in
theorem law_memory_c (w : World) : Dice w 5 474 20 (MemOut w.params) := by
  unfold Dice
  intro d c n tn e ce vs ns dp un gd cn cs a ccd cl outer A₀ base h₀ L m s rest p loose mean mg mb Q E hi hne hn B F X N T hk hd hu hdc hrest hret
  refine wpAny_call ?_
  k_dflt cell_enter
  (rename Fr _ _ _ _ => hF0)
  refine fr_as hF0 (fun y => List.lookup y [(Str.ofString "dice", .ref d)]) rfl ?_
  clear hF0
  intro hF0
  walk_at "mine steps"
  (rename Fr _ _ _ _ => hF)
  refine cut_base (P := w.params) (d := d) (c := c) (vs := vs) (ce := ce) rest n hF ?_ ?_
  · k_steps
    all_goals ((rename Fr _ _ _ _ => hF); (rename News _ _ _ _ => hN))
    · exact base_end hF hN rfl (by intro y hy; repeat (first | with_reducible rfl | rw [if_neg hy])) (by walk_at "mine mem2") (by walk_at "mine mem2") (by walk_at "mine in") hrest (by omega) (by omega) (.inl rfl) .none
    · refine base_end (bo := some (_, S "gpr")) hF hN rfl (by intro y hy; repeat (first | with_reducible rfl | rw [if_neg hy])) (by walk_at "mine mem2") (by walk_at "mine mem2") (by walk_at "mine in") hrest (by omega) (by omega) ?_ (.some (by walk_at "mine mem2") (by walk_at "mine mem2"))
      exact goodB_gpr (by with_reducible assumption) (by with_reducible assumption) (by with_reducible assumption)
    · refine base_end (bo := some (_, S "gpr")) hF hN rfl (by intro y hy; repeat (first | with_reducible rfl | rw [if_neg hy])) (by walk_at "mine mem2") (by walk_at "mine mem2") (by walk_at "mine in") hrest (by omega) (by omega) ?_ (.some (by walk_at "mine mem2") (by walk_at "mine mem2"))
      exact goodB_gpr (by with_reducible assumption) (by with_reducible assumption) (by with_reducible assumption)
    · exact base_end (bo := some (_, S "rip")) hF hN rfl (by intro y hy; repeat (first | with_reducible rfl | rw [if_neg hy])) (by walk_at "mine mem2") (by walk_at "mine mem2") (by walk_at "mine in") hrest (by omega) (by omega) (goodB_rip (by with_reducible assumption)) (.some (by walk_at "mine mem2") (by walk_at "mine mem2"))
  clear hF
  intro h1 tk1 bv bo mk n1 tn1 e1 hF hN hmk hsub a1 a2 gb rb
  dsimp only
  walk_at "mine steps"
  (rename Fr _ _ _ _ => hF)
  refine cut_index (P := w.params) (d := d) (c := c) (vs := vs) (ce := ce) rest mk n1 bo hF ?_ ?_
  · rcases gb with rfl | ⟨k, hk, rfl⟩ | rfl
    · cases rb
      k_steps
      all_goals ((rename Fr _ _ _ _ => hF); (rename News _ _ _ _ => hN))
      all_goals first
        | exact index_end (io := none) hF hN rfl rfl (by intro y hy hz; repeat (first | with_reducible rfl | rw [if_neg hy] | rw [if_neg hz])) (by walk_at "mine mem2") (by walk_at "mine mem2") (by walk_at "mine in") hsub (fun _ h => h) hmk (by omega) (by omega) ⟨.inl rfl, fun _ => rfl, .inl rfl, fun _ => rfl⟩ .none
        | (refine index_end (io := some (_, S "gpr")) hF hN rfl rfl (by intro y hy hz; repeat (first | with_reducible rfl | rw [if_neg hy] | rw [if_neg hz])) (by walk_at "mine mem2") (by walk_at "mine mem2") (by walk_at "mine in") hsub (fun _ h => h) hmk (by omega) (by omega) ?_ (.some (by walk_at "mine mem2") (by walk_at "mine mem2")); exact ⟨goodI_gpr (by with_reducible assumption) (menu10 _).1 (menu10 _).2, (fun h => by cases h), menuS (by with_reducible assumption) (by with_reducible assumption), (fun h => by cases h)⟩)
    · cases rb
      k_steps
      all_goals ((rename Fr _ _ _ _ => hF); (rename News _ _ _ _ => hN))
      all_goals first
        | exact index_end (io := none) hF hN rfl rfl (by intro y hy hz; repeat (first | with_reducible rfl | rw [if_neg hy] | rw [if_neg hz])) (by walk_at "mine mem2") (by walk_at "mine mem2") (by walk_at "mine in") hsub (fun _ h => h) hmk (by omega) (by omega) ⟨.inl rfl, fun _ => rfl, .inl rfl, fun _ => rfl⟩ .none
        | (refine index_end (io := some (_, S "gpr")) hF hN rfl rfl (by intro y hy hz; repeat (first | with_reducible rfl | rw [if_neg hy] | rw [if_neg hz])) (by walk_at "mine mem2") (by walk_at "mine mem2") (by walk_at "mine in") hsub (fun _ h => h) hmk (by omega) (by omega) ?_ (.some (by walk_at "mine mem2") (by walk_at "mine mem2")); exact ⟨goodI_gpr (by with_reducible assumption) (menu10 _).1 (menu10 _).2, (fun h => absurd (show S "gpr" = S "rip" from congrArg Prod.snd (Option.some.inj h)) (by decide)), menuS (by with_reducible assumption) (by with_reducible assumption), (fun h => by cases h)⟩)
    · cases rb
      k_steps
      all_goals ((rename Fr _ _ _ _ => hF); (rename News _ _ _ _ => hN))
      all_goals exact index_end (io := none) hF hN rfl rfl (by intro y hy hz; repeat (first | with_reducible rfl | rw [if_neg hy] | rw [if_neg hz])) (by walk_at "mine mem2") (by walk_at "mine mem2") (by walk_at "mine in") hsub (fun _ h => h) hmk (by omega) (by omega) ⟨.inl rfl, fun _ => rfl, .inl rfl, fun _ => rfl⟩ .none
  clear hF
  intro h2 tk2 iv io sc tS mk2 n2 tn2 e2 hF hN hmk2 hsub2 hkeep a3 a4 gi ri
  dsimp only
  k_with "table" => skip
  k_steps
  all_goals ((rename Fr _ _ _ _ => hF); (rename News _ _ _ _ => hN))
  all_goals (
    refine mem_end hret (by with_reducible assumption) hF hN (by walk_at "mine chain1") (by walk_at "mine chain1") (by walk_at "mine chain") hsub2 hrest (by omega) (by omega) ?_
    refine ⟨gb, gi.1, gi.2.1, gi.2.2.1, gi.2.2.2, ?_, ?_, menuZ _, menuG _, menuN _⟩
    · omega
    · omega)

/-! ### plain laws of numbers, targets and registers as operands -/
theorem hex_neg {n : Int} (h : n < 0) : hexT n = S "-" ++ hexT (-n) := by
  unfold hexT
  rw [if_pos h, if_neg (by omega), ← Str.append_assoc]
  rfl
theorem sp_is : S " " = (⟨#[32]⟩ : Str) := by decide
theorem blank_none {x : Str} (h : 32 ∉ tl x) : Txt.replace x (S " ") (S "") = x := by
  rw [sp_is, StrLaws.replace_one, split_is (x := x) (l := [x]) (by simp) (fun p hp => by rw [List.mem_singleton.mp hp]; exact h) rfl]
  rfl
theorem blank_two {a b c m : Str} (hm : m = S " " ++ (b ++ S " ")) (ha : 32 ∉ tl a) (hb : 32 ∉ tl b) (hc : 32 ∉ tl c) : Txt.replace ((a ++ m) ++ c) (S " ") (S "") = (a ++ b) ++ c := by
  have e : Str.join ⟨#[32]⟩ [a, b, c] = (a ++ m) ++ c := by
    rw [hm, sp_is]
    show (a ++ _) ++ ((b ++ _) ++ c) = _
    simp only [Str.append_assoc]
  rw [sp_is, StrLaws.replace_one, split_is (l := [a, b, c]) (by simp) ?_ e]
  · show (a ++ S "") ++ ((b ++ S "") ++ c) = _
    rw [app_none, app_none, Str.append_assoc]
  · intro p hp
    rcases List.mem_cons.mp hp with rfl | hp
    · exact ha
    · rcases List.mem_cons.mp hp with rfl | hp
      · exact hb
      · rw [List.mem_singleton.mp hp]; exact hc
theorem sum_blank {y : Str} (hy : 32 ∉ tl y) (n : Int) : Txt.replace (sumT y n) (S " ") (S "") = plusT y n := by
  unfold sumT plusT
  split
  · exact blank_none hy
  · split
    · rename_i hn
      rw [blank_two (b := S "-") (by decide) hy (by decide) (hex32 _), hex_neg hn, Str.append_assoc]
    · exact blank_two (by decide) hy (by decide) (hex32 _)
theorem beta32 : 32 ∉ tl (S "beta") := by decide
/-- what the walk asks of a number's two texts -/
structure ImmT (sy A I J : Str) (n : Int) : Prop where
  a1 : (Txt.slice A none (some 1) != Str.ofString "$") = false
  a2 : lawSum (Txt.slice A (some 1) none) = (sy, some n)
  al : A.length ≤ 40
  il : I.length ≤ 40
  j2 : lawSum (Txt.replace J (Str.ofString " ") (Str.ofString "")) = (sy, some n)
  jl : (Txt.replace J (Str.ofString " ") (Str.ofString "")).length ≤ 40
section
variable {n : Int}
theorem imm_none (h0 : -4294967296 < n) (h1 : n < 4294967296) : ImmT (S "") (immAtt (S "") n) (immIntel (S "") n) (immIntel (S "") n) n ∧ (Txt.slice (immIntel (S "") n) none (some 7) == Str.ofString "offset ") = false := by
  have hA : immAtt (S "") n = S "$" ++ hexT n := if_neg (by decide)
  have hI : immIntel (S "") n = hexT n := if_neg (by decide)
  have hl := hexT_len n
  have hr : Txt.replace (hexT n) (Str.ofString " ") (Str.ofString "") = hexT n := blank_none (hex32 n)
  rw [hA, hI]
  refine ⟨⟨?_, ?_, ?_, by omega, ?_, ?_⟩, ?_⟩
  · rw [sl_to rfl (by decide)]; decide
  · rw [sl_from rfl (by decide)]; exact sum_hex n h0 h1
  · rw [Str.length_append, show (S "$").length = 1 from by decide]; omega
  · rw [hr]; exact sum_hex n h0 h1
  · rw [hr]; omega
  · have hq : ∀ (x y z : Str), y.length = 1 → x = y ++ z → (y == S "o") = false → (Txt.slice x none (some 7) == Str.ofString "offset ") = false := by
      intro x y z h1 hx hy
      cases e : (Txt.slice x none (some 7) == Str.ofString "offset ") with
      | false => rfl
      | true =>
        exfalso
        have e1 := eq_of_beq e
        have e2 : (7 : Int) ≤ x.length := by
          have e3 := Txt.slice_le x none (some 7)
          rw [e1, show (Str.ofString "offset ").length = 7 from by decide] at e3
          omega
        have e4 : x = (⟨((tl x).take 7).toArray⟩ : Str) ++ (⟨((tl x).drop 7).toArray⟩ : Str) := str_ext (by rw [tl_app]; exact (List.take_append_drop 7 _).symm)
        have e5 : ((⟨((tl x).take 7).toArray⟩ : Str).length : Int) = 7 := by
          rw [← tl_len]
          show (((tl x).take 7).length : Int) = 7
          rw [List.length_take, tl_len]
          omega
        rw [sl_to e4 e5.symm] at e1
        have e6 : (tl x).take 7 = tl (S "offset ") := congrArg tl e1
        have e7 : tl x = tl y ++ tl z := by rw [hx, tl_app]
        have e8 : (tl y).length = 1 := by rw [tl_len]; exact h1
        obtain ⟨c, hc⟩ := List.length_eq_one_iff.mp e8
        rw [e7, hc] at e6
        have e9 := (List.cons.inj (show c :: (tl z).take 6 = 111 :: [102, 102, 115, 101, 116, 32] from e6)).1
        rw [e9] at hc
        rw [show y = S "o" from str_ext hc] at hy
        exact absurd hy (by decide)
    unfold hexT
    split
    · exact hq _ (S "-") (S "0x" ++ figT (-n)) (by decide) (by rw [← Str.append_assoc]; rfl) (by decide)
    · exact hq _ (S "0") (S "x" ++ figT n) (by decide) (by rw [← Str.append_assoc]; rfl) (by decide)
theorem imm_beta (h0 : -4294967296 < n) (h1 : n < 4294967296) : ImmT (S "beta") (immAtt (S "beta") n) (immIntel (S "beta") n) (Txt.slice (immIntel (S "beta") n) (some 7) none) n ∧ (Txt.slice (immIntel (S "beta") n) none (some 7) == Str.ofString "offset ") = true := by
  have hA : immAtt (S "beta") n = S "$" ++ plusT (S "beta") n := if_pos (by decide)
  have hI : immIntel (S "beta") n = S "offset " ++ sumT (S "beta") n := if_pos (by decide)
  have hl := plusT_len (S "beta") n
  have hl2 := sumT_len (S "beta") n
  rw [show (S "beta").length = 4 from by decide] at hl hl2
  have hr : Txt.replace (sumT (S "beta") n) (Str.ofString " ") (Str.ofString "") = plusT (S "beta") n := sum_blank beta32 n
  rw [hA, hI, sl_from (a := S "offset ") rfl (by decide), sl_to (a := S "offset ") rfl (by decide)]
  refine ⟨⟨?_, ?_, ?_, ?_, ?_, ?_⟩, by decide⟩
  · rw [sl_to rfl (by decide)]; decide
  · rw [sl_from rfl (by decide)]; exact sum_plusT name_beta n h0 h1
  · rw [Str.length_append, show (S "$").length = 1 from by decide]; omega
  · rw [Str.length_append, show (S "offset ").length = 7 from by decide]; omega
  · rw [hr]; exact sum_plusT name_beta n h0 h1
  · rw [hr]; omega
/-- what the walk asks of a target's text without a symbol -/
theorem rel_none (h0 : -4294967296 < n) (h1 : n < 4294967296) : relAtt (S "") n = aheadT n ∧ relIntel (S "") n = aheadT n ∧
    (n < 0 → (Txt.slice (aheadT n) none (some 4) == Str.ofString ". - ") = true ∧ lawNum (Str.ofString "-" ++ Txt.slice (aheadT n) (some 4) none) = some n) ∧
    (¬ n < 0 → (Txt.slice (aheadT n) none (some 4) == Str.ofString ". + ") = true ∧ lawNum (Str.ofString "" ++ Txt.slice (aheadT n) (some 4) none) = some n) := by
  refine ⟨if_neg (by decide), if_neg (by decide), fun h => ?_, fun h => ?_⟩
  · have e : aheadT n = S ". - " ++ hexT (-n) := if_pos h
    rw [e, sl_to rfl (by decide), sl_from rfl (by decide)]
    refine ⟨by decide, ?_⟩
    rw [show Str.ofString "-" ++ hexT (-n) = hexT n from (hex_neg h).symm]
    exact lawNum_hex n h0 h1
  · have e : aheadT n = S ". + " ++ hexT n := if_neg h
    rw [e, sl_to rfl (by decide), sl_from rfl (by decide)]
    refine ⟨by decide, ?_⟩
    rw [show Str.ofString "" ++ hexT n = hexT n from none_app _]
    exact lawNum_hex n h0 h1
/-- what the walk asks of a target's texts with one -/
structure RelT (sy A I : Str) (n : Int) : Prop where
  a2 : lawSum A = (sy, some n)
  al : A.length ≤ 40
  il : I.length ≤ 40
  j2 : lawSum (Txt.replace I (Str.ofString " ") (Str.ofString "")) = (sy, some n)
  jl : (Txt.replace I (Str.ofString " ") (Str.ofString "")).length ≤ 40
  sp : (Builtin.Str.occurrences A (Str.ofString " ") 0 A.length 1).isEmpty = true
theorem rel_beta (h0 : -4294967296 < n) (h1 : n < 4294967296) : RelT (S "beta") (relAtt (S "beta") n) (relIntel (S "beta") n) n := by
  have hA : relAtt (S "beta") n = plusT (S "beta") n := if_pos (by decide)
  have hI : relIntel (S "beta") n = sumT (S "beta") n := if_pos (by decide)
  have hl := plusT_len (S "beta") n
  have hl2 := sumT_len (S "beta") n
  rw [show (S "beta").length = 4 from by decide] at hl hl2
  have hr : Txt.replace (sumT (S "beta") n) (Str.ofString " ") (Str.ofString "") = plusT (S "beta") n := sum_blank beta32 n
  rw [hA, hI]
  refine ⟨sum_plusT name_beta n h0 h1, by omega, by omega, by rw [hr]; exact sum_plusT name_beta n h0 h1, by rw [hr]; omega, ?_⟩
  have h := has_one (plusT (S "beta") n) 32
  rw [decide_eq_false ((plus_hi (by decide) n).no (by decide))] at h
  rw [show Str.ofString " " = (⟨#[32]⟩ : Str) from sp_is]
  simpa using h
end

/-! ### one rolled operand is told -/
/-- behind the three first rolls -/
noncomputable def J3 (d c : Addr) (vs : List Value) (ce : Nat) (h₀ : Heap) (L : Addr) (m : Str → Option Value) (rest : List (Addr × Obj)) (n : Int) (s : Shared) (fl : Flow) (s' : Shared) : Prop :=
  fl = .next ∧ ∃ (h' : Heap) (tk' : Nat) (kd wv : Int) (sy : Str) (t1 t2 t3 : Tok) (n' : Int) (tn : Tok) (e : Nat), s' = { s with heap := h', toks := tk' } ∧ Fr h₀ L h' (fun y => if y = S "kind" then some (.int kd t1) else if y = S "worth" then some (.int wv t2) else if y = S "symbol" then some (.str sy t3) else m y) ∧ News h₀ L h' ((d, diceO n' tn c e) :: (c, listOf vs.toArray ce) :: rest) ∧ n ≤ n' ∧ n' ≤ n + 4 ∧ (0 ≤ kd ∧ kd < 6) ∧ (-2147483648 ≤ wv ∧ wv < 2147483648) ∧ (sy = Str.ofString "" ∨ sy = Str.ofString "beta")
section
variable {M : Model} {A : Around} {E : Value → Shared → Prop} {s : Shared} {env : Env} {st : Stmt} {ss : List Stmt} {Q : Flow → Shared → Prop} {d c : Addr} {vs : List Value} {ce : Nat} {h₀ h' : Heap} {L : Addr} {m m' : Str → Option Value} {rest big : List (Addr × Obj)} {n n' kd wv : Int} {tk' : Nat} {tn t1 t2 t3 : Tok} {e : Nat} {sy : Str}
theorem cut_rolls (rest : List (Addr × Obj)) (n : Int) (_F : Fr h₀ L s.heap m) (h1 : wpAny M A (exec st env) (J3 d c vs ce h₀ L m rest n s) E s)
    (h2 : ∀ (h' : Heap) (tk' : Nat) (kd wv : Int) (sy : Str) (t1 t2 t3 : Tok) (n' : Int) (tn : Tok) (e : Nat), Fr h₀ L h' (fun y => if y = S "kind" then some (.int kd t1) else if y = S "worth" then some (.int wv t2) else if y = S "symbol" then some (.str sy t3) else m y) → News h₀ L h' ((d, diceO n' tn c e) :: (c, listOf vs.toArray ce) :: rest) → n ≤ n' → n' ≤ n + 4 → (0 ≤ kd ∧ kd < 6) → (-2147483648 ≤ wv ∧ wv < 2147483648) → (sy = Str.ofString "" ∨ sy = Str.ofString "beta") → wpAny M A (execs ss env) Q E { s with heap := h', toks := tk' }) : wpAny M A (execs (st :: ss) env) Q E s := by
  refine wpAny_execs_cons (wpAny_mono h1 (fun fl s' hh => ?_) fun _ _ h => h)
  obtain ⟨rfl, h', tk', kd, wv, sy, t1, t2, t3, n', tn, e, rfl, F, N, a1, a2, b1, b2, b3⟩ := hh
  exact h2 h' tk' kd wv sy t1 t2 t3 n' tn e F N a1 a2 b1 b2 b3
theorem rolls_end (F : Fr h₀ L h' m') (N : News h₀ L h' big) (hx : m' (S "kind") = some (.int kd t1)) (hy : m' (S "worth") = some (.int wv t2)) (hz : m' (S "symbol") = some (.str sy t3)) (hr : ∀ k, k ≠ S "kind" → k ≠ S "worth" → k ≠ S "symbol" → m' k = m k) (hs : ∀ p ∈ ((d, diceO n' tn c e) :: (c, listOf vs.toArray ce) :: rest), p ∈ big) (a1 : n ≤ n') (a2 : n' ≤ n + 4) (b1 : 0 ≤ kd ∧ kd < 6) (b2 : -2147483648 ≤ wv ∧ wv < 2147483648) (b3 : sy = Str.ofString "" ∨ sy = Str.ofString "beta") :
    J3 d c vs ce h₀ L m rest n s .next { s with heap := h', toks := tk' } := by
  refine ⟨rfl, h', tk', kd, wv, sy, t1, t2, t3, n', tn, e, rfl, ?_, kst_newsOf N hs, a1, a2, b1, b2, b3⟩
  have em : (fun y => if y = S "kind" then some (Value.int kd t1) else if y = S "worth" then some (.int wv t2) else if y = S "symbol" then some (.str sy t3) else m y) = m' := by
    funext k
    by_cases q1 : k = S "kind"
    · rw [if_pos q1, q1, hx]
    · rw [if_neg q1]
      by_cases q2 : k = S "worth"
      · rw [if_pos q2, q2, hy]
      · rw [if_neg q2]
        by_cases q3 : k = S "symbol"
        · rw [if_pos q3, q3, hz]
        · rw [if_neg q3, hr k q1 q2 q3]
  rw [em]
  exact F
end
theorem menuB (i : Nat) : ([Str.ofString "", Str.ofString "beta"] : List Str).getD i Str.empty = S "" ∨ ([Str.ofString "", Str.ofString "beta"] : List Str).getD i Str.empty = S "beta" := by
  rcases i with _ | _ | i
  · exact .inl rfl
  · exact .inr rfl
  · exact .inl (show Str.empty = S "" by decide)
theorem menu8 {v : Int} (h0 : 0 ≤ v) (h1 : v < 4) : ([8, 16, 32, 64] : List Int).getD v.toNat 0 = 8 ∨ ([8, 16, 32, 64] : List Int).getD v.toNat 0 = 16 ∨ ([8, 16, 32, 64] : List Int).getD v.toNat 0 = 32 ∨ ([8, 16, 32, 64] : List Int).getD v.toNat 0 = 64 := by
  have hv : v = 0 ∨ v = 1 ∨ v = 2 ∨ v = 3 := by omega
  rcases hv with rfl | rfl | rfl | rfl
  · exact .inl rfl
  · exact .inr (.inl rfl)
  · exact .inr (.inr (.inl rfl))
  · exact .inr (.inr (.inr rfl))
-- the contract of rolling memory, of telling it
theorem MemOut.use {P : Params} {n b : Int} {c : Addr} {h₀ : Heap} {L : Addr} {m : Str → Option Value} {Q : Value → Shared → Prop} {s : Shared} {fl : Obj → List (Addr × Obj)}
    (h : ∀ (x : Addr) (base index : Option (Str × Str)) (scale worth size : Int) (seg name : Str) (made : List (Addr × Obj)) (n' : Int) (tn' : Tok) (e' : Nat) (h' : Heap) (tk' : Nat), n ≤ n' → n' ≤ n + b → MemAt P x base index scale worth size seg name (made ++ fl (diceO n' tn' c e')) → GoodMem base index scale worth size seg name → Fr h₀ L h' m → News h₀ L h' (made ++ fl (diceO n' tn' c e')) → Q (.ref x) { s with heap := h', toks := tk' }) :
    ∀ (v : Value) (made : List (Addr × Obj)) (n' : Int) (tn' : Tok) (e' : Nat) (h' : Heap) (tk' : Nat), n ≤ n' → n' ≤ n + b → MemOut P v made → Fr h₀ L h' m → News h₀ L h' (made ++ fl (diceO n' tn' c e')) → Q v { s with heap := h', toks := tk' } := by
  rintro v made n' tn' e' h' tk' h1 h2 ⟨x, base, index, scale, worth, size, seg, name, rfl, ⟨dx, bv, iv, t0, ts, tw, tz, tg, tm, k0, k1, k2, k3, k4, k5, k6, k7, e0, r1, r2, q1, q2⟩, G⟩ F N
  exact h x base index scale worth size seg name made n' tn' e' h' tk' h1 h2 ⟨dx, bv, iv, t0, ts, tw, tz, tg, tm, k0, k1, k2, k3, k4, k5, k6, k7, e0, regAt_mono r1 fun p hp => List.mem_append.mpr (.inl hp), regAt_mono r2 fun p hp => List.mem_append.mpr (.inl hp), List.mem_append.mpr (.inl q1), List.mem_append.mpr (.inl q2)⟩ G F N
theorem kw53 : True := by
  k_with "own call ref" => first | ((k_here; (with_reducible show wpAny _ _ (call (Value.ref 474) [Value.ref _]) _ _ _); k_dflt (refine' Dice.use ?k1w ?k2w ?k3w ?k4w ?k5w ?kKw ?kSw ?kcw ?kdcw ?kiw ?kew ?knw (law_memory_c _) ?kdw ?kuw (MemOut.use ?_); (walk_at "mine use dice"); intro x9w b9w i9w s9w w9w z9w g9w m9w mk9w n9w tn9w e9w h9w tk9w v0w v1w M9w G9w F9w N9w; (try dsimp only at N9w M9w); (try dsimp only); (try k_fold)))) | fail "none"
  k_with "own call ref" => first | ((k_here; (with_reducible show wpAny _ _ (call (Value.ref 509) [Value.ref _]) _ _ _); k_dflt ((rename GoodMem _ _ _ _ _ _ _ => hG9w); refine' Read.use ?k1w ?k2w ?k3w ?k4w ?k5w ?kKw (memory_told_c _ _ hG9w) ?khw ?kdw ?kuw ?_; (case khw => assumption); (walk_at "mine use read"); intro t9w h9w tk9w F9w N9w; (try dsimp only); (try k_fold)))) | fail "none"
  trivial
theorem Make.weak {w : World} {k : Nat} {f : Addr} {vs : List Value} {P : Params} {name name' : Str → Prop} {kind : Str} {num size : Int} (C : Make w k f vs (RegOut P name kind num size)) (hn : ∀ x, name x → name' x) : Make w k f vs (RegOut P name' kind num size) := by
  intro dp un gd cn cs a ccd cl outer A₀ base h₀ L m s news p loose mean mg mb Q E B F X N T hk hd hu hret
  refine C dp un gd cn cs a ccd cl outer A₀ base h₀ L m s news p loose mean mg mb Q E B F X N T hk hd hu ?_
  rintro v made h' tk' ⟨nm, x, dx, t1, t2, t3, t4, k1, k2, k3, k4, e, q1, q2, q3, q4⟩ h2 F' N'
  exact hret v made h' tk' ⟨nm, x, dx, t1, t2, t3, t4, k1, k2, k3, k4, e, q1, q2, q3, hn _ q4⟩ h2 F' N'
theorem gpr_w (w : World) (n size : Int) (t u : Tok) (h0 : 0 ≤ n) (h1 : n ≤ 15) (hs : size = 8 ∨ size = 16 ∨ size = 32 ∨ size = 64) : Make w 3 425 [.int n t, .int size u] (RegOut w.params (fun nm => nm.length ≤ 8) (S "gpr") n size) := (gpr_c w n size t u h0 h1 hs).weak fun _ h => h.1
theorem high_w (w : World) (n : Int) (t : Tok) (h0 : 4 ≤ n) (h1 : n < 8) : Make w 3 432 [.int n t] (RegOut w.params (fun nm => nm.length ≤ 8) (S "high") n 8) := (high_c w n t h0 h1).weak fun _ h => h.1
theorem kw54 : True := by
  k_with "mine reg" => first | (((walk_at "mine use make"); intro nm9w x9w dx9w t91w t92w t93w t94w k91w k92w k93w k94w e9w h9w tk9w hn9w l9w lt9w F9w N9w; (try k_lt l9w); (try k_lt2 lt9w); (try dsimp only); (try k_fold))) | fail "none"
  k_with "own call ref" => first | ((k_here; (with_reducible show wpAny _ _ (call (Value.ref 425) [Value.int _ _, Value.int (List.getD _ _ _) _]) _ _ _); k_dflt (refine' Make.use ?k1w ?k2w ?k3w ?k4w ?k5w ?kKw (gpr_w _ _ _ _ _ (by omega) (by omega) (menu8 (by with_reducible assumption) (by with_reducible assumption))) ?kdw ?kuw (RegOut.use ?_); walk_at "mine reg"))) | fail "none"
  k_with "own call ref" => first | ((k_here; (with_reducible show wpAny _ _ (call (Value.ref 432) [Value.int _ _]) _ _ _); k_dflt (refine' Make.use ?k1w ?k2w ?k3w ?k4w ?k5w ?kKw (high_w _ _ _ (by omega) (by omega)) ?kdw ?kuw (RegOut.use ?_); walk_at "mine reg"))) | fail "none"
  k_with "own call ref" => first | ((k_here; (with_reducible show wpAny _ _ (call (Value.ref 439) [Value.int _ _]) _ _ _); k_dflt (refine' Make.use ?k1w ?k2w ?k3w ?k4w ?k5w ?kKw (xmm_c _ _ _ (by omega) (by omega)) ?kdw ?kuw (RegOut.use ?_); walk_at "mine reg"))) | fail "none"
  trivial
section
variable {prog : Program} {w : World} {A : Around} {E : Value → Shared → Prop} {s : Shared} {value slice : PySem.Expr} {l : Addr} {v : Int} {u : Tok} {h₀ : Heap} {L : Addr} {news : List (Addr × Obj)} {Q : Value → Shared → Prop} {a0 a1 a2 : Value} {k : Nat}
theorem item_of3 (N : News h₀ L s.heap news) (hm : (l, listOf #[a0, a1, a2] k) ∈ news) (h0 : 0 ≤ v) (h1 : v < 3) (q0 : Q a0 s) (q1 : Q a1 s) (q2 : Q a2 s)
    (hs : subscripted slice false (.ref l) (.int v u) = operate [.ref l, .int v u] (getItem (.ref l) (.int v u)) := by with_unfolding_all rfl) :
    wpAny (model prog w) A (subscriptTail value slice (.ref l) (.int v u)) Q E s := by
  have hl : s.heap.IsList l ([a0, a1, a2] : List Value).toArray := News.isList N hm
  have hv : v = 0 ∨ v = 1 ∨ v = 2 := by omega
  rcases hv with rfl | rfl | rfl
  · exact item_at hl (by decide) (by decide) rfl q0 hs
  · exact item_at hl (by decide) (by decide) rfl q1 hs
  · exact item_at hl (by decide) (by decide) rfl q2 hs
end
theorem kw55 : True := by
  k_with "own subscriptTail" => first | ((k_here; (with_reducible show wpAny _ _ (subscriptTail _ _ (Value.ref _) (Value.int _ _)) _ _ _); k_dflt (refine' item_of3 (a0 := .ref _) (a1 := .ref _) ?kNw ?kmw ?k0w ?k1w ?_ ?_ ?_; (case kNw => k_asm); (case kmw => exact List.Mem.head _); (case k0w => assumption); (case k1w => assumption)); (try dsimp only))) | fail "none"
  k_with "own ite" => first | ((k_here; with_reducible refine ite_pos (beq_self_eq_true _) ?_)) | fail "none"
  k_with "own call ref" => first | ((k_here; (with_reducible show wpAny _ _ (call (Value.ref 131) [Value.ref _]) _ _ _); k_dflt (refine' Read.use ?k1w ?k2w ?k3w ?k4w ?k5w ?kKw (att_reg_c _ _ _ ?klw) ?khw ?kdw ?kuw ?_; (walk_at "mine use read"); (case khw => walk_at "mine opreg"); (case klw => omega); intro t9w h9w tk9w F9w N9w; (try dsimp only); (try k_fold)))) | fail "none"
  k_with "own call ref" => first | ((k_here; (with_reducible show wpAny _ _ (call (Value.ref 145) [Value.ref _]) _ _ _); k_dflt (refine' Read.use ?k1w ?k2w ?k3w ?k4w ?k5w ?kKw (int_reg_c _ _ _ ?klw) ?khw ?kdw ?kuw ?_; (walk_at "mine use read"); (case khw => walk_at "mine opreg"); (case klw => omega); intro t9w h9w tk9w F9w N9w; (try dsimp only); (try k_fold)))) | fail "none"
  trivial
/-- behind the register's statement -/
noncomputable def J4 (P : Params) (d c : Addr) (vs : List Value) (ce : Nat) (h₀ : Heap) (L : Addr) (m : Str → Option Value) (rest : List (Addr × Obj)) (n : Int) (s : Shared) (fl : Flow) (s' : Shared) : Prop :=
  fl = .next ∧ ∃ (h' : Heap) (tk' : Nat) (x : Addr) (nm kind : Str) (mk : List (Addr × Obj)) (n' : Int), s' = { s with heap := h', toks := tk' } ∧ Fr h₀ L h' (fun y => if y = S "register" then some (.ref x) else m y) ∧ Led P d c vs ce h₀ L h' n' mk ∧ (∀ p ∈ rest, p ∈ mk) ∧ n ≤ n' ∧ n' ≤ n + 6 ∧ nm.length ≤ 8 ∧ RegAt P mk (.ref x) (some (nm, kind))
section
variable {M : Model} {A : Around} {E : Value → Shared → Prop} {s : Shared} {env : Env} {st : Stmt} {ss : List Stmt} {Q : Flow → Shared → Prop} {R : Value → Shared → Prop} {P : Params} {d c : Addr} {vs : List Value} {ce : Nat} {h₀ h' : Heap} {L : Addr} {m m' : Str → Option Value} {rest big : List (Addr × Obj)} {n n' b : Int} {tk' : Nat} {tn : Tok} {e : Nat} {x : Addr} {nm kind : Str}
theorem cut_reg (rest : List (Addr × Obj)) (n : Int) (_F : Fr h₀ L s.heap m) (h1 : wpAny M A (exec st env) (J4 P d c vs ce h₀ L m rest n s) E s)
    (h2 : ∀ (h' : Heap) (tk' : Nat) (x : Addr) (nm kind : Str) (mk : List (Addr × Obj)) (n' : Int) (tn : Tok) (e : Nat), Fr h₀ L h' (fun y => if y = S "register" then some (.ref x) else m y) → News h₀ L h' ((d, diceO n' tn c e) :: (c, listOf vs.toArray ce) :: mk) → (∀ p ∈ mk, p.1 ≠ d) → (∀ p ∈ rest, p ∈ mk) → n ≤ n' → n' ≤ n + 6 → nm.length ≤ 8 → RegAt P mk (.ref x) (some (nm, kind)) → wpAny M A (execs ss env) Q E { s with heap := h', toks := tk' }) : wpAny M A (execs (st :: ss) env) Q E s := by
  refine wpAny_execs_cons (wpAny_mono h1 (fun fl s' hh => ?_) fun _ _ h => h)
  obtain ⟨rfl, h', tk', x, nm, kind, mk, n', rfl, F, ⟨tn, e, N, hm⟩, hs, a1, a2, g, r⟩ := hh
  exact h2 h' tk' x nm kind mk n' tn e F N hm hs a1 a2 g r
theorem reg_end (F : Fr h₀ L h' m') (N : News h₀ L h' big) (hx : m' (S "register") = some (.ref x)) (hr : ∀ k, k ≠ S "register" → m' k = m k) (hd : (d, diceO n' tn c e) ∈ big) (hc : (c, listOf vs.toArray ce) ∈ big) (hs : ∀ p ∈ rest, p ∈ big) (hm : ∀ p ∈ rest, p.1 ≠ d) (a1 : n ≤ n') (a2 : n' ≤ n + 6) (g : nm.length ≤ 8) (r : RegAt P big (.ref x) (some (nm, kind))) :
    J4 P d c vs ce h₀ L m rest n s .next { s with heap := h', toks := tk' } := by
  obtain ⟨mk, hl, k1, k2⟩ := led_of N hd hc hs hm
  refine ⟨rfl, h', tk', x, nm, kind, mk, n', rfl, ?_, hl, k1, a1, a2, g, regAt_sub r k2⟩
  have em : (fun y => if y = S "register" then some (.ref x) else m y) = m' := by
    funext k
    by_cases hz : k = S "register"
    · rw [if_pos hz, hz, hx]
    · rw [if_neg hz, hr k hz]
  rw [em]
  exact F
/-- it is True, and nothing is made -/
abbrev TrueOut : Value → List (Addr × Obj) → Prop := fun v made => v = .bool true ∧ made = []
theorem told_end (hret : ∀ (v : Value) (made : List (Addr × Obj)) (n' : Int) (tn' : Tok) (e' : Nat) (h' : Heap) (tk' : Nat), n ≤ n' → n' ≤ n + b → TrueOut v made → Fr h₀ L h' m → News h₀ L h' (made ++ (d, diceO n' tn' c e') :: (c, listOf vs.toArray ce) :: rest) → R v { s with heap := h', toks := tk' })
    (F : Fr h₀ L h' m) (N : News h₀ L h' big) (hd : (d, diceO n' tn c e) ∈ big) (hc : (c, listOf vs.toArray ce) ∈ big) (hs : ∀ p ∈ rest, p ∈ big) (a1 : n ≤ n') (a2 : n' ≤ n + b) : R (.bool true) { s with heap := h', toks := tk' } := by
  refine hret _ [] n' tn e h' tk' a1 a2 ⟨rfl, rfl⟩ F fun p hp => N p ?_
  rcases List.mem_cons.mp hp with rfl | hp
  · exact hd
  · rcases List.mem_cons.mp hp with rfl | hp
    · exact hc
    · exact hs p hp
end
/-- the contracts of an operand's two texts, the operand a number or a target -/
structure NumC (w : World) (C : Addr) (kind A I sy : Str) (n : Int) : Prop where
  a : ∀ x, Read w 5 131 [.ref x] (NumAt w.params C kind x n sy) (fun t => .str A t)
  i : ∀ x, Read w 5 145 [.ref x] (NumAt w.params C kind x n sy) (fun t => .str I t)
theorem kw56 : True := by
  k_with "own call ref" => first | ((k_here; (with_reducible show wpAny _ _ (call (Value.ref 131) [Value.ref _]) _ _ _); k_dflt (refine' Read.use ?k1w ?k2w ?k3w ?k4w ?k5w ?kKw (NumC.a ?kCw _) ?khw ?kdw ?kuw ?_; (walk_at "mine use read"); (case khw => first | with_reducible assumption | (refine' NumAt.mono ?naw ?ncw; (case naw => with_reducible assumption); (case ncw => walk_at "mine chain"))); (case kCw => with_reducible assumption); intro t9w h9w tk9w F9w N9w; (try dsimp only); (try k_fold)))) | fail "none"
  k_with "own call ref" => first | ((k_here; (with_reducible show wpAny _ _ (call (Value.ref 145) [Value.ref _]) _ _ _); k_dflt (refine' Read.use ?k1w ?k2w ?k3w ?k4w ?k5w ?kKw (NumC.i ?kCw _) ?khw ?kdw ?kuw ?_; (walk_at "mine use read"); (case khw => first | with_reducible assumption | (refine' NumAt.mono ?naw ?ncw; (case naw => with_reducible assumption); (case ncw => walk_at "mine chain"))); (case kCw => with_reducible assumption); intro t9w h9w tk9w F9w N9w; (try dsimp only); (try k_fold)))) | fail "none"
  trivial
theorem law_sum_ts (w : World) (x : Str) (u : Tok) (a : Str) (n : Int) (hx : x.length ≤ 40) (e : lawSum x = (a, some n)) : MakeT w 3 488 [.str x u] (SumGot a n) := by
  have h := law_sum_t w x u hx
  rw [e] at h
  exact h
theorem SumGot.useT {a : Str} {n : Int} {news : List (Addr × Obj)} {h₀ : Heap} {L : Addr} {m : Str → Option Value} {Q : Value → Shared → Prop} {s : Shared}
    (h : ∀ (r : Addr) (t1 t2 : Tok) (h' : Heap) (tk' : Nat), 0 < tk' → (∀ p ∈ news, p.1 < r) → Fr h₀ L h' m → News h₀ L h' ((r, { cls := .type "tuple", data := .seq #[.str a t1, .int n t2] }) :: news) → Q (.ref r) { s with heap := h', toks := tk' }) :
    ∀ (v : Value) (made : List (Addr × Obj)) (h' : Heap) (tk' : Nat), 0 < tk' → SumGot a n v made → (∀ q ∈ news, ∀ p ∈ made, q.1 < p.1) → Fr h₀ L h' m → News h₀ L h' (made ++ news) → Q v { s with heap := h', toks := tk' } := by
  rintro v made h' tk' hp ⟨r, t1, t2, rfl, rfl⟩ hl F N
  exact h r t1 t2 h' tk' hp (fun p hp => hl p hp _ (.head _)) F N
theorem kw57 : True := by
  k_with "own call ref" => first | ((k_here; (with_reducible show wpAny _ _ (call (Value.ref 488) [Value.str _ _]) _ _ _); k_dflt (refine' MakeT.use ?k1w ?k2w ?k3w ?k4w ?k5w ?kKw (law_sum_ts _ _ _ _ _ (by walk_at "mine len") (by with_reducible assumption)) ?kdw ?kuw (SumGot.useT ?_); (walk_at "mine use make"); intro r9w t91w t92w h9w tk9w p9w l9w F9w N9w; (try k_lt l9w); (try dsimp only); (try k_fold)))) | fail "none"
  trivial
section
variable {prog : Program} {w : World} {A : Around} {E : Value → Shared → Prop} {s : Shared} {h₀ : Heap} {L r1 r2 : Addr} {news : List (Addr × Obj)} {Q : Value → Shared → Prop} {a : Str} {n : Int} {t1 t2 u1 u2 : Tok}
theorem tup2 (N : News h₀ L s.heap news) (h1 : (r1, ({ cls := .type "tuple", data := .seq #[.str a t1, .int n t2] } : Obj)) ∈ news) (h2 : (r2, ({ cls := .type "tuple", data := .seq #[.str a u1, .int n u2] } : Obj)) ∈ news)
    (ok : PyData.strOk a = true) (hu : A.units + 64 < cLine) (h : Q (.bool true) s) : wpAny (model prog w) A (compareOp .Eq (.ref r1) (.ref r2)) Q E s := by
  have hl : (PyData.tuple [.str a, .int n]).canLay0 = true := by
    simp only [PyData.canLay0, PyData.canLayAll0, ok, Bool.and_true]
  have hs := shaped_true hl (by simp [PyData.depth, PyData.depthAll])
  refine eq_dataH (reads_tuple_at (News.get N h1) rfl rfl (.cons (.str _ _) (.cons (.int _ _) .nil))) (reads_tuple_at (News.get N h2) rfl rfl (.cons (.str _ _) (.cons (.int _ _) .nil))) hs hs hu ?_
  rw [PySem.SeqAt.eqv_refl _ hl]
  exact h
end
theorem kw58 : True := by
  k_with "own compareOp Eq ref ref" => first | ((k_here; (with_reducible show wpAny _ _ (compareOp CmpOp.Eq (Value.ref _) (Value.ref _)) _ _ _); k_dflt (refine' tup2 ?kNw ?kaw ?kbw ?kokw ?kuw ?_; (case kNw => k_asm); (case kaw => k_mem); (case kbw => k_mem); (case kokw => assumption); (case kuw => ke_room)))) | fail "none"
  k_with "mine mem3" => first | (first | with_reducible exact List.mem_cons_self | (refine List.mem_cons_of_mem _ ?_; walk_at "mine mem3") | (refine List.mem_append.mpr (.inr ?_); walk_at "mine mem3") | with_reducible assumption) | fail "none"
  k_with "mine in3" => first | ((intro xw hxw; walk_at "mine mem3")) | fail "none"
  k_with "own call builtin:str.replace" => first | ((k_here; (with_reducible show wpAny _ _ (call (Value.builtin "str.replace") [Value.str _ _, Value.str _ _, Value.str _ _]) _ _ _); k_dflt (refine' SC.replaceW ?ruw ?rvw ?ruvw ?ryzw ?rxw ?rzw ?_; (case ruw => ((show @Ne Nat _ _); omega)); (case rvw => ((show @Ne Nat _ _); omega)); (case ruvw => ((show @Ne Nat _ _); omega)); (case ryzw => decide); (case rxw => omega); (case rzw => decide)); intro _ _)) | fail "none"
  k_with "mine stop" => first | ((with_reducible show wpAny _ _ (execs (Stmt.Assign [Expr.Tuple _ _ _] _ _ :: Stmt.If _ _ _ _ :: _) _) _ _ _)) | fail "none"
  k_with "mine stop" => first | ((with_reducible show wpAny _ _ (execs (Stmt.Assign [Expr.Name (Str.ofString "register") _] _ _ :: _) _) _ _ _)) | fail "none"
  trivial
set_option maxRecDepth 100000 in
set_option maxHeartbeats 8000000 in
theorem is_told_c (w : World) : Dice w 7 516 50 TrueOut := by
  unfold Dice
  intro d c n tn e ce vs ns dp un gd cn cs a ccd cl outer A₀ base h₀ L m s rest p loose mean mg mb Q E hi hne hn B F X N T hk hd hu hdc hrest hret
  refine wpAny_call ?_
  k_dflt cell_enter
  (rename Fr _ _ _ _ => hF0)
  refine fr_as hF0 (fun y => List.lookup y [(Str.ofString "dice", .ref d)]) rfl ?_
  clear hF0
  intro hF0
  walk_at "mine steps"
  (rename Fr _ _ _ _ => hF)
  refine cut_rolls (d := d) (c := c) (vs := vs) (ce := ce) rest n hF ?_ ?_
  · k_with "table" => skip
    k_steps
    all_goals ((rename Fr _ _ _ _ => hF); (rename News _ _ _ _ => hN))
    all_goals exact rolls_end hF hN rfl rfl rfl (by intro z q1 q2 q3; repeat (first | with_reducible rfl | rw [if_neg q1] | rw [if_neg q2] | rw [if_neg q3])) (by walk_at "mine in") (by omega) (by omega) ⟨by with_reducible assumption, by with_reducible assumption⟩ ⟨by with_reducible assumption, by with_reducible assumption⟩ (menuB _)
  clear hF
  intro h1 tk1 kd wv sy t1 t2 t3 n1 tn1 e1 hF hN a1 a2 b1 b2 b3
  dsimp only
  by_cases hm : kd < 3
  · k_steps
    (rename Fr _ _ _ _ => hF; rename News _ _ _ _ => hN)
    exact told_end hret hF hN (by walk_at "mine mem3") (by walk_at "mine mem3") (by walk_at "mine in3") (by omega) (by omega)
  have hq : kd = 3 ∨ kd = 4 ∨ kd = 5 := by omega
  clear b1
  by_cases hk3 : kd = 3
  · subst hk3
    clear hq hm
    walk_at "mine steps"
    walk1
    walk_at "mine steps"
    (rename Fr _ _ _ _ => hF)
    refine cut_reg (P := w.params) (d := d) (c := c) (vs := vs) (ce := ce) rest n1 hF ?_ ?_
    · k_steps
      all_goals ((rename Fr _ _ _ _ => hF); (rename News _ _ _ _ => hN))
      all_goals (
        refine' reg_end hF hN rfl (by intro y hy; repeat (first | with_reducible rfl | rw [if_neg hy])) (by walk_at "mine mem2") (by walk_at "mine mem2") (by walk_at "mine in") hrest (by omega) (by omega) ?g (.some ?r1 ?r2)
        case r1 => walk_at "mine mem2"
        case r2 => walk_at "mine mem2"
        case g => with_reducible assumption)
    clear hF
    intro h2 tk2 x nm kind mk n2 tn2 e2 hF hN hmk hsub a3 a4 hnm hra
    dsimp only
    cases hra
    k_steps
    (rename Fr _ _ _ _ => hF; rename News _ _ _ _ => hN)
    rw [beq_self_eq_true]
    exact told_end hret hF hN (by walk_at "mine mem2") (by walk_at "mine mem2") (fun p hp => (by walk_at "mine in" : ∀ p ∈ mk, p ∈ _) p (hsub p hp)) (by omega) (by omega)
  have hk3b : (kd == 3) = false := beq_eq_false_iff_ne.mpr hk3
  have c1 : -4294967296 < wv := by omega
  have c2 : wv < 4294967296 := by omega
  have hsy : sy.length ≤ 10 := by rcases b3 with h | h <;> rw [h] <;> decide
  obtain ⟨A, I, hC, hf1, hf2⟩ : ∃ A I : Str, NumC w 252 (Str.ofString "imm") A I sy wv ∧ (sy = Str.ofString "" → ImmT (S "") A I I wv ∧ (Txt.slice I none (some 7) == Str.ofString "offset ") = false) ∧ (sy = Str.ofString "beta" → ImmT (S "beta") A I (Txt.slice I (some 7) none) wv ∧ (Txt.slice I none (some 7) == Str.ofString "offset ") = true) :=
    ⟨immAtt sy wv, immIntel sy wv, ⟨fun x => att_imm_c w x _ wv c1 c2 hsy, fun x => int_imm_c w x _ wv c1 c2 hsy⟩, fun h => by rw [h]; exact imm_none c1 c2, fun h => by rw [h]; exact imm_beta c1 c2⟩
  walk_at "mine steps"
  walk1
  walk_at "mine steps"
  (rename Fr _ _ _ _ => hF)
  refine cut_vals (S "one") (fun t => .str A t) (S "other") (fun t => .str I t) (S "other") hF hN ?_ ?_
  · k_steps
    (rename Fr _ _ _ _ => hF; rename News _ _ _ _ => hN)
    refine cut_v hF (kst_newsOf hN ?_) rfl rfl ?_
    · walk_at "mine chain"
    · intro y q1 q2 q3
      repeat (first | with_reducible rfl | rw [if_neg q1] | rw [if_neg q2] | rw [if_neg q3])
  clear hF hN hC
  intro tA tI oo hT tkT hF hN
  dsimp only
  rcases (by omega : kd = 4 ∨ kd = 5) with rfl | rfl
  · clear hq hk3 hm hk3b
    rcases b3 with rfl | rfl
    · have hok : PyData.strOk (Str.ofString "") = true := by decide +kernel
      obtain ⟨⟨i1, i2, i3, i4, i5, i6⟩, hI7⟩ := hf1 rfl
      clear hf1 hf2
      have hN7 : ((Txt.slice I none (some 7) == Str.ofString "offset ") != (Str.ofString "" != Str.ofString "")) = false := by rw [hI7]; decide
      k_steps
      (rename Fr _ _ _ _ => hF; rename News _ _ _ _ => hN)
      exact told_end hret hF hN (by walk_at "mine chain1") (by walk_at "mine chain1") (by walk_at "mine chain") (by omega) (by omega)
    · have hok : PyData.strOk (Str.ofString "beta") = true := by decide +kernel
      obtain ⟨⟨i1, i2, i3, i4, i5, i6⟩, hI7⟩ := hf2 rfl
      clear hf1 hf2
      have hN7 : ((Txt.slice I none (some 7) == Str.ofString "offset ") != (Str.ofString "beta" != Str.ofString "")) = false := by rw [hI7]; decide
      k_steps
      (rename Fr _ _ _ _ => hF; rename News _ _ _ _ => hN)
      exact told_end hret hF hN (by walk_at "mine chain1") (by walk_at "mine chain1") (by walk_at "mine chain") (by omega) (by omega)
  · clear hq hk3 hm hk3b hf1 hf2
    rcases b3 with rfl | rfl
    · obtain ⟨r1, r2, r3, r4⟩ := rel_none c1 c2
      have hC : NumC w 293 (Str.ofString "rel") (relAtt (Str.ofString "") wv) (relIntel (Str.ofString "") wv) (Str.ofString "") wv := ⟨fun x => att_rel_c w x _ wv c1 c2 (by decide), fun x => int_rel_c w x _ wv c1 c2 (by decide)⟩
      have hl := aheadT_len wv
      rw [r1, r2] at hC
      revert hC r3 r4 hl
      generalize aheadT wv = A'
      intro r3 r4 hC hl
      by_cases hneg : wv < 0
      · obtain ⟨r5, r6⟩ := r3 hneg
        clear r1 r2 r3 r4
        k_steps
        (rename Fr _ _ _ _ => hF; rename News _ _ _ _ => hN)
        rw [show (wv == wv) = true from beq_self_eq_true _]
        exact told_end hret hF hN (by walk_at "mine chain1") (by walk_at "mine chain1") (by walk_at "mine chain") (by omega) (by omega)
      · obtain ⟨r5, r6⟩ := r4 hneg
        clear r1 r2 r3 r4
        k_steps
        (rename Fr _ _ _ _ => hF; rename News _ _ _ _ => hN)
        rw [show (wv == wv) = true from beq_self_eq_true _]
        exact told_end hret hF hN (by walk_at "mine chain1") (by walk_at "mine chain1") (by walk_at "mine chain") (by omega) (by omega)
    · obtain ⟨i2, i3, i4, i5, i6, i7⟩ := rel_beta c1 c2
      have hC : NumC w 293 (Str.ofString "rel") (relAtt (Str.ofString "beta") wv) (relIntel (Str.ofString "beta") wv) (Str.ofString "beta") wv := ⟨fun x => att_rel_c w x _ wv c1 c2 (by decide), fun x => int_rel_c w x _ wv c1 c2 (by decide)⟩
      have hok : PyData.strOk (Str.ofString "beta") = true := by decide +kernel
      revert hC i2 i3 i4 i5 i6 i7
      generalize relAtt (S "beta") wv = A'
      generalize relIntel (S "beta") wv = I'
      intro i2 i3 i4 i5 i6 i7 hC
      k_steps
      (rename Fr _ _ _ _ => hF; rename News _ _ _ _ => hN)
      rw [i7]
      exact told_end hret hF hN (by walk_at "mine chain1") (by walk_at "mine chain1") (by walk_at "mine chain") (by omega) (by omega)

/-! ### the table -/
structure MemB (base index : Option (Str × Str)) (scale worth : Int) (seg name : Str) : Prop where
  w0 : -4294967296 < worth
  w1 : worth < 4294967296
  s0 : 0 ≤ scale
  s1 : scale ≤ 15
  g : seg.length ≤ 10
  n : name.length ≤ 10
  b : ∀ b ∈ base, b.1.length ≤ 10
  i : ∀ b ∈ index, b.1.length ≤ 10
structure NumB (worth : Int) (name : Str) : Prop where
  w0 : -4294967296 < worth
  w1 : worth < 4294967296
  n : name.length ≤ 10
/-- an operand with both its texts -/
inductive OpAt (P : Params) (l : List (Addr × Obj)) (x : Addr) (one other : Str) : Prop
  | mem {base index : Option (Str × Str)} {scale worth size : Int} {seg name : Str} : MemAt P x base index scale worth size seg name l → MemB base index scale worth seg name → one = attT seg name worth base index scale → other = intelT seg name worth base index scale size → OpAt P l x one other
  | imm {worth : Int} {name : Str} : NumAt P 252 (Str.ofString "imm") x worth name l → NumB worth name → one = immAtt name worth → other = immIntel name worth → OpAt P l x one other
  | rel {worth : Int} {name : Str} : NumAt P 293 (Str.ofString "rel") x worth name l → NumB worth name → one = relAtt name worth → other = relIntel name worth → OpAt P l x one other
  | reg {nm : Str} : RegOpAt P x nm l → nm.length ≤ 10 → one = S "%" ++ nm → other = nm → OpAt P l x one other
theorem Read.by {w : World} {k : Nat} {f : Addr} {vs : List Value} {Has : List (Addr × Obj) → Prop} {R : Tok → Value} (h : ∀ news, Has news → ∃ Has', Has' news ∧ Read w k f vs Has' R) : Read w k f vs Has R := by
  intro dp un gd cn cs a ccd cl outer A₀ base₀ h₀ L m s news p loose mean mg mb Q E hh B F X N T hk hd hu hret
  obtain ⟨Has', h', C⟩ := h news hh
  exact C dp un gd cn cs a ccd cl outer A₀ base₀ h₀ L m s news p loose mean mg mb Q E h' B F X N T hk hd hu hret
theorem op_att_c (w : World) (x : Addr) (one other : Str) : Read w 5 131 [.ref x] (fun l => OpAt w.params l x one other) (fun t => .str one t) := by
  refine Read.by fun news h => ?_
  cases h with
  | mem h b e1 e2 => rw [e1]; exact ⟨_, h, att_mem_c w x _ _ _ _ _ _ _ b.w0 b.w1 b.s0 b.s1 b.g b.n b.b b.i⟩
  | imm h b e1 e2 => rw [e1]; exact ⟨_, h, att_imm_c w x _ _ b.w0 b.w1 b.n⟩
  | rel h b e1 e2 => rw [e1]; exact ⟨_, h, att_rel_c w x _ _ b.w0 b.w1 b.n⟩
  | reg h b e1 e2 => rw [e1]; exact ⟨_, h, att_reg_c w x _ b⟩
theorem op_int_c (w : World) (x : Addr) (one other : Str) : Read w 5 145 [.ref x] (fun l => OpAt w.params l x one other) (fun t => .str other t) := by
  refine Read.by fun news h => ?_
  cases h with
  | mem h b e1 e2 => rw [e2]; exact ⟨_, h, int_mem_c w x _ _ _ _ _ _ _ b.w0 b.w1 b.s0 b.s1 b.g b.n b.b b.i⟩
  | imm h b e1 e2 => rw [e2]; exact ⟨_, h, int_imm_c w x _ _ b.w0 b.w1 b.n⟩
  | rel h b e1 e2 => rw [e2]; exact ⟨_, h, int_rel_c w x _ _ b.w0 b.w1 b.n⟩
  | reg h b e1 e2 => rw [e2]; exact ⟨_, h, int_reg_c w x _ b⟩
/-- a row of the table -/
noncomputable def RowAt (P : Params) (l : List (Addr × Obj)) (v : Value) : Prop := ∃ (r x : Addr) (t1 t2 : Tok) (one other : Str), v = .ref r ∧ (r, ({ cls := .type "tuple", data := .seq #[.ref x, .str one t1, .str other t2] } : Obj)) ∈ l ∧ OpAt P l x one other
theorem RowAt.of {P : Params} {l : List (Addr × Obj)} {r x : Addr} {t1 t2 : Tok} {one other : Str} (h : (r, ({ cls := .type "tuple", data := .seq #[.ref x, .str one t1, .str other t2] } : Obj)) ∈ l) (o : OpAt P l x one other) : RowAt P l (.ref r) := ⟨r, x, t1, t2, one, other, rfl, h, o⟩
/-- a new list of rows -/
noncomputable def TableOut (P : Params) (v : Value) (big : List (Addr × Obj)) : Prop := ∃ (l : Addr) (vs : List Value) (nn : Nat) (rest : List (Addr × Obj)), v = .ref l ∧ big = (l, listOf vs.toArray nn) :: rest ∧ AllLt l rest ∧ ∀ v ∈ vs, RowAt P rest v
theorem table_end {P : Params} {l : Addr} {vs : List Value} {nn : Nat} {news rest : List (Addr × Obj)} {h₀ h' : Heap} {L : Addr} {m : Str → Option Value} {Q : Value → Shared → Prop} {s : Shared} {tk' : Nat} (hret : ∀ (v : Value) (big : List (Addr × Obj)) (h' : Heap) (tk' : Nat), TableOut P v big → (∀ p ∈ news, p ∈ big) → Fr h₀ L h' m → News h₀ L h' big → Q v { s with heap := h', toks := tk' })
    (F : Fr h₀ L h' m) (N : News h₀ L h' ((l, listOf vs.toArray nn) :: rest)) (hl : AllLt l rest) (hs : ∀ p ∈ news, p ∈ rest) (hr : ∀ v ∈ vs, RowAt P rest v) : Q (.ref l) { s with heap := h', toks := tk' } :=
  hret _ _ h' tk' ⟨l, vs, nn, rest, rfl, rfl, hl, hr⟩ (fun p hp => .tail _ (hs p hp)) F N
theorem gpr_r (w : World) (n : Int) (t u : Tok) (h0 : 0 ≤ n) (h1 : n ≤ 15) : MakeR w 3 425 [.int n t, .int 64 u] (fun _ => True) (RefOut fun x big => RegAt w.params big (.ref x) (some (gprN n, S "gpr"))) := (gpr_c w n 64 t u h0 h1 (by decide)).toR fun _ h => h.2 rfl
theorem rip_r (w : World) : MakeR w 3 446 [] (fun _ => True) (RefOut fun x big => RegAt w.params big (.ref x) (some (S "rip", S "rip"))) := (rip_c w).toR fun _ h => h
theorem high_r (w : World) (t : Tok) : MakeR w 3 432 [.int 4 t] (fun _ => True) (RefOut fun x big => RegAt w.params big (.ref x) (some (S "ah", S "high"))) := (high_c w 4 t (by decide) (by decide)).toR fun _ h => h.2 rfl
theorem kw59 : True := by
  k_with "own call ref" => first | ((k_here; (with_reducible show wpAny _ _ (call (Value.ref 425) [Value.int _ _, Value.int 64 _]) _ _ _); k_dflt (refine' MakeR.use ?k1w ?k2w ?k3w ?k4w ?k5w ?kKw (gpr_r _ _ _ _ (by decide) (by decide)) True.intro ?kdw ?kuw (RefOut.use ?_); walk_at "mine made"))) | fail "none"
  k_with "own call ref" => first | ((k_here; (with_reducible show wpAny _ _ (call (Value.ref 446) _) _ _ _); k_dflt (refine' MakeR.use ?k1w ?k2w ?k3w ?k4w ?k5w ?kKw (rip_r _) True.intro ?kdw ?kuw (RefOut.use ?_); walk_at "mine made"))) | fail "none"
  k_with "own call ref" => first | ((k_here; (with_reducible show wpAny _ _ (call (Value.ref 432) [Value.int 4 _]) _ _ _); k_dflt (refine' MakeR.use ?k1w ?k2w ?k3w ?k4w ?k5w ?kKw (high_r _ _) True.intro ?kdw ?kuw (RefOut.use ?_); walk_at "mine made"))) | fail "none"
  k_with "own call ref" => first | ((k_here; (with_reducible show wpAny _ _ (call (Value.ref 218) [Value.ref _]) _ _ _); k_dflt (refine' MakeR.use ?k1w ?k2w ?k3w ?k4w ?k5w ?kKw (reg1_c _ _ _ _) ?khw ?kdw ?kuw (RefOut.use ?_); (walk_at "mine use read"); (case khw => walk_at "mine regat"); walk_at "mine got"))) | fail "none"
  k_with "mine row" => first | ((refine RowAt.of (by walk_at "mine chain1") ?_; first | (refine' OpAt.mem (MemAt.mono ?hw ?cw) ?bw ?e1w ?e2w; (case hw => with_reducible assumption); (case cw => walk_at "mine chain"); (case bw => exact ⟨by decide +kernel, by decide +kernel, by decide +kernel, by decide +kernel, by decide +kernel, by decide +kernel, by decide +kernel, by decide +kernel⟩); (case e1w => decide +kernel); (case e2w => decide +kernel)) | (refine' OpAt.imm (NumAt.mono ?hw ?cw) ?bw ?e1w ?e2w; (case hw => with_reducible assumption); (case cw => walk_at "mine chain"); (case bw => exact ⟨by decide +kernel, by decide +kernel, by decide +kernel⟩); (case e1w => decide +kernel); (case e2w => decide +kernel)) | (refine' OpAt.rel (NumAt.mono ?hw ?cw) ?bw ?e1w ?e2w; (case hw => with_reducible assumption); (case cw => walk_at "mine chain"); (case bw => exact ⟨by decide +kernel, by decide +kernel, by decide +kernel⟩); (case e1w => decide +kernel); (case e2w => decide +kernel)) | (refine' OpAt.reg (RegOpAt.mono ?hw ?cw) ?bw ?e1w ?e2w; (case hw => with_reducible assumption); (case cw => walk_at "mine chain"); (case bw => decide +kernel); (case e1w => decide +kernel); (case e2w => decide +kernel)))) | fail "none"
  trivial
set_option maxRecDepth 100000 in
set_option maxHeartbeats 8000000 in
theorem table_c (w : World) : MakeR w 5 460 [] (fun _ => True) (TableOut w.params) := by
  unfold MakeR
  intro dp un gd cn cs a ccd cl outer A₀ base₀ h₀ L m s news p loose mean mg mb Q E _ B F X N T hk hd hu hret
  refine wpAny_call ?_
  k_dflt cell_enter
  (rename Fr _ _ _ _ => hF0)
  refine fr_as hF0 (fun y => List.lookup y []) rfl ?_
  clear hF0
  intro hF0
  k_steps
  (rename Fr _ _ _ _ => hF; rename News _ _ _ _ => hN)
  refine table_end hret hF hN (by assumption) (by walk_at "mine chain") ?_
  · repeat (refine List.forall_mem_cons.mpr ⟨?rr, ?_⟩; (case rr => walk_at "mine row"))
    exact List.forall_mem_nil _

/-! ### the law's loops -/
theorem fr_as0 {h₀ h : Heap} {L : Addr} {m : Str → Option Value} {G : Prop} (F : Fr h₀ L h m) (m' : Str → Option Value) (e : m = m') (k : Fr h₀ L h m' → G) : G := k (e ▸ F)
section
variable {prog : Program} {w : World} {A : Around} {E : Value → Shared → Prop} {s : Shared} {env : Env} {h₀ : Heap} {target : Expr} {body : List Stmt} {Q : Flow → Shared → Prop}
theorem loop_rows {l : Addr} {vs : List Value} {nn : Nat} {m₀ : Str → Option Value} {news big : List (Addr × Obj)} (J : (Str → Option Value) → Prop) (Ok : Value → Prop)
    (hh : A.handled = none) (F : Fr h₀ env.locals s.heap m₀) (N : News h₀ env.locals s.heap big) (hl : (l, listOf vs.toArray nn) ∈ big) (hs : ∀ p ∈ news, p ∈ big) (hlt : AllLt l news) (hv : ∀ v ∈ vs, Ok v) (hj : J m₀)
    (turn : ∀ (v : Value) (m₁ : Str → Option Value) (s₁ : Shared) (more : List (Addr × Obj)), Ok v → J m₁ → (∀ p ∈ news, p ∈ more) → Fr h₀ env.locals s₁.heap m₁ → News h₀ env.locals s₁.heap more →
      wpAny (model prog w) A (assign target env v) (fun _ s₃ => wpAny (model prog w) A (execs body env) (TurnEnd h₀ env.locals J more s₁) E s₃) E s₁)
    (done : ∀ (m₁ : Str → Option Value) (h : Heap) (tk : Nat), J m₁ → Fr h₀ env.locals h m₁ → News h₀ env.locals h news → Q .next { s with heap := h, toks := tk }) :
    wpAny (model prog w) A (pyIter (.ref l)) (fun it s₂ => LoopAtT prog w A h₀ env target body Q E it s₂) E s := by
  have hol : s.heap.get? l = some (listOf vs.toArray nn) := (N _ hl).1
  have hls : s.heap.IsList l vs.toArray := ⟨_, hol, rfl, nn, rfl⟩
  have hne : l ≠ s.heap.objs.size := Nat.ne_of_lt (Heap.lt_size hol)
  have Nn : News h₀ env.locals s.heap news := fun p hp => N p (hs p hp)
  refine wpAny_pyIter_list hls ?_
  have W := Walks.list (prog := prog) (w := w) hh s.heap.objs.size l hne vs.toArray
  refine ⟨s.heap.objs.size, _, _, _, _, _, m₀, news, (fun _ m nx => nx = news ∧ J m), rfl, W, ?_, ?_, ?_, ⟨⟨_, Heap.get?_push_size _ rfl, rfl, rfl⟩, hls.at fun o e => Heap.get?_push_of_some _ e⟩, F.push _, (fun p hp => ⟨Heap.get?_push_of_some _ (Nn p hp).1, (Nn p hp).2⟩), (fun i s' v Q' st hQ' => letGo_listiter st.1 hQ'), ⟨rfl, hj⟩, ?_, ?_⟩
  · intro hm
    rcases List.mem_cons.mp hm with e | hm
    · exact absurd F.ns.lt (e ▸ Nat.lt_irrefl _)
    · exact (N _ hl).2.1 ((List.mem_singleton.mp hm).symm)
  · intro b hb
    rw [List.mem_singleton.mp hb]
    exact next_is_new F
  · intro p hp hI
    exact absurd (Heap.lt_size (Nn p hp).1) ((List.mem_singleton.mp hI) ▸ Nat.lt_irrefl _)
  · rintro i v m₁ news₁ s₁ own hin hP ⟨rfl, hJ⟩ hoff _ _ _ _ F₁ N₁
    have hv' : v ∈ vs := by
      have : vs[i]? = some v := by simpa using hP
      exact List.mem_of_getElem? this
    refine wpAny_mono (turn v m₁ s₁ (own ++ news₁) (hv v hv') hJ (fun p hp => List.mem_append.mpr (.inr hp)) F₁ N₁) (fun _ s₃ hh => wpAny_mono hh (fun f s₂ hh => ?_) fun _ _ e => e) fun _ _ e => e
    obtain ⟨rfl, h', tk', m', rfl, F', N', hJ'⟩ := hh
    exact ⟨rfl, h', tk', m', news₁, rfl, F', N', hoff, rfl, hJ'⟩
  · rintro h' tk m' news' F' N' _ ⟨rfl, hJ⟩
    exact done m' h' tk hJ F' N'
end
/-- all names but the loop's own are as ahead of it -/
noncomputable def RowJ (m₀ m : Str → Option Value) : Prop := ∀ k, k ≠ S "operand" → k ≠ S "one" → k ≠ S "other" → m k = m₀ k
theorem RowJ.eq {m₀ m : Str → Option Value} (h : RowJ m₀ m) : m = fun y => if y = S "operand" then m (S "operand") else if y = S "one" then m (S "one") else if y = S "other" then m (S "other") else m₀ y := by
  funext y
  by_cases h1 : y = S "operand"
  · rw [if_pos h1, h1]
  · rw [if_neg h1]
    by_cases h2 : y = S "one"
    · rw [if_pos h2, h2]
    · rw [if_neg h2]
      by_cases h3 : y = S "other"
      · rw [if_pos h3, h3]
      · rw [if_neg h3]
        exact h y h1 h2 h3
theorem OpAt.mono {P : Params} {a b : List (Addr × Obj)} {x : Addr} {one other : Str} (h : OpAt P a x one other) (hs : ∀ p ∈ a, p ∈ b) : OpAt P b x one other := by
  cases h with
  | mem h1 h2 h3 h4 => exact .mem (h1.mono hs) h2 h3 h4
  | imm h1 h2 h3 h4 => exact .imm (h1.mono hs) h2 h3 h4
  | rel h1 h2 h3 h4 => exact .rel (h1.mono hs) h2 h3 h4
  | reg h1 h2 h3 h4 => exact .reg (h1.mono hs) h2 h3 h4
section
variable {prog : Program} {w : World} {A : Around} {E : Value → Shared → Prop} {s : Shared} {env : Env} {h₀ : Heap} {target : Expr} {body : List Stmt} {Q : Flow → Shared → Prop} {P : Params}
theorem law_loop {l : Addr} {vs : List Value} {nn : Nat} {m₀ : Str → Option Value} {news : List (Addr × Obj)}
    (hh : A.handled = none) (F : Fr h₀ env.locals s.heap m₀) (N : News h₀ env.locals s.heap ((l, listOf vs.toArray nn) :: news)) (hlt : AllLt l news) (hv : ∀ v ∈ vs, RowAt P news v)
    (turn : ∀ (r x : Addr) (t1 t2 : Tok) (one other : Str) (a b c : Option Value) (s₁ : Shared) (more : List (Addr × Obj)), OpAt P ((r, ({ cls := .type "tuple", data := .seq #[.ref x, .str one t1, .str other t2] } : Obj)) :: more) x one other → (one != one) = false → (other != other) = false →
      Fr h₀ env.locals s₁.heap (fun y => if y = S "operand" then a else if y = S "one" then b else if y = S "other" then c else m₀ y) → News h₀ env.locals s₁.heap ((r, { cls := .type "tuple", data := .seq #[.ref x, .str one t1, .str other t2] }) :: more) →
      wpAny (model prog w) A (assign target env (.ref r)) (fun _ s₃ => wpAny (model prog w) A (execs body env) (TurnEnd h₀ env.locals (RowJ m₀) more s₁) E s₃) E s₁)
    (done : ∀ (a b c : Option Value) (h : Heap) (tk : Nat), Fr h₀ env.locals h (fun y => if y = S "operand" then a else if y = S "one" then b else if y = S "other" then c else m₀ y) → News h₀ env.locals h [] → Q .next { s with heap := h, toks := tk }) :
    wpAny (model prog w) A (pyIter (.ref l)) (fun it s₂ => LoopAtT prog w A h₀ env target body Q E it s₂) E s := by
  refine loop_rows (RowJ m₀) (RowAt P news) hh F N (.head _) (fun p hp => .tail _ hp) hlt hv (fun _ _ _ _ => rfl) ?_ ?_
  · rintro v m₁ s₁ more ⟨r, x, t1, t2, one, other, rfl, hr, ho⟩ hJ hs F₁ N₁
    refine turn r x t1 t2 one other (m₁ (S "operand")) (m₁ (S "one")) (m₁ (S "other")) s₁ more (ho.mono fun p hp => .tail _ (hs p hp)) (by simp) (by simp) ?_ ?_
    · rw [← hJ.eq]; exact F₁
    · intro p hp
      rcases List.mem_cons.mp hp with rfl | hp
      · exact N₁ _ (hs _ hr)
      · exact N₁ _ hp
  · intro m₁ h tk hJ F₁ N₁
    refine done (m₁ (S "operand")) (m₁ (S "one")) (m₁ (S "other")) h tk ?_ fun p hp => nomatch hp
    rw [← hJ.eq]; exact F₁
theorem rows_end {L : Addr} {h' : Heap} {m₀ m' : Str → Option Value} {more l : List (Addr × Obj)} {tk' : Nat} (F : Fr h₀ L h' m') (N : News h₀ L h' l) (hs : ∀ p ∈ more, p ∈ l) (hr : ∀ k, k ≠ S "operand" → k ≠ S "one" → k ≠ S "other" → m' k = m₀ k) : TurnEnd h₀ L (RowJ m₀) more s .next { s with heap := h', toks := tk' } :=
  ⟨rfl, h', tk', m', rfl, F, kst_newsOf N hs, hr⟩
end
theorem ints5 {vs : List Value} {l : List Int} (_h : IntsAre vs (List.map (fun k' => k') (List.take 40 l) ++ [5])) : 0 < (List.map (fun k' => k') (List.take 40 l) ++ [5]).length ∧ (List.map (fun k' => k') (List.take 40 l) ++ [5]).length ≤ 1000 := by
  rw [List.length_append, List.length_map, List.length_take]
  simp only [List.length_cons, List.length_nil]
  omega
/-- a turn's end in the loop of the dice -/
noncomputable def DiceEnd (h₀ : Heap) (L d cA : Addr) (vs : List Value) (ce : Nat) (m₀ : Str → Option Value) (own : List (Addr × Obj)) (n : Int) (s : Shared) (fl : Flow) (s' : Shared) : Prop :=
  fl = .next ∧ ∃ (h' : Heap) (tk' : Nat) (m' : Str → Option Value) (n' : Int) (tn' : Tok) (e' : Nat), s' = { s with heap := h', toks := tk' } ∧ Fr h₀ L h' m' ∧ (∀ z, z ≠ S "turn" → m' z = m₀ z) ∧ News h₀ L h' ((d, diceO n' tn' cA e') :: (cA, listOf vs.toArray ce) :: own) ∧ n ≤ n' ∧ n' ≤ n + 50
section
variable {prog : Program} {w : World} {A : Around} {E : Value → Shared → Prop} {s : Shared} {env : Env} {h₀ : Heap} {body : List Stmt} {Q : Flow → Shared → Prop} {d cA : Addr} {vs : List Value} {ce : Nat}
theorem fr_turn {h : Heap} {L : Addr} {m₀ m₁ : Str → Option Value} {v : Option Value} (hm : ∀ z, z ≠ S "turn" → m₁ z = m₀ z) (F : Fr h₀ L h (fun y => if y = S "turn" then v else m₁ y)) : Fr h₀ L h (fun y => if y = S "turn" then v else m₀ y) := by
  refine cast (congrArg (Fr h₀ L h) ?_) F
  funext y
  by_cases hy : y = S "turn"
  · rw [if_pos hy, if_pos hy]
  · rw [if_neg hy, if_neg hy, hm y hy]
theorem dice_loop {r : Addr} {t₀ u₀ v₀ : Tok} {m₀ : Str → Option Value} {tn₀ : Tok} {e₀ : Nat} {big : List (Addr × Obj)}
    (hh : A.handled = none) (hr : IsRange s.heap r 0 8 1 t₀ u₀ v₀) (F : Fr h₀ env.locals s.heap m₀) (N : News h₀ env.locals s.heap big) (hd : (d, diceO 0 tn₀ cA e₀) ∈ big) (hc : (cA, listOf vs.toArray ce) ∈ big)
    (turn : ∀ (n : Int) (tn : Tok) (e : Nat) (v : Value) (h : Heap) (tk : Nat) (own : List (Addr × Obj)), 0 ≤ n → n ≤ 400 → (∀ p ∈ own, p.1 ≠ d) → Fr h₀ env.locals h (fun y => if y = S "turn" then some v else m₀ y) → News h₀ env.locals h ((d, diceO n tn cA e) :: (cA, listOf vs.toArray ce) :: own) →
      wpAny (model prog w) A (execs body env) (DiceEnd h₀ env.locals d cA vs ce m₀ own n { s with heap := h, toks := tk }) E { s with heap := h, toks := tk })
    (done : ∀ (o : Option Value) (h : Heap) (tk : Nat), Fr h₀ env.locals h (fun y => if y = S "turn" then o else m₀ y) → News h₀ env.locals h [] → Q .next { s with heap := h, toks := tk }) :
    wpAny (model prog w) A (pyIter (.ref r)) (fun it s₂ => LoopAtV prog w A h₀ env (S "turn") body Q E it s₂) E s := by
  have N0 : News h₀ env.locals s.heap [(d, diceO 0 tn₀ cA e₀), (cA, listOf vs.toArray ce)] := by
    intro p hp
    rcases List.mem_cons.mp hp with rfl | hp
    · exact N _ hd
    · rw [List.mem_singleton.mp hp]; exact N _ hc
  refine wpAny_pyIter_range hr (by decide) ?_
  have hn : Builtin.Range.rangeSize 0 8 1 = ((8 : Nat) : Int) := by decide
  have W : Walks prog w A s.heap.objs.size [s.heap.objs.size] [s.heap.objs.size] 8 (fun i v => i < 8 ∧ ∃ t, v = .int (0 + i * 1) t)
      (fun i h => IsRangeIter h s.heap.objs.size (0 + (i : Nat) * 1) (((8 : Nat) : Int) - (i : Nat)) 1) := (Walks.range hh _ 0 1 8).bound
  refine loop_invN (fun i m nx => ∃ (n : Int) (tn : Tok) (e : Nat), nx = [(d, diceO n tn cA e), (cA, listOf vs.toArray ce)] ∧ 0 ≤ n ∧ n ≤ 50 * (i : Int) ∧ ∀ z, z ≠ S "turn" → m z = m₀ z) W ?_ ?_ ?_ ?_ (by show IsRangeIter _ _ _ _ _; rw [hn]; simpa using Heap.get?_push_size _ rfl) (F.push _) (fun p hp => ⟨Heap.get?_push_of_some _ (N0 p hp).1, (N0 p hp).2⟩) ⟨0, tn₀, e₀, rfl, by omega, by omega, fun _ _ => rfl⟩ ?_ ?_
  · intro hm
    exact absurd F.ns.lt ((List.mem_singleton.mp hm) ▸ Nat.lt_irrefl _)
  · intro b hb
    rw [List.mem_singleton.mp hb]
    exact next_is_new F
  · intro p hp hI
    exact absurd (Heap.lt_size (N0 p hp).1) ((List.mem_singleton.mp hI) ▸ Nat.lt_irrefl _)
  · intro p hp hI
    exact absurd (Heap.lt_size (N0 p hp).1) ((List.mem_singleton.mp hI) ▸ Nat.lt_irrefl _)
  · rintro i v m₁ nx h tk own hi _ hadr hoff ⟨n, tn, e, rfl, h1, h2, hm⟩ F₁ N₁
    refine wpAny_mono (turn n tn e v h tk own h1 (by omega) (OwnOff.ne hoff (.head _)) (fr_turn hm F₁) N₁) (fun f s₂ p => ?_) fun _ _ x => x
    obtain ⟨rfl, h', tk', m', n', tn', e', rfl, F', hm', N', a1, a2⟩ := p
    exact InvEndN.intro F' N' ⟨n', tn', e', rfl, by omega, by omega, hm'⟩ rfl (fun p hp => by
      rcases List.mem_cons.mp hp with rfl | hp
      · exact .head _
      · rw [List.mem_singleton.mp hp]; exact .tail _ (.head _)) fun p hp => .tail _ (.tail _ hp)
  · rintro m₁ nx h tk ⟨n, tn, e, rfl, h1, h2, hm⟩ F₁ N₁
    refine done (m₁ (S "turn")) h tk (fr_turn hm ?_) fun p hp => nomatch hp
    refine cast (congrArg (Fr h₀ env.locals h) ?_) F₁
    funext y
    by_cases hy : y = S "turn"
    · rw [if_pos hy, hy]
    · rw [if_neg hy]
theorem dice_end {L : Addr} {h' : Heap} {m₀ m' : Str → Option Value} {own l : List (Addr × Obj)} {n n' : Int} {tn' : Tok} {e' : Nat} {tk' : Nat} (F : Fr h₀ L h' m') (N : News h₀ L h' l) (hd : (d, diceO n' tn' cA e') ∈ l) (hc : (cA, listOf vs.toArray ce) ∈ l) (ho : ∀ p ∈ own, p ∈ l) (hr : ∀ z, z ≠ S "turn" → m' z = m₀ z) (a1 : n ≤ n') (a2 : n' ≤ n + 50) : DiceEnd h₀ L d cA vs ce m₀ own n s .next { s with heap := h', toks := tk' } := by
  refine ⟨rfl, h', tk', m', n', tn', e', rfl, F, hr, fun p hp => N p ?_, a1, a2⟩
  rcases List.mem_cons.mp hp with rfl | hp
  · exact hd
  · rcases List.mem_cons.mp hp with rfl | hp
    · exact hc
    · exact ho p hp
end
-- the premises of a contract's use where the depth is written
theorem kw60 : True := by
  k_with "mine kd" => first | (((try dsimp only [ktrTop]); (try simp only [depth_under_make, depth_under_kw, depth_in1, depth_deeper, depth_caller]); exact Nat.le_of_ble_eq_true rfl)) | fail "none"
  k_with "mine ku" => first | (((try dsimp only [ktrTop]); (try simp only [units_in1, units_deeper, Around.mark_units, units_caller, cLine_is]); exact Nat.le_of_ble_eq_true rfl)) | fail "none"
  k_with "mine use read" => first | (( (case k1w => k_asm); (case k2w => k_asm); (case k3w => k_asm); (case k4w => k_asm); (case k5w => k_asm); (case kKw => first | exact rfl | assumption); (case kdw => walk_at "mine kd"); (case kuw => walk_at "mine ku"))) | fail "none"
  k_with "mine use dice" => first | (( (case k1w => k_asm); (case k2w => k_asm); (case k3w => k_asm); (case k4w => k_asm); (case k5w => k_asm); (case kKw => first | exact rfl | assumption); (case kSw => walk_at "mine spl"); (case kcw => k_mem); (case kdcw => k_ne); (case kiw => assumption); (case kew => assumption); (case knw => omega); (case kdw => walk_at "mine kd"); (case kuw => walk_at "mine ku"))) | fail "none"
  k_with "own call ref" => first | ((k_here; (with_reducible show wpAny _ _ (call (Value.ref 131) [Value.ref _]) _ _ _); k_dflt ((rename OpAt _ _ _ _ _ => hO9w); refine' Read.use ?k1w ?k2w ?k3w ?k4w ?k5w ?kKw (op_att_c _ _ _ _) ?khw ?kdw ?kuw ?_; (case khw => with_reducible assumption); (walk_at "mine use read"); intro t9w h9w tk9w F9w N9w; (try dsimp only); (try k_fold)))) | fail "none"
  k_with "own call ref" => first | ((k_here; (with_reducible show wpAny _ _ (call (Value.ref 145) [Value.ref _]) _ _ _); k_dflt ((rename OpAt _ _ _ _ _ => hO9w); refine' Read.use ?k1w ?k2w ?k3w ?k4w ?k5w ?kKw (op_int_c _ _ _ _) ?khw ?kdw ?kuw ?_; (case khw => with_reducible assumption); (walk_at "mine use read"); intro t9w h9w tk9w F9w N9w; (try dsimp only); (try k_fold)))) | fail "none"
  trivial
section
variable {n b : Int} {c : Addr} {h₀ : Heap} {L : Addr} {m : Str → Option Value} {Q : Value → Shared → Prop} {s : Shared} {fl : Obj → List (Addr × Obj)}
theorem TrueOut.use (h : ∀ (n' : Int) (tn' : Tok) (e' : Nat) (h' : Heap) (tk' : Nat), n ≤ n' → n' ≤ n + b → Fr h₀ L h' m → News h₀ L h' (fl (diceO n' tn' c e')) → Q (.bool true) { s with heap := h', toks := tk' }) :
    ∀ (v : Value) (made : List (Addr × Obj)) (n' : Int) (tn' : Tok) (e' : Nat) (h' : Heap) (tk' : Nat), n ≤ n' → n' ≤ n + b → TrueOut v made → Fr h₀ L h' m → News h₀ L h' (made ++ fl (diceO n' tn' c e')) → Q v { s with heap := h', toks := tk' } := by
  rintro v made n' tn' e' h' tk' h1 h2 ⟨rfl, rfl⟩ F N
  exact h n' tn' e' h' tk' h1 h2 F N
end

theorem kw61 : True := by
  k_with "own call ref" => first | ((k_here; (with_reducible show wpAny _ _ (call (Value.ref 516) [Value.ref _]) _ _ _); k_dflt (refine' Dice.use ?k1w ?k2w ?k3w ?k4w ?k5w ?kKw ?kSw ?kcw ?kdcw ?kiw ?kew ?knw (is_told_c _) ?kdw ?kuw (TrueOut.use ?_); (walk_at "mine use dice"); intro n9w tn9w e9w h9w tk9w v0w v1w F9w N9w; (try dsimp only at N9w); (try dsimp only); (try k_fold); (try k_sweep)))) | fail "none"
  k_with "own call ref" => first | ((k_here; (with_reducible show wpAny _ _ (call (Value.ref 460) _) _ _ _); k_dflt (refine' MakeR.use ?k1w ?k2w ?k3w ?k4w ?k5w ?kKw (table_c _) True.intro ?kdw ?kuw ?_; (walk_at "mine use read"); intro v9w big9w h9w tk9w R9w S9w F9w N9w; (try dsimp only); (try k_fold)))) | fail "none"
  trivial
theorem kw62 : True := by
  k_with "own exec For Tuple Call cons nil" => first | ((k_here; (rename Fr _ _ _ _ => lF'w); (with_unfolding_all refine' For_invTF lF'w ?kfw ?ksw); (case ksw => (intro _; with_unfolding_all rfl)))) | fail "none"
  k_with "own exec For Name Call cons nil" => first | ((k_here; (rename Fr _ _ _ _ => lF'w); (with_unfolding_all refine' For_invVF lF'w ?k1w ?k2w ?_; (case k1w => exact rfl); (case k2w => exact rfl); k_whole))) | fail "none"
  trivial
noncomputable def head.tw10005452208157733855 : Nat := 0
noncomputable def head.tw10010264046613662565 : Nat := 0
noncomputable def head.tw10015159338476511836 : Nat := 0
noncomputable def head.tw10059252607514160932 : Nat := 0
noncomputable def head.tw10079960370226730655 : Nat := 0
noncomputable def head.tw10205530081349824492 : Nat := 0
noncomputable def head.tw10258521583956687137 : Nat := 0
noncomputable def head.tw10261356005730403935 : Nat := 0
noncomputable def head.tw10300986062494088020 : Nat := 0
noncomputable def head.tw10356212845559719233 : Nat := 0
noncomputable def head.tw10366927770000222440 : Nat := 0
noncomputable def head.tw10431609616501453582 : Nat := 0
noncomputable def head.tw10504981510240967646 : Nat := 0
noncomputable def head.tw10510622979536455646 : Nat := 0
noncomputable def head.tw10519217271611395807 : Nat := 0
noncomputable def head.tw10533634037010066435 : Nat := 0
noncomputable def head.tw10706776884845955466 : Nat := 0
noncomputable def head.tw10786079294511566085 : Nat := 0
noncomputable def head.tw10840385229135970747 : Nat := 0
noncomputable def head.tw10865165270600546614 : Nat := 0
noncomputable def head.tw10875119458065257276 : Nat := 0
noncomputable def head.tw10898857373019930491 : Nat := 0
noncomputable def head.tw10987702880554017565 : Nat := 0
noncomputable def head.tw11005904730967762025 : Nat := 0
noncomputable def head.tw11063524718261073790 : Nat := 0
noncomputable def head.tw11105056867450500199 : Nat := 0
noncomputable def head.tw11290360913936777911 : Nat := 0
noncomputable def head.tw11308087075614649832 : Nat := 0
noncomputable def head.tw1134157569726261602 : Nat := 0
noncomputable def head.tw11426403942048686318 : Nat := 0
noncomputable def head.tw11434997419882176723 : Nat := 0
noncomputable def head.tw11482736412510673933 : Nat := 0
noncomputable def head.tw11484358847640170188 : Nat := 0
noncomputable def head.tw11484797826999851062 : Nat := 0
noncomputable def head.tw11485113708198979986 : Nat := 0
noncomputable def head.tw11544532188706048022 : Nat := 0
noncomputable def head.tw11714945338242495837 : Nat := 0
noncomputable def head.tw11770459041652445329 : Nat := 0
noncomputable def head.tw11821203517306503961 : Nat := 0
noncomputable def head.tw11925700103697007601 : Nat := 0
noncomputable def head.tw1193192827695820201 : Nat := 0
noncomputable def head.tw11988142204041823098 : Nat := 0
noncomputable def head.tw12024539317367501503 : Nat := 0
noncomputable def head.tw12032222614953749359 : Nat := 0
noncomputable def head.tw12043669396524033845 : Nat := 0
noncomputable def head.tw12074249297620881909 : Nat := 0
noncomputable def head.tw12089259706078758787 : Nat := 0
noncomputable def head.tw1211024037004892549 : Nat := 0
noncomputable def head.tw1212124681294104184 : Nat := 0
noncomputable def head.tw12147184966966947637 : Nat := 0
noncomputable def head.tw12201952087667049370 : Nat := 0
noncomputable def head.tw12207028300977255130 : Nat := 0
noncomputable def head.tw1224924573807776437 : Nat := 0
noncomputable def head.tw12287978374625458572 : Nat := 0
noncomputable def head.tw12310735299239354703 : Nat := 0
noncomputable def head.tw12310906923949637671 : Nat := 0
noncomputable def head.tw12330954535739239725 : Nat := 0
noncomputable def head.tw12344544660321961925 : Nat := 0
noncomputable def head.tw12359489953124434286 : Nat := 0
noncomputable def head.tw12398312691204496596 : Nat := 0
noncomputable def head.tw12460202669355646752 : Nat := 0
noncomputable def head.tw12472887615940459650 : Nat := 0
noncomputable def head.tw12475708393154427166 : Nat := 0
noncomputable def head.tw12478146576626367362 : Nat := 0
noncomputable def head.tw12604462930493870256 : Nat := 0
noncomputable def head.tw12704426703380559182 : Nat := 0
noncomputable def head.tw12763952150808568291 : Nat := 0
noncomputable def head.tw1276956409769668328 : Nat := 0
noncomputable def head.tw12773685731770592110 : Nat := 0
noncomputable def head.tw12822298378996975857 : Nat := 0
noncomputable def head.tw12851702773856589430 : Nat := 0
noncomputable def head.tw12865059321931465230 : Nat := 0
noncomputable def head.tw12870424476946447624 : Nat := 0
noncomputable def head.tw12949380547846470161 : Nat := 0
noncomputable def head.tw12987040726578829979 : Nat := 0
noncomputable def head.tw13078646160514809887 : Nat := 0
noncomputable def head.tw1315816938146588887 : Nat := 0
noncomputable def head.tw13180129090757240718 : Nat := 0
noncomputable def head.tw13198292447841614426 : Nat := 0
noncomputable def head.tw13199516396595161752 : Nat := 0
noncomputable def head.tw1319983325249436295 : Nat := 0
noncomputable def head.tw13246386896891170512 : Nat := 0
noncomputable def head.tw13294958713779813728 : Nat := 0
noncomputable def head.tw13295082483830516422 : Nat := 0
noncomputable def head.tw13295774097974887486 : Nat := 0
noncomputable def head.tw13337238644230332656 : Nat := 0
noncomputable def head.tw13353151263460963528 : Nat := 0
noncomputable def head.tw13379354915994877463 : Nat := 0
noncomputable def head.tw13412022041919118725 : Nat := 0
noncomputable def head.tw13508044439285423174 : Nat := 0
noncomputable def head.tw13537664574400122534 : Nat := 0
noncomputable def head.tw13585267454733459922 : Nat := 0
noncomputable def head.tw13605870324054321959 : Nat := 0
noncomputable def head.tw13637325136056909300 : Nat := 0
noncomputable def head.tw13653928888864918839 : Nat := 0
noncomputable def head.tw13689084217373910675 : Nat := 0
noncomputable def head.tw13743032657059413451 : Nat := 0
noncomputable def head.tw13896987355042952010 : Nat := 0
noncomputable def head.tw1389810093214676884 : Nat := 0
noncomputable def head.tw13906610036690215845 : Nat := 0
noncomputable def head.tw13942192884097748152 : Nat := 0
noncomputable def head.tw13954853420313727417 : Nat := 0
noncomputable def head.tw13955511503576765797 : Nat := 0
noncomputable def head.tw13986843968525588388 : Nat := 0
noncomputable def head.tw13988103294471073821 : Nat := 0
noncomputable def head.tw14028522991509751376 : Nat := 0
noncomputable def head.tw14061139507663348314 : Nat := 0
noncomputable def head.tw14112051064653734678 : Nat := 0
noncomputable def head.tw14139502460874162764 : Nat := 0
noncomputable def head.tw14195316510222423288 : Nat := 0
noncomputable def head.tw14364637388885140079 : Nat := 0
noncomputable def head.tw14385403278947933607 : Nat := 0
noncomputable def head.tw14393718171448925343 : Nat := 0
noncomputable def head.tw14417885227837004991 : Nat := 0
noncomputable def head.tw14432977821161478157 : Nat := 0
noncomputable def head.tw14492117785962260688 : Nat := 0
noncomputable def head.tw14512941343882779238 : Nat := 0
noncomputable def head.tw14527164170590304321 : Nat := 0
noncomputable def head.tw14628233357713752721 : Nat := 0
noncomputable def head.tw14643560169476415855 : Nat := 0
noncomputable def head.tw14646466228836335164 : Nat := 0
noncomputable def head.tw14667470093908496907 : Nat := 0
noncomputable def head.tw14676189674455941282 : Nat := 0
noncomputable def head.tw14679116673082234219 : Nat := 0
noncomputable def head.tw14699528089545365996 : Nat := 0
noncomputable def head.tw14699756766385990792 : Nat := 0
noncomputable def head.tw14720509044617813951 : Nat := 0
noncomputable def head.tw14744981736328886265 : Nat := 0
noncomputable def head.tw14788773977795034992 : Nat := 0
noncomputable def head.tw14843749296085226474 : Nat := 0
noncomputable def head.tw14877080517539528568 : Nat := 0
noncomputable def head.tw14882813523228863612 : Nat := 0
noncomputable def head.tw1489404036187247834 : Nat := 0
noncomputable def head.tw14956133685725647455 : Nat := 0
noncomputable def head.tw1495726902847802894 : Nat := 0
noncomputable def head.tw14969872817325187116 : Nat := 0
noncomputable def head.tw15014948713429823057 : Nat := 0
noncomputable def head.tw15035418422258542911 : Nat := 0
noncomputable def head.tw15037083628117588352 : Nat := 0
noncomputable def head.tw15039987702171664376 : Nat := 0
noncomputable def head.tw15064752311394979489 : Nat := 0
noncomputable def head.tw1506576300011279404 : Nat := 0
noncomputable def head.tw15091486752826498866 : Nat := 0
noncomputable def head.tw15112835437128306455 : Nat := 0
noncomputable def head.tw15149402430504572791 : Nat := 0
noncomputable def head.tw15253846138512369154 : Nat := 0
noncomputable def head.tw15296082917334920728 : Nat := 0
noncomputable def head.tw15305915472762889579 : Nat := 0
noncomputable def head.tw15326552575505426906 : Nat := 0
noncomputable def head.tw15410735652082386980 : Nat := 0
noncomputable def head.tw15436542981012472205 : Nat := 0
noncomputable def head.tw15468718075485040107 : Nat := 0
noncomputable def head.tw15501141472565082077 : Nat := 0
noncomputable def head.tw15506723302920939300 : Nat := 0
noncomputable def head.tw15510365090734361527 : Nat := 0
noncomputable def head.tw15539854500240908086 : Nat := 0
noncomputable def head.tw15638870477510070732 : Nat := 0
noncomputable def head.tw15647610678857825673 : Nat := 0
noncomputable def head.tw15735840784391694233 : Nat := 0
noncomputable def head.tw15785421084128741142 : Nat := 0
noncomputable def head.tw15798066900824788120 : Nat := 0
noncomputable def head.tw15840312062823119879 : Nat := 0
noncomputable def head.tw15841401105113185080 : Nat := 0
noncomputable def head.tw15894371620910866019 : Nat := 0
noncomputable def head.tw15895551434495452948 : Nat := 0
noncomputable def head.tw15895748673760503845 : Nat := 0
noncomputable def head.tw15967466079928408925 : Nat := 0
noncomputable def head.tw16014373381606645092 : Nat := 0
noncomputable def head.tw16031315777459398524 : Nat := 0
noncomputable def head.tw16065720564569863766 : Nat := 0
noncomputable def head.tw16072502192527678464 : Nat := 0
noncomputable def head.tw16098587012358147453 : Nat := 0
noncomputable def head.tw16106133796442146334 : Nat := 0
noncomputable def head.tw16111715859725283846 : Nat := 0
noncomputable def head.tw16128420640991077102 : Nat := 0
noncomputable def head.tw16172288393029767808 : Nat := 0
noncomputable def head.tw1618804561499322139 : Nat := 0
noncomputable def head.tw1626232751844553403 : Nat := 0
noncomputable def head.tw16278871845796110771 : Nat := 0
noncomputable def head.tw16441004959143088680 : Nat := 0
noncomputable def head.tw16474958459275807246 : Nat := 0
noncomputable def head.tw16572314662081343053 : Nat := 0
noncomputable def head.tw16640130746408290383 : Nat := 0
noncomputable def head.tw16659920880120507502 : Nat := 0
noncomputable def head.tw16714887947964762639 : Nat := 0
noncomputable def head.tw16800043278716471037 : Nat := 0
noncomputable def head.tw16817119741492734445 : Nat := 0
noncomputable def head.tw16847831306532103052 : Nat := 0
noncomputable def head.tw16874305072444578374 : Nat := 0
noncomputable def head.tw16922147877168347812 : Nat := 0
noncomputable def head.tw16984083398119652359 : Nat := 0
noncomputable def head.tw16997897962222511 : Nat := 0
noncomputable def head.tw17014734716931888790 : Nat := 0
noncomputable def head.tw17015032458148788900 : Nat := 0
noncomputable def head.tw17017319662998615 : Nat := 0
noncomputable def head.tw17029281499520769684 : Nat := 0
noncomputable def head.tw1705546772131295703 : Nat := 0
noncomputable def head.tw17093656651364094606 : Nat := 0
noncomputable def head.tw17113217626458354986 : Nat := 0
noncomputable def head.tw1714602735852981970 : Nat := 0
noncomputable def head.tw17173245716831642929 : Nat := 0
noncomputable def head.tw17188972718952451159 : Nat := 0
noncomputable def head.tw17197444120159719569 : Nat := 0
noncomputable def head.tw17212568112599259466 : Nat := 0
noncomputable def head.tw17243387458012846398 : Nat := 0
noncomputable def head.tw17265401458761052179 : Nat := 0
noncomputable def head.tw17275705279478898512 : Nat := 0
noncomputable def head.tw17306198084081397603 : Nat := 0
noncomputable def head.tw17348764703882912863 : Nat := 0
noncomputable def head.tw17411354535832351560 : Nat := 0
noncomputable def head.tw17453365369857097546 : Nat := 0
noncomputable def head.tw17464823870196871000 : Nat := 0
noncomputable def head.tw1748456618969930982 : Nat := 0
noncomputable def head.tw17508272824862286709 : Nat := 0
noncomputable def head.tw17525636777796739105 : Nat := 0
noncomputable def head.tw17552560543380974038 : Nat := 0
noncomputable def head.tw17577399041416155939 : Nat := 0
noncomputable def head.tw17608190574486352970 : Nat := 0
noncomputable def head.tw17698105195316432488 : Nat := 0
noncomputable def head.tw17700853532424174462 : Nat := 0
noncomputable def head.tw17725469503822016867 : Nat := 0
noncomputable def head.tw17782148633632673465 : Nat := 0
noncomputable def head.tw17787410975726167575 : Nat := 0
noncomputable def head.tw17789423225533864492 : Nat := 0
noncomputable def head.tw17821319399108415887 : Nat := 0
noncomputable def head.tw17826015225549371706 : Nat := 0
noncomputable def head.tw17836260108008149386 : Nat := 0
noncomputable def head.tw17844492200522320778 : Nat := 0
noncomputable def head.tw17850378814381688901 : Nat := 0
noncomputable def head.tw17854896373637125580 : Nat := 0
noncomputable def head.tw17882926463437270604 : Nat := 0
noncomputable def head.tw17905491414393134947 : Nat := 0
noncomputable def head.tw1793058504365772063 : Nat := 0
noncomputable def head.tw17958272820484234708 : Nat := 0
noncomputable def head.tw17988201657351507238 : Nat := 0
noncomputable def head.tw18007968972792079559 : Nat := 0
noncomputable def head.tw18051680202136193954 : Nat := 0
noncomputable def head.tw18123143868385100064 : Nat := 0
noncomputable def head.tw18183174734748219037 : Nat := 0
noncomputable def head.tw18260194641540637818 : Nat := 0
noncomputable def head.tw1832916270232011604 : Nat := 0
noncomputable def head.tw18332285231265401824 : Nat := 0
noncomputable def head.tw18384547517478447814 : Nat := 0
noncomputable def head.tw18416563613846182222 : Nat := 0
noncomputable def head.tw18433677622606106133 : Nat := 0
noncomputable def head.tw1852205218256702202 : Nat := 0
noncomputable def head.tw1858285994304674589 : Nat := 0
noncomputable def head.tw1909714482019496454 : Nat := 0
noncomputable def head.tw1917425121527220963 : Nat := 0
noncomputable def head.tw1919001801439425371 : Nat := 0
noncomputable def head.tw1937370526825066196 : Nat := 0
noncomputable def head.tw1939405473400901271 : Nat := 0
noncomputable def head.tw2096541523181747872 : Nat := 0
noncomputable def head.tw2154566216772986472 : Nat := 0
noncomputable def head.tw2163237168840174509 : Nat := 0
noncomputable def head.tw2203363585012173787 : Nat := 0
noncomputable def head.tw2260579728952749127 : Nat := 0
noncomputable def head.tw2326617092838664518 : Nat := 0
noncomputable def head.tw2340069552987342377 : Nat := 0
noncomputable def head.tw2350586252961548244 : Nat := 0
noncomputable def head.tw2355103038987944067 : Nat := 0
noncomputable def head.tw2393098407364606883 : Nat := 0
noncomputable def head.tw2400818531096893172 : Nat := 0
noncomputable def head.tw2437478716016495240 : Nat := 0
noncomputable def head.tw2441957057352720082 : Nat := 0
noncomputable def head.tw2491421050496283774 : Nat := 0
noncomputable def head.tw2506711637615833298 : Nat := 0
noncomputable def head.tw2518057956044344595 : Nat := 0
noncomputable def head.tw2525317073905713282 : Nat := 0
noncomputable def head.tw2529948359932261575 : Nat := 0
noncomputable def head.tw2581250870941146908 : Nat := 0
noncomputable def head.tw2591067827882107080 : Nat := 0
noncomputable def head.tw262713603470380999 : Nat := 0
noncomputable def head.tw2694075680205673411 : Nat := 0
noncomputable def head.tw2728595385866086531 : Nat := 0
noncomputable def head.tw2825341998796452840 : Nat := 0
noncomputable def head.tw2864405669816312776 : Nat := 0
noncomputable def head.tw2866106340226331157 : Nat := 0
noncomputable def head.tw2879759524354350568 : Nat := 0
noncomputable def head.tw2994366008111725845 : Nat := 0
noncomputable def head.tw3083302935323014018 : Nat := 0
noncomputable def head.tw3088210815446039105 : Nat := 0
noncomputable def head.tw3089916443595474862 : Nat := 0
noncomputable def head.tw3103639331685909893 : Nat := 0
noncomputable def head.tw315434073420411817 : Nat := 0
noncomputable def head.tw3195778378105678587 : Nat := 0
noncomputable def head.tw3264716943610762504 : Nat := 0
noncomputable def head.tw3304075619188804072 : Nat := 0
noncomputable def head.tw3368030927266983236 : Nat := 0
noncomputable def head.tw3453547403478019728 : Nat := 0
noncomputable def head.tw3501597964444990463 : Nat := 0
noncomputable def head.tw3512634313551410195 : Nat := 0
noncomputable def head.tw3547030090768783262 : Nat := 0
noncomputable def head.tw3547240966391284428 : Nat := 0
noncomputable def head.tw3581614266968435656 : Nat := 0
noncomputable def head.tw3665506230870052707 : Nat := 0
noncomputable def head.tw3688799982635324794 : Nat := 0
noncomputable def head.tw3690969761935527329 : Nat := 0
noncomputable def head.tw3701556794570243915 : Nat := 0
noncomputable def head.tw3715584954343283195 : Nat := 0
noncomputable def head.tw3746228215898030841 : Nat := 0
noncomputable def head.tw3794523003379204399 : Nat := 0
noncomputable def head.tw3806097482856845009 : Nat := 0
noncomputable def head.tw3821945547825155762 : Nat := 0
noncomputable def head.tw3869590956505411354 : Nat := 0
noncomputable def head.tw3944913497352057107 : Nat := 0
noncomputable def head.tw3980653432952411973 : Nat := 0
noncomputable def head.tw3986194592780655508 : Nat := 0
noncomputable def head.tw3991279037241028524 : Nat := 0
noncomputable def head.tw4009957668330374740 : Nat := 0
noncomputable def head.tw4023466491090337370 : Nat := 0
noncomputable def head.tw4063747431996464497 : Nat := 0
noncomputable def head.tw4160124254940468481 : Nat := 0
noncomputable def head.tw4273228799998304602 : Nat := 0
noncomputable def head.tw4277651752456152607 : Nat := 0
noncomputable def head.tw4307260679431091991 : Nat := 0
noncomputable def head.tw4334280617987064247 : Nat := 0
noncomputable def head.tw4381510469713062047 : Nat := 0
noncomputable def head.tw4433315090154635215 : Nat := 0
noncomputable def head.tw44622916816846810 : Nat := 0
noncomputable def head.tw4483413254912295219 : Nat := 0
noncomputable def head.tw45052839361067614 : Nat := 0
noncomputable def head.tw4528443807372415038 : Nat := 0
noncomputable def head.tw466721876749952763 : Nat := 0
noncomputable def head.tw467416434755642258 : Nat := 0
noncomputable def head.tw4691952243595246448 : Nat := 0
noncomputable def head.tw4693820183103290663 : Nat := 0
noncomputable def head.tw4746297304354101679 : Nat := 0
noncomputable def head.tw4834694072379752904 : Nat := 0
noncomputable def head.tw4839655697589452165 : Nat := 0
noncomputable def head.tw48543519692965452 : Nat := 0
noncomputable def head.tw4857777746444614323 : Nat := 0
noncomputable def head.tw4945251732147069371 : Nat := 0
noncomputable def head.tw4964814941381164201 : Nat := 0
noncomputable def head.tw4965378191221513410 : Nat := 0
noncomputable def head.tw497287684792784471 : Nat := 0
noncomputable def head.tw4976181008148175253 : Nat := 0
noncomputable def head.tw5019597260055213698 : Nat := 0
noncomputable def head.tw5092371620264689978 : Nat := 0
noncomputable def head.tw5104563664521345299 : Nat := 0
noncomputable def head.tw5111174896325423537 : Nat := 0
noncomputable def head.tw5140934472235413692 : Nat := 0
noncomputable def head.tw5141578139466067413 : Nat := 0
noncomputable def head.tw5187041380464763778 : Nat := 0
noncomputable def head.tw5274623360512300857 : Nat := 0
noncomputable def head.tw532055438628499158 : Nat := 0
noncomputable def head.tw533756555076263647 : Nat := 0
noncomputable def head.tw5346772772824661884 : Nat := 0
noncomputable def head.tw5353729903917744248 : Nat := 0
noncomputable def head.tw5401097623525119610 : Nat := 0
noncomputable def head.tw5438144065070405397 : Nat := 0
noncomputable def head.tw5467695095851852608 : Nat := 0
noncomputable def head.tw5479459121986351116 : Nat := 0
noncomputable def head.tw5487235932777146282 : Nat := 0
noncomputable def head.tw5506250874072839755 : Nat := 0
noncomputable def head.tw5508695066786827253 : Nat := 0
noncomputable def head.tw5515381820778694223 : Nat := 0
noncomputable def head.tw5593727005144783397 : Nat := 0
noncomputable def head.tw5599997604879368025 : Nat := 0
noncomputable def head.tw5617373736292572815 : Nat := 0
noncomputable def head.tw5629256929840616583 : Nat := 0
noncomputable def head.tw5638995163158488052 : Nat := 0
noncomputable def head.tw5651425540991249520 : Nat := 0
noncomputable def head.tw5723944856813171866 : Nat := 0
noncomputable def head.tw5737951250597237232 : Nat := 0
noncomputable def head.tw5764021196749891206 : Nat := 0
noncomputable def head.tw5788964047882338313 : Nat := 0
noncomputable def head.tw5797013207949663412 : Nat := 0
noncomputable def head.tw5906749814970224870 : Nat := 0
noncomputable def head.tw5927865893512547691 : Nat := 0
noncomputable def head.tw597074169871860151 : Nat := 0
noncomputable def head.tw5973763720392745831 : Nat := 0
noncomputable def head.tw5986637957666399235 : Nat := 0
noncomputable def head.tw604627371996746742 : Nat := 0
noncomputable def head.tw6053349399257934933 : Nat := 0
noncomputable def head.tw6053997905714604814 : Nat := 0
noncomputable def head.tw6079359036626576793 : Nat := 0
noncomputable def head.tw6088685845774392931 : Nat := 0
noncomputable def head.tw6110071263904590700 : Nat := 0
noncomputable def head.tw6121141971511671821 : Nat := 0
noncomputable def head.tw6161856959107265637 : Nat := 0
noncomputable def head.tw6207834228037699737 : Nat := 0
noncomputable def head.tw6211381574409162282 : Nat := 0
noncomputable def head.tw6212921109956642855 : Nat := 0
noncomputable def head.tw6237802210402583469 : Nat := 0
noncomputable def head.tw6247268493268985975 : Nat := 0
noncomputable def head.tw6298033893332097587 : Nat := 0
noncomputable def head.tw6327039764776113722 : Nat := 0
noncomputable def head.tw6388477656530123435 : Nat := 0
noncomputable def head.tw6426539377367359892 : Nat := 0
noncomputable def head.tw6507506987150044280 : Nat := 0
noncomputable def head.tw6588589085864783938 : Nat := 0
noncomputable def head.tw6640010369347007910 : Nat := 0
noncomputable def head.tw66618190712790079 : Nat := 0
noncomputable def head.tw6684978435548883818 : Nat := 0
noncomputable def head.tw6737735255597943219 : Nat := 0
noncomputable def head.tw6836605351468522007 : Nat := 0
noncomputable def head.tw6846597200999610202 : Nat := 0
noncomputable def head.tw6846866878297920324 : Nat := 0
noncomputable def head.tw6857060684267632606 : Nat := 0
noncomputable def head.tw6871339299614917876 : Nat := 0
noncomputable def head.tw6880043348581005364 : Nat := 0
noncomputable def head.tw6889739017440866108 : Nat := 0
noncomputable def head.tw6973584914630602586 : Nat := 0
noncomputable def head.tw7013799640231393816 : Nat := 0
noncomputable def head.tw7119846925741900413 : Nat := 0
noncomputable def head.tw7161073391023584161 : Nat := 0
noncomputable def head.tw7277520189549225825 : Nat := 0
noncomputable def head.tw7287109101882759415 : Nat := 0
noncomputable def head.tw7313386461004707312 : Nat := 0
noncomputable def head.tw733406405333840765 : Nat := 0
noncomputable def head.tw739537129135343663 : Nat := 0
noncomputable def head.tw7404141018258913797 : Nat := 0
noncomputable def head.tw7417405269818204032 : Nat := 0
noncomputable def head.tw742351954350328859 : Nat := 0
noncomputable def head.tw7450023128482652576 : Nat := 0
noncomputable def head.tw7494366503370351645 : Nat := 0
noncomputable def head.tw7498250532897285284 : Nat := 0
noncomputable def head.tw7512725033676591148 : Nat := 0
noncomputable def head.tw7523532297153676066 : Nat := 0
noncomputable def head.tw7526775705450560304 : Nat := 0
noncomputable def head.tw7599496313472250701 : Nat := 0
noncomputable def head.tw7658410731251134818 : Nat := 0
noncomputable def head.tw7661765248129044261 : Nat := 0
noncomputable def head.tw7680146299302783591 : Nat := 0
noncomputable def head.tw7688317290187622652 : Nat := 0
noncomputable def head.tw7704315382344345624 : Nat := 0
noncomputable def head.tw7758381527925395934 : Nat := 0
noncomputable def head.tw7789450098604059249 : Nat := 0
noncomputable def head.tw779419810087314491 : Nat := 0
noncomputable def head.tw7802898811600756450 : Nat := 0
noncomputable def head.tw7833285031277912329 : Nat := 0
noncomputable def head.tw7876399200375917224 : Nat := 0
noncomputable def head.tw7928285938522686346 : Nat := 0
noncomputable def head.tw7994106446794305319 : Nat := 0
noncomputable def head.tw8035625575855466936 : Nat := 0
noncomputable def head.tw8057295282393585546 : Nat := 0
noncomputable def head.tw8063128913528701915 : Nat := 0
noncomputable def head.tw807142644699662319 : Nat := 0
noncomputable def head.tw8101760021730824546 : Nat := 0
noncomputable def head.tw8152732094714540248 : Nat := 0
noncomputable def head.tw8159583801465064534 : Nat := 0
noncomputable def head.tw8169693465737517768 : Nat := 0
noncomputable def head.tw8185714761375850791 : Nat := 0
noncomputable def head.tw8187629637223713605 : Nat := 0
noncomputable def head.tw820421773197932041 : Nat := 0
noncomputable def head.tw8216834362191484069 : Nat := 0
noncomputable def head.tw8299393411229908732 : Nat := 0
noncomputable def head.tw8382746154173761051 : Nat := 0
noncomputable def head.tw8402214883040486957 : Nat := 0
noncomputable def head.tw8451290768687142514 : Nat := 0
noncomputable def head.tw8476099583838051002 : Nat := 0
noncomputable def head.tw851385035628625539 : Nat := 0
noncomputable def head.tw8534208459206503383 : Nat := 0
noncomputable def head.tw8535708456716222715 : Nat := 0
noncomputable def head.tw8541356943393881859 : Nat := 0
noncomputable def head.tw8603420104599213669 : Nat := 0
noncomputable def head.tw8627200689577751383 : Nat := 0
noncomputable def head.tw8715499118904818895 : Nat := 0
noncomputable def head.tw8758324158161630591 : Nat := 0
noncomputable def head.tw8773370040425892893 : Nat := 0
noncomputable def head.tw8866670633112419022 : Nat := 0
noncomputable def head.tw8874674299285249911 : Nat := 0
noncomputable def head.tw8895791426145780158 : Nat := 0
noncomputable def head.tw8912104118211102971 : Nat := 0
noncomputable def head.tw8997269238129315039 : Nat := 0
noncomputable def head.tw9062998866958442273 : Nat := 0
noncomputable def head.tw9082462177598256812 : Nat := 0
noncomputable def head.tw9103479521544129834 : Nat := 0
noncomputable def head.tw9114333099845857663 : Nat := 0
noncomputable def head.tw9133290819911140118 : Nat := 0
noncomputable def head.tw9145527808636388435 : Nat := 0
noncomputable def head.tw9162278640276766204 : Nat := 0
noncomputable def head.tw9196398404247428943 : Nat := 0
noncomputable def head.tw9202431907968578930 : Nat := 0
noncomputable def head.tw9214367901419015226 : Nat := 0
noncomputable def head.tw9280153536138602973 : Nat := 0
noncomputable def head.tw930087139818521243 : Nat := 0
noncomputable def head.tw9325057278558614444 : Nat := 0
noncomputable def head.tw9325123708862168440 : Nat := 0
noncomputable def head.tw9338622355449474732 : Nat := 0
noncomputable def head.tw9353324838224930552 : Nat := 0
noncomputable def head.tw9388430590476628193 : Nat := 0
noncomputable def head.tw9407594320385231609 : Nat := 0
noncomputable def head.tw9495540839478616804 : Nat := 0
noncomputable def head.tw9658139154387788515 : Nat := 0
noncomputable def head.tw967162340416786949 : Nat := 0
noncomputable def head.tw9716329373054682134 : Nat := 0
noncomputable def head.tw976808484645153763 : Nat := 0
noncomputable def head.tw9820158181544301314 : Nat := 0
noncomputable def head.tw9978949632667528635 : Nat := 0
noncomputable def head.tw9984397402777080727 : Nat := 0
noncomputable def head.tw9987851973559822609 : Nat := 0
noncomputable def head.tw7821361960523482326 : Nat := 0
noncomputable def head.tw14549367999050180180 : Nat := 0
noncomputable def head.tw415706843491771442 : Nat := 0
set_option Elab.async true in
set_option maxRecDepth 100000 in
set_option maxHeartbeats 8000000 in
theorem head : PySem.Challenge.rw_pb0422_01.Holds := by
  w_on
  o_law
  o_head (kHook K Kas kas)
  (case hw => w_witness2)
  w_strict (
    k_go0
    (try k_fold)
    (rename IntsAre _ _ => hIn)
    (rename ¬ (_ : Int) < _ => h63)
    walk_at "mine steps"
    (rename TableOut _ _ _ => hT)
    (obtain ⟨l, vs, nn, rest, hv, hb, hlt, hrow⟩ := hT)
    subst hv
    subst hb
    (rename Fr _ _ _ _ => hF)
    (rename News _ _ _ _ => hN)
    (with_unfolding_all refine' law_loop (news := rest) rfl hF hN hlt hrow ?kt ?kd)
    case kt =>
      clear hF hN
      intro r x t1 t2 one other a b c s₁ more ho hn1 hn2 hF hN
      k_steps
      (rename Fr _ _ _ _ => hF; rename News _ _ _ _ => hN)
      exact rows_end hF hN (by walk_at "mine in") (by intro z q1 q2 q3; repeat (first | with_reducible rfl | rw [if_neg q1] | rw [if_neg q2] | rw [if_neg q3]))
    case kd =>
      clear hF hN hlt hrow
      intro a b c h tk hF hN
      walk_at "mine steps"
      (rename Fr _ _ _ _ => hF; rename News _ _ _ _ => hN)
      (rename IsRange _ _ _ _ _ _ _ _ => hR)
      (rename IntsAre _ (_ ++ [5]) => hI5)
      have hke := ints5 hI5
      (with_unfolding_all refine' dice_loop rfl hR hF hN ?kdi ?kci ?kt2 ?kd2)
      case kdi => exact List.Mem.head _
      case kci => exact List.Mem.tail _ (List.Mem.head _)
      case kt2 =>
        clear hF hN
        intro n tn e v h tk own h0 h1 hown hF hN
        k_steps
        (rename Fr _ _ _ _ => hF; rename News _ _ _ _ => hN)
        exact dice_end hF hN (by walk_at "mine mem2") (by walk_at "mine mem2") (by walk_at "mine in") (by intro z q1; repeat (first | with_reducible rfl | rw [if_neg q1])) (by omega) (by omega)
      case kd2 =>
        clear hF hN
        intro o h tk hF hN
        k_steps)

end Mine
theorem PySem.Challenge.cw_pb0422_01_holds : PySem.Challenge.rw_pb0422_01.Holds := by
  exact Mine.head
