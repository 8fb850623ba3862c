import PyProof.Rows.All
import Wide.All
import OpenK.AllK
import Wide.FinOn
import PySem.Challenge.RW_rg0263_01
open PySem PySem.W PyProof.Rows
set_option Elab.async false
set_option maxRecDepth 100000
set_option maxHeartbeats 8000000
namespace Mine
namespace hd
/-- the row's statements, and what they hold -/
noncomputable def st (j : Nat) : Stmt := (PySem.Challenge.pw_rg0263_01.main.body[j]?).getD (.Pass default)
noncomputable def inn : Stmt → Nat → Stmt
  | .ClassDef _ _ _ b _ _ _ _ _ _ _, j => (b[j]?).getD (.Pass default)
  | s, _ => s
noncomputable def fA : Stmt → Arguments
  | .FunctionDef _ a _ _ _ _ _ _ _ _ => a
  | _ => ⟨[], [], none, [], [], none, []⟩
noncomputable def fB : Stmt → List Stmt
  | .FunctionDef _ _ b _ _ _ _ _ _ _ => b
  | _ => []
noncomputable def fS : Stmt → Scope
  | .FunctionDef _ _ _ _ _ _ s _ _ _ => s
  | _ => default
/-- the statements that the walk's tests see -/
noncomputable def view_39 : Program := view PySem.Challenge.rw_rg0263_01.row.prog [1, 2, 3, 4, 6, 7, 8, 9, 10, 11, 12, 13, 14, 15, 16, 17, 18, 19, 20, 21, 22, 23, 25, 26, 27, 28, 29, 30, 31, 32, 33, 34, 35, 36, 37, 38, 40, 41, 42, 43, 44, 45, 46, 47, 48, 49, 50, 51]
-- K: what the top leaves behind, by reference to the row
noncomputable def a29 : {x : Arguments // x = fA (inn (st 1) 0)} := ⟨Arguments.mk _ _ _ _ _ _ _, rfl⟩
noncomputable def b29 : {x : List Stmt // x = fB (inn (st 1) 0)} := ⟨_ :: _, rfl⟩
noncomputable def s29 : {x : Scope // x = fS (inn (st 1) 0)} := ⟨Scope.mk _ _ _ _ _, rfl⟩
noncomputable def a36 : {x : Arguments // x = fA (inn (st 1) 1)} := ⟨Arguments.mk _ _ _ _ _ _ _, rfl⟩
noncomputable def b36 : {x : List Stmt // x = fB (inn (st 1) 1)} := ⟨_ :: _, rfl⟩
noncomputable def s36 : {x : Scope // x = fS (inn (st 1) 1)} := ⟨Scope.mk _ _ _ _ _, rfl⟩
noncomputable def a59 : {x : Arguments // x = fA (st 3)} := ⟨Arguments.mk _ _ _ _ _ _ _, rfl⟩
noncomputable def b59 : {x : List Stmt // x = fB (st 3)} := ⟨_ :: _, rfl⟩
noncomputable def s59 : {x : Scope // x = fS (st 3)} := ⟨Scope.mk _ _ _ _ _, rfl⟩
noncomputable def a66 : {x : Arguments // x = fA (st 4)} := ⟨Arguments.mk _ _ _ _ _ _ _, rfl⟩
noncomputable def b66 : {x : List Stmt // x = fB (st 4)} := ⟨_ :: _, rfl⟩
noncomputable def s66 : {x : Scope // x = fS (st 4)} := ⟨Scope.mk _ _ _ _ _, rfl⟩
noncomputable def a80 : {x : Arguments // x = fA (inn (st 17) 0)} := ⟨Arguments.mk _ _ _ _ _ _ _, rfl⟩
noncomputable def b80 : {x : List Stmt // x = fB (inn (st 17) 0)} := ⟨_ :: _, rfl⟩
noncomputable def s80 : {x : Scope // x = fS (inn (st 17) 0)} := ⟨Scope.mk _ _ _ _ _, rfl⟩
noncomputable def a87 : {x : Arguments // x = fA (inn (st 17) 1)} := ⟨Arguments.mk _ _ _ _ _ _ _, rfl⟩
noncomputable def b87 : {x : List Stmt // x = fB (inn (st 17) 1)} := ⟨_ :: _, rfl⟩
noncomputable def s87 : {x : Scope // x = fS (inn (st 17) 1)} := ⟨Scope.mk _ _ _ _ _, rfl⟩
noncomputable def a101 : {x : Arguments // x = fA (st 18)} := ⟨Arguments.mk _ _ _ _ _ _ _, rfl⟩
noncomputable def b101 : {x : List Stmt // x = fB (st 18)} := ⟨_ :: _, rfl⟩
noncomputable def s101 : {x : Scope // x = fS (st 18)} := ⟨Scope.mk _ _ _ _ _, rfl⟩
noncomputable def a108 : {x : Arguments // x = fA (st 19)} := ⟨Arguments.mk _ _ _ _ _ _ _, rfl⟩
noncomputable def b108 : {x : List Stmt // x = fB (st 19)} := ⟨_ :: _, rfl⟩
noncomputable def s108 : {x : Scope // x = fS (st 19)} := ⟨Scope.mk _ _ _ _ _, rfl⟩
noncomputable def a115 : {x : Arguments // x = fA (st 20)} := ⟨Arguments.mk _ _ _ _ _ _ _, rfl⟩
noncomputable def b115 : {x : List Stmt // x = fB (st 20)} := ⟨_ :: _, rfl⟩
noncomputable def s115 : {x : Scope // x = fS (st 20)} := ⟨Scope.mk _ _ _ _ _, rfl⟩
noncomputable def a122 : {x : Arguments // x = fA (st 21)} := ⟨Arguments.mk _ _ _ _ _ _ _, rfl⟩
noncomputable def b122 : {x : List Stmt // x = fB (st 21)} := ⟨_ :: _, rfl⟩
noncomputable def s122 : {x : Scope // x = fS (st 21)} := ⟨Scope.mk _ _ _ _ _, rfl⟩
noncomputable def a129 : {x : Arguments // x = fA (st 22)} := ⟨Arguments.mk _ _ _ _ _ _ _, rfl⟩
noncomputable def b129 : {x : List Stmt // x = fB (st 22)} := ⟨_ :: _, rfl⟩
noncomputable def s129 : {x : Scope // x = fS (st 22)} := ⟨Scope.mk _ _ _ _ _, rfl⟩
noncomputable def a136 : {x : Arguments // x = fA (st 23)} := ⟨Arguments.mk _ _ _ _ _ _ _, rfl⟩
noncomputable def b136 : {x : List Stmt // x = fB (st 23)} := ⟨_ :: _, rfl⟩
noncomputable def s136 : {x : Scope // x = fS (st 23)} := ⟨Scope.mk _ _ _ _ _, rfl⟩
noncomputable def a144 : {x : Arguments // x = fA (st 24)} := ⟨Arguments.mk _ _ _ _ _ _ _, rfl⟩
noncomputable def b144 : {x : List Stmt // x = fB (st 24)} := ⟨_ :: _, rfl⟩
noncomputable def s144 : {x : Scope // x = fS (st 24)} := ⟨Scope.mk _ _ _ _ _, rfl⟩
noncomputable def a149 : {x : Arguments // x = fA (st 25)} := ⟨Arguments.mk _ _ _ _ _ _ _, rfl⟩
noncomputable def b149 : {x : List Stmt // x = fB (st 25)} := ⟨_ :: _, rfl⟩
noncomputable def s149 : {x : Scope // x = fS (st 25)} := ⟨Scope.mk _ _ _ _ _, rfl⟩
noncomputable def a156 : {x : Arguments // x = fA (st 26)} := ⟨Arguments.mk _ _ _ _ _ _ _, rfl⟩
noncomputable def b156 : {x : List Stmt // x = fB (st 26)} := ⟨_ :: _, rfl⟩
noncomputable def s156 : {x : Scope // x = fS (st 26)} := ⟨Scope.mk _ _ _ _ _, rfl⟩
noncomputable def a163 : {x : Arguments // x = fA (st 27)} := ⟨Arguments.mk _ _ _ _ _ _ _, rfl⟩
noncomputable def b163 : {x : List Stmt // x = fB (st 27)} := ⟨_ :: _, rfl⟩
noncomputable def s163 : {x : Scope // x = fS (st 27)} := ⟨Scope.mk _ _ _ _ _, rfl⟩
noncomputable def a170 : {x : Arguments // x = fA (st 28)} := ⟨Arguments.mk _ _ _ _ _ _ _, rfl⟩
noncomputable def b170 : {x : List Stmt // x = fB (st 28)} := ⟨_ :: _, rfl⟩
noncomputable def s170 : {x : Scope // x = fS (st 28)} := ⟨Scope.mk _ _ _ _ _, rfl⟩
noncomputable def a177 : {x : Arguments // x = fA (st 29)} := ⟨Arguments.mk _ _ _ _ _ _ _, rfl⟩
noncomputable def b177 : {x : List Stmt // x = fB (st 29)} := ⟨_ :: _, rfl⟩
noncomputable def s177 : {x : Scope // x = fS (st 29)} := ⟨Scope.mk _ _ _ _ _, rfl⟩
noncomputable def a184 : {x : Arguments // x = fA (st 30)} := ⟨Arguments.mk _ _ _ _ _ _ _, rfl⟩
noncomputable def b184 : {x : List Stmt // x = fB (st 30)} := ⟨_ :: _, rfl⟩
noncomputable def s184 : {x : Scope // x = fS (st 30)} := ⟨Scope.mk _ _ _ _ _, rfl⟩
noncomputable def a191 : {x : Arguments // x = fA (st 31)} := ⟨Arguments.mk _ _ _ _ _ _ _, rfl⟩
noncomputable def b191 : {x : List Stmt // x = fB (st 31)} := ⟨_ :: _, rfl⟩
noncomputable def s191 : {x : Scope // x = fS (st 31)} := ⟨Scope.mk _ _ _ _ _, rfl⟩
noncomputable def a198 : {x : Arguments // x = fA (st 32)} := ⟨Arguments.mk _ _ _ _ _ _ _, rfl⟩
noncomputable def b198 : {x : List Stmt // x = fB (st 32)} := ⟨_ :: _, rfl⟩
noncomputable def s198 : {x : Scope // x = fS (st 32)} := ⟨Scope.mk _ _ _ _ _, rfl⟩
noncomputable def a205 : {x : Arguments // x = fA (st 33)} := ⟨Arguments.mk _ _ _ _ _ _ _, rfl⟩
noncomputable def b205 : {x : List Stmt // x = fB (st 33)} := ⟨_ :: _, rfl⟩
noncomputable def s205 : {x : Scope // x = fS (st 33)} := ⟨Scope.mk _ _ _ _ _, rfl⟩
noncomputable def a212 : {x : Arguments // x = fA (st 34)} := ⟨Arguments.mk _ _ _ _ _ _ _, rfl⟩
noncomputable def b212 : {x : List Stmt // x = fB (st 34)} := ⟨_ :: _, rfl⟩
noncomputable def s212 : {x : Scope // x = fS (st 34)} := ⟨Scope.mk _ _ _ _ _, rfl⟩
noncomputable def a219 : {x : Arguments // x = fA (st 35)} := ⟨Arguments.mk _ _ _ _ _ _ _, rfl⟩
noncomputable def b219 : {x : List Stmt // x = fB (st 35)} := ⟨_ :: _, rfl⟩
noncomputable def s219 : {x : Scope // x = fS (st 35)} := ⟨Scope.mk _ _ _ _ _, rfl⟩
noncomputable def a226 : {x : Arguments // x = fA (st 36)} := ⟨Arguments.mk _ _ _ _ _ _ _, rfl⟩
noncomputable def b226 : {x : List Stmt // x = fB (st 36)} := ⟨_ :: _, rfl⟩
noncomputable def s226 : {x : Scope // x = fS (st 36)} := ⟨Scope.mk _ _ _ _ _, rfl⟩
noncomputable def a233 : {x : Arguments // x = fA (st 37)} := ⟨Arguments.mk _ _ _ _ _ _ _, rfl⟩
noncomputable def b233 : {x : List Stmt // x = fB (st 37)} := ⟨_ :: _, rfl⟩
noncomputable def s233 : {x : Scope // x = fS (st 37)} := ⟨Scope.mk _ _ _ _ _, rfl⟩
noncomputable def a238 : {x : Arguments // x = fA (st 38)} := ⟨Arguments.mk _ _ _ _ _ _ _, rfl⟩
noncomputable def b238 : {x : List Stmt // x = fB (st 38)} := ⟨_ :: _, rfl⟩
noncomputable def s238 : {x : Scope // x = fS (st 38)} := ⟨Scope.mk _ _ _ _ _, rfl⟩
noncomputable def a246 : {x : Arguments // x = fA (st 41)} := ⟨Arguments.mk _ _ _ _ _ _ _, rfl⟩
noncomputable def b246 : {x : List Stmt // x = fB (st 41)} := ⟨_ :: _, rfl⟩
noncomputable def s246 : {x : Scope // x = fS (st 41)} := ⟨Scope.mk _ _ _ _ _, rfl⟩
noncomputable def a253 : {x : Arguments // x = fA (st 42)} := ⟨Arguments.mk _ _ _ _ _ _ _, rfl⟩
noncomputable def b253 : {x : List Stmt // x = fB (st 42)} := ⟨_ :: _, rfl⟩
noncomputable def s253 : {x : Scope // x = fS (st 42)} := ⟨Scope.mk _ _ _ _ _, rfl⟩
noncomputable def a260 : {x : Arguments // x = fA (st 43)} := ⟨Arguments.mk _ _ _ _ _ _ _, rfl⟩
noncomputable def b260 : {x : List Stmt // x = fB (st 43)} := ⟨_ :: _, rfl⟩
noncomputable def s260 : {x : Scope // x = fS (st 43)} := ⟨Scope.mk _ _ _ _ _, rfl⟩
noncomputable def a267 : {x : Arguments // x = fA (st 44)} := ⟨Arguments.mk _ _ _ _ _ _ _, rfl⟩
noncomputable def b267 : {x : List Stmt // x = fB (st 44)} := ⟨_ :: _, rfl⟩
noncomputable def s267 : {x : Scope // x = fS (st 44)} := ⟨Scope.mk _ _ _ _ _, rfl⟩
noncomputable def a272 : {x : Arguments // x = fA (st 45)} := ⟨Arguments.mk _ _ _ _ _ _ _, rfl⟩
noncomputable def b272 : {x : List Stmt // x = fB (st 45)} := ⟨_ :: _, rfl⟩
noncomputable def s272 : {x : Scope // x = fS (st 45)} := ⟨Scope.mk _ _ _ _ _, rfl⟩
noncomputable def a277 : {x : Arguments // x = fA (st 46)} := ⟨Arguments.mk _ _ _ _ _ _ _, rfl⟩
noncomputable def b277 : {x : List Stmt // x = fB (st 46)} := ⟨_ :: _, rfl⟩
noncomputable def s277 : {x : Scope // x = fS (st 46)} := ⟨Scope.mk _ _ _ _ _, rfl⟩
noncomputable def a284 : {x : Arguments // x = fA (st 47)} := ⟨Arguments.mk _ _ _ _ _ _ _, rfl⟩
noncomputable def b284 : {x : List Stmt // x = fB (st 47)} := ⟨_ :: _, rfl⟩
noncomputable def s284 : {x : Scope // x = fS (st 47)} := ⟨Scope.mk _ _ _ _ _, rfl⟩
noncomputable def a289 : {x : Arguments // x = fA (st 48)} := ⟨Arguments.mk _ _ _ _ _ _ _, rfl⟩
noncomputable def b289 : {x : List Stmt // x = fB (st 48)} := ⟨_ :: _, rfl⟩
noncomputable def s289 : {x : Scope // x = fS (st 48)} := ⟨Scope.mk _ _ _ _ _, rfl⟩
noncomputable def a296 : {x : Arguments // x = fA (st 49)} := ⟨Arguments.mk _ _ _ _ _ _ _, rfl⟩
noncomputable def b296 : {x : List Stmt // x = fB (st 49)} := ⟨_ :: _, rfl⟩
noncomputable def s296 : {x : Scope // x = fS (st 49)} := ⟨Scope.mk _ _ _ _ _, rfl⟩
noncomputable def a301 : {x : Arguments // x = fA (st 50)} := ⟨Arguments.mk _ _ _ _ _ _ _, rfl⟩
noncomputable def b301 : {x : List Stmt // x = fB (st 50)} := ⟨_ :: _, rfl⟩
noncomputable def s301 : {x : Scope // x = fS (st 50)} := ⟨Scope.mk _ _ _ _ _, rfl⟩
noncomputable def a306 : {x : Arguments // x = fA (st 51)} := ⟨Arguments.mk _ _ _ _ _ _ _, rfl⟩
noncomputable def b306 : {x : List Stmt // x = fB (st 51)} := ⟨_ :: _, rfl⟩
noncomputable def s306 : {x : Scope // x = fS (st 51)} := ⟨Scope.mk _ _ _ _ _, rfl⟩
noncomputable def heap_39 : Params → Frag := fun P =>
  (nat_lit 2, Obj.mk Value.none none (Data.dict #[DictEntry.mk (PyData.keyHash P (Str.ofString "type.__subclasses__.Exception.0")) (Value.str (Str.ofString "type.__subclasses__.Exception.0") 223) (Value.int 39 0), DictEntry.mk (PyData.keyHash P (Str.ofString "type.__subclasses__.Exception.n")) (Value.str (Str.ofString "type.__subclasses__.Exception.n") 224) (Value.int 1 0)] 2) #[]) ::
  (nat_lit 3, Obj.mk (Value.type "dict") none (Data.dict #[DictEntry.mk (PyData.keyHash P (Str.ofString "__name__")) (Value.str (Str.ofString "__name__") 165) (Value.str (Str.ofString "law_rg0263_01") 484), DictEntry.mk (PyData.keyHash P (Str.ofString "__doc__")) (Value.str (Str.ofString "__doc__") 166) Value.none, DictEntry.mk (PyData.keyHash P (Str.ofString "__package__")) (Value.str (Str.ofString "__package__") 167) Value.none, DictEntry.mk (PyData.keyHash P (Str.ofString "__loader__")) (Value.str (Str.ofString "__loader__") 168) (Value.builtin "__main__.__loader__#opaque"), DictEntry.mk (PyData.keyHash P (Str.ofString "__spec__")) (Value.str (Str.ofString "__spec__") 169) Value.none, DictEntry.mk (PyData.keyHash P (Str.ofString "__annotations__")) (Value.str (Str.ofString "__annotations__") 170) (Value.ref 6), DictEntry.mk (PyData.keyHash P (Str.ofString "__builtins__")) (Value.str (Str.ofString "__builtins__") 171) (Value.ref 4), DictEntry.mk (PyData.keyHash P (Str.ofString "__file__")) (Value.str (Str.ofString "__file__") 173) (Value.str (Str.ofString "/claim/cut.py") 172), DictEntry.mk (PyData.keyHash P (Str.ofString "__cached__")) (Value.str (Str.ofString "__cached__") 174) Value.none, DictEntry.mk (PyData.keyHash P (Str.ofString "GateError")) (Value.str (Str.ofString "GateError") 226) (Value.ref 39), DictEntry.mk (PyData.keyHash P (Str.ofString "CodeError")) (Value.str (Str.ofString "CodeError") 242) (Value.ref 52), DictEntry.mk (PyData.keyHash P (Str.ofString "little")) (Value.str (Str.ofString "little") 248) (Value.ref 59), DictEntry.mk (PyData.keyHash P (Str.ofString "from_little")) (Value.str (Str.ofString "from_little") 257) (Value.ref 66), DictEntry.mk (PyData.keyHash P (Str.ofString "ST")) (Value.str (Str.ofString "ST") 261) (Value.int 2 260), DictEntry.mk (PyData.keyHash P (Str.ofString "ALU")) (Value.str (Str.ofString "ALU") 263) (Value.int 4 262), DictEntry.mk (PyData.keyHash P (Str.ofString "JMP")) (Value.str (Str.ofString "JMP") 265) (Value.int 5 264), DictEntry.mk (PyData.keyHash P (Str.ofString "RET")) (Value.str (Str.ofString "RET") 267) (Value.int 6 266), DictEntry.mk (PyData.keyHash P (Str.ofString "MISC")) (Value.str (Str.ofString "MISC") 269) (Value.int 7 268), DictEntry.mk (PyData.keyHash P (Str.ofString "BY_X")) (Value.str (Str.ofString "BY_X") 271) (Value.int 8 270), DictEntry.mk (PyData.keyHash P (Str.ofString "RETURN_A")) (Value.str (Str.ofString "RETURN_A") 273) (Value.int 16 272), DictEntry.mk (PyData.keyHash P (Str.ofString "TXA")) (Value.str (Str.ofString "TXA") 275) (Value.int 128 274), DictEntry.mk (PyData.keyHash P (Str.ofString "WIDTH")) (Value.str (Str.ofString "WIDTH") 277) (Value.int 8 276), DictEntry.mk (PyData.keyHash P (Str.ofString "ALU_NAMES")) (Value.str (Str.ofString "ALU_NAMES") 279) (Value.str (Str.ofString "add sub mul div or and lsh rsh neg mod xor") 278), DictEntry.mk (PyData.keyHash P (Str.ofString "JUMP_NAMES")) (Value.str (Str.ofString "JUMP_NAMES") 281) (Value.str (Str.ofString "ja jeq jgt jge jset") 280), DictEntry.mk (PyData.keyHash P (Str.ofString "ClassicOrder")) (Value.str (Str.ofString "ClassicOrder") 323) (Value.ref 90), DictEntry.mk (PyData.keyHash P (Str.ofString "jump_name")) (Value.str (Str.ofString "jump_name") 332) (Value.ref 101), DictEntry.mk (PyData.keyHash P (Str.ofString "is_return")) (Value.str (Str.ofString "is_return") 339) (Value.ref 108), DictEntry.mk (PyData.keyHash P (Str.ofString "is_jump_order")) (Value.str (Str.ofString "is_jump_order") 346) (Value.ref 115), DictEntry.mk (PyData.keyHash P (Str.ofString "goals_of_classic")) (Value.str (Str.ofString "goals_of_classic") 355) (Value.ref 122), DictEntry.mk (PyData.keyHash P (Str.ofString "check_field")) (Value.str (Str.ofString "check_field") 363) (Value.ref 129), DictEntry.mk (PyData.keyHash P (Str.ofString "pack_classic")) (Value.str (Str.ofString "pack_classic") 370) (Value.ref 136), DictEntry.mk (PyData.keyHash P (Str.ofString "unpack_classic")) (Value.str (Str.ofString "unpack_classic") 381) (Value.ref 144), DictEntry.mk (PyData.keyHash P (Str.ofString "pack_filter")) (Value.str (Str.ofString "pack_filter") 387) (Value.ref 149), DictEntry.mk (PyData.keyHash P (Str.ofString "unpack_filter")) (Value.str (Str.ofString "unpack_filter") 396) (Value.ref 156), DictEntry.mk (PyData.keyHash P (Str.ofString "spot_in")) (Value.str (Str.ofString "spot_in") 405) (Value.ref 163), DictEntry.mk (PyData.keyHash P (Str.ofString "st")) (Value.str (Str.ofString "st") 412) (Value.ref 170), DictEntry.mk (PyData.keyHash P (Str.ofString "alu_x")) (Value.str (Str.ofString "alu_x") 419) (Value.ref 177), DictEntry.mk (PyData.keyHash P (Str.ofString "jump_code")) (Value.str (Str.ofString "jump_code") 426) (Value.ref 184), DictEntry.mk (PyData.keyHash P (Str.ofString "jump_k")) (Value.str (Str.ofString "jump_k") 436) (Value.ref 191), DictEntry.mk (PyData.keyHash P (Str.ofString "jump_x")) (Value.str (Str.ofString "jump_x") 445) (Value.ref 198), DictEntry.mk (PyData.keyHash P (Str.ofString "ja")) (Value.str (Str.ofString "ja") 452) (Value.ref 205), DictEntry.mk (PyData.keyHash P (Str.ofString "ret_k")) (Value.str (Str.ofString "ret_k") 459) (Value.ref 212), DictEntry.mk (PyData.keyHash P (Str.ofString "ret_a")) (Value.str (Str.ofString "ret_a") 465) (Value.ref 219), DictEntry.mk (PyData.keyHash P (Str.ofString "tax")) (Value.str (Str.ofString "tax") 471) (Value.ref 226), DictEntry.mk (PyData.keyHash P (Str.ofString "txa")) (Value.str (Str.ofString "txa") 477) (Value.ref 233), DictEntry.mk (PyData.keyHash P (Str.ofString "reached_orders")) (Value.str (Str.ofString "reached_orders") 483) (Value.ref 238), DictEntry.mk (PyData.keyHash P (Str.ofString "_law_TESTS")) (Value.str (Str.ofString "_law_TESTS") 490) (Value.ref 239), DictEntry.mk (PyData.keyHash P (Str.ofString "_law_chest")) (Value.str (Str.ofString "_law_chest") 499) (Value.ref 246), DictEntry.mk (PyData.keyHash P (Str.ofString "_law_penny")) (Value.str (Str.ofString "_law_penny") 508) (Value.ref 253), DictEntry.mk (PyData.keyHash P (Str.ofString "_law_field")) (Value.str (Str.ofString "_law_field") 517) (Value.ref 260), DictEntry.mk (PyData.keyHash P (Str.ofString "_law_order")) (Value.str (Str.ofString "_law_order") 528) (Value.ref 267), DictEntry.mk (PyData.keyHash P (Str.ofString "_law_laid")) (Value.str (Str.ofString "_law_laid") 534) (Value.ref 272), DictEntry.mk (PyData.keyHash P (Str.ofString "_law_read")) (Value.str (Str.ofString "_law_read") 540) (Value.ref 277), DictEntry.mk (PyData.keyHash P (Str.ofString "_law_heard")) (Value.str (Str.ofString "_law_heard") 548) (Value.ref 284), DictEntry.mk (PyData.keyHash P (Str.ofString "_law_all_heard")) (Value.str (Str.ofString "_law_all_heard") 554) (Value.ref 289), DictEntry.mk (PyData.keyHash P (Str.ofString "_law_next")) (Value.str (Str.ofString "_law_next") 566) (Value.ref 296), DictEntry.mk (PyData.keyHash P (Str.ofString "_law_reached")) (Value.str (Str.ofString "_law_reached") 572) (Value.ref 301), DictEntry.mk (PyData.keyHash P (Str.ofString "law")) (Value.str (Str.ofString "law") 578) (Value.ref 306)] 58) #[]) ::
  (nat_lit 15, Obj.mk (Value.type "tuple") none (Data.seq #[Value.type "Exception"]) #[]) ::
  (nat_lit 22, Obj.mk (Value.type "tuple") none (Data.seq #[Value.none]) #[]) ::
  (nat_lit 23, Obj.mk (Value.type "tuple") none (Data.seq #[]) #[]) ::
  (nat_lit 25, Obj.mk (Value.type "tuple") none (Data.seq #[Value.str (Str.ofString "self") 204, Value.str (Str.ofString "what") 205, Value.str (Str.ofString "at") 206]) #[]) ::
  (nat_lit 26, Obj.mk (Value.type "tuple") none (Data.seq #[]) #[]) ::
  (nat_lit 28, Obj.mk (Value.type "code") none (Data.fields #[Value.str (Str.ofString "__init__") 201, Value.str (Str.ofString "GateError.__init__") 202, Value.str (Str.ofString "/claim/cut.py") 203, Value.int 4 0, Value.int 3 0, Value.int 0 0, Value.int 0 0, Value.int 3 0, Value.ref 23, Value.bool true, Value.int 181 0, Value.ref 24, Value.none, Value.ref 25, Value.ref 26, Value.ref 27, Value.int 207 0, Value.int 4 0, Value.str (Str.ofString "/claim/cut.py") 208]) #[]) ::
  (nat_lit 29, Obj.mk (Value.type "function") none (Data.func (FuncData.mk (Str.ofString "__init__") (Str.ofString "GateError.__init__") a29.1 (FuncBody.stmts b29.1) s29.1 3 [] (Value.ref 22) Value.none Value.none (Value.str (Str.ofString "ringgate.basics") 187) none (Value.ref 28) Value.none 0)) #[]) ::
  (nat_lit 30, Obj.mk (Value.type "tuple") none (Data.seq #[]) #[]) ::
  (nat_lit 32, Obj.mk (Value.type "tuple") none (Data.seq #[Value.str (Str.ofString "self") 213]) #[]) ::
  (nat_lit 33, Obj.mk (Value.type "tuple") none (Data.seq #[]) #[]) ::
  (nat_lit 35, Obj.mk (Value.type "code") none (Data.fields #[Value.str (Str.ofString "told") 210, Value.str (Str.ofString "GateError.told") 211, Value.str (Str.ofString "/claim/cut.py") 212, Value.int 9 0, Value.int 1 0, Value.int 0 0, Value.int 0 0, Value.int 3 0, Value.ref 30, Value.bool true, Value.int 181 0, Value.ref 31, Value.none, Value.ref 32, Value.ref 33, Value.ref 34, Value.int 214 0, Value.int 9 0, Value.str (Str.ofString "/claim/cut.py") 215]) #[]) ::
  (nat_lit 36, Obj.mk (Value.type "function") none (Data.func (FuncData.mk (Str.ofString "told") (Str.ofString "GateError.told") a36.1 (FuncBody.stmts b36.1) s36.1 3 [] Value.none Value.none Value.none (Value.str (Str.ofString "ringgate.basics") 187) none (Value.ref 35) Value.none 0)) #[]) ::
  (nat_lit 37, Obj.mk (Value.type "tuple") none (Data.seq #[Value.str (Str.ofString "at") 217, Value.str (Str.ofString "what") 218]) #[]) ::
  (nat_lit 38, Obj.mk (Value.type "dict") none (Data.dict #[DictEntry.mk (PyData.keyHash P (Str.ofString "__module__")) (Value.str (Str.ofString "__module__") 196) (Value.str (Str.ofString "ringgate.basics") 187), DictEntry.mk (PyData.keyHash P (Str.ofString "__firstlineno__")) (Value.str (Str.ofString "__firstlineno__") 200) (Value.int 2 199), DictEntry.mk (PyData.keyHash P (Str.ofString "__init__")) (Value.str (Str.ofString "__init__") 209) (Value.ref 29), DictEntry.mk (PyData.keyHash P (Str.ofString "told")) (Value.str (Str.ofString "told") 216) (Value.ref 36), DictEntry.mk (PyData.keyHash P (Str.ofString "__static_attributes__")) (Value.str (Str.ofString "__static_attributes__") 219) (Value.ref 37), DictEntry.mk (PyData.keyHash P (Str.ofString "__weakref__")) (Value.str (Str.ofString "__weakref__") 221) (Value.ref 40), DictEntry.mk (PyData.keyHash P (Str.ofString "__doc__")) (Value.str (Str.ofString "__doc__") 222) Value.none] 3) #[]) ::
  (nat_lit 39, Obj.mk (Value.type "type") none (Data.cls (ClassData.mk (Str.ofString "GateError") [Value.type "Exception"] [Value.ref 39, Value.type "Exception", Value.type "BaseException", Value.type "object"] 38 (Str.ofString "GateError") true [] [Value.ref 52] false none false)) #[some (Value.ref 15), none, some (Value.str (Str.ofString "GateError") 189), some (Value.str (Str.ofString "GateError") 197), some (Value.builtin "Exception.__new__"), some (Value.bool true)]) ::
  (nat_lit 40, Obj.mk (Value.type "getset_descriptor") none (Data.fields #[Value.str (Str.ofString "__weakref__") 220, Value.ref 39, Value.builtin "ExceptionGroup.__weakref__", Value.none]) #[]) ::
  (nat_lit 43, Obj.mk (Value.type "tuple") none (Data.seq #[Value.ref 39]) #[]) ::
  (nat_lit 50, Obj.mk (Value.type "tuple") none (Data.seq #[]) #[]) ::
  (nat_lit 51, Obj.mk (Value.type "dict") none (Data.dict #[DictEntry.mk (PyData.keyHash P (Str.ofString "__module__")) (Value.str (Str.ofString "__module__") 234) (Value.str (Str.ofString "ringgate.basics") 187), DictEntry.mk (PyData.keyHash P (Str.ofString "__firstlineno__")) (Value.str (Str.ofString "__firstlineno__") 238) (Value.int 11 237), DictEntry.mk (PyData.keyHash P (Str.ofString "__static_attributes__")) (Value.str (Str.ofString "__static_attributes__") 239) (Value.ref 50), DictEntry.mk (PyData.keyHash P (Str.ofString "__doc__")) (Value.str (Str.ofString "__doc__") 240) Value.none] 2) #[]) ::
  (nat_lit 52, Obj.mk (Value.type "type") none (Data.cls (ClassData.mk (Str.ofString "CodeError") [Value.ref 39] [Value.ref 52, Value.ref 39, Value.type "Exception", Value.type "BaseException", Value.type "object"] 51 (Str.ofString "CodeError") true [] [] false none false)) #[some (Value.ref 43), none, some (Value.str (Str.ofString "CodeError") 227), some (Value.str (Str.ofString "CodeError") 235), some (Value.builtin "Exception.__new__"), some (Value.bool true)]) ::
  (nat_lit 55, Obj.mk (Value.type "tuple") none (Data.seq #[]) #[]) ::
  (nat_lit 58, Obj.mk (Value.type "code") none (Data.fields #[Value.str (Str.ofString "little") 243, Value.str (Str.ofString "little") 244, Value.str (Str.ofString "/claim/cut.py") 245, Value.int 13 0, Value.int 2 0, Value.int 0 0, Value.int 0 0, Value.int 3 0, Value.ref 55, Value.bool true, Value.int 181 0, Value.ref 56, Value.none, Value.none, Value.none, Value.ref 57, Value.int 246 0, Value.int 13 0, Value.str (Str.ofString "/claim/cut.py") 247]) #[]) ::
  (nat_lit 59, Obj.mk (Value.type "function") none (Data.func (FuncData.mk (Str.ofString "little") (Str.ofString "little") a59.1 (FuncBody.stmts b59.1) s59.1 3 [] Value.none Value.none Value.none (Value.str (Str.ofString "ringgate.basics") 187) none (Value.ref 58) Value.none 0)) #[]) ::
  (nat_lit 60, Obj.mk (Value.type "tuple") none (Data.seq #[]) #[]) ::
  (nat_lit 62, Obj.mk (Value.type "tuple") none (Data.seq #[Value.str (Str.ofString "octets") 252, Value.str (Str.ofString "worth") 253, Value.str (Str.ofString "at") 254]) #[]) ::
  (nat_lit 63, Obj.mk (Value.type "tuple") none (Data.seq #[]) #[]) ::
  (nat_lit 65, Obj.mk (Value.type "code") none (Data.fields #[Value.str (Str.ofString "from_little") 249, Value.str (Str.ofString "from_little") 250, Value.str (Str.ofString "/claim/cut.py") 251, Value.int 15 0, Value.int 1 0, Value.int 0 0, Value.int 0 0, Value.int 3 0, Value.ref 60, Value.bool true, Value.int 181 0, Value.ref 61, Value.none, Value.ref 62, Value.ref 63, Value.ref 64, Value.int 255 0, Value.int 15 0, Value.str (Str.ofString "/claim/cut.py") 256]) #[]) ::
  (nat_lit 66, Obj.mk (Value.type "function") none (Data.func (FuncData.mk (Str.ofString "from_little") (Str.ofString "from_little") a66.1 (FuncBody.stmts b66.1) s66.1 3 [] Value.none Value.none Value.none (Value.str (Str.ofString "ringgate.basics") 187) none (Value.ref 65) Value.none 0)) #[]) ::
  (nat_lit 74, Obj.mk (Value.type "tuple") none (Data.seq #[]) #[]) ::
  (nat_lit 76, Obj.mk (Value.type "tuple") none (Data.seq #[Value.str (Str.ofString "self") 297, Value.str (Str.ofString "code") 298, Value.str (Str.ofString "jt") 299, Value.str (Str.ofString "jf") 300, Value.str (Str.ofString "k") 301]) #[]) ::
  (nat_lit 77, Obj.mk (Value.type "tuple") none (Data.seq #[]) #[]) ::
  (nat_lit 79, Obj.mk (Value.type "code") none (Data.fields #[Value.str (Str.ofString "__init__") 294, Value.str (Str.ofString "ClassicOrder.__init__") 295, Value.str (Str.ofString "/claim/cut.py") 296, Value.int 34 0, Value.int 5 0, Value.int 0 0, Value.int 0 0, Value.int 3 0, Value.ref 74, Value.bool true, Value.int 181 0, Value.ref 75, Value.none, Value.ref 76, Value.ref 77, Value.ref 78, Value.int 302 0, Value.int 34 0, Value.str (Str.ofString "/claim/cut.py") 303]) #[]) ::
  (nat_lit 80, Obj.mk (Value.type "function") none (Data.func (FuncData.mk (Str.ofString "__init__") (Str.ofString "ClassicOrder.__init__") a80.1 (FuncBody.stmts b80.1) s80.1 3 [] Value.none Value.none Value.none (Value.str (Str.ofString "ringgate.classic") 258) none (Value.ref 79) Value.none 0)) #[]) ::
  (nat_lit 81, Obj.mk (Value.type "tuple") none (Data.seq #[]) #[]) ::
  (nat_lit 83, Obj.mk (Value.type "tuple") none (Data.seq #[Value.str (Str.ofString "self") 308]) #[]) ::
  (nat_lit 84, Obj.mk (Value.type "tuple") none (Data.seq #[]) #[]) ::
  (nat_lit 86, Obj.mk (Value.type "code") none (Data.fields #[Value.str (Str.ofString "told") 305, Value.str (Str.ofString "ClassicOrder.told") 306, Value.str (Str.ofString "/claim/cut.py") 307, Value.int 40 0, Value.int 1 0, Value.int 0 0, Value.int 0 0, Value.int 3 0, Value.ref 81, Value.bool true, Value.int 181 0, Value.ref 82, Value.none, Value.ref 83, Value.ref 84, Value.ref 85, Value.int 309 0, Value.int 40 0, Value.str (Str.ofString "/claim/cut.py") 310]) #[]) ::
  (nat_lit 87, Obj.mk (Value.type "function") none (Data.func (FuncData.mk (Str.ofString "told") (Str.ofString "ClassicOrder.told") a87.1 (FuncBody.stmts b87.1) s87.1 3 [] Value.none Value.none Value.none (Value.str (Str.ofString "ringgate.classic") 258) none (Value.ref 86) Value.none 0)) #[]) ::
  (nat_lit 88, Obj.mk (Value.type "tuple") none (Data.seq #[Value.str (Str.ofString "code") 312, Value.str (Str.ofString "jf") 313, Value.str (Str.ofString "jt") 314, Value.str (Str.ofString "k") 315]) #[]) ::
  (nat_lit 89, Obj.mk (Value.type "dict") none (Data.dict #[DictEntry.mk (PyData.keyHash P (Str.ofString "__module__")) (Value.str (Str.ofString "__module__") 289) (Value.str (Str.ofString "ringgate.classic") 258), DictEntry.mk (PyData.keyHash P (Str.ofString "__firstlineno__")) (Value.str (Str.ofString "__firstlineno__") 293) (Value.int 32 292), DictEntry.mk (PyData.keyHash P (Str.ofString "__init__")) (Value.str (Str.ofString "__init__") 304) (Value.ref 80), DictEntry.mk (PyData.keyHash P (Str.ofString "told")) (Value.str (Str.ofString "told") 311) (Value.ref 87), DictEntry.mk (PyData.keyHash P (Str.ofString "__static_attributes__")) (Value.str (Str.ofString "__static_attributes__") 316) (Value.ref 88), DictEntry.mk (PyData.keyHash P (Str.ofString "__dict__")) (Value.str (Str.ofString "__dict__") 318) (Value.ref 91), DictEntry.mk (PyData.keyHash P (Str.ofString "__weakref__")) (Value.str (Str.ofString "__weakref__") 320) (Value.ref 92), DictEntry.mk (PyData.keyHash P (Str.ofString "__doc__")) (Value.str (Str.ofString "__doc__") 321) Value.none] 4) #[]) ::
  (nat_lit 90, Obj.mk (Value.type "type") none (Data.cls (ClassData.mk (Str.ofString "ClassicOrder") [Value.type "object"] [Value.ref 90, Value.type "object"] 89 (Str.ofString "ClassicOrder") true [] [] false none false)) #[none, none, some (Value.str (Str.ofString "ClassicOrder") 282), some (Value.str (Str.ofString "ClassicOrder") 290), some (Value.builtin "object.__new__"), some (Value.bool true)]) ::
  (nat_lit 91, Obj.mk (Value.type "getset_descriptor") none (Data.fields #[Value.str (Str.ofString "__dict__") 317, Value.ref 90, Value.builtin "function.__dict__", Value.builtin "function.__dict__#set"]) #[]) ::
  (nat_lit 92, Obj.mk (Value.type "getset_descriptor") none (Data.fields #[Value.str (Str.ofString "__weakref__") 319, Value.ref 90, Value.builtin "ExceptionGroup.__weakref__", Value.none]) #[]) ::
  (nat_lit 95, Obj.mk (Value.type "tuple") none (Data.seq #[]) #[]) ::
  (nat_lit 97, Obj.mk (Value.type "tuple") none (Data.seq #[Value.str (Str.ofString "order") 327, Value.str (Str.ofString "names") 328, Value.str (Str.ofString "spot") 329]) #[]) ::
  (nat_lit 98, Obj.mk (Value.type "tuple") none (Data.seq #[]) #[]) ::
  (nat_lit 100, Obj.mk (Value.type "code") none (Data.fields #[Value.str (Str.ofString "jump_name") 324, Value.str (Str.ofString "jump_name") 325, Value.str (Str.ofString "/claim/cut.py") 326, Value.int 42 0, Value.int 1 0, Value.int 0 0, Value.int 0 0, Value.int 3 0, Value.ref 95, Value.bool true, Value.int 181 0, Value.ref 96, Value.none, Value.ref 97, Value.ref 98, Value.ref 99, Value.int 330 0, Value.int 42 0, Value.str (Str.ofString "/claim/cut.py") 331]) #[]) ::
  (nat_lit 101, Obj.mk (Value.type "function") none (Data.func (FuncData.mk (Str.ofString "jump_name") (Str.ofString "jump_name") a101.1 (FuncBody.stmts b101.1) s101.1 3 [] Value.none Value.none Value.none (Value.str (Str.ofString "ringgate.classic") 258) none (Value.ref 100) Value.none 0)) #[]) ::
  (nat_lit 102, Obj.mk (Value.type "tuple") none (Data.seq #[]) #[]) ::
  (nat_lit 104, Obj.mk (Value.type "tuple") none (Data.seq #[Value.str (Str.ofString "order") 336]) #[]) ::
  (nat_lit 105, Obj.mk (Value.type "tuple") none (Data.seq #[]) #[]) ::
  (nat_lit 107, Obj.mk (Value.type "code") none (Data.fields #[Value.str (Str.ofString "is_return") 333, Value.str (Str.ofString "is_return") 334, Value.str (Str.ofString "/claim/cut.py") 335, Value.int 45 0, Value.int 1 0, Value.int 0 0, Value.int 0 0, Value.int 3 0, Value.ref 102, Value.bool true, Value.int 181 0, Value.ref 103, Value.none, Value.ref 104, Value.ref 105, Value.ref 106, Value.int 337 0, Value.int 45 0, Value.str (Str.ofString "/claim/cut.py") 338]) #[]) ::
  (nat_lit 108, Obj.mk (Value.type "function") none (Data.func (FuncData.mk (Str.ofString "is_return") (Str.ofString "is_return") a108.1 (FuncBody.stmts b108.1) s108.1 3 [] Value.none Value.none Value.none (Value.str (Str.ofString "ringgate.classic") 258) none (Value.ref 107) Value.none 0)) #[]) ::
  (nat_lit 109, Obj.mk (Value.type "tuple") none (Data.seq #[]) #[]) ::
  (nat_lit 111, Obj.mk (Value.type "tuple") none (Data.seq #[Value.str (Str.ofString "order") 343]) #[]) ::
  (nat_lit 112, Obj.mk (Value.type "tuple") none (Data.seq #[]) #[]) ::
  (nat_lit 114, Obj.mk (Value.type "code") none (Data.fields #[Value.str (Str.ofString "is_jump_order") 340, Value.str (Str.ofString "is_jump_order") 341, Value.str (Str.ofString "/claim/cut.py") 342, Value.int 47 0, Value.int 1 0, Value.int 0 0, Value.int 0 0, Value.int 3 0, Value.ref 109, Value.bool true, Value.int 181 0, Value.ref 110, Value.none, Value.ref 111, Value.ref 112, Value.ref 113, Value.int 344 0, Value.int 47 0, Value.str (Str.ofString "/claim/cut.py") 345]) #[]) ::
  (nat_lit 115, Obj.mk (Value.type "function") none (Data.func (FuncData.mk (Str.ofString "is_jump_order") (Str.ofString "is_jump_order") a115.1 (FuncBody.stmts b115.1) s115.1 3 [] Value.none Value.none Value.none (Value.str (Str.ofString "ringgate.classic") 258) none (Value.ref 114) Value.none 0)) #[]) ::
  (nat_lit 116, Obj.mk (Value.type "tuple") none (Data.seq #[]) #[]) ::
  (nat_lit 118, Obj.mk (Value.type "tuple") none (Data.seq #[Value.str (Str.ofString "orders") 350, Value.str (Str.ofString "at") 351, Value.str (Str.ofString "order") 352]) #[]) ::
  (nat_lit 119, Obj.mk (Value.type "tuple") none (Data.seq #[]) #[]) ::
  (nat_lit 121, Obj.mk (Value.type "code") none (Data.fields #[Value.str (Str.ofString "goals_of_classic") 347, Value.str (Str.ofString "goals_of_classic") 348, Value.str (Str.ofString "/claim/cut.py") 349, Value.int 49 0, Value.int 2 0, Value.int 0 0, Value.int 0 0, Value.int 3 0, Value.ref 116, Value.bool true, Value.int 181 0, Value.ref 117, Value.none, Value.ref 118, Value.ref 119, Value.ref 120, Value.int 353 0, Value.int 49 0, Value.str (Str.ofString "/claim/cut.py") 354]) #[]) ::
  (nat_lit 122, Obj.mk (Value.type "function") none (Data.func (FuncData.mk (Str.ofString "goals_of_classic") (Str.ofString "goals_of_classic") a122.1 (FuncBody.stmts b122.1) s122.1 3 [] Value.none Value.none Value.none (Value.str (Str.ofString "ringgate.classic") 258) none (Value.ref 121) Value.none 0)) #[]) ::
  (nat_lit 123, Obj.mk (Value.type "tuple") none (Data.seq #[]) #[]) ::
  (nat_lit 125, Obj.mk (Value.type "tuple") none (Data.seq #[Value.str (Str.ofString "worth") 359, Value.str (Str.ofString "size") 360]) #[]) ::
  (nat_lit 126, Obj.mk (Value.type "tuple") none (Data.seq #[]) #[]) ::
  (nat_lit 128, Obj.mk (Value.type "code") none (Data.fields #[Value.str (Str.ofString "check_field") 356, Value.str (Str.ofString "check_field") 357, Value.str (Str.ofString "/claim/cut.py") 358, Value.int 60 0, Value.int 2 0, Value.int 0 0, Value.int 0 0, Value.int 3 0, Value.ref 123, Value.bool true, Value.int 181 0, Value.ref 124, Value.none, Value.ref 125, Value.ref 126, Value.ref 127, Value.int 361 0, Value.int 60 0, Value.str (Str.ofString "/claim/cut.py") 362]) #[]) ::
  (nat_lit 129, Obj.mk (Value.type "function") none (Data.func (FuncData.mk (Str.ofString "check_field") (Str.ofString "check_field") a129.1 (FuncBody.stmts b129.1) s129.1 3 [] Value.none Value.none Value.none (Value.str (Str.ofString "ringgate.classic") 258) none (Value.ref 128) Value.none 0)) #[]) ::
  (nat_lit 130, Obj.mk (Value.type "tuple") none (Data.seq #[]) #[]) ::
  (nat_lit 132, Obj.mk (Value.type "tuple") none (Data.seq #[Value.str (Str.ofString "order") 367]) #[]) ::
  (nat_lit 133, Obj.mk (Value.type "tuple") none (Data.seq #[]) #[]) ::
  (nat_lit 135, Obj.mk (Value.type "code") none (Data.fields #[Value.str (Str.ofString "pack_classic") 364, Value.str (Str.ofString "pack_classic") 365, Value.str (Str.ofString "/claim/cut.py") 366, Value.int 63 0, Value.int 1 0, Value.int 0 0, Value.int 0 0, Value.int 3 0, Value.ref 130, Value.bool true, Value.int 181 0, Value.ref 131, Value.none, Value.ref 132, Value.ref 133, Value.ref 134, Value.int 368 0, Value.int 63 0, Value.str (Str.ofString "/claim/cut.py") 369]) #[]) ::
  (nat_lit 136, Obj.mk (Value.type "function") none (Data.func (FuncData.mk (Str.ofString "pack_classic") (Str.ofString "pack_classic") a136.1 (FuncBody.stmts b136.1) s136.1 3 [] Value.none Value.none Value.none (Value.str (Str.ofString "ringgate.classic") 258) none (Value.ref 135) Value.none 0)) #[]) ::
  (nat_lit 137, Obj.mk (Value.type "tuple") none (Data.seq #[Value.int 0 371]) #[]) ::
  (nat_lit 138, Obj.mk (Value.type "tuple") none (Data.seq #[]) #[]) ::
  (nat_lit 140, Obj.mk (Value.type "tuple") none (Data.seq #[Value.str (Str.ofString "octets") 375, Value.str (Str.ofString "at") 376, Value.str (Str.ofString "code") 377, Value.str (Str.ofString "k") 378]) #[]) ::
  (nat_lit 141, Obj.mk (Value.type "tuple") none (Data.seq #[]) #[]) ::
  (nat_lit 143, Obj.mk (Value.type "code") none (Data.fields #[Value.str (Str.ofString "unpack_classic") 372, Value.str (Str.ofString "unpack_classic") 373, Value.str (Str.ofString "/claim/cut.py") 374, Value.int 69 0, Value.int 2 0, Value.int 0 0, Value.int 0 0, Value.int 3 0, Value.ref 138, Value.bool true, Value.int 181 0, Value.ref 139, Value.none, Value.ref 140, Value.ref 141, Value.ref 142, Value.int 379 0, Value.int 69 0, Value.str (Str.ofString "/claim/cut.py") 380]) #[]) ::
  (nat_lit 144, Obj.mk (Value.type "function") none (Data.func (FuncData.mk (Str.ofString "unpack_classic") (Str.ofString "unpack_classic") a144.1 (FuncBody.stmts b144.1) s144.1 3 [] (Value.ref 137) Value.none Value.none (Value.str (Str.ofString "ringgate.classic") 258) none (Value.ref 143) Value.none 0)) #[]) ::
  (nat_lit 145, Obj.mk (Value.type "tuple") none (Data.seq #[]) #[]) ::
  (nat_lit 148, Obj.mk (Value.type "code") none (Data.fields #[Value.str (Str.ofString "pack_filter") 382, Value.str (Str.ofString "pack_filter") 383, Value.str (Str.ofString "/claim/cut.py") 384, Value.int 74 0, Value.int 1 0, Value.int 0 0, Value.int 0 0, Value.int 3 0, Value.ref 145, Value.bool true, Value.int 181 0, Value.ref 146, Value.none, Value.none, Value.none, Value.ref 147, Value.int 385 0, Value.int 74 0, Value.str (Str.ofString "/claim/cut.py") 386]) #[]) ::
  (nat_lit 149, Obj.mk (Value.type "function") none (Data.func (FuncData.mk (Str.ofString "pack_filter") (Str.ofString "pack_filter") a149.1 (FuncBody.stmts b149.1) s149.1 3 [] Value.none Value.none Value.none (Value.str (Str.ofString "ringgate.classic") 258) none (Value.ref 148) Value.none 0)) #[]) ::
  (nat_lit 150, Obj.mk (Value.type "tuple") none (Data.seq #[]) #[]) ::
  (nat_lit 152, Obj.mk (Value.type "tuple") none (Data.seq #[Value.str (Str.ofString "octets") 391, Value.str (Str.ofString "found") 392, Value.str (Str.ofString "at") 393]) #[]) ::
  (nat_lit 153, Obj.mk (Value.type "tuple") none (Data.seq #[]) #[]) ::
  (nat_lit 155, Obj.mk (Value.type "code") none (Data.fields #[Value.str (Str.ofString "unpack_filter") 388, Value.str (Str.ofString "unpack_filter") 389, Value.str (Str.ofString "/claim/cut.py") 390, Value.int 76 0, Value.int 1 0, Value.int 0 0, Value.int 0 0, Value.int 3 0, Value.ref 150, Value.bool true, Value.int 181 0, Value.ref 151, Value.none, Value.ref 152, Value.ref 153, Value.ref 154, Value.int 394 0, Value.int 76 0, Value.str (Str.ofString "/claim/cut.py") 395]) #[]) ::
  (nat_lit 156, Obj.mk (Value.type "function") none (Data.func (FuncData.mk (Str.ofString "unpack_filter") (Str.ofString "unpack_filter") a156.1 (FuncBody.stmts b156.1) s156.1 3 [] Value.none Value.none Value.none (Value.str (Str.ofString "ringgate.classic") 258) none (Value.ref 155) Value.none 0)) #[]) ::
  (nat_lit 157, Obj.mk (Value.type "tuple") none (Data.seq #[]) #[]) ::
  (nat_lit 159, Obj.mk (Value.type "tuple") none (Data.seq #[Value.str (Str.ofString "names") 400, Value.str (Str.ofString "name") 401, Value.str (Str.ofString "found") 402]) #[]) ::
  (nat_lit 160, Obj.mk (Value.type "tuple") none (Data.seq #[]) #[]) ::
  (nat_lit 162, Obj.mk (Value.type "code") none (Data.fields #[Value.str (Str.ofString "spot_in") 397, Value.str (Str.ofString "spot_in") 398, Value.str (Str.ofString "/claim/cut.py") 399, Value.int 83 0, Value.int 2 0, Value.int 0 0, Value.int 0 0, Value.int 3 0, Value.ref 157, Value.bool true, Value.int 181 0, Value.ref 158, Value.none, Value.ref 159, Value.ref 160, Value.ref 161, Value.int 403 0, Value.int 83 0, Value.str (Str.ofString "/claim/cut.py") 404]) #[]) ::
  (nat_lit 163, Obj.mk (Value.type "function") none (Data.func (FuncData.mk (Str.ofString "spot_in") (Str.ofString "spot_in") a163.1 (FuncBody.stmts b163.1) s163.1 3 [] Value.none Value.none Value.none (Value.str (Str.ofString "ringgate.classic") 258) none (Value.ref 162) Value.none 0)) #[]) ::
  (nat_lit 164, Obj.mk (Value.type "tuple") none (Data.seq #[]) #[]) ::
  (nat_lit 166, Obj.mk (Value.type "tuple") none (Data.seq #[Value.str (Str.ofString "k") 409]) #[]) ::
  (nat_lit 167, Obj.mk (Value.type "tuple") none (Data.seq #[]) #[]) ::
  (nat_lit 169, Obj.mk (Value.type "code") none (Data.fields #[Value.str (Str.ofString "st") 406, Value.str (Str.ofString "st") 407, Value.str (Str.ofString "/claim/cut.py") 408, Value.int 88 0, Value.int 1 0, Value.int 0 0, Value.int 0 0, Value.int 3 0, Value.ref 164, Value.bool true, Value.int 181 0, Value.ref 165, Value.none, Value.ref 166, Value.ref 167, Value.ref 168, Value.int 410 0, Value.int 88 0, Value.str (Str.ofString "/claim/cut.py") 411]) #[]) ::
  (nat_lit 170, Obj.mk (Value.type "function") none (Data.func (FuncData.mk (Str.ofString "st") (Str.ofString "st") a170.1 (FuncBody.stmts b170.1) s170.1 3 [] Value.none Value.none Value.none (Value.str (Str.ofString "ringgate.classic") 258) none (Value.ref 169) Value.none 0)) #[]) ::
  (nat_lit 171, Obj.mk (Value.type "tuple") none (Data.seq #[]) #[]) ::
  (nat_lit 173, Obj.mk (Value.type "tuple") none (Data.seq #[Value.str (Str.ofString "op") 416]) #[]) ::
  (nat_lit 174, Obj.mk (Value.type "tuple") none (Data.seq #[]) #[]) ::
  (nat_lit 176, Obj.mk (Value.type "code") none (Data.fields #[Value.str (Str.ofString "alu_x") 413, Value.str (Str.ofString "alu_x") 414, Value.str (Str.ofString "/claim/cut.py") 415, Value.int 90 0, Value.int 1 0, Value.int 0 0, Value.int 0 0, Value.int 3 0, Value.ref 171, Value.bool true, Value.int 181 0, Value.ref 172, Value.none, Value.ref 173, Value.ref 174, Value.ref 175, Value.int 417 0, Value.int 90 0, Value.str (Str.ofString "/claim/cut.py") 418]) #[]) ::
  (nat_lit 177, Obj.mk (Value.type "function") none (Data.func (FuncData.mk (Str.ofString "alu_x") (Str.ofString "alu_x") a177.1 (FuncBody.stmts b177.1) s177.1 3 [] Value.none Value.none Value.none (Value.str (Str.ofString "ringgate.classic") 258) none (Value.ref 176) Value.none 0)) #[]) ::
  (nat_lit 178, Obj.mk (Value.type "tuple") none (Data.seq #[]) #[]) ::
  (nat_lit 180, Obj.mk (Value.type "tuple") none (Data.seq #[Value.str (Str.ofString "op") 423]) #[]) ::
  (nat_lit 181, Obj.mk (Value.type "tuple") none (Data.seq #[]) #[]) ::
  (nat_lit 183, Obj.mk (Value.type "code") none (Data.fields #[Value.str (Str.ofString "jump_code") 420, Value.str (Str.ofString "jump_code") 421, Value.str (Str.ofString "/claim/cut.py") 422, Value.int 94 0, Value.int 1 0, Value.int 0 0, Value.int 0 0, Value.int 3 0, Value.ref 178, Value.bool true, Value.int 181 0, Value.ref 179, Value.none, Value.ref 180, Value.ref 181, Value.ref 182, Value.int 424 0, Value.int 94 0, Value.str (Str.ofString "/claim/cut.py") 425]) #[]) ::
  (nat_lit 184, Obj.mk (Value.type "function") none (Data.func (FuncData.mk (Str.ofString "jump_code") (Str.ofString "jump_code") a184.1 (FuncBody.stmts b184.1) s184.1 3 [] Value.none Value.none Value.none (Value.str (Str.ofString "ringgate.classic") 258) none (Value.ref 183) Value.none 0)) #[]) ::
  (nat_lit 185, Obj.mk (Value.type "tuple") none (Data.seq #[]) #[]) ::
  (nat_lit 187, Obj.mk (Value.type "tuple") none (Data.seq #[Value.str (Str.ofString "op") 430, Value.str (Str.ofString "k") 431, Value.str (Str.ofString "jt") 432, Value.str (Str.ofString "jf") 433]) #[]) ::
  (nat_lit 188, Obj.mk (Value.type "tuple") none (Data.seq #[]) #[]) ::
  (nat_lit 190, Obj.mk (Value.type "code") none (Data.fields #[Value.str (Str.ofString "jump_k") 427, Value.str (Str.ofString "jump_k") 428, Value.str (Str.ofString "/claim/cut.py") 429, Value.int 98 0, Value.int 4 0, Value.int 0 0, Value.int 0 0, Value.int 3 0, Value.ref 185, Value.bool true, Value.int 181 0, Value.ref 186, Value.none, Value.ref 187, Value.ref 188, Value.ref 189, Value.int 434 0, Value.int 98 0, Value.str (Str.ofString "/claim/cut.py") 435]) #[]) ::
  (nat_lit 191, Obj.mk (Value.type "function") none (Data.func (FuncData.mk (Str.ofString "jump_k") (Str.ofString "jump_k") a191.1 (FuncBody.stmts b191.1) s191.1 3 [] Value.none Value.none Value.none (Value.str (Str.ofString "ringgate.classic") 258) none (Value.ref 190) Value.none 0)) #[]) ::
  (nat_lit 192, Obj.mk (Value.type "tuple") none (Data.seq #[]) #[]) ::
  (nat_lit 194, Obj.mk (Value.type "tuple") none (Data.seq #[Value.str (Str.ofString "op") 440, Value.str (Str.ofString "jt") 441, Value.str (Str.ofString "jf") 442]) #[]) ::
  (nat_lit 195, Obj.mk (Value.type "tuple") none (Data.seq #[]) #[]) ::
  (nat_lit 197, Obj.mk (Value.type "code") none (Data.fields #[Value.str (Str.ofString "jump_x") 437, Value.str (Str.ofString "jump_x") 438, Value.str (Str.ofString "/claim/cut.py") 439, Value.int 100 0, Value.int 3 0, Value.int 0 0, Value.int 0 0, Value.int 3 0, Value.ref 192, Value.bool true, Value.int 181 0, Value.ref 193, Value.none, Value.ref 194, Value.ref 195, Value.ref 196, Value.int 443 0, Value.int 100 0, Value.str (Str.ofString "/claim/cut.py") 444]) #[]) ::
  (nat_lit 198, Obj.mk (Value.type "function") none (Data.func (FuncData.mk (Str.ofString "jump_x") (Str.ofString "jump_x") a198.1 (FuncBody.stmts b198.1) s198.1 3 [] Value.none Value.none Value.none (Value.str (Str.ofString "ringgate.classic") 258) none (Value.ref 197) Value.none 0)) #[]) ::
  (nat_lit 199, Obj.mk (Value.type "tuple") none (Data.seq #[]) #[]) ::
  (nat_lit 201, Obj.mk (Value.type "tuple") none (Data.seq #[Value.str (Str.ofString "k") 449]) #[]) ::
  (nat_lit 202, Obj.mk (Value.type "tuple") none (Data.seq #[]) #[]) ::
  (nat_lit 204, Obj.mk (Value.type "code") none (Data.fields #[Value.str (Str.ofString "ja") 446, Value.str (Str.ofString "ja") 447, Value.str (Str.ofString "/claim/cut.py") 448, Value.int 102 0, Value.int 1 0, Value.int 0 0, Value.int 0 0, Value.int 3 0, Value.ref 199, Value.bool true, Value.int 181 0, Value.ref 200, Value.none, Value.ref 201, Value.ref 202, Value.ref 203, Value.int 450 0, Value.int 102 0, Value.str (Str.ofString "/claim/cut.py") 451]) #[]) ::
  (nat_lit 205, Obj.mk (Value.type "function") none (Data.func (FuncData.mk (Str.ofString "ja") (Str.ofString "ja") a205.1 (FuncBody.stmts b205.1) s205.1 3 [] Value.none Value.none Value.none (Value.str (Str.ofString "ringgate.classic") 258) none (Value.ref 204) Value.none 0)) #[]) ::
  (nat_lit 206, Obj.mk (Value.type "tuple") none (Data.seq #[]) #[]) ::
  (nat_lit 208, Obj.mk (Value.type "tuple") none (Data.seq #[Value.str (Str.ofString "k") 456]) #[]) ::
  (nat_lit 209, Obj.mk (Value.type "tuple") none (Data.seq #[]) #[]) ::
  (nat_lit 211, Obj.mk (Value.type "code") none (Data.fields #[Value.str (Str.ofString "ret_k") 453, Value.str (Str.ofString "ret_k") 454, Value.str (Str.ofString "/claim/cut.py") 455, Value.int 104 0, Value.int 1 0, Value.int 0 0, Value.int 0 0, Value.int 3 0, Value.ref 206, Value.bool true, Value.int 181 0, Value.ref 207, Value.none, Value.ref 208, Value.ref 209, Value.ref 210, Value.int 457 0, Value.int 104 0, Value.str (Str.ofString "/claim/cut.py") 458]) #[]) ::
  (nat_lit 212, Obj.mk (Value.type "function") none (Data.func (FuncData.mk (Str.ofString "ret_k") (Str.ofString "ret_k") a212.1 (FuncBody.stmts b212.1) s212.1 3 [] Value.none Value.none Value.none (Value.str (Str.ofString "ringgate.classic") 258) none (Value.ref 211) Value.none 0)) #[]) ::
  (nat_lit 213, Obj.mk (Value.type "tuple") none (Data.seq #[]) #[]) ::
  (nat_lit 215, Obj.mk (Value.type "tuple") none (Data.seq #[]) #[]) ::
  (nat_lit 216, Obj.mk (Value.type "tuple") none (Data.seq #[]) #[]) ::
  (nat_lit 218, Obj.mk (Value.type "code") none (Data.fields #[Value.str (Str.ofString "ret_a") 460, Value.str (Str.ofString "ret_a") 461, Value.str (Str.ofString "/claim/cut.py") 462, Value.int 106 0, Value.int 0 0, Value.int 0 0, Value.int 0 0, Value.int 3 0, Value.ref 213, Value.bool true, Value.int 181 0, Value.ref 214, Value.none, Value.ref 215, Value.ref 216, Value.ref 217, Value.int 463 0, Value.int 106 0, Value.str (Str.ofString "/claim/cut.py") 464]) #[]) ::
  (nat_lit 219, Obj.mk (Value.type "function") none (Data.func (FuncData.mk (Str.ofString "ret_a") (Str.ofString "ret_a") a219.1 (FuncBody.stmts b219.1) s219.1 3 [] Value.none Value.none Value.none (Value.str (Str.ofString "ringgate.classic") 258) none (Value.ref 218) Value.none 0)) #[]) ::
  (nat_lit 220, Obj.mk (Value.type "tuple") none (Data.seq #[]) #[]) ::
  (nat_lit 222, Obj.mk (Value.type "tuple") none (Data.seq #[]) #[]) ::
  (nat_lit 223, Obj.mk (Value.type "tuple") none (Data.seq #[]) #[]) ::
  (nat_lit 225, Obj.mk (Value.type "code") none (Data.fields #[Value.str (Str.ofString "tax") 466, Value.str (Str.ofString "tax") 467, Value.str (Str.ofString "/claim/cut.py") 468, Value.int 108 0, Value.int 0 0, Value.int 0 0, Value.int 0 0, Value.int 3 0, Value.ref 220, Value.bool true, Value.int 181 0, Value.ref 221, Value.none, Value.ref 222, Value.ref 223, Value.ref 224, Value.int 469 0, Value.int 108 0, Value.str (Str.ofString "/claim/cut.py") 470]) #[]) ::
  (nat_lit 226, Obj.mk (Value.type "function") none (Data.func (FuncData.mk (Str.ofString "tax") (Str.ofString "tax") a226.1 (FuncBody.stmts b226.1) s226.1 3 [] Value.none Value.none Value.none (Value.str (Str.ofString "ringgate.classic") 258) none (Value.ref 225) Value.none 0)) #[]) ::
  (nat_lit 227, Obj.mk (Value.type "tuple") none (Data.seq #[]) #[]) ::
  (nat_lit 229, Obj.mk (Value.type "tuple") none (Data.seq #[]) #[]) ::
  (nat_lit 230, Obj.mk (Value.type "tuple") none (Data.seq #[]) #[]) ::
  (nat_lit 232, Obj.mk (Value.type "code") none (Data.fields #[Value.str (Str.ofString "txa") 472, Value.str (Str.ofString "txa") 473, Value.str (Str.ofString "/claim/cut.py") 474, Value.int 110 0, Value.int 0 0, Value.int 0 0, Value.int 0 0, Value.int 3 0, Value.ref 227, Value.bool true, Value.int 181 0, Value.ref 228, Value.none, Value.ref 229, Value.ref 230, Value.ref 231, Value.int 475 0, Value.int 110 0, Value.str (Str.ofString "/claim/cut.py") 476]) #[]) ::
  (nat_lit 233, Obj.mk (Value.type "function") none (Data.func (FuncData.mk (Str.ofString "txa") (Str.ofString "txa") a233.1 (FuncBody.stmts b233.1) s233.1 3 [] Value.none Value.none Value.none (Value.str (Str.ofString "ringgate.classic") 258) none (Value.ref 232) Value.none 0)) #[]) ::
  (nat_lit 234, Obj.mk (Value.type "tuple") none (Data.seq #[]) #[]) ::
  (nat_lit 237, Obj.mk (Value.type "code") none (Data.fields #[Value.str (Str.ofString "reached_orders") 478, Value.str (Str.ofString "reached_orders") 479, Value.str (Str.ofString "/claim/cut.py") 480, Value.int 112 0, Value.int 1 0, Value.int 0 0, Value.int 0 0, Value.int 3 0, Value.ref 234, Value.bool true, Value.int 181 0, Value.ref 235, Value.none, Value.none, Value.none, Value.ref 236, Value.int 481 0, Value.int 112 0, Value.str (Str.ofString "/claim/cut.py") 482]) #[]) ::
  (nat_lit 238, Obj.mk (Value.type "function") none (Data.func (FuncData.mk (Str.ofString "reached_orders") (Str.ofString "reached_orders") a238.1 (FuncBody.stmts b238.1) s238.1 3 [] Value.none Value.none Value.none (Value.str (Str.ofString "ringgate.classic") 258) none (Value.ref 237) Value.none 0)) #[]) ::
  (nat_lit 239, Obj.mk (Value.type "tuple") none (Data.seq #[Value.str (Str.ofString "jeq") 486, Value.str (Str.ofString "jgt") 487, Value.str (Str.ofString "jge") 488, Value.str (Str.ofString "jset") 489]) #[]) ::
  (nat_lit 240, Obj.mk (Value.type "tuple") none (Data.seq #[]) #[]) ::
  (nat_lit 242, Obj.mk (Value.type "tuple") none (Data.seq #[Value.str (Str.ofString "script") 494, Value.str (Str.ofString "number") 495, Value.str (Str.ofString "cell") 496]) #[]) ::
  (nat_lit 243, Obj.mk (Value.type "tuple") none (Data.seq #[]) #[]) ::
  (nat_lit 245, Obj.mk (Value.type "code") none (Data.fields #[Value.str (Str.ofString "_law_chest") 491, Value.str (Str.ofString "_law_chest") 492, Value.str (Str.ofString "/claim/cut.py") 493, Value.int 122 0, Value.int 1 0, Value.int 0 0, Value.int 0 0, Value.int 3 0, Value.ref 240, Value.bool true, Value.int 181 0, Value.ref 241, Value.none, Value.ref 242, Value.ref 243, Value.ref 244, Value.int 497 0, Value.int 122 0, Value.str (Str.ofString "/claim/cut.py") 498]) #[]) ::
  (nat_lit 246, Obj.mk (Value.type "function") none (Data.func (FuncData.mk (Str.ofString "_law_chest") (Str.ofString "_law_chest") a246.1 (FuncBody.stmts b246.1) s246.1 3 [] Value.none Value.none Value.none (Value.str (Str.ofString "law_rg0263_01") 484) none (Value.ref 245) Value.none 0)) #[]) ::
  (nat_lit 247, Obj.mk (Value.type "tuple") none (Data.seq #[]) #[]) ::
  (nat_lit 249, Obj.mk (Value.type "tuple") none (Data.seq #[Value.str (Str.ofString "chest") 503, Value.str (Str.ofString "many") 504, Value.str (Str.ofString "digit") 505]) #[]) ::
  (nat_lit 250, Obj.mk (Value.type "tuple") none (Data.seq #[]) #[]) ::
  (nat_lit 252, Obj.mk (Value.type "code") none (Data.fields #[Value.str (Str.ofString "_law_penny") 500, Value.str (Str.ofString "_law_penny") 501, Value.str (Str.ofString "/claim/cut.py") 502, Value.int 127 0, Value.int 2 0, Value.int 0 0, Value.int 0 0, Value.int 3 0, Value.ref 247, Value.bool true, Value.int 181 0, Value.ref 248, Value.none, Value.ref 249, Value.ref 250, Value.ref 251, Value.int 506 0, Value.int 127 0, Value.str (Str.ofString "/claim/cut.py") 507]) #[]) ::
  (nat_lit 253, Obj.mk (Value.type "function") none (Data.func (FuncData.mk (Str.ofString "_law_penny") (Str.ofString "_law_penny") a253.1 (FuncBody.stmts b253.1) s253.1 3 [] Value.none Value.none Value.none (Value.str (Str.ofString "law_rg0263_01") 484) none (Value.ref 252) Value.none 0)) #[]) ::
  (nat_lit 254, Obj.mk (Value.type "tuple") none (Data.seq #[]) #[]) ::
  (nat_lit 256, Obj.mk (Value.type "tuple") none (Data.seq #[Value.str (Str.ofString "chest") 512, Value.str (Str.ofString "bits") 513, Value.str (Str.ofString "kind") 514]) #[]) ::
  (nat_lit 257, Obj.mk (Value.type "tuple") none (Data.seq #[]) #[]) ::
  (nat_lit 259, Obj.mk (Value.type "code") none (Data.fields #[Value.str (Str.ofString "_law_field") 509, Value.str (Str.ofString "_law_field") 510, Value.str (Str.ofString "/claim/cut.py") 511, Value.int 134 0, Value.int 2 0, Value.int 0 0, Value.int 0 0, Value.int 3 0, Value.ref 254, Value.bool true, Value.int 181 0, Value.ref 255, Value.none, Value.ref 256, Value.ref 257, Value.ref 258, Value.int 515 0, Value.int 134 0, Value.str (Str.ofString "/claim/cut.py") 516]) #[]) ::
  (nat_lit 260, Obj.mk (Value.type "function") none (Data.func (FuncData.mk (Str.ofString "_law_field") (Str.ofString "_law_field") a260.1 (FuncBody.stmts b260.1) s260.1 3 [] Value.none Value.none Value.none (Value.str (Str.ofString "law_rg0263_01") 484) none (Value.ref 259) Value.none 0)) #[]) ::
  (nat_lit 261, Obj.mk (Value.type "tuple") none (Data.seq #[]) #[]) ::
  (nat_lit 263, Obj.mk (Value.type "tuple") none (Data.seq #[Value.str (Str.ofString "chest") 521, Value.str (Str.ofString "kind") 522, Value.str (Str.ofString "far") 523, Value.str (Str.ofString "farther") 524, Value.str (Str.ofString "word") 525]) #[]) ::
  (nat_lit 264, Obj.mk (Value.type "tuple") none (Data.seq #[]) #[]) ::
  (nat_lit 266, Obj.mk (Value.type "code") none (Data.fields #[Value.str (Str.ofString "_law_order") 518, Value.str (Str.ofString "_law_order") 519, Value.str (Str.ofString "/claim/cut.py") 520, Value.int 137 0, Value.int 1 0, Value.int 0 0, Value.int 0 0, Value.int 3 0, Value.ref 261, Value.bool true, Value.int 181 0, Value.ref 262, Value.none, Value.ref 263, Value.ref 264, Value.ref 265, Value.int 526 0, Value.int 137 0, Value.str (Str.ofString "/claim/cut.py") 527]) #[]) ::
  (nat_lit 267, Obj.mk (Value.type "function") none (Data.func (FuncData.mk (Str.ofString "_law_order") (Str.ofString "_law_order") a267.1 (FuncBody.stmts b267.1) s267.1 3 [] Value.none Value.none Value.none (Value.str (Str.ofString "law_rg0263_01") 484) none (Value.ref 266) Value.none 0)) #[]) ::
  (nat_lit 268, Obj.mk (Value.type "tuple") none (Data.seq #[]) #[]) ::
  (nat_lit 271, Obj.mk (Value.type "code") none (Data.fields #[Value.str (Str.ofString "_law_laid") 529, Value.str (Str.ofString "_law_laid") 530, Value.str (Str.ofString "/claim/cut.py") 531, Value.int 149 0, Value.int 1 0, Value.int 0 0, Value.int 0 0, Value.int 3 0, Value.ref 268, Value.bool true, Value.int 181 0, Value.ref 269, Value.none, Value.none, Value.none, Value.ref 270, Value.int 532 0, Value.int 149 0, Value.str (Str.ofString "/claim/cut.py") 533]) #[]) ::
  (nat_lit 272, Obj.mk (Value.type "function") none (Data.func (FuncData.mk (Str.ofString "_law_laid") (Str.ofString "_law_laid") a272.1 (FuncBody.stmts b272.1) s272.1 3 [] Value.none Value.none Value.none (Value.str (Str.ofString "law_rg0263_01") 484) none (Value.ref 271) Value.none 0)) #[]) ::
  (nat_lit 273, Obj.mk (Value.type "tuple") none (Data.seq #[]) #[]) ::
  (nat_lit 276, Obj.mk (Value.type "code") none (Data.fields #[Value.str (Str.ofString "_law_read") 535, Value.str (Str.ofString "_law_read") 536, Value.str (Str.ofString "/claim/cut.py") 537, Value.int 152 0, Value.int 2 0, Value.int 0 0, Value.int 0 0, Value.int 3 0, Value.ref 273, Value.bool true, Value.int 181 0, Value.ref 274, Value.none, Value.none, Value.none, Value.ref 275, Value.int 538 0, Value.int 152 0, Value.str (Str.ofString "/claim/cut.py") 539]) #[]) ::
  (nat_lit 277, Obj.mk (Value.type "function") none (Data.func (FuncData.mk (Str.ofString "_law_read") (Str.ofString "_law_read") a277.1 (FuncBody.stmts b277.1) s277.1 3 [] Value.none Value.none Value.none (Value.str (Str.ofString "law_rg0263_01") 484) none (Value.ref 276) Value.none 0)) #[]) ::
  (nat_lit 278, Obj.mk (Value.type "tuple") none (Data.seq #[]) #[]) ::
  (nat_lit 280, Obj.mk (Value.type "tuple") none (Data.seq #[Value.str (Str.ofString "octets") 544, Value.str (Str.ofString "at") 545]) #[]) ::
  (nat_lit 281, Obj.mk (Value.type "tuple") none (Data.seq #[]) #[]) ::
  (nat_lit 283, Obj.mk (Value.type "code") none (Data.fields #[Value.str (Str.ofString "_law_heard") 541, Value.str (Str.ofString "_law_heard") 542, Value.str (Str.ofString "/claim/cut.py") 543, Value.int 157 0, Value.int 2 0, Value.int 0 0, Value.int 0 0, Value.int 3 0, Value.ref 278, Value.bool true, Value.int 181 0, Value.ref 279, Value.none, Value.ref 280, Value.ref 281, Value.ref 282, Value.int 546 0, Value.int 157 0, Value.str (Str.ofString "/claim/cut.py") 547]) #[]) ::
  (nat_lit 284, Obj.mk (Value.type "function") none (Data.func (FuncData.mk (Str.ofString "_law_heard") (Str.ofString "_law_heard") a284.1 (FuncBody.stmts b284.1) s284.1 3 [] Value.none Value.none Value.none (Value.str (Str.ofString "law_rg0263_01") 484) none (Value.ref 283) Value.none 0)) #[]) ::
  (nat_lit 285, Obj.mk (Value.type "tuple") none (Data.seq #[]) #[]) ::
  (nat_lit 288, Obj.mk (Value.type "code") none (Data.fields #[Value.str (Str.ofString "_law_all_heard") 549, Value.str (Str.ofString "_law_all_heard") 550, Value.str (Str.ofString "/claim/cut.py") 551, Value.int 162 0, Value.int 1 0, Value.int 0 0, Value.int 0 0, Value.int 3 0, Value.ref 285, Value.bool true, Value.int 181 0, Value.ref 286, Value.none, Value.none, Value.none, Value.ref 287, Value.int 552 0, Value.int 162 0, Value.str (Str.ofString "/claim/cut.py") 553]) #[]) ::
  (nat_lit 289, Obj.mk (Value.type "function") none (Data.func (FuncData.mk (Str.ofString "_law_all_heard") (Str.ofString "_law_all_heard") a289.1 (FuncBody.stmts b289.1) s289.1 3 [] Value.none Value.none Value.none (Value.str (Str.ofString "law_rg0263_01") 484) none (Value.ref 288) Value.none 0)) #[]) ::
  (nat_lit 290, Obj.mk (Value.type "tuple") none (Data.seq #[]) #[]) ::
  (nat_lit 292, Obj.mk (Value.type "tuple") none (Data.seq #[Value.str (Str.ofString "row") 558, Value.str (Str.ofString "at") 559, Value.str (Str.ofString "code") 560, Value.str (Str.ofString "first") 561, Value.str (Str.ofString "second") 562, Value.str (Str.ofString "number") 563]) #[]) ::
  (nat_lit 293, Obj.mk (Value.type "tuple") none (Data.seq #[]) #[]) ::
  (nat_lit 295, Obj.mk (Value.type "code") none (Data.fields #[Value.str (Str.ofString "_law_next") 555, Value.str (Str.ofString "_law_next") 556, Value.str (Str.ofString "/claim/cut.py") 557, Value.int 167 0, Value.int 2 0, Value.int 0 0, Value.int 0 0, Value.int 3 0, Value.ref 290, Value.bool true, Value.int 181 0, Value.ref 291, Value.none, Value.ref 292, Value.ref 293, Value.ref 294, Value.int 564 0, Value.int 167 0, Value.str (Str.ofString "/claim/cut.py") 565]) #[]) ::
  (nat_lit 296, Obj.mk (Value.type "function") none (Data.func (FuncData.mk (Str.ofString "_law_next") (Str.ofString "_law_next") a296.1 (FuncBody.stmts b296.1) s296.1 3 [] Value.none Value.none Value.none (Value.str (Str.ofString "law_rg0263_01") 484) none (Value.ref 295) Value.none 0)) #[]) ::
  (nat_lit 297, Obj.mk (Value.type "tuple") none (Data.seq #[]) #[]) ::
  (nat_lit 300, Obj.mk (Value.type "code") none (Data.fields #[Value.str (Str.ofString "_law_reached") 567, Value.str (Str.ofString "_law_reached") 568, Value.str (Str.ofString "/claim/cut.py") 569, Value.int 172 0, Value.int 1 0, Value.int 0 0, Value.int 0 0, Value.int 3 0, Value.ref 297, Value.bool true, Value.int 181 0, Value.ref 298, Value.none, Value.none, Value.none, Value.ref 299, Value.int 570 0, Value.int 172 0, Value.str (Str.ofString "/claim/cut.py") 571]) #[]) ::
  (nat_lit 301, Obj.mk (Value.type "function") none (Data.func (FuncData.mk (Str.ofString "_law_reached") (Str.ofString "_law_reached") a301.1 (FuncBody.stmts b301.1) s301.1 3 [] Value.none Value.none Value.none (Value.str (Str.ofString "law_rg0263_01") 484) none (Value.ref 300) Value.none 0)) #[]) ::
  (nat_lit 302, Obj.mk (Value.type "tuple") none (Data.seq #[]) #[]) ::
  (nat_lit 305, Obj.mk (Value.type "code") none (Data.fields #[Value.str (Str.ofString "law") 573, Value.str (Str.ofString "law") 574, Value.str (Str.ofString "/claim/cut.py") 575, Value.int 178 0, Value.int 1 0, Value.int 0 0, Value.int 0 0, Value.int 3 0, Value.ref 302, Value.bool true, Value.int 181 0, Value.ref 303, Value.none, Value.none, Value.none, Value.ref 304, Value.int 576 0, Value.int 178 0, Value.str (Str.ofString "/claim/cut.py") 577]) #[]) ::
  (nat_lit 306, Obj.mk (Value.type "function") none (Data.func (FuncData.mk (Str.ofString "law") (Str.ofString "law") a306.1 (FuncBody.stmts b306.1) s306.1 3 [] Value.none Value.none Value.none (Value.str (Str.ofString "law_rg0263_01") 484) none (Value.ref 305) Value.none 0)) #[]) :: []
noncomputable def as_39 : List Addr := nat_lit 2 :: nat_lit 3 :: nat_lit 15 :: nat_lit 22 :: nat_lit 23 :: nat_lit 25 :: nat_lit 26 :: nat_lit 28 :: nat_lit 29 :: nat_lit 30 :: nat_lit 32 :: nat_lit 33 :: nat_lit 35 :: nat_lit 36 :: nat_lit 37 :: nat_lit 38 :: nat_lit 39 :: nat_lit 40 :: nat_lit 43 :: nat_lit 50 :: nat_lit 51 :: nat_lit 52 :: nat_lit 55 :: nat_lit 58 :: nat_lit 59 :: nat_lit 60 :: nat_lit 62 :: nat_lit 63 :: nat_lit 65 :: nat_lit 66 :: nat_lit 74 :: nat_lit 76 :: nat_lit 77 :: nat_lit 79 :: nat_lit 80 :: nat_lit 81 :: nat_lit 83 :: nat_lit 84 :: nat_lit 86 :: nat_lit 87 :: nat_lit 88 :: nat_lit 89 :: nat_lit 90 :: nat_lit 91 :: nat_lit 92 :: nat_lit 95 :: nat_lit 97 :: nat_lit 98 :: nat_lit 100 :: nat_lit 101 :: nat_lit 102 :: nat_lit 104 :: nat_lit 105 :: nat_lit 107 :: nat_lit 108 :: nat_lit 109 :: nat_lit 111 :: nat_lit 112 :: nat_lit 114 :: nat_lit 115 :: nat_lit 116 :: nat_lit 118 :: nat_lit 119 :: nat_lit 121 :: nat_lit 122 :: nat_lit 123 :: nat_lit 125 :: nat_lit 126 :: nat_lit 128 :: nat_lit 129 :: nat_lit 130 :: nat_lit 132 :: nat_lit 133 :: nat_lit 135 :: nat_lit 136 :: nat_lit 137 :: nat_lit 138 :: nat_lit 140 :: nat_lit 141 :: nat_lit 143 :: nat_lit 144 :: nat_lit 145 :: nat_lit 148 :: nat_lit 149 :: nat_lit 150 :: nat_lit 152 :: nat_lit 153 :: nat_lit 155 :: nat_lit 156 :: nat_lit 157 :: nat_lit 159 :: nat_lit 160 :: nat_lit 162 :: nat_lit 163 :: nat_lit 164 :: nat_lit 166 :: nat_lit 167 :: nat_lit 169 :: nat_lit 170 :: nat_lit 171 :: nat_lit 173 :: nat_lit 174 :: nat_lit 176 :: nat_lit 177 :: nat_lit 178 :: nat_lit 180 :: nat_lit 181 :: nat_lit 183 :: nat_lit 184 :: nat_lit 185 :: nat_lit 187 :: nat_lit 188 :: nat_lit 190 :: nat_lit 191 :: nat_lit 192 :: nat_lit 194 :: nat_lit 195 :: nat_lit 197 :: nat_lit 198 :: nat_lit 199 :: nat_lit 201 :: nat_lit 202 :: nat_lit 204 :: nat_lit 205 :: nat_lit 206 :: nat_lit 208 :: nat_lit 209 :: nat_lit 211 :: nat_lit 212 :: nat_lit 213 :: nat_lit 215 :: nat_lit 216 :: nat_lit 218 :: nat_lit 219 :: nat_lit 220 :: nat_lit 222 :: nat_lit 223 :: nat_lit 225 :: nat_lit 226 :: nat_lit 227 :: nat_lit 229 :: nat_lit 230 :: nat_lit 232 :: nat_lit 233 :: nat_lit 234 :: nat_lit 237 :: nat_lit 238 :: nat_lit 239 :: nat_lit 240 :: nat_lit 242 :: nat_lit 243 :: nat_lit 245 :: nat_lit 246 :: nat_lit 247 :: nat_lit 249 :: nat_lit 250 :: nat_lit 252 :: nat_lit 253 :: nat_lit 254 :: nat_lit 256 :: nat_lit 257 :: nat_lit 259 :: nat_lit 260 :: nat_lit 261 :: nat_lit 263 :: nat_lit 264 :: nat_lit 266 :: nat_lit 267 :: nat_lit 268 :: nat_lit 271 :: nat_lit 272 :: nat_lit 273 :: nat_lit 276 :: nat_lit 277 :: nat_lit 278 :: nat_lit 280 :: nat_lit 281 :: nat_lit 283 :: nat_lit 284 :: nat_lit 285 :: nat_lit 288 :: nat_lit 289 :: nat_lit 290 :: nat_lit 292 :: nat_lit 293 :: nat_lit 295 :: nat_lit 296 :: nat_lit 297 :: nat_lit 300 :: nat_lit 301 :: nat_lit 302 :: nat_lit 305 :: nat_lit 306 :: []
end hd
namespace hd
noncomputable def o_43 : Params → Obj := fun _ => Obj.mk (Value.type "tuple") none (Data.seq #[]) #[]
noncomputable def o_44 : Params → Obj := fun _ => Obj.mk Value.none none (Data.fields #[]) #[]
noncomputable def o_45 : Params → Obj := fun _ => Obj.mk (Value.type "code") none (Data.fields #[Value.str (Str.ofString "<module>") 182, Value.str (Str.ofString "<module>") 183, Value.str (Str.ofString "/claim/cut.py") 184, Value.int 1 0, Value.int 0 0, Value.int 0 0, Value.int 0 0, Value.int 0 0, Value.ref 11, Value.bool false, Value.int 181 0, Value.ref 12, Value.none, Value.none, Value.none, Value.none, Value.int 185 0, Value.int 1 0, Value.str (Str.ofString "/claim/cut.py") 186]) #[]
noncomputable def o_46 : Params → Obj := fun _ => Obj.mk (Value.type "frame") none Data.plain #[some (Value.ref 13), some (Value.ref 3), some (Value.ref 3), none, some (Value.str (Str.ofString "__main__") 164), none, some (Value.ref 0)]
noncomputable def o_49 : Params → Obj := fun P => Obj.mk Value.none none (Data.dict #[DictEntry.mk (PyData.keyHash P (Str.ofString "type.__subclasses__.Exception.0")) (Value.str (Str.ofString "type.__subclasses__.Exception.0") 223) (Value.int 39 0), DictEntry.mk (PyData.keyHash P (Str.ofString "type.__subclasses__.Exception.n")) (Value.str (Str.ofString "type.__subclasses__.Exception.n") 224) (Value.int 1 0)] 2) #[]
noncomputable def o_50 : Params → Obj := fun P => Obj.mk (Value.type "dict") none (Data.dict #[DictEntry.mk (PyData.keyHash P (Str.ofString "__name__")) (Value.str (Str.ofString "__name__") 165) (Value.str (Str.ofString "ringgate.basics") 187), DictEntry.mk (PyData.keyHash P (Str.ofString "__doc__")) (Value.str (Str.ofString "__doc__") 166) Value.none, DictEntry.mk (PyData.keyHash P (Str.ofString "__package__")) (Value.str (Str.ofString "__package__") 167) Value.none, DictEntry.mk (PyData.keyHash P (Str.ofString "__loader__")) (Value.str (Str.ofString "__loader__") 168) (Value.builtin "__main__.__loader__#opaque"), DictEntry.mk (PyData.keyHash P (Str.ofString "__spec__")) (Value.str (Str.ofString "__spec__") 169) Value.none, DictEntry.mk (PyData.keyHash P (Str.ofString "__annotations__")) (Value.str (Str.ofString "__annotations__") 170) (Value.ref 6), DictEntry.mk (PyData.keyHash P (Str.ofString "__builtins__")) (Value.str (Str.ofString "__builtins__") 171) (Value.ref 4), DictEntry.mk (PyData.keyHash P (Str.ofString "__file__")) (Value.str (Str.ofString "__file__") 173) (Value.str (Str.ofString "/claim/cut.py") 172), DictEntry.mk (PyData.keyHash P (Str.ofString "__cached__")) (Value.str (Str.ofString "__cached__") 174) Value.none, DictEntry.mk (PyData.keyHash P (Str.ofString "GateError")) (Value.str (Str.ofString "GateError") 226) (Value.ref 39)] 10) #[]
noncomputable def o_51 : Params → Obj := fun _ => Obj.mk Value.none none (Data.fields #[Value.int 2 0, Value.int 0 0, Value.ref 20]) #[]
noncomputable def o_52 : Params → Obj := fun _ => Obj.mk (Value.type "tuple") none (Data.seq #[Value.type "Exception"]) #[]
noncomputable def o_53 : Params → Obj := fun _ => Obj.mk (Value.type "builtin_function_or_method") none (Data.fields #[Value.builtin "type.__prepare__", Value.type "type"]) #[]
noncomputable def o_54 : Params → Obj := fun P => Obj.mk (Value.type "dict") none (Data.dict #[DictEntry.mk (PyData.keyHash P (Str.ofString "__module__")) (Value.str (Str.ofString "__module__") 196) (Value.str (Str.ofString "ringgate.basics") 187), DictEntry.mk (PyData.keyHash P (Str.ofString "__qualname__")) (Value.str (Str.ofString "__qualname__") 198) (Value.str (Str.ofString "GateError") 197), DictEntry.mk (PyData.keyHash P (Str.ofString "__firstlineno__")) (Value.str (Str.ofString "__firstlineno__") 200) (Value.int 2 199), DictEntry.mk (PyData.keyHash P (Str.ofString "__init__")) (Value.str (Str.ofString "__init__") 209) (Value.ref 29), DictEntry.mk (PyData.keyHash P (Str.ofString "told")) (Value.str (Str.ofString "told") 216) (Value.ref 36), DictEntry.mk (PyData.keyHash P (Str.ofString "__static_attributes__")) (Value.str (Str.ofString "__static_attributes__") 219) (Value.ref 37)] 6) #[]
noncomputable def o_55 : Params → Obj := fun _ => Obj.mk (Value.type "tuple") none (Data.seq #[]) #[]
noncomputable def o_56 : Params → Obj := fun _ => Obj.mk Value.none none (Data.fields #[Value.int 4 0, Value.int 4 0, Value.ref 28, Value.int 9 0, Value.int 4 0, Value.ref 35]) #[]
noncomputable def o_57 : Params → Obj := fun _ => Obj.mk (Value.type "code") none (Data.fields #[Value.str (Str.ofString "GateError") 191, Value.str (Str.ofString "GateError") 192, Value.str (Str.ofString "/claim/cut.py") 193, Value.int 2 0, Value.int 0 0, Value.int 0 0, Value.int 0 0, Value.int 0 0, Value.ref 18, Value.bool false, Value.int 181 0, Value.ref 19, Value.none, Value.none, Value.none, Value.none, Value.int 194 0, Value.int 2 0, Value.str (Str.ofString "/claim/cut.py") 195]) #[]
noncomputable def o_58 : Params → Obj := fun _ => Obj.mk (Value.type "frame") none Data.plain #[some (Value.ref 20), some (Value.ref 3), some (Value.ref 17), none, some (Value.str (Str.ofString "ringgate.basics") 187), none, some (Value.ref 0)]
noncomputable def o_59 : Params → Obj := fun _ => Obj.mk (Value.type "tuple") none (Data.seq #[Value.none]) #[]
noncomputable def o_60 : Params → Obj := fun _ => Obj.mk (Value.type "tuple") none (Data.seq #[]) #[]
noncomputable def o_61 : Params → Obj := fun _ => Obj.mk Value.none none (Data.fields #[]) #[]
noncomputable def o_62 : Params → Obj := fun _ => Obj.mk (Value.type "tuple") none (Data.seq #[Value.str (Str.ofString "self") 204, Value.str (Str.ofString "what") 205, Value.str (Str.ofString "at") 206]) #[]
noncomputable def o_63 : Params → Obj := fun _ => Obj.mk (Value.type "tuple") none (Data.seq #[]) #[]
noncomputable def o_64 : Params → Obj := fun _ => Obj.mk Value.none none (Data.func (FuncData.mk (Str.ofString "__init__") (Str.ofString "GateError.__init__") a29.1 (FuncBody.stmts b29.1) s29.1 0 [] Value.none Value.none Value.none Value.none none Value.none Value.none 0)) #[]
noncomputable def o_65 : Params → Obj := fun _ => Obj.mk (Value.type "code") none (Data.fields #[Value.str (Str.ofString "__init__") 201, Value.str (Str.ofString "GateError.__init__") 202, Value.str (Str.ofString "/claim/cut.py") 203, Value.int 4 0, Value.int 3 0, Value.int 0 0, Value.int 0 0, Value.int 3 0, Value.ref 23, Value.bool true, Value.int 181 0, Value.ref 24, Value.none, Value.ref 25, Value.ref 26, Value.ref 27, Value.int 207 0, Value.int 4 0, Value.str (Str.ofString "/claim/cut.py") 208]) #[]
noncomputable def o_66 : Params → Obj := fun _ => Obj.mk (Value.type "function") none (Data.func (FuncData.mk (Str.ofString "__init__") (Str.ofString "GateError.__init__") a29.1 (FuncBody.stmts b29.1) s29.1 3 [] (Value.ref 22) Value.none Value.none (Value.str (Str.ofString "ringgate.basics") 187) none (Value.ref 28) Value.none 0)) #[]
noncomputable def o_67 : Params → Obj := fun _ => Obj.mk (Value.type "tuple") none (Data.seq #[]) #[]
noncomputable def o_68 : Params → Obj := fun _ => Obj.mk Value.none none (Data.fields #[]) #[]
noncomputable def o_69 : Params → Obj := fun _ => Obj.mk (Value.type "tuple") none (Data.seq #[Value.str (Str.ofString "self") 213]) #[]
noncomputable def o_70 : Params → Obj := fun _ => Obj.mk (Value.type "tuple") none (Data.seq #[]) #[]
noncomputable def o_71 : Params → Obj := fun _ => Obj.mk Value.none none (Data.func (FuncData.mk (Str.ofString "told") (Str.ofString "GateError.told") a36.1 (FuncBody.stmts b36.1) s36.1 0 [] Value.none Value.none Value.none Value.none none Value.none Value.none 0)) #[]
noncomputable def o_72 : Params → Obj := fun _ => Obj.mk (Value.type "code") none (Data.fields #[Value.str (Str.ofString "told") 210, Value.str (Str.ofString "GateError.told") 211, Value.str (Str.ofString "/claim/cut.py") 212, Value.int 9 0, Value.int 1 0, Value.int 0 0, Value.int 0 0, Value.int 3 0, Value.ref 30, Value.bool true, Value.int 181 0, Value.ref 31, Value.none, Value.ref 32, Value.ref 33, Value.ref 34, Value.int 214 0, Value.int 9 0, Value.str (Str.ofString "/claim/cut.py") 215]) #[]
noncomputable def o_73 : Params → Obj := fun _ => Obj.mk (Value.type "function") none (Data.func (FuncData.mk (Str.ofString "told") (Str.ofString "GateError.told") a36.1 (FuncBody.stmts b36.1) s36.1 3 [] Value.none Value.none Value.none (Value.str (Str.ofString "ringgate.basics") 187) none (Value.ref 35) Value.none 0)) #[]
noncomputable def o_74 : Params → Obj := fun _ => Obj.mk (Value.type "tuple") none (Data.seq #[Value.str (Str.ofString "at") 217, Value.str (Str.ofString "what") 218]) #[]
noncomputable def o_75 : Params → Obj := fun P => Obj.mk (Value.type "dict") none (Data.dict #[DictEntry.mk (PyData.keyHash P (Str.ofString "__module__")) (Value.str (Str.ofString "__module__") 196) (Value.str (Str.ofString "ringgate.basics") 187), DictEntry.mk (PyData.keyHash P (Str.ofString "__firstlineno__")) (Value.str (Str.ofString "__firstlineno__") 200) (Value.int 2 199), DictEntry.mk (PyData.keyHash P (Str.ofString "__init__")) (Value.str (Str.ofString "__init__") 209) (Value.ref 29), DictEntry.mk (PyData.keyHash P (Str.ofString "told")) (Value.str (Str.ofString "told") 216) (Value.ref 36), DictEntry.mk (PyData.keyHash P (Str.ofString "__static_attributes__")) (Value.str (Str.ofString "__static_attributes__") 219) (Value.ref 37), DictEntry.mk (PyData.keyHash P (Str.ofString "__weakref__")) (Value.str (Str.ofString "__weakref__") 221) (Value.ref 40), DictEntry.mk (PyData.keyHash P (Str.ofString "__doc__")) (Value.str (Str.ofString "__doc__") 222) Value.none] 3) #[]
noncomputable def o_76 : Params → Obj := fun _ => Obj.mk (Value.type "type") none (Data.cls (ClassData.mk (Str.ofString "GateError") [Value.type "Exception"] [Value.ref 39, Value.type "Exception", Value.type "BaseException", Value.type "object"] 38 (Str.ofString "GateError") true [] [] false none false)) #[some (Value.ref 15), none, some (Value.str (Str.ofString "GateError") 189), some (Value.str (Str.ofString "GateError") 197), some (Value.builtin "Exception.__new__"), some (Value.bool true)]
noncomputable def o_77 : Params → Obj := fun _ => Obj.mk (Value.type "getset_descriptor") none (Data.fields #[Value.str (Str.ofString "__weakref__") 220, Value.ref 39, Value.builtin "ExceptionGroup.__weakref__", Value.none]) #[]
noncomputable def o_78 : Params → Obj := fun _ => Obj.mk (Value.type "super") none (Data.fields #[Value.ref 39, Value.ref 39, Value.ref 39]) #[]
noncomputable def o_79 : Params → Obj := fun _ => Obj.mk (Value.type "builtin_function_or_method") none (Data.fields #[Value.builtin "object.__init_subclass__", Value.ref 39]) #[]
noncomputable def o_80 : Params → Obj := fun P => Obj.mk (Value.type "dict") none (Data.dict #[DictEntry.mk (PyData.keyHash P (Str.ofString "__name__")) (Value.str (Str.ofString "__name__") 165) (Value.str (Str.ofString "ringgate.classic") 258), DictEntry.mk (PyData.keyHash P (Str.ofString "__doc__")) (Value.str (Str.ofString "__doc__") 166) Value.none, DictEntry.mk (PyData.keyHash P (Str.ofString "__package__")) (Value.str (Str.ofString "__package__") 167) Value.none, DictEntry.mk (PyData.keyHash P (Str.ofString "__loader__")) (Value.str (Str.ofString "__loader__") 168) (Value.builtin "__main__.__loader__#opaque"), DictEntry.mk (PyData.keyHash P (Str.ofString "__spec__")) (Value.str (Str.ofString "__spec__") 169) Value.none, DictEntry.mk (PyData.keyHash P (Str.ofString "__annotations__")) (Value.str (Str.ofString "__annotations__") 170) (Value.ref 6), DictEntry.mk (PyData.keyHash P (Str.ofString "__builtins__")) (Value.str (Str.ofString "__builtins__") 171) (Value.ref 4), DictEntry.mk (PyData.keyHash P (Str.ofString "__file__")) (Value.str (Str.ofString "__file__") 173) (Value.str (Str.ofString "/claim/cut.py") 172), DictEntry.mk (PyData.keyHash P (Str.ofString "__cached__")) (Value.str (Str.ofString "__cached__") 174) Value.none, DictEntry.mk (PyData.keyHash P (Str.ofString "GateError")) (Value.str (Str.ofString "GateError") 226) (Value.ref 39), DictEntry.mk (PyData.keyHash P (Str.ofString "CodeError")) (Value.str (Str.ofString "CodeError") 242) (Value.ref 52), DictEntry.mk (PyData.keyHash P (Str.ofString "little")) (Value.str (Str.ofString "little") 248) (Value.ref 59), DictEntry.mk (PyData.keyHash P (Str.ofString "from_little")) (Value.str (Str.ofString "from_little") 257) (Value.ref 66), DictEntry.mk (PyData.keyHash P (Str.ofString "ST")) (Value.str (Str.ofString "ST") 261) (Value.int 2 260), DictEntry.mk (PyData.keyHash P (Str.ofString "ALU")) (Value.str (Str.ofString "ALU") 263) (Value.int 4 262), DictEntry.mk (PyData.keyHash P (Str.ofString "JMP")) (Value.str (Str.ofString "JMP") 265) (Value.int 5 264), DictEntry.mk (PyData.keyHash P (Str.ofString "RET")) (Value.str (Str.ofString "RET") 267) (Value.int 6 266), DictEntry.mk (PyData.keyHash P (Str.ofString "MISC")) (Value.str (Str.ofString "MISC") 269) (Value.int 7 268), DictEntry.mk (PyData.keyHash P (Str.ofString "BY_X")) (Value.str (Str.ofString "BY_X") 271) (Value.int 8 270), DictEntry.mk (PyData.keyHash P (Str.ofString "RETURN_A")) (Value.str (Str.ofString "RETURN_A") 273) (Value.int 16 272), DictEntry.mk (PyData.keyHash P (Str.ofString "TXA")) (Value.str (Str.ofString "TXA") 275) (Value.int 128 274), DictEntry.mk (PyData.keyHash P (Str.ofString "WIDTH")) (Value.str (Str.ofString "WIDTH") 277) (Value.int 8 276), DictEntry.mk (PyData.keyHash P (Str.ofString "ALU_NAMES")) (Value.str (Str.ofString "ALU_NAMES") 279) (Value.str (Str.ofString "add sub mul div or and lsh rsh neg mod xor") 278), DictEntry.mk (PyData.keyHash P (Str.ofString "JUMP_NAMES")) (Value.str (Str.ofString "JUMP_NAMES") 281) (Value.str (Str.ofString "ja jeq jgt jge jset") 280)] 24) #[]
noncomputable def o_81 : Params → Obj := fun _ => Obj.mk Value.none none (Data.fields #[Value.int 2 0, Value.int 0 0, Value.ref 20, Value.int 11 0, Value.int 0 0, Value.ref 48, Value.int 13 0, Value.int 0 0, Value.ref 58, Value.int 15 0, Value.int 0 0, Value.ref 65]) #[]
noncomputable def o_82 : Params → Obj := fun _ => Obj.mk (Value.type "type") none (Data.cls (ClassData.mk (Str.ofString "GateError") [Value.type "Exception"] [Value.ref 39, Value.type "Exception", Value.type "BaseException", Value.type "object"] 38 (Str.ofString "GateError") true [] [Value.ref 52] false none false)) #[some (Value.ref 15), none, some (Value.str (Str.ofString "GateError") 189), some (Value.str (Str.ofString "GateError") 197), some (Value.builtin "Exception.__new__"), some (Value.bool true)]
noncomputable def o_83 : Params → Obj := fun _ => Obj.mk (Value.type "tuple") none (Data.seq #[Value.ref 39]) #[]
noncomputable def o_84 : Params → Obj := fun _ => Obj.mk (Value.type "builtin_function_or_method") none (Data.fields #[Value.builtin "type.__prepare__", Value.type "type"]) #[]
noncomputable def o_85 : Params → Obj := fun P => Obj.mk (Value.type "dict") none (Data.dict #[DictEntry.mk (PyData.keyHash P (Str.ofString "__module__")) (Value.str (Str.ofString "__module__") 234) (Value.str (Str.ofString "ringgate.basics") 187), DictEntry.mk (PyData.keyHash P (Str.ofString "__qualname__")) (Value.str (Str.ofString "__qualname__") 236) (Value.str (Str.ofString "CodeError") 235), DictEntry.mk (PyData.keyHash P (Str.ofString "__firstlineno__")) (Value.str (Str.ofString "__firstlineno__") 238) (Value.int 11 237), DictEntry.mk (PyData.keyHash P (Str.ofString "__static_attributes__")) (Value.str (Str.ofString "__static_attributes__") 239) (Value.ref 50)] 4) #[]
noncomputable def o_86 : Params → Obj := fun _ => Obj.mk (Value.type "tuple") none (Data.seq #[]) #[]
noncomputable def o_87 : Params → Obj := fun _ => Obj.mk Value.none none (Data.fields #[]) #[]
noncomputable def o_88 : Params → Obj := fun _ => Obj.mk (Value.type "code") none (Data.fields #[Value.str (Str.ofString "CodeError") 229, Value.str (Str.ofString "CodeError") 230, Value.str (Str.ofString "/claim/cut.py") 231, Value.int 11 0, Value.int 0 0, Value.int 0 0, Value.int 0 0, Value.int 0 0, Value.ref 46, Value.bool false, Value.int 181 0, Value.ref 47, Value.none, Value.none, Value.none, Value.none, Value.int 232 0, Value.int 11 0, Value.str (Str.ofString "/claim/cut.py") 233]) #[]
noncomputable def o_89 : Params → Obj := fun _ => Obj.mk (Value.type "frame") none Data.plain #[some (Value.ref 48), some (Value.ref 3), some (Value.ref 45), none, some (Value.str (Str.ofString "ringgate.basics") 187), none, some (Value.ref 0)]
noncomputable def o_90 : Params → Obj := fun _ => Obj.mk (Value.type "tuple") none (Data.seq #[]) #[]
noncomputable def o_91 : Params → Obj := fun P => Obj.mk (Value.type "dict") none (Data.dict #[DictEntry.mk (PyData.keyHash P (Str.ofString "__module__")) (Value.str (Str.ofString "__module__") 234) (Value.str (Str.ofString "ringgate.basics") 187), DictEntry.mk (PyData.keyHash P (Str.ofString "__firstlineno__")) (Value.str (Str.ofString "__firstlineno__") 238) (Value.int 11 237), DictEntry.mk (PyData.keyHash P (Str.ofString "__static_attributes__")) (Value.str (Str.ofString "__static_attributes__") 239) (Value.ref 50), DictEntry.mk (PyData.keyHash P (Str.ofString "__doc__")) (Value.str (Str.ofString "__doc__") 240) Value.none] 2) #[]
noncomputable def o_92 : Params → Obj := fun _ => Obj.mk (Value.type "type") none (Data.cls (ClassData.mk (Str.ofString "CodeError") [Value.ref 39] [Value.ref 52, Value.ref 39, Value.type "Exception", Value.type "BaseException", Value.type "object"] 51 (Str.ofString "CodeError") true [] [] false none false)) #[some (Value.ref 43), none, some (Value.str (Str.ofString "CodeError") 227), some (Value.str (Str.ofString "CodeError") 235), some (Value.builtin "Exception.__new__"), some (Value.bool true)]
noncomputable def o_93 : Params → Obj := fun _ => Obj.mk (Value.type "super") none (Data.fields #[Value.ref 52, Value.ref 52, Value.ref 52]) #[]
noncomputable def o_94 : Params → Obj := fun _ => Obj.mk (Value.type "builtin_function_or_method") none (Data.fields #[Value.builtin "object.__init_subclass__", Value.ref 52]) #[]
noncomputable def o_95 : Params → Obj := fun _ => Obj.mk (Value.type "tuple") none (Data.seq #[]) #[]
noncomputable def o_96 : Params → Obj := fun _ => Obj.mk Value.none none (Data.fields #[]) #[]
noncomputable def o_97 : Params → Obj := fun _ => Obj.mk Value.none none (Data.func (FuncData.mk (Str.ofString "little") (Str.ofString "little") a59.1 (FuncBody.stmts b59.1) s59.1 0 [] Value.none Value.none Value.none Value.none none Value.none Value.none 0)) #[]
noncomputable def o_98 : Params → Obj := fun _ => Obj.mk (Value.type "code") none (Data.fields #[Value.str (Str.ofString "little") 243, Value.str (Str.ofString "little") 244, Value.str (Str.ofString "/claim/cut.py") 245, Value.int 13 0, Value.int 2 0, Value.int 0 0, Value.int 0 0, Value.int 3 0, Value.ref 55, Value.bool true, Value.int 181 0, Value.ref 56, Value.none, Value.none, Value.none, Value.ref 57, Value.int 246 0, Value.int 13 0, Value.str (Str.ofString "/claim/cut.py") 247]) #[]
noncomputable def o_99 : Params → Obj := fun _ => Obj.mk (Value.type "function") none (Data.func (FuncData.mk (Str.ofString "little") (Str.ofString "little") a59.1 (FuncBody.stmts b59.1) s59.1 3 [] Value.none Value.none Value.none (Value.str (Str.ofString "ringgate.basics") 187) none (Value.ref 58) Value.none 0)) #[]
noncomputable def o_100 : Params → Obj := fun _ => Obj.mk (Value.type "tuple") none (Data.seq #[]) #[]
noncomputable def o_101 : Params → Obj := fun _ => Obj.mk Value.none none (Data.fields #[]) #[]
noncomputable def o_102 : Params → Obj := fun _ => Obj.mk (Value.type "tuple") none (Data.seq #[Value.str (Str.ofString "octets") 252, Value.str (Str.ofString "worth") 253, Value.str (Str.ofString "at") 254]) #[]
noncomputable def o_103 : Params → Obj := fun _ => Obj.mk (Value.type "tuple") none (Data.seq #[]) #[]
noncomputable def o_104 : Params → Obj := fun _ => Obj.mk Value.none none (Data.func (FuncData.mk (Str.ofString "from_little") (Str.ofString "from_little") a66.1 (FuncBody.stmts b66.1) s66.1 0 [] Value.none Value.none Value.none Value.none none Value.none Value.none 0)) #[]
noncomputable def o_105 : Params → Obj := fun _ => Obj.mk (Value.type "code") none (Data.fields #[Value.str (Str.ofString "from_little") 249, Value.str (Str.ofString "from_little") 250, Value.str (Str.ofString "/claim/cut.py") 251, Value.int 15 0, Value.int 1 0, Value.int 0 0, Value.int 0 0, Value.int 3 0, Value.ref 60, Value.bool true, Value.int 181 0, Value.ref 61, Value.none, Value.ref 62, Value.ref 63, Value.ref 64, Value.int 255 0, Value.int 15 0, Value.str (Str.ofString "/claim/cut.py") 256]) #[]
noncomputable def o_106 : Params → Obj := fun _ => Obj.mk (Value.type "function") none (Data.func (FuncData.mk (Str.ofString "from_little") (Str.ofString "from_little") a66.1 (FuncBody.stmts b66.1) s66.1 3 [] Value.none Value.none Value.none (Value.str (Str.ofString "ringgate.basics") 187) none (Value.ref 65) Value.none 0)) #[]
noncomputable def o_107 : Params → Obj := fun P => Obj.mk (Value.type "dict") none (Data.dict #[DictEntry.mk (PyData.keyHash P (Str.ofString "__name__")) (Value.str (Str.ofString "__name__") 165) (Value.str (Str.ofString "ringgate.classic") 258), DictEntry.mk (PyData.keyHash P (Str.ofString "__doc__")) (Value.str (Str.ofString "__doc__") 166) Value.none, DictEntry.mk (PyData.keyHash P (Str.ofString "__package__")) (Value.str (Str.ofString "__package__") 167) Value.none, DictEntry.mk (PyData.keyHash P (Str.ofString "__loader__")) (Value.str (Str.ofString "__loader__") 168) (Value.builtin "__main__.__loader__#opaque"), DictEntry.mk (PyData.keyHash P (Str.ofString "__spec__")) (Value.str (Str.ofString "__spec__") 169) Value.none, DictEntry.mk (PyData.keyHash P (Str.ofString "__annotations__")) (Value.str (Str.ofString "__annotations__") 170) (Value.ref 6), DictEntry.mk (PyData.keyHash P (Str.ofString "__builtins__")) (Value.str (Str.ofString "__builtins__") 171) (Value.ref 4), DictEntry.mk (PyData.keyHash P (Str.ofString "__file__")) (Value.str (Str.ofString "__file__") 173) (Value.str (Str.ofString "/claim/cut.py") 172), DictEntry.mk (PyData.keyHash P (Str.ofString "__cached__")) (Value.str (Str.ofString "__cached__") 174) Value.none, DictEntry.mk (PyData.keyHash P (Str.ofString "GateError")) (Value.str (Str.ofString "GateError") 226) (Value.ref 39), DictEntry.mk (PyData.keyHash P (Str.ofString "CodeError")) (Value.str (Str.ofString "CodeError") 242) (Value.ref 52), DictEntry.mk (PyData.keyHash P (Str.ofString "little")) (Value.str (Str.ofString "little") 248) (Value.ref 59), DictEntry.mk (PyData.keyHash P (Str.ofString "from_little")) (Value.str (Str.ofString "from_little") 257) (Value.ref 66), DictEntry.mk (PyData.keyHash P (Str.ofString "ST")) (Value.str (Str.ofString "ST") 261) (Value.int 2 260), DictEntry.mk (PyData.keyHash P (Str.ofString "ALU")) (Value.str (Str.ofString "ALU") 263) (Value.int 4 262), DictEntry.mk (PyData.keyHash P (Str.ofString "JMP")) (Value.str (Str.ofString "JMP") 265) (Value.int 5 264), DictEntry.mk (PyData.keyHash P (Str.ofString "RET")) (Value.str (Str.ofString "RET") 267) (Value.int 6 266), DictEntry.mk (PyData.keyHash P (Str.ofString "MISC")) (Value.str (Str.ofString "MISC") 269) (Value.int 7 268), DictEntry.mk (PyData.keyHash P (Str.ofString "BY_X")) (Value.str (Str.ofString "BY_X") 271) (Value.int 8 270), DictEntry.mk (PyData.keyHash P (Str.ofString "RETURN_A")) (Value.str (Str.ofString "RETURN_A") 273) (Value.int 16 272), DictEntry.mk (PyData.keyHash P (Str.ofString "TXA")) (Value.str (Str.ofString "TXA") 275) (Value.int 128 274), DictEntry.mk (PyData.keyHash P (Str.ofString "WIDTH")) (Value.str (Str.ofString "WIDTH") 277) (Value.int 8 276), DictEntry.mk (PyData.keyHash P (Str.ofString "ALU_NAMES")) (Value.str (Str.ofString "ALU_NAMES") 279) (Value.str (Str.ofString "add sub mul div or and lsh rsh neg mod xor") 278), DictEntry.mk (PyData.keyHash P (Str.ofString "JUMP_NAMES")) (Value.str (Str.ofString "JUMP_NAMES") 281) (Value.str (Str.ofString "ja jeq jgt jge jset") 280), DictEntry.mk (PyData.keyHash P (Str.ofString "ClassicOrder")) (Value.str (Str.ofString "ClassicOrder") 323) (Value.ref 90), DictEntry.mk (PyData.keyHash P (Str.ofString "jump_name")) (Value.str (Str.ofString "jump_name") 332) (Value.ref 101), DictEntry.mk (PyData.keyHash P (Str.ofString "is_return")) (Value.str (Str.ofString "is_return") 339) (Value.ref 108), DictEntry.mk (PyData.keyHash P (Str.ofString "is_jump_order")) (Value.str (Str.ofString "is_jump_order") 346) (Value.ref 115), DictEntry.mk (PyData.keyHash P (Str.ofString "goals_of_classic")) (Value.str (Str.ofString "goals_of_classic") 355) (Value.ref 122)] 29) #[]
noncomputable def o_108 : Params → Obj := fun _ => Obj.mk Value.none none (Data.fields #[Value.int 2 0, Value.int 0 0, Value.ref 20, Value.int 11 0, Value.int 0 0, Value.ref 48, Value.int 13 0, Value.int 0 0, Value.ref 58, Value.int 15 0, Value.int 0 0, Value.ref 65, Value.int 32 0, Value.int 0 0, Value.ref 72, Value.int 42 0, Value.int 0 0, Value.ref 100, Value.int 45 0, Value.int 0 0, Value.ref 107, Value.int 47 0, Value.int 0 0, Value.ref 114, Value.int 49 0, Value.int 0 0, Value.ref 121]) #[]
noncomputable def o_109 : Params → Obj := fun _ => Obj.mk (Value.type "tuple") none (Data.seq #[]) #[]
noncomputable def o_110 : Params → Obj := fun _ => Obj.mk (Value.type "builtin_function_or_method") none (Data.fields #[Value.builtin "type.__prepare__", Value.type "type"]) #[]
noncomputable def o_111 : Params → Obj := fun P => Obj.mk (Value.type "dict") none (Data.dict #[DictEntry.mk (PyData.keyHash P (Str.ofString "__module__")) (Value.str (Str.ofString "__module__") 289) (Value.str (Str.ofString "ringgate.classic") 258), DictEntry.mk (PyData.keyHash P (Str.ofString "__qualname__")) (Value.str (Str.ofString "__qualname__") 291) (Value.str (Str.ofString "ClassicOrder") 290), DictEntry.mk (PyData.keyHash P (Str.ofString "__firstlineno__")) (Value.str (Str.ofString "__firstlineno__") 293) (Value.int 32 292), DictEntry.mk (PyData.keyHash P (Str.ofString "__init__")) (Value.str (Str.ofString "__init__") 304) (Value.ref 80), DictEntry.mk (PyData.keyHash P (Str.ofString "told")) (Value.str (Str.ofString "told") 311) (Value.ref 87), DictEntry.mk (PyData.keyHash P (Str.ofString "__static_attributes__")) (Value.str (Str.ofString "__static_attributes__") 316) (Value.ref 88)] 6) #[]
noncomputable def o_112 : Params → Obj := fun _ => Obj.mk (Value.type "tuple") none (Data.seq #[]) #[]
noncomputable def o_113 : Params → Obj := fun _ => Obj.mk Value.none none (Data.fields #[Value.int 34 0, Value.int 4 0, Value.ref 79, Value.int 40 0, Value.int 4 0, Value.ref 86]) #[]
noncomputable def o_114 : Params → Obj := fun _ => Obj.mk (Value.type "code") none (Data.fields #[Value.str (Str.ofString "ClassicOrder") 284, Value.str (Str.ofString "ClassicOrder") 285, Value.str (Str.ofString "/claim/cut.py") 286, Value.int 32 0, Value.int 0 0, Value.int 0 0, Value.int 0 0, Value.int 0 0, Value.ref 70, Value.bool false, Value.int 181 0, Value.ref 71, Value.none, Value.none, Value.none, Value.none, Value.int 287 0, Value.int 32 0, Value.str (Str.ofString "/claim/cut.py") 288]) #[]
noncomputable def o_115 : Params → Obj := fun _ => Obj.mk (Value.type "frame") none Data.plain #[some (Value.ref 72), some (Value.ref 3), some (Value.ref 69), none, some (Value.str (Str.ofString "ringgate.classic") 258), none, some (Value.ref 0)]
noncomputable def o_116 : Params → Obj := fun _ => Obj.mk (Value.type "tuple") none (Data.seq #[]) #[]
noncomputable def o_117 : Params → Obj := fun _ => Obj.mk Value.none none (Data.fields #[]) #[]
noncomputable def o_118 : Params → Obj := fun _ => Obj.mk (Value.type "tuple") none (Data.seq #[Value.str (Str.ofString "self") 297, Value.str (Str.ofString "code") 298, Value.str (Str.ofString "jt") 299, Value.str (Str.ofString "jf") 300, Value.str (Str.ofString "k") 301]) #[]
noncomputable def o_119 : Params → Obj := fun _ => Obj.mk (Value.type "tuple") none (Data.seq #[]) #[]
noncomputable def o_120 : Params → Obj := fun _ => Obj.mk Value.none none (Data.func (FuncData.mk (Str.ofString "__init__") (Str.ofString "ClassicOrder.__init__") a80.1 (FuncBody.stmts b80.1) s80.1 0 [] Value.none Value.none Value.none Value.none none Value.none Value.none 0)) #[]
noncomputable def o_121 : Params → Obj := fun _ => Obj.mk (Value.type "code") none (Data.fields #[Value.str (Str.ofString "__init__") 294, Value.str (Str.ofString "ClassicOrder.__init__") 295, Value.str (Str.ofString "/claim/cut.py") 296, Value.int 34 0, Value.int 5 0, Value.int 0 0, Value.int 0 0, Value.int 3 0, Value.ref 74, Value.bool true, Value.int 181 0, Value.ref 75, Value.none, Value.ref 76, Value.ref 77, Value.ref 78, Value.int 302 0, Value.int 34 0, Value.str (Str.ofString "/claim/cut.py") 303]) #[]
noncomputable def o_122 : Params → Obj := fun _ => Obj.mk (Value.type "function") none (Data.func (FuncData.mk (Str.ofString "__init__") (Str.ofString "ClassicOrder.__init__") a80.1 (FuncBody.stmts b80.1) s80.1 3 [] Value.none Value.none Value.none (Value.str (Str.ofString "ringgate.classic") 258) none (Value.ref 79) Value.none 0)) #[]
noncomputable def o_123 : Params → Obj := fun _ => Obj.mk (Value.type "tuple") none (Data.seq #[]) #[]
noncomputable def o_124 : Params → Obj := fun _ => Obj.mk Value.none none (Data.fields #[]) #[]
noncomputable def o_125 : Params → Obj := fun _ => Obj.mk (Value.type "tuple") none (Data.seq #[Value.str (Str.ofString "self") 308]) #[]
noncomputable def o_126 : Params → Obj := fun _ => Obj.mk (Value.type "tuple") none (Data.seq #[]) #[]
noncomputable def o_127 : Params → Obj := fun _ => Obj.mk Value.none none (Data.func (FuncData.mk (Str.ofString "told") (Str.ofString "ClassicOrder.told") a87.1 (FuncBody.stmts b87.1) s87.1 0 [] Value.none Value.none Value.none Value.none none Value.none Value.none 0)) #[]
noncomputable def o_128 : Params → Obj := fun _ => Obj.mk (Value.type "code") none (Data.fields #[Value.str (Str.ofString "told") 305, Value.str (Str.ofString "ClassicOrder.told") 306, Value.str (Str.ofString "/claim/cut.py") 307, Value.int 40 0, Value.int 1 0, Value.int 0 0, Value.int 0 0, Value.int 3 0, Value.ref 81, Value.bool true, Value.int 181 0, Value.ref 82, Value.none, Value.ref 83, Value.ref 84, Value.ref 85, Value.int 309 0, Value.int 40 0, Value.str (Str.ofString "/claim/cut.py") 310]) #[]
noncomputable def o_129 : Params → Obj := fun _ => Obj.mk (Value.type "function") none (Data.func (FuncData.mk (Str.ofString "told") (Str.ofString "ClassicOrder.told") a87.1 (FuncBody.stmts b87.1) s87.1 3 [] Value.none Value.none Value.none (Value.str (Str.ofString "ringgate.classic") 258) none (Value.ref 86) Value.none 0)) #[]
noncomputable def o_130 : Params → Obj := fun _ => Obj.mk (Value.type "tuple") none (Data.seq #[Value.str (Str.ofString "code") 312, Value.str (Str.ofString "jf") 313, Value.str (Str.ofString "jt") 314, Value.str (Str.ofString "k") 315]) #[]
noncomputable def o_131 : Params → Obj := fun P => Obj.mk (Value.type "dict") none (Data.dict #[DictEntry.mk (PyData.keyHash P (Str.ofString "__module__")) (Value.str (Str.ofString "__module__") 289) (Value.str (Str.ofString "ringgate.classic") 258), DictEntry.mk (PyData.keyHash P (Str.ofString "__firstlineno__")) (Value.str (Str.ofString "__firstlineno__") 293) (Value.int 32 292), DictEntry.mk (PyData.keyHash P (Str.ofString "__init__")) (Value.str (Str.ofString "__init__") 304) (Value.ref 80), DictEntry.mk (PyData.keyHash P (Str.ofString "told")) (Value.str (Str.ofString "told") 311) (Value.ref 87), DictEntry.mk (PyData.keyHash P (Str.ofString "__static_attributes__")) (Value.str (Str.ofString "__static_attributes__") 316) (Value.ref 88), DictEntry.mk (PyData.keyHash P (Str.ofString "__dict__")) (Value.str (Str.ofString "__dict__") 318) (Value.ref 91), DictEntry.mk (PyData.keyHash P (Str.ofString "__weakref__")) (Value.str (Str.ofString "__weakref__") 320) (Value.ref 92), DictEntry.mk (PyData.keyHash P (Str.ofString "__doc__")) (Value.str (Str.ofString "__doc__") 321) Value.none] 4) #[]
noncomputable def o_132 : Params → Obj := fun _ => Obj.mk (Value.type "type") none (Data.cls (ClassData.mk (Str.ofString "ClassicOrder") [Value.type "object"] [Value.ref 90, Value.type "object"] 89 (Str.ofString "ClassicOrder") true [] [] false none false)) #[none, none, some (Value.str (Str.ofString "ClassicOrder") 282), some (Value.str (Str.ofString "ClassicOrder") 290), some (Value.builtin "object.__new__"), some (Value.bool true)]
noncomputable def o_133 : Params → Obj := fun _ => Obj.mk (Value.type "getset_descriptor") none (Data.fields #[Value.str (Str.ofString "__dict__") 317, Value.ref 90, Value.builtin "function.__dict__", Value.builtin "function.__dict__#set"]) #[]
noncomputable def o_134 : Params → Obj := fun _ => Obj.mk (Value.type "getset_descriptor") none (Data.fields #[Value.str (Str.ofString "__weakref__") 319, Value.ref 90, Value.builtin "ExceptionGroup.__weakref__", Value.none]) #[]
noncomputable def o_135 : Params → Obj := fun _ => Obj.mk (Value.type "super") none (Data.fields #[Value.ref 90, Value.ref 90, Value.ref 90]) #[]
noncomputable def o_136 : Params → Obj := fun _ => Obj.mk (Value.type "builtin_function_or_method") none (Data.fields #[Value.builtin "object.__init_subclass__", Value.ref 90]) #[]
noncomputable def o_137 : Params → Obj := fun _ => Obj.mk (Value.type "tuple") none (Data.seq #[]) #[]
noncomputable def o_138 : Params → Obj := fun _ => Obj.mk Value.none none (Data.fields #[]) #[]
noncomputable def o_139 : Params → Obj := fun _ => Obj.mk (Value.type "tuple") none (Data.seq #[Value.str (Str.ofString "order") 327, Value.str (Str.ofString "names") 328, Value.str (Str.ofString "spot") 329]) #[]
noncomputable def o_140 : Params → Obj := fun _ => Obj.mk (Value.type "tuple") none (Data.seq #[]) #[]
noncomputable def o_141 : Params → Obj := fun _ => Obj.mk Value.none none (Data.func (FuncData.mk (Str.ofString "jump_name") (Str.ofString "jump_name") a101.1 (FuncBody.stmts b101.1) s101.1 0 [] Value.none Value.none Value.none Value.none none Value.none Value.none 0)) #[]
noncomputable def o_142 : Params → Obj := fun _ => Obj.mk (Value.type "code") none (Data.fields #[Value.str (Str.ofString "jump_name") 324, Value.str (Str.ofString "jump_name") 325, Value.str (Str.ofString "/claim/cut.py") 326, Value.int 42 0, Value.int 1 0, Value.int 0 0, Value.int 0 0, Value.int 3 0, Value.ref 95, Value.bool true, Value.int 181 0, Value.ref 96, Value.none, Value.ref 97, Value.ref 98, Value.ref 99, Value.int 330 0, Value.int 42 0, Value.str (Str.ofString "/claim/cut.py") 331]) #[]
noncomputable def o_143 : Params → Obj := fun _ => Obj.mk (Value.type "function") none (Data.func (FuncData.mk (Str.ofString "jump_name") (Str.ofString "jump_name") a101.1 (FuncBody.stmts b101.1) s101.1 3 [] Value.none Value.none Value.none (Value.str (Str.ofString "ringgate.classic") 258) none (Value.ref 100) Value.none 0)) #[]
noncomputable def o_144 : Params → Obj := fun _ => Obj.mk (Value.type "tuple") none (Data.seq #[]) #[]
noncomputable def o_145 : Params → Obj := fun _ => Obj.mk Value.none none (Data.fields #[]) #[]
noncomputable def o_146 : Params → Obj := fun _ => Obj.mk (Value.type "tuple") none (Data.seq #[Value.str (Str.ofString "order") 336]) #[]
noncomputable def o_147 : Params → Obj := fun _ => Obj.mk (Value.type "tuple") none (Data.seq #[]) #[]
noncomputable def o_148 : Params → Obj := fun _ => Obj.mk Value.none none (Data.func (FuncData.mk (Str.ofString "is_return") (Str.ofString "is_return") a108.1 (FuncBody.stmts b108.1) s108.1 0 [] Value.none Value.none Value.none Value.none none Value.none Value.none 0)) #[]
noncomputable def o_149 : Params → Obj := fun _ => Obj.mk (Value.type "code") none (Data.fields #[Value.str (Str.ofString "is_return") 333, Value.str (Str.ofString "is_return") 334, Value.str (Str.ofString "/claim/cut.py") 335, Value.int 45 0, Value.int 1 0, Value.int 0 0, Value.int 0 0, Value.int 3 0, Value.ref 102, Value.bool true, Value.int 181 0, Value.ref 103, Value.none, Value.ref 104, Value.ref 105, Value.ref 106, Value.int 337 0, Value.int 45 0, Value.str (Str.ofString "/claim/cut.py") 338]) #[]
noncomputable def o_150 : Params → Obj := fun _ => Obj.mk (Value.type "function") none (Data.func (FuncData.mk (Str.ofString "is_return") (Str.ofString "is_return") a108.1 (FuncBody.stmts b108.1) s108.1 3 [] Value.none Value.none Value.none (Value.str (Str.ofString "ringgate.classic") 258) none (Value.ref 107) Value.none 0)) #[]
noncomputable def o_151 : Params → Obj := fun _ => Obj.mk (Value.type "tuple") none (Data.seq #[]) #[]
noncomputable def o_152 : Params → Obj := fun _ => Obj.mk Value.none none (Data.fields #[]) #[]
noncomputable def o_153 : Params → Obj := fun _ => Obj.mk (Value.type "tuple") none (Data.seq #[Value.str (Str.ofString "order") 343]) #[]
noncomputable def o_154 : Params → Obj := fun _ => Obj.mk (Value.type "tuple") none (Data.seq #[]) #[]
noncomputable def o_155 : Params → Obj := fun _ => Obj.mk Value.none none (Data.func (FuncData.mk (Str.ofString "is_jump_order") (Str.ofString "is_jump_order") a115.1 (FuncBody.stmts b115.1) s115.1 0 [] Value.none Value.none Value.none Value.none none Value.none Value.none 0)) #[]
noncomputable def o_156 : Params → Obj := fun _ => Obj.mk (Value.type "code") none (Data.fields #[Value.str (Str.ofString "is_jump_order") 340, Value.str (Str.ofString "is_jump_order") 341, Value.str (Str.ofString "/claim/cut.py") 342, Value.int 47 0, Value.int 1 0, Value.int 0 0, Value.int 0 0, Value.int 3 0, Value.ref 109, Value.bool true, Value.int 181 0, Value.ref 110, Value.none, Value.ref 111, Value.ref 112, Value.ref 113, Value.int 344 0, Value.int 47 0, Value.str (Str.ofString "/claim/cut.py") 345]) #[]
noncomputable def o_157 : Params → Obj := fun _ => Obj.mk (Value.type "function") none (Data.func (FuncData.mk (Str.ofString "is_jump_order") (Str.ofString "is_jump_order") a115.1 (FuncBody.stmts b115.1) s115.1 3 [] Value.none Value.none Value.none (Value.str (Str.ofString "ringgate.classic") 258) none (Value.ref 114) Value.none 0)) #[]
noncomputable def o_158 : Params → Obj := fun _ => Obj.mk (Value.type "tuple") none (Data.seq #[]) #[]
noncomputable def o_159 : Params → Obj := fun _ => Obj.mk Value.none none (Data.fields #[]) #[]
noncomputable def o_160 : Params → Obj := fun _ => Obj.mk (Value.type "tuple") none (Data.seq #[Value.str (Str.ofString "orders") 350, Value.str (Str.ofString "at") 351, Value.str (Str.ofString "order") 352]) #[]
noncomputable def o_161 : Params → Obj := fun _ => Obj.mk (Value.type "tuple") none (Data.seq #[]) #[]
noncomputable def o_162 : Params → Obj := fun _ => Obj.mk Value.none none (Data.func (FuncData.mk (Str.ofString "goals_of_classic") (Str.ofString "goals_of_classic") a122.1 (FuncBody.stmts b122.1) s122.1 0 [] Value.none Value.none Value.none Value.none none Value.none Value.none 0)) #[]
noncomputable def o_163 : Params → Obj := fun _ => Obj.mk (Value.type "code") none (Data.fields #[Value.str (Str.ofString "goals_of_classic") 347, Value.str (Str.ofString "goals_of_classic") 348, Value.str (Str.ofString "/claim/cut.py") 349, Value.int 49 0, Value.int 2 0, Value.int 0 0, Value.int 0 0, Value.int 3 0, Value.ref 116, Value.bool true, Value.int 181 0, Value.ref 117, Value.none, Value.ref 118, Value.ref 119, Value.ref 120, Value.int 353 0, Value.int 49 0, Value.str (Str.ofString "/claim/cut.py") 354]) #[]
noncomputable def o_164 : Params → Obj := fun _ => Obj.mk (Value.type "function") none (Data.func (FuncData.mk (Str.ofString "goals_of_classic") (Str.ofString "goals_of_classic") a122.1 (FuncBody.stmts b122.1) s122.1 3 [] Value.none Value.none Value.none (Value.str (Str.ofString "ringgate.classic") 258) none (Value.ref 121) Value.none 0)) #[]
noncomputable def o_165 : Params → Obj := fun P => Obj.mk (Value.type "dict") none (Data.dict #[DictEntry.mk (PyData.keyHash P (Str.ofString "__name__")) (Value.str (Str.ofString "__name__") 165) (Value.str (Str.ofString "ringgate.classic") 258), DictEntry.mk (PyData.keyHash P (Str.ofString "__doc__")) (Value.str (Str.ofString "__doc__") 166) Value.none, DictEntry.mk (PyData.keyHash P (Str.ofString "__package__")) (Value.str (Str.ofString "__package__") 167) Value.none, DictEntry.mk (PyData.keyHash P (Str.ofString "__loader__")) (Value.str (Str.ofString "__loader__") 168) (Value.builtin "__main__.__loader__#opaque"), DictEntry.mk (PyData.keyHash P (Str.ofString "__spec__")) (Value.str (Str.ofString "__spec__") 169) Value.none, DictEntry.mk (PyData.keyHash P (Str.ofString "__annotations__")) (Value.str (Str.ofString "__annotations__") 170) (Value.ref 6), DictEntry.mk (PyData.keyHash P (Str.ofString "__builtins__")) (Value.str (Str.ofString "__builtins__") 171) (Value.ref 4), DictEntry.mk (PyData.keyHash P (Str.ofString "__file__")) (Value.str (Str.ofString "__file__") 173) (Value.str (Str.ofString "/claim/cut.py") 172), DictEntry.mk (PyData.keyHash P (Str.ofString "__cached__")) (Value.str (Str.ofString "__cached__") 174) Value.none, DictEntry.mk (PyData.keyHash P (Str.ofString "GateError")) (Value.str (Str.ofString "GateError") 226) (Value.ref 39), DictEntry.mk (PyData.keyHash P (Str.ofString "CodeError")) (Value.str (Str.ofString "CodeError") 242) (Value.ref 52), DictEntry.mk (PyData.keyHash P (Str.ofString "little")) (Value.str (Str.ofString "little") 248) (Value.ref 59), DictEntry.mk (PyData.keyHash P (Str.ofString "from_little")) (Value.str (Str.ofString "from_little") 257) (Value.ref 66), DictEntry.mk (PyData.keyHash P (Str.ofString "ST")) (Value.str (Str.ofString "ST") 261) (Value.int 2 260), DictEntry.mk (PyData.keyHash P (Str.ofString "ALU")) (Value.str (Str.ofString "ALU") 263) (Value.int 4 262), DictEntry.mk (PyData.keyHash P (Str.ofString "JMP")) (Value.str (Str.ofString "JMP") 265) (Value.int 5 264), DictEntry.mk (PyData.keyHash P (Str.ofString "RET")) (Value.str (Str.ofString "RET") 267) (Value.int 6 266), DictEntry.mk (PyData.keyHash P (Str.ofString "MISC")) (Value.str (Str.ofString "MISC") 269) (Value.int 7 268), DictEntry.mk (PyData.keyHash P (Str.ofString "BY_X")) (Value.str (Str.ofString "BY_X") 271) (Value.int 8 270), DictEntry.mk (PyData.keyHash P (Str.ofString "RETURN_A")) (Value.str (Str.ofString "RETURN_A") 273) (Value.int 16 272), DictEntry.mk (PyData.keyHash P (Str.ofString "TXA")) (Value.str (Str.ofString "TXA") 275) (Value.int 128 274), DictEntry.mk (PyData.keyHash P (Str.ofString "WIDTH")) (Value.str (Str.ofString "WIDTH") 277) (Value.int 8 276), DictEntry.mk (PyData.keyHash P (Str.ofString "ALU_NAMES")) (Value.str (Str.ofString "ALU_NAMES") 279) (Value.str (Str.ofString "add sub mul div or and lsh rsh neg mod xor") 278), DictEntry.mk (PyData.keyHash P (Str.ofString "JUMP_NAMES")) (Value.str (Str.ofString "JUMP_NAMES") 281) (Value.str (Str.ofString "ja jeq jgt jge jset") 280), DictEntry.mk (PyData.keyHash P (Str.ofString "ClassicOrder")) (Value.str (Str.ofString "ClassicOrder") 323) (Value.ref 90), DictEntry.mk (PyData.keyHash P (Str.ofString "jump_name")) (Value.str (Str.ofString "jump_name") 332) (Value.ref 101), DictEntry.mk (PyData.keyHash P (Str.ofString "is_return")) (Value.str (Str.ofString "is_return") 339) (Value.ref 108), DictEntry.mk (PyData.keyHash P (Str.ofString "is_jump_order")) (Value.str (Str.ofString "is_jump_order") 346) (Value.ref 115), DictEntry.mk (PyData.keyHash P (Str.ofString "goals_of_classic")) (Value.str (Str.ofString "goals_of_classic") 355) (Value.ref 122), DictEntry.mk (PyData.keyHash P (Str.ofString "check_field")) (Value.str (Str.ofString "check_field") 363) (Value.ref 129), DictEntry.mk (PyData.keyHash P (Str.ofString "pack_classic")) (Value.str (Str.ofString "pack_classic") 370) (Value.ref 136), DictEntry.mk (PyData.keyHash P (Str.ofString "unpack_classic")) (Value.str (Str.ofString "unpack_classic") 381) (Value.ref 144), DictEntry.mk (PyData.keyHash P (Str.ofString "pack_filter")) (Value.str (Str.ofString "pack_filter") 387) (Value.ref 149), DictEntry.mk (PyData.keyHash P (Str.ofString "unpack_filter")) (Value.str (Str.ofString "unpack_filter") 396) (Value.ref 156), DictEntry.mk (PyData.keyHash P (Str.ofString "spot_in")) (Value.str (Str.ofString "spot_in") 405) (Value.ref 163), DictEntry.mk (PyData.keyHash P (Str.ofString "st")) (Value.str (Str.ofString "st") 412) (Value.ref 170), DictEntry.mk (PyData.keyHash P (Str.ofString "alu_x")) (Value.str (Str.ofString "alu_x") 419) (Value.ref 177), DictEntry.mk (PyData.keyHash P (Str.ofString "jump_code")) (Value.str (Str.ofString "jump_code") 426) (Value.ref 184), DictEntry.mk (PyData.keyHash P (Str.ofString "jump_k")) (Value.str (Str.ofString "jump_k") 436) (Value.ref 191), DictEntry.mk (PyData.keyHash P (Str.ofString "jump_x")) (Value.str (Str.ofString "jump_x") 445) (Value.ref 198), DictEntry.mk (PyData.keyHash P (Str.ofString "ja")) (Value.str (Str.ofString "ja") 452) (Value.ref 205), DictEntry.mk (PyData.keyHash P (Str.ofString "ret_k")) (Value.str (Str.ofString "ret_k") 459) (Value.ref 212)] 42) #[]
noncomputable def o_166 : Params → Obj := fun _ => Obj.mk Value.none none (Data.fields #[Value.int 2 0, Value.int 0 0, Value.ref 20, Value.int 11 0, Value.int 0 0, Value.ref 48, Value.int 13 0, Value.int 0 0, Value.ref 58, Value.int 15 0, Value.int 0 0, Value.ref 65, Value.int 32 0, Value.int 0 0, Value.ref 72, Value.int 42 0, Value.int 0 0, Value.ref 100, Value.int 45 0, Value.int 0 0, Value.ref 107, Value.int 47 0, Value.int 0 0, Value.ref 114, Value.int 49 0, Value.int 0 0, Value.ref 121, Value.int 60 0, Value.int 0 0, Value.ref 128, Value.int 63 0, Value.int 0 0, Value.ref 135, Value.int 69 0, Value.int 0 0, Value.ref 143, Value.int 74 0, Value.int 0 0, Value.ref 148, Value.int 76 0, Value.int 0 0, Value.ref 155, Value.int 83 0, Value.int 0 0, Value.ref 162, Value.int 88 0, Value.int 0 0, Value.ref 169, Value.int 90 0, Value.int 0 0, Value.ref 176, Value.int 94 0, Value.int 0 0, Value.ref 183, Value.int 98 0, Value.int 0 0, Value.ref 190, Value.int 100 0, Value.int 0 0, Value.ref 197, Value.int 102 0, Value.int 0 0, Value.ref 204, Value.int 104 0, Value.int 0 0, Value.ref 211]) #[]
noncomputable def o_167 : Params → Obj := fun _ => Obj.mk (Value.type "tuple") none (Data.seq #[]) #[]
noncomputable def o_168 : Params → Obj := fun _ => Obj.mk Value.none none (Data.fields #[]) #[]
noncomputable def o_169 : Params → Obj := fun _ => Obj.mk (Value.type "tuple") none (Data.seq #[Value.str (Str.ofString "worth") 359, Value.str (Str.ofString "size") 360]) #[]
noncomputable def o_170 : Params → Obj := fun _ => Obj.mk (Value.type "tuple") none (Data.seq #[]) #[]
noncomputable def o_171 : Params → Obj := fun _ => Obj.mk Value.none none (Data.func (FuncData.mk (Str.ofString "check_field") (Str.ofString "check_field") a129.1 (FuncBody.stmts b129.1) s129.1 0 [] Value.none Value.none Value.none Value.none none Value.none Value.none 0)) #[]
noncomputable def o_172 : Params → Obj := fun _ => Obj.mk (Value.type "code") none (Data.fields #[Value.str (Str.ofString "check_field") 356, Value.str (Str.ofString "check_field") 357, Value.str (Str.ofString "/claim/cut.py") 358, Value.int 60 0, Value.int 2 0, Value.int 0 0, Value.int 0 0, Value.int 3 0, Value.ref 123, Value.bool true, Value.int 181 0, Value.ref 124, Value.none, Value.ref 125, Value.ref 126, Value.ref 127, Value.int 361 0, Value.int 60 0, Value.str (Str.ofString "/claim/cut.py") 362]) #[]
noncomputable def o_173 : Params → Obj := fun _ => Obj.mk (Value.type "function") none (Data.func (FuncData.mk (Str.ofString "check_field") (Str.ofString "check_field") a129.1 (FuncBody.stmts b129.1) s129.1 3 [] Value.none Value.none Value.none (Value.str (Str.ofString "ringgate.classic") 258) none (Value.ref 128) Value.none 0)) #[]
noncomputable def o_174 : Params → Obj := fun _ => Obj.mk (Value.type "tuple") none (Data.seq #[]) #[]
noncomputable def o_175 : Params → Obj := fun _ => Obj.mk Value.none none (Data.fields #[]) #[]
noncomputable def o_176 : Params → Obj := fun _ => Obj.mk (Value.type "tuple") none (Data.seq #[Value.str (Str.ofString "order") 367]) #[]
noncomputable def o_177 : Params → Obj := fun _ => Obj.mk (Value.type "tuple") none (Data.seq #[]) #[]
noncomputable def o_178 : Params → Obj := fun _ => Obj.mk Value.none none (Data.func (FuncData.mk (Str.ofString "pack_classic") (Str.ofString "pack_classic") a136.1 (FuncBody.stmts b136.1) s136.1 0 [] Value.none Value.none Value.none Value.none none Value.none Value.none 0)) #[]
noncomputable def o_179 : Params → Obj := fun _ => Obj.mk (Value.type "code") none (Data.fields #[Value.str (Str.ofString "pack_classic") 364, Value.str (Str.ofString "pack_classic") 365, Value.str (Str.ofString "/claim/cut.py") 366, Value.int 63 0, Value.int 1 0, Value.int 0 0, Value.int 0 0, Value.int 3 0, Value.ref 130, Value.bool true, Value.int 181 0, Value.ref 131, Value.none, Value.ref 132, Value.ref 133, Value.ref 134, Value.int 368 0, Value.int 63 0, Value.str (Str.ofString "/claim/cut.py") 369]) #[]
noncomputable def o_180 : Params → Obj := fun _ => Obj.mk (Value.type "function") none (Data.func (FuncData.mk (Str.ofString "pack_classic") (Str.ofString "pack_classic") a136.1 (FuncBody.stmts b136.1) s136.1 3 [] Value.none Value.none Value.none (Value.str (Str.ofString "ringgate.classic") 258) none (Value.ref 135) Value.none 0)) #[]
noncomputable def o_181 : Params → Obj := fun _ => Obj.mk (Value.type "tuple") none (Data.seq #[Value.int 0 371]) #[]
noncomputable def o_182 : Params → Obj := fun _ => Obj.mk (Value.type "tuple") none (Data.seq #[]) #[]
noncomputable def o_183 : Params → Obj := fun _ => Obj.mk Value.none none (Data.fields #[]) #[]
noncomputable def o_184 : Params → Obj := fun _ => Obj.mk (Value.type "tuple") none (Data.seq #[Value.str (Str.ofString "octets") 375, Value.str (Str.ofString "at") 376, Value.str (Str.ofString "code") 377, Value.str (Str.ofString "k") 378]) #[]
noncomputable def o_185 : Params → Obj := fun _ => Obj.mk (Value.type "tuple") none (Data.seq #[]) #[]
noncomputable def o_186 : Params → Obj := fun _ => Obj.mk Value.none none (Data.func (FuncData.mk (Str.ofString "unpack_classic") (Str.ofString "unpack_classic") a144.1 (FuncBody.stmts b144.1) s144.1 0 [] Value.none Value.none Value.none Value.none none Value.none Value.none 0)) #[]
noncomputable def o_187 : Params → Obj := fun _ => Obj.mk (Value.type "code") none (Data.fields #[Value.str (Str.ofString "unpack_classic") 372, Value.str (Str.ofString "unpack_classic") 373, Value.str (Str.ofString "/claim/cut.py") 374, Value.int 69 0, Value.int 2 0, Value.int 0 0, Value.int 0 0, Value.int 3 0, Value.ref 138, Value.bool true, Value.int 181 0, Value.ref 139, Value.none, Value.ref 140, Value.ref 141, Value.ref 142, Value.int 379 0, Value.int 69 0, Value.str (Str.ofString "/claim/cut.py") 380]) #[]
noncomputable def o_188 : Params → Obj := fun _ => Obj.mk (Value.type "function") none (Data.func (FuncData.mk (Str.ofString "unpack_classic") (Str.ofString "unpack_classic") a144.1 (FuncBody.stmts b144.1) s144.1 3 [] (Value.ref 137) Value.none Value.none (Value.str (Str.ofString "ringgate.classic") 258) none (Value.ref 143) Value.none 0)) #[]
noncomputable def o_189 : Params → Obj := fun _ => Obj.mk (Value.type "tuple") none (Data.seq #[]) #[]
noncomputable def o_190 : Params → Obj := fun _ => Obj.mk Value.none none (Data.fields #[]) #[]
noncomputable def o_191 : Params → Obj := fun _ => Obj.mk Value.none none (Data.func (FuncData.mk (Str.ofString "pack_filter") (Str.ofString "pack_filter") a149.1 (FuncBody.stmts b149.1) s149.1 0 [] Value.none Value.none Value.none Value.none none Value.none Value.none 0)) #[]
noncomputable def o_192 : Params → Obj := fun _ => Obj.mk (Value.type "code") none (Data.fields #[Value.str (Str.ofString "pack_filter") 382, Value.str (Str.ofString "pack_filter") 383, Value.str (Str.ofString "/claim/cut.py") 384, Value.int 74 0, Value.int 1 0, Value.int 0 0, Value.int 0 0, Value.int 3 0, Value.ref 145, Value.bool true, Value.int 181 0, Value.ref 146, Value.none, Value.none, Value.none, Value.ref 147, Value.int 385 0, Value.int 74 0, Value.str (Str.ofString "/claim/cut.py") 386]) #[]
noncomputable def o_193 : Params → Obj := fun _ => Obj.mk (Value.type "function") none (Data.func (FuncData.mk (Str.ofString "pack_filter") (Str.ofString "pack_filter") a149.1 (FuncBody.stmts b149.1) s149.1 3 [] Value.none Value.none Value.none (Value.str (Str.ofString "ringgate.classic") 258) none (Value.ref 148) Value.none 0)) #[]
noncomputable def o_194 : Params → Obj := fun _ => Obj.mk (Value.type "tuple") none (Data.seq #[]) #[]
noncomputable def o_195 : Params → Obj := fun _ => Obj.mk Value.none none (Data.fields #[]) #[]
noncomputable def o_196 : Params → Obj := fun _ => Obj.mk (Value.type "tuple") none (Data.seq #[Value.str (Str.ofString "octets") 391, Value.str (Str.ofString "found") 392, Value.str (Str.ofString "at") 393]) #[]
noncomputable def o_197 : Params → Obj := fun _ => Obj.mk (Value.type "tuple") none (Data.seq #[]) #[]
noncomputable def o_198 : Params → Obj := fun _ => Obj.mk Value.none none (Data.func (FuncData.mk (Str.ofString "unpack_filter") (Str.ofString "unpack_filter") a156.1 (FuncBody.stmts b156.1) s156.1 0 [] Value.none Value.none Value.none Value.none none Value.none Value.none 0)) #[]
noncomputable def o_199 : Params → Obj := fun _ => Obj.mk (Value.type "code") none (Data.fields #[Value.str (Str.ofString "unpack_filter") 388, Value.str (Str.ofString "unpack_filter") 389, Value.str (Str.ofString "/claim/cut.py") 390, Value.int 76 0, Value.int 1 0, Value.int 0 0, Value.int 0 0, Value.int 3 0, Value.ref 150, Value.bool true, Value.int 181 0, Value.ref 151, Value.none, Value.ref 152, Value.ref 153, Value.ref 154, Value.int 394 0, Value.int 76 0, Value.str (Str.ofString "/claim/cut.py") 395]) #[]
noncomputable def o_200 : Params → Obj := fun _ => Obj.mk (Value.type "function") none (Data.func (FuncData.mk (Str.ofString "unpack_filter") (Str.ofString "unpack_filter") a156.1 (FuncBody.stmts b156.1) s156.1 3 [] Value.none Value.none Value.none (Value.str (Str.ofString "ringgate.classic") 258) none (Value.ref 155) Value.none 0)) #[]
noncomputable def o_201 : Params → Obj := fun _ => Obj.mk (Value.type "tuple") none (Data.seq #[]) #[]
noncomputable def o_202 : Params → Obj := fun _ => Obj.mk Value.none none (Data.fields #[]) #[]
noncomputable def o_203 : Params → Obj := fun _ => Obj.mk (Value.type "tuple") none (Data.seq #[Value.str (Str.ofString "names") 400, Value.str (Str.ofString "name") 401, Value.str (Str.ofString "found") 402]) #[]
noncomputable def o_204 : Params → Obj := fun _ => Obj.mk (Value.type "tuple") none (Data.seq #[]) #[]
noncomputable def o_205 : Params → Obj := fun _ => Obj.mk Value.none none (Data.func (FuncData.mk (Str.ofString "spot_in") (Str.ofString "spot_in") a163.1 (FuncBody.stmts b163.1) s163.1 0 [] Value.none Value.none Value.none Value.none none Value.none Value.none 0)) #[]
noncomputable def o_206 : Params → Obj := fun _ => Obj.mk (Value.type "code") none (Data.fields #[Value.str (Str.ofString "spot_in") 397, Value.str (Str.ofString "spot_in") 398, Value.str (Str.ofString "/claim/cut.py") 399, Value.int 83 0, Value.int 2 0, Value.int 0 0, Value.int 0 0, Value.int 3 0, Value.ref 157, Value.bool true, Value.int 181 0, Value.ref 158, Value.none, Value.ref 159, Value.ref 160, Value.ref 161, Value.int 403 0, Value.int 83 0, Value.str (Str.ofString "/claim/cut.py") 404]) #[]
noncomputable def o_207 : Params → Obj := fun _ => Obj.mk (Value.type "function") none (Data.func (FuncData.mk (Str.ofString "spot_in") (Str.ofString "spot_in") a163.1 (FuncBody.stmts b163.1) s163.1 3 [] Value.none Value.none Value.none (Value.str (Str.ofString "ringgate.classic") 258) none (Value.ref 162) Value.none 0)) #[]
noncomputable def o_208 : Params → Obj := fun _ => Obj.mk (Value.type "tuple") none (Data.seq #[]) #[]
noncomputable def o_209 : Params → Obj := fun _ => Obj.mk Value.none none (Data.fields #[]) #[]
noncomputable def o_210 : Params → Obj := fun _ => Obj.mk (Value.type "tuple") none (Data.seq #[Value.str (Str.ofString "k") 409]) #[]
noncomputable def o_211 : Params → Obj := fun _ => Obj.mk (Value.type "tuple") none (Data.seq #[]) #[]
noncomputable def o_212 : Params → Obj := fun _ => Obj.mk Value.none none (Data.func (FuncData.mk (Str.ofString "st") (Str.ofString "st") a170.1 (FuncBody.stmts b170.1) s170.1 0 [] Value.none Value.none Value.none Value.none none Value.none Value.none 0)) #[]
noncomputable def o_213 : Params → Obj := fun _ => Obj.mk (Value.type "code") none (Data.fields #[Value.str (Str.ofString "st") 406, Value.str (Str.ofString "st") 407, Value.str (Str.ofString "/claim/cut.py") 408, Value.int 88 0, Value.int 1 0, Value.int 0 0, Value.int 0 0, Value.int 3 0, Value.ref 164, Value.bool true, Value.int 181 0, Value.ref 165, Value.none, Value.ref 166, Value.ref 167, Value.ref 168, Value.int 410 0, Value.int 88 0, Value.str (Str.ofString "/claim/cut.py") 411]) #[]
noncomputable def o_214 : Params → Obj := fun _ => Obj.mk (Value.type "function") none (Data.func (FuncData.mk (Str.ofString "st") (Str.ofString "st") a170.1 (FuncBody.stmts b170.1) s170.1 3 [] Value.none Value.none Value.none (Value.str (Str.ofString "ringgate.classic") 258) none (Value.ref 169) Value.none 0)) #[]
noncomputable def o_215 : Params → Obj := fun _ => Obj.mk (Value.type "tuple") none (Data.seq #[]) #[]
noncomputable def o_216 : Params → Obj := fun _ => Obj.mk Value.none none (Data.fields #[]) #[]
noncomputable def o_217 : Params → Obj := fun _ => Obj.mk (Value.type "tuple") none (Data.seq #[Value.str (Str.ofString "op") 416]) #[]
noncomputable def o_218 : Params → Obj := fun _ => Obj.mk (Value.type "tuple") none (Data.seq #[]) #[]
noncomputable def o_219 : Params → Obj := fun _ => Obj.mk Value.none none (Data.func (FuncData.mk (Str.ofString "alu_x") (Str.ofString "alu_x") a177.1 (FuncBody.stmts b177.1) s177.1 0 [] Value.none Value.none Value.none Value.none none Value.none Value.none 0)) #[]
noncomputable def o_220 : Params → Obj := fun _ => Obj.mk (Value.type "code") none (Data.fields #[Value.str (Str.ofString "alu_x") 413, Value.str (Str.ofString "alu_x") 414, Value.str (Str.ofString "/claim/cut.py") 415, Value.int 90 0, Value.int 1 0, Value.int 0 0, Value.int 0 0, Value.int 3 0, Value.ref 171, Value.bool true, Value.int 181 0, Value.ref 172, Value.none, Value.ref 173, Value.ref 174, Value.ref 175, Value.int 417 0, Value.int 90 0, Value.str (Str.ofString "/claim/cut.py") 418]) #[]
noncomputable def o_221 : Params → Obj := fun _ => Obj.mk (Value.type "function") none (Data.func (FuncData.mk (Str.ofString "alu_x") (Str.ofString "alu_x") a177.1 (FuncBody.stmts b177.1) s177.1 3 [] Value.none Value.none Value.none (Value.str (Str.ofString "ringgate.classic") 258) none (Value.ref 176) Value.none 0)) #[]
noncomputable def o_222 : Params → Obj := fun _ => Obj.mk (Value.type "tuple") none (Data.seq #[]) #[]
noncomputable def o_223 : Params → Obj := fun _ => Obj.mk Value.none none (Data.fields #[]) #[]
noncomputable def o_224 : Params → Obj := fun _ => Obj.mk (Value.type "tuple") none (Data.seq #[Value.str (Str.ofString "op") 423]) #[]
noncomputable def o_225 : Params → Obj := fun _ => Obj.mk (Value.type "tuple") none (Data.seq #[]) #[]
noncomputable def o_226 : Params → Obj := fun _ => Obj.mk Value.none none (Data.func (FuncData.mk (Str.ofString "jump_code") (Str.ofString "jump_code") a184.1 (FuncBody.stmts b184.1) s184.1 0 [] Value.none Value.none Value.none Value.none none Value.none Value.none 0)) #[]
noncomputable def o_227 : Params → Obj := fun _ => Obj.mk (Value.type "code") none (Data.fields #[Value.str (Str.ofString "jump_code") 420, Value.str (Str.ofString "jump_code") 421, Value.str (Str.ofString "/claim/cut.py") 422, Value.int 94 0, Value.int 1 0, Value.int 0 0, Value.int 0 0, Value.int 3 0, Value.ref 178, Value.bool true, Value.int 181 0, Value.ref 179, Value.none, Value.ref 180, Value.ref 181, Value.ref 182, Value.int 424 0, Value.int 94 0, Value.str (Str.ofString "/claim/cut.py") 425]) #[]
noncomputable def o_228 : Params → Obj := fun _ => Obj.mk (Value.type "function") none (Data.func (FuncData.mk (Str.ofString "jump_code") (Str.ofString "jump_code") a184.1 (FuncBody.stmts b184.1) s184.1 3 [] Value.none Value.none Value.none (Value.str (Str.ofString "ringgate.classic") 258) none (Value.ref 183) Value.none 0)) #[]
noncomputable def o_229 : Params → Obj := fun _ => Obj.mk (Value.type "tuple") none (Data.seq #[]) #[]
noncomputable def o_230 : Params → Obj := fun _ => Obj.mk Value.none none (Data.fields #[]) #[]
noncomputable def o_231 : Params → Obj := fun _ => Obj.mk (Value.type "tuple") none (Data.seq #[Value.str (Str.ofString "op") 430, Value.str (Str.ofString "k") 431, Value.str (Str.ofString "jt") 432, Value.str (Str.ofString "jf") 433]) #[]
noncomputable def o_232 : Params → Obj := fun _ => Obj.mk (Value.type "tuple") none (Data.seq #[]) #[]
noncomputable def o_233 : Params → Obj := fun _ => Obj.mk Value.none none (Data.func (FuncData.mk (Str.ofString "jump_k") (Str.ofString "jump_k") a191.1 (FuncBody.stmts b191.1) s191.1 0 [] Value.none Value.none Value.none Value.none none Value.none Value.none 0)) #[]
noncomputable def o_234 : Params → Obj := fun _ => Obj.mk (Value.type "code") none (Data.fields #[Value.str (Str.ofString "jump_k") 427, Value.str (Str.ofString "jump_k") 428, Value.str (Str.ofString "/claim/cut.py") 429, Value.int 98 0, Value.int 4 0, Value.int 0 0, Value.int 0 0, Value.int 3 0, Value.ref 185, Value.bool true, Value.int 181 0, Value.ref 186, Value.none, Value.ref 187, Value.ref 188, Value.ref 189, Value.int 434 0, Value.int 98 0, Value.str (Str.ofString "/claim/cut.py") 435]) #[]
noncomputable def o_235 : Params → Obj := fun _ => Obj.mk (Value.type "function") none (Data.func (FuncData.mk (Str.ofString "jump_k") (Str.ofString "jump_k") a191.1 (FuncBody.stmts b191.1) s191.1 3 [] Value.none Value.none Value.none (Value.str (Str.ofString "ringgate.classic") 258) none (Value.ref 190) Value.none 0)) #[]
noncomputable def o_236 : Params → Obj := fun _ => Obj.mk (Value.type "tuple") none (Data.seq #[]) #[]
noncomputable def o_237 : Params → Obj := fun _ => Obj.mk Value.none none (Data.fields #[]) #[]
noncomputable def o_238 : Params → Obj := fun _ => Obj.mk (Value.type "tuple") none (Data.seq #[Value.str (Str.ofString "op") 440, Value.str (Str.ofString "jt") 441, Value.str (Str.ofString "jf") 442]) #[]
noncomputable def o_239 : Params → Obj := fun _ => Obj.mk (Value.type "tuple") none (Data.seq #[]) #[]
noncomputable def o_240 : Params → Obj := fun _ => Obj.mk Value.none none (Data.func (FuncData.mk (Str.ofString "jump_x") (Str.ofString "jump_x") a198.1 (FuncBody.stmts b198.1) s198.1 0 [] Value.none Value.none Value.none Value.none none Value.none Value.none 0)) #[]
noncomputable def o_241 : Params → Obj := fun _ => Obj.mk (Value.type "code") none (Data.fields #[Value.str (Str.ofString "jump_x") 437, Value.str (Str.ofString "jump_x") 438, Value.str (Str.ofString "/claim/cut.py") 439, Value.int 100 0, Value.int 3 0, Value.int 0 0, Value.int 0 0, Value.int 3 0, Value.ref 192, Value.bool true, Value.int 181 0, Value.ref 193, Value.none, Value.ref 194, Value.ref 195, Value.ref 196, Value.int 443 0, Value.int 100 0, Value.str (Str.ofString "/claim/cut.py") 444]) #[]
noncomputable def o_242 : Params → Obj := fun _ => Obj.mk (Value.type "function") none (Data.func (FuncData.mk (Str.ofString "jump_x") (Str.ofString "jump_x") a198.1 (FuncBody.stmts b198.1) s198.1 3 [] Value.none Value.none Value.none (Value.str (Str.ofString "ringgate.classic") 258) none (Value.ref 197) Value.none 0)) #[]
noncomputable def o_243 : Params → Obj := fun _ => Obj.mk (Value.type "tuple") none (Data.seq #[]) #[]
noncomputable def o_244 : Params → Obj := fun _ => Obj.mk Value.none none (Data.fields #[]) #[]
noncomputable def o_245 : Params → Obj := fun _ => Obj.mk (Value.type "tuple") none (Data.seq #[Value.str (Str.ofString "k") 449]) #[]
noncomputable def o_246 : Params → Obj := fun _ => Obj.mk (Value.type "tuple") none (Data.seq #[]) #[]
noncomputable def o_247 : Params → Obj := fun _ => Obj.mk Value.none none (Data.func (FuncData.mk (Str.ofString "ja") (Str.ofString "ja") a205.1 (FuncBody.stmts b205.1) s205.1 0 [] Value.none Value.none Value.none Value.none none Value.none Value.none 0)) #[]
noncomputable def o_248 : Params → Obj := fun _ => Obj.mk (Value.type "code") none (Data.fields #[Value.str (Str.ofString "ja") 446, Value.str (Str.ofString "ja") 447, Value.str (Str.ofString "/claim/cut.py") 448, Value.int 102 0, Value.int 1 0, Value.int 0 0, Value.int 0 0, Value.int 3 0, Value.ref 199, Value.bool true, Value.int 181 0, Value.ref 200, Value.none, Value.ref 201, Value.ref 202, Value.ref 203, Value.int 450 0, Value.int 102 0, Value.str (Str.ofString "/claim/cut.py") 451]) #[]
noncomputable def o_249 : Params → Obj := fun _ => Obj.mk (Value.type "function") none (Data.func (FuncData.mk (Str.ofString "ja") (Str.ofString "ja") a205.1 (FuncBody.stmts b205.1) s205.1 3 [] Value.none Value.none Value.none (Value.str (Str.ofString "ringgate.classic") 258) none (Value.ref 204) Value.none 0)) #[]
noncomputable def o_250 : Params → Obj := fun _ => Obj.mk (Value.type "tuple") none (Data.seq #[]) #[]
noncomputable def o_251 : Params → Obj := fun _ => Obj.mk Value.none none (Data.fields #[]) #[]
noncomputable def o_252 : Params → Obj := fun _ => Obj.mk (Value.type "tuple") none (Data.seq #[Value.str (Str.ofString "k") 456]) #[]
noncomputable def o_253 : Params → Obj := fun _ => Obj.mk (Value.type "tuple") none (Data.seq #[]) #[]
noncomputable def o_254 : Params → Obj := fun _ => Obj.mk Value.none none (Data.func (FuncData.mk (Str.ofString "ret_k") (Str.ofString "ret_k") a212.1 (FuncBody.stmts b212.1) s212.1 0 [] Value.none Value.none Value.none Value.none none Value.none Value.none 0)) #[]
noncomputable def o_255 : Params → Obj := fun _ => Obj.mk (Value.type "code") none (Data.fields #[Value.str (Str.ofString "ret_k") 453, Value.str (Str.ofString "ret_k") 454, Value.str (Str.ofString "/claim/cut.py") 455, Value.int 104 0, Value.int 1 0, Value.int 0 0, Value.int 0 0, Value.int 3 0, Value.ref 206, Value.bool true, Value.int 181 0, Value.ref 207, Value.none, Value.ref 208, Value.ref 209, Value.ref 210, Value.int 457 0, Value.int 104 0, Value.str (Str.ofString "/claim/cut.py") 458]) #[]
noncomputable def o_256 : Params → Obj := fun _ => Obj.mk (Value.type "function") none (Data.func (FuncData.mk (Str.ofString "ret_k") (Str.ofString "ret_k") a212.1 (FuncBody.stmts b212.1) s212.1 3 [] Value.none Value.none Value.none (Value.str (Str.ofString "ringgate.classic") 258) none (Value.ref 211) Value.none 0)) #[]
noncomputable def o_257 : Params → Obj := fun P => Obj.mk (Value.type "dict") none (Data.dict #[DictEntry.mk (PyData.keyHash P (Str.ofString "__name__")) (Value.str (Str.ofString "__name__") 165) (Value.str (Str.ofString "law_rg0263_01") 484), DictEntry.mk (PyData.keyHash P (Str.ofString "__doc__")) (Value.str (Str.ofString "__doc__") 166) Value.none, DictEntry.mk (PyData.keyHash P (Str.ofString "__package__")) (Value.str (Str.ofString "__package__") 167) Value.none, DictEntry.mk (PyData.keyHash P (Str.ofString "__loader__")) (Value.str (Str.ofString "__loader__") 168) (Value.builtin "__main__.__loader__#opaque"), DictEntry.mk (PyData.keyHash P (Str.ofString "__spec__")) (Value.str (Str.ofString "__spec__") 169) Value.none, DictEntry.mk (PyData.keyHash P (Str.ofString "__annotations__")) (Value.str (Str.ofString "__annotations__") 170) (Value.ref 6), DictEntry.mk (PyData.keyHash P (Str.ofString "__builtins__")) (Value.str (Str.ofString "__builtins__") 171) (Value.ref 4), DictEntry.mk (PyData.keyHash P (Str.ofString "__file__")) (Value.str (Str.ofString "__file__") 173) (Value.str (Str.ofString "/claim/cut.py") 172), DictEntry.mk (PyData.keyHash P (Str.ofString "__cached__")) (Value.str (Str.ofString "__cached__") 174) Value.none, DictEntry.mk (PyData.keyHash P (Str.ofString "GateError")) (Value.str (Str.ofString "GateError") 226) (Value.ref 39), DictEntry.mk (PyData.keyHash P (Str.ofString "CodeError")) (Value.str (Str.ofString "CodeError") 242) (Value.ref 52), DictEntry.mk (PyData.keyHash P (Str.ofString "little")) (Value.str (Str.ofString "little") 248) (Value.ref 59), DictEntry.mk (PyData.keyHash P (Str.ofString "from_little")) (Value.str (Str.ofString "from_little") 257) (Value.ref 66), DictEntry.mk (PyData.keyHash P (Str.ofString "ST")) (Value.str (Str.ofString "ST") 261) (Value.int 2 260), DictEntry.mk (PyData.keyHash P (Str.ofString "ALU")) (Value.str (Str.ofString "ALU") 263) (Value.int 4 262), DictEntry.mk (PyData.keyHash P (Str.ofString "JMP")) (Value.str (Str.ofString "JMP") 265) (Value.int 5 264), DictEntry.mk (PyData.keyHash P (Str.ofString "RET")) (Value.str (Str.ofString "RET") 267) (Value.int 6 266), DictEntry.mk (PyData.keyHash P (Str.ofString "MISC")) (Value.str (Str.ofString "MISC") 269) (Value.int 7 268), DictEntry.mk (PyData.keyHash P (Str.ofString "BY_X")) (Value.str (Str.ofString "BY_X") 271) (Value.int 8 270), DictEntry.mk (PyData.keyHash P (Str.ofString "RETURN_A")) (Value.str (Str.ofString "RETURN_A") 273) (Value.int 16 272), DictEntry.mk (PyData.keyHash P (Str.ofString "TXA")) (Value.str (Str.ofString "TXA") 275) (Value.int 128 274), DictEntry.mk (PyData.keyHash P (Str.ofString "WIDTH")) (Value.str (Str.ofString "WIDTH") 277) (Value.int 8 276), DictEntry.mk (PyData.keyHash P (Str.ofString "ALU_NAMES")) (Value.str (Str.ofString "ALU_NAMES") 279) (Value.str (Str.ofString "add sub mul div or and lsh rsh neg mod xor") 278), DictEntry.mk (PyData.keyHash P (Str.ofString "JUMP_NAMES")) (Value.str (Str.ofString "JUMP_NAMES") 281) (Value.str (Str.ofString "ja jeq jgt jge jset") 280), DictEntry.mk (PyData.keyHash P (Str.ofString "ClassicOrder")) (Value.str (Str.ofString "ClassicOrder") 323) (Value.ref 90), DictEntry.mk (PyData.keyHash P (Str.ofString "jump_name")) (Value.str (Str.ofString "jump_name") 332) (Value.ref 101), DictEntry.mk (PyData.keyHash P (Str.ofString "is_return")) (Value.str (Str.ofString "is_return") 339) (Value.ref 108), DictEntry.mk (PyData.keyHash P (Str.ofString "is_jump_order")) (Value.str (Str.ofString "is_jump_order") 346) (Value.ref 115), DictEntry.mk (PyData.keyHash P (Str.ofString "goals_of_classic")) (Value.str (Str.ofString "goals_of_classic") 355) (Value.ref 122), DictEntry.mk (PyData.keyHash P (Str.ofString "check_field")) (Value.str (Str.ofString "check_field") 363) (Value.ref 129), DictEntry.mk (PyData.keyHash P (Str.ofString "pack_classic")) (Value.str (Str.ofString "pack_classic") 370) (Value.ref 136), DictEntry.mk (PyData.keyHash P (Str.ofString "unpack_classic")) (Value.str (Str.ofString "unpack_classic") 381) (Value.ref 144), DictEntry.mk (PyData.keyHash P (Str.ofString "pack_filter")) (Value.str (Str.ofString "pack_filter") 387) (Value.ref 149), DictEntry.mk (PyData.keyHash P (Str.ofString "unpack_filter")) (Value.str (Str.ofString "unpack_filter") 396) (Value.ref 156), DictEntry.mk (PyData.keyHash P (Str.ofString "spot_in")) (Value.str (Str.ofString "spot_in") 405) (Value.ref 163), DictEntry.mk (PyData.keyHash P (Str.ofString "st")) (Value.str (Str.ofString "st") 412) (Value.ref 170), DictEntry.mk (PyData.keyHash P (Str.ofString "alu_x")) (Value.str (Str.ofString "alu_x") 419) (Value.ref 177), DictEntry.mk (PyData.keyHash P (Str.ofString "jump_code")) (Value.str (Str.ofString "jump_code") 426) (Value.ref 184), DictEntry.mk (PyData.keyHash P (Str.ofString "jump_k")) (Value.str (Str.ofString "jump_k") 436) (Value.ref 191), DictEntry.mk (PyData.keyHash P (Str.ofString "jump_x")) (Value.str (Str.ofString "jump_x") 445) (Value.ref 198), DictEntry.mk (PyData.keyHash P (Str.ofString "ja")) (Value.str (Str.ofString "ja") 452) (Value.ref 205), DictEntry.mk (PyData.keyHash P (Str.ofString "ret_k")) (Value.str (Str.ofString "ret_k") 459) (Value.ref 212), DictEntry.mk (PyData.keyHash P (Str.ofString "ret_a")) (Value.str (Str.ofString "ret_a") 465) (Value.ref 219), DictEntry.mk (PyData.keyHash P (Str.ofString "tax")) (Value.str (Str.ofString "tax") 471) (Value.ref 226), DictEntry.mk (PyData.keyHash P (Str.ofString "txa")) (Value.str (Str.ofString "txa") 477) (Value.ref 233), DictEntry.mk (PyData.keyHash P (Str.ofString "reached_orders")) (Value.str (Str.ofString "reached_orders") 483) (Value.ref 238), DictEntry.mk (PyData.keyHash P (Str.ofString "_law_TESTS")) (Value.str (Str.ofString "_law_TESTS") 490) (Value.ref 239), DictEntry.mk (PyData.keyHash P (Str.ofString "_law_chest")) (Value.str (Str.ofString "_law_chest") 499) (Value.ref 246), DictEntry.mk (PyData.keyHash P (Str.ofString "_law_penny")) (Value.str (Str.ofString "_law_penny") 508) (Value.ref 253), DictEntry.mk (PyData.keyHash P (Str.ofString "_law_field")) (Value.str (Str.ofString "_law_field") 517) (Value.ref 260), DictEntry.mk (PyData.keyHash P (Str.ofString "_law_order")) (Value.str (Str.ofString "_law_order") 528) (Value.ref 267), DictEntry.mk (PyData.keyHash P (Str.ofString "_law_laid")) (Value.str (Str.ofString "_law_laid") 534) (Value.ref 272), DictEntry.mk (PyData.keyHash P (Str.ofString "_law_read")) (Value.str (Str.ofString "_law_read") 540) (Value.ref 277), DictEntry.mk (PyData.keyHash P (Str.ofString "_law_heard")) (Value.str (Str.ofString "_law_heard") 548) (Value.ref 284), DictEntry.mk (PyData.keyHash P (Str.ofString "_law_all_heard")) (Value.str (Str.ofString "_law_all_heard") 554) (Value.ref 289)] 55) #[]
noncomputable def o_258 : Params → Obj := fun _ => Obj.mk Value.none none (Data.fields #[Value.int 2 0, Value.int 0 0, Value.ref 20, Value.int 11 0, Value.int 0 0, Value.ref 48, Value.int 13 0, Value.int 0 0, Value.ref 58, Value.int 15 0, Value.int 0 0, Value.ref 65, Value.int 32 0, Value.int 0 0, Value.ref 72, Value.int 42 0, Value.int 0 0, Value.ref 100, Value.int 45 0, Value.int 0 0, Value.ref 107, Value.int 47 0, Value.int 0 0, Value.ref 114, Value.int 49 0, Value.int 0 0, Value.ref 121, Value.int 60 0, Value.int 0 0, Value.ref 128, Value.int 63 0, Value.int 0 0, Value.ref 135, Value.int 69 0, Value.int 0 0, Value.ref 143, Value.int 74 0, Value.int 0 0, Value.ref 148, Value.int 76 0, Value.int 0 0, Value.ref 155, Value.int 83 0, Value.int 0 0, Value.ref 162, Value.int 88 0, Value.int 0 0, Value.ref 169, Value.int 90 0, Value.int 0 0, Value.ref 176, Value.int 94 0, Value.int 0 0, Value.ref 183, Value.int 98 0, Value.int 0 0, Value.ref 190, Value.int 100 0, Value.int 0 0, Value.ref 197, Value.int 102 0, Value.int 0 0, Value.ref 204, Value.int 104 0, Value.int 0 0, Value.ref 211, Value.int 106 0, Value.int 0 0, Value.ref 218, Value.int 108 0, Value.int 0 0, Value.ref 225, Value.int 110 0, Value.int 0 0, Value.ref 232, Value.int 112 0, Value.int 0 0, Value.ref 237, Value.int 122 0, Value.int 0 0, Value.ref 245, Value.int 127 0, Value.int 0 0, Value.ref 252, Value.int 134 0, Value.int 0 0, Value.ref 259, Value.int 137 0, Value.int 0 0, Value.ref 266, Value.int 149 0, Value.int 0 0, Value.ref 271, Value.int 152 0, Value.int 0 0, Value.ref 276, Value.int 157 0, Value.int 0 0, Value.ref 283, Value.int 162 0, Value.int 0 0, Value.ref 288]) #[]
noncomputable def o_259 : Params → Obj := fun _ => Obj.mk (Value.type "tuple") none (Data.seq #[]) #[]
noncomputable def o_260 : Params → Obj := fun _ => Obj.mk Value.none none (Data.fields #[]) #[]
noncomputable def o_261 : Params → Obj := fun _ => Obj.mk (Value.type "tuple") none (Data.seq #[]) #[]
noncomputable def o_262 : Params → Obj := fun _ => Obj.mk (Value.type "tuple") none (Data.seq #[]) #[]
noncomputable def o_263 : Params → Obj := fun _ => Obj.mk Value.none none (Data.func (FuncData.mk (Str.ofString "ret_a") (Str.ofString "ret_a") a219.1 (FuncBody.stmts b219.1) s219.1 0 [] Value.none Value.none Value.none Value.none none Value.none Value.none 0)) #[]
noncomputable def o_264 : Params → Obj := fun _ => Obj.mk (Value.type "code") none (Data.fields #[Value.str (Str.ofString "ret_a") 460, Value.str (Str.ofString "ret_a") 461, Value.str (Str.ofString "/claim/cut.py") 462, Value.int 106 0, Value.int 0 0, Value.int 0 0, Value.int 0 0, Value.int 3 0, Value.ref 213, Value.bool true, Value.int 181 0, Value.ref 214, Value.none, Value.ref 215, Value.ref 216, Value.ref 217, Value.int 463 0, Value.int 106 0, Value.str (Str.ofString "/claim/cut.py") 464]) #[]
noncomputable def o_265 : Params → Obj := fun _ => Obj.mk (Value.type "function") none (Data.func (FuncData.mk (Str.ofString "ret_a") (Str.ofString "ret_a") a219.1 (FuncBody.stmts b219.1) s219.1 3 [] Value.none Value.none Value.none (Value.str (Str.ofString "ringgate.classic") 258) none (Value.ref 218) Value.none 0)) #[]
noncomputable def o_266 : Params → Obj := fun _ => Obj.mk (Value.type "tuple") none (Data.seq #[]) #[]
noncomputable def o_267 : Params → Obj := fun _ => Obj.mk Value.none none (Data.fields #[]) #[]
noncomputable def o_268 : Params → Obj := fun _ => Obj.mk (Value.type "tuple") none (Data.seq #[]) #[]
noncomputable def o_269 : Params → Obj := fun _ => Obj.mk (Value.type "tuple") none (Data.seq #[]) #[]
noncomputable def o_270 : Params → Obj := fun _ => Obj.mk Value.none none (Data.func (FuncData.mk (Str.ofString "tax") (Str.ofString "tax") a226.1 (FuncBody.stmts b226.1) s226.1 0 [] Value.none Value.none Value.none Value.none none Value.none Value.none 0)) #[]
noncomputable def o_271 : Params → Obj := fun _ => Obj.mk (Value.type "code") none (Data.fields #[Value.str (Str.ofString "tax") 466, Value.str (Str.ofString "tax") 467, Value.str (Str.ofString "/claim/cut.py") 468, Value.int 108 0, Value.int 0 0, Value.int 0 0, Value.int 0 0, Value.int 3 0, Value.ref 220, Value.bool true, Value.int 181 0, Value.ref 221, Value.none, Value.ref 222, Value.ref 223, Value.ref 224, Value.int 469 0, Value.int 108 0, Value.str (Str.ofString "/claim/cut.py") 470]) #[]
noncomputable def o_272 : Params → Obj := fun _ => Obj.mk (Value.type "function") none (Data.func (FuncData.mk (Str.ofString "tax") (Str.ofString "tax") a226.1 (FuncBody.stmts b226.1) s226.1 3 [] Value.none Value.none Value.none (Value.str (Str.ofString "ringgate.classic") 258) none (Value.ref 225) Value.none 0)) #[]
noncomputable def o_273 : Params → Obj := fun _ => Obj.mk (Value.type "tuple") none (Data.seq #[]) #[]
noncomputable def o_274 : Params → Obj := fun _ => Obj.mk Value.none none (Data.fields #[]) #[]
noncomputable def o_275 : Params → Obj := fun _ => Obj.mk (Value.type "tuple") none (Data.seq #[]) #[]
noncomputable def o_276 : Params → Obj := fun _ => Obj.mk (Value.type "tuple") none (Data.seq #[]) #[]
noncomputable def o_277 : Params → Obj := fun _ => Obj.mk Value.none none (Data.func (FuncData.mk (Str.ofString "txa") (Str.ofString "txa") a233.1 (FuncBody.stmts b233.1) s233.1 0 [] Value.none Value.none Value.none Value.none none Value.none Value.none 0)) #[]
noncomputable def o_278 : Params → Obj := fun _ => Obj.mk (Value.type "code") none (Data.fields #[Value.str (Str.ofString "txa") 472, Value.str (Str.ofString "txa") 473, Value.str (Str.ofString "/claim/cut.py") 474, Value.int 110 0, Value.int 0 0, Value.int 0 0, Value.int 0 0, Value.int 3 0, Value.ref 227, Value.bool true, Value.int 181 0, Value.ref 228, Value.none, Value.ref 229, Value.ref 230, Value.ref 231, Value.int 475 0, Value.int 110 0, Value.str (Str.ofString "/claim/cut.py") 476]) #[]
noncomputable def o_279 : Params → Obj := fun _ => Obj.mk (Value.type "function") none (Data.func (FuncData.mk (Str.ofString "txa") (Str.ofString "txa") a233.1 (FuncBody.stmts b233.1) s233.1 3 [] Value.none Value.none Value.none (Value.str (Str.ofString "ringgate.classic") 258) none (Value.ref 232) Value.none 0)) #[]
noncomputable def o_280 : Params → Obj := fun _ => Obj.mk (Value.type "tuple") none (Data.seq #[]) #[]
noncomputable def o_281 : Params → Obj := fun _ => Obj.mk Value.none none (Data.fields #[]) #[]
noncomputable def o_282 : Params → Obj := fun _ => Obj.mk Value.none none (Data.func (FuncData.mk (Str.ofString "reached_orders") (Str.ofString "reached_orders") a238.1 (FuncBody.stmts b238.1) s238.1 0 [] Value.none Value.none Value.none Value.none none Value.none Value.none 0)) #[]
noncomputable def o_283 : Params → Obj := fun _ => Obj.mk (Value.type "code") none (Data.fields #[Value.str (Str.ofString "reached_orders") 478, Value.str (Str.ofString "reached_orders") 479, Value.str (Str.ofString "/claim/cut.py") 480, Value.int 112 0, Value.int 1 0, Value.int 0 0, Value.int 0 0, Value.int 3 0, Value.ref 234, Value.bool true, Value.int 181 0, Value.ref 235, Value.none, Value.none, Value.none, Value.ref 236, Value.int 481 0, Value.int 112 0, Value.str (Str.ofString "/claim/cut.py") 482]) #[]
noncomputable def o_284 : Params → Obj := fun _ => Obj.mk (Value.type "function") none (Data.func (FuncData.mk (Str.ofString "reached_orders") (Str.ofString "reached_orders") a238.1 (FuncBody.stmts b238.1) s238.1 3 [] Value.none Value.none Value.none (Value.str (Str.ofString "ringgate.classic") 258) none (Value.ref 237) Value.none 0)) #[]
noncomputable def o_285 : Params → Obj := fun _ => Obj.mk (Value.type "tuple") none (Data.seq #[Value.str (Str.ofString "jeq") 486, Value.str (Str.ofString "jgt") 487, Value.str (Str.ofString "jge") 488, Value.str (Str.ofString "jset") 489]) #[]
noncomputable def o_286 : Params → Obj := fun _ => Obj.mk (Value.type "tuple") none (Data.seq #[]) #[]
noncomputable def o_287 : Params → Obj := fun _ => Obj.mk Value.none none (Data.fields #[]) #[]
noncomputable def o_288 : Params → Obj := fun _ => Obj.mk (Value.type "tuple") none (Data.seq #[Value.str (Str.ofString "script") 494, Value.str (Str.ofString "number") 495, Value.str (Str.ofString "cell") 496]) #[]
noncomputable def o_289 : Params → Obj := fun _ => Obj.mk (Value.type "tuple") none (Data.seq #[]) #[]
noncomputable def o_290 : Params → Obj := fun _ => Obj.mk Value.none none (Data.func (FuncData.mk (Str.ofString "_law_chest") (Str.ofString "_law_chest") a246.1 (FuncBody.stmts b246.1) s246.1 0 [] Value.none Value.none Value.none Value.none none Value.none Value.none 0)) #[]
noncomputable def o_291 : Params → Obj := fun _ => Obj.mk (Value.type "code") none (Data.fields #[Value.str (Str.ofString "_law_chest") 491, Value.str (Str.ofString "_law_chest") 492, Value.str (Str.ofString "/claim/cut.py") 493, Value.int 122 0, Value.int 1 0, Value.int 0 0, Value.int 0 0, Value.int 3 0, Value.ref 240, Value.bool true, Value.int 181 0, Value.ref 241, Value.none, Value.ref 242, Value.ref 243, Value.ref 244, Value.int 497 0, Value.int 122 0, Value.str (Str.ofString "/claim/cut.py") 498]) #[]
noncomputable def o_292 : Params → Obj := fun _ => Obj.mk (Value.type "function") none (Data.func (FuncData.mk (Str.ofString "_law_chest") (Str.ofString "_law_chest") a246.1 (FuncBody.stmts b246.1) s246.1 3 [] Value.none Value.none Value.none (Value.str (Str.ofString "law_rg0263_01") 484) none (Value.ref 245) Value.none 0)) #[]
noncomputable def o_293 : Params → Obj := fun _ => Obj.mk (Value.type "tuple") none (Data.seq #[]) #[]
noncomputable def o_294 : Params → Obj := fun _ => Obj.mk Value.none none (Data.fields #[]) #[]
noncomputable def o_295 : Params → Obj := fun _ => Obj.mk (Value.type "tuple") none (Data.seq #[Value.str (Str.ofString "chest") 503, Value.str (Str.ofString "many") 504, Value.str (Str.ofString "digit") 505]) #[]
noncomputable def o_296 : Params → Obj := fun _ => Obj.mk (Value.type "tuple") none (Data.seq #[]) #[]
noncomputable def o_297 : Params → Obj := fun _ => Obj.mk Value.none none (Data.func (FuncData.mk (Str.ofString "_law_penny") (Str.ofString "_law_penny") a253.1 (FuncBody.stmts b253.1) s253.1 0 [] Value.none Value.none Value.none Value.none none Value.none Value.none 0)) #[]
noncomputable def o_298 : Params → Obj := fun _ => Obj.mk (Value.type "code") none (Data.fields #[Value.str (Str.ofString "_law_penny") 500, Value.str (Str.ofString "_law_penny") 501, Value.str (Str.ofString "/claim/cut.py") 502, Value.int 127 0, Value.int 2 0, Value.int 0 0, Value.int 0 0, Value.int 3 0, Value.ref 247, Value.bool true, Value.int 181 0, Value.ref 248, Value.none, Value.ref 249, Value.ref 250, Value.ref 251, Value.int 506 0, Value.int 127 0, Value.str (Str.ofString "/claim/cut.py") 507]) #[]
noncomputable def o_299 : Params → Obj := fun _ => Obj.mk (Value.type "function") none (Data.func (FuncData.mk (Str.ofString "_law_penny") (Str.ofString "_law_penny") a253.1 (FuncBody.stmts b253.1) s253.1 3 [] Value.none Value.none Value.none (Value.str (Str.ofString "law_rg0263_01") 484) none (Value.ref 252) Value.none 0)) #[]
noncomputable def o_300 : Params → Obj := fun _ => Obj.mk (Value.type "tuple") none (Data.seq #[]) #[]
noncomputable def o_301 : Params → Obj := fun _ => Obj.mk Value.none none (Data.fields #[]) #[]
noncomputable def o_302 : Params → Obj := fun _ => Obj.mk (Value.type "tuple") none (Data.seq #[Value.str (Str.ofString "chest") 512, Value.str (Str.ofString "bits") 513, Value.str (Str.ofString "kind") 514]) #[]
noncomputable def o_303 : Params → Obj := fun _ => Obj.mk (Value.type "tuple") none (Data.seq #[]) #[]
noncomputable def o_304 : Params → Obj := fun _ => Obj.mk Value.none none (Data.func (FuncData.mk (Str.ofString "_law_field") (Str.ofString "_law_field") a260.1 (FuncBody.stmts b260.1) s260.1 0 [] Value.none Value.none Value.none Value.none none Value.none Value.none 0)) #[]
noncomputable def o_305 : Params → Obj := fun _ => Obj.mk (Value.type "code") none (Data.fields #[Value.str (Str.ofString "_law_field") 509, Value.str (Str.ofString "_law_field") 510, Value.str (Str.ofString "/claim/cut.py") 511, Value.int 134 0, Value.int 2 0, Value.int 0 0, Value.int 0 0, Value.int 3 0, Value.ref 254, Value.bool true, Value.int 181 0, Value.ref 255, Value.none, Value.ref 256, Value.ref 257, Value.ref 258, Value.int 515 0, Value.int 134 0, Value.str (Str.ofString "/claim/cut.py") 516]) #[]
noncomputable def o_306 : Params → Obj := fun _ => Obj.mk (Value.type "function") none (Data.func (FuncData.mk (Str.ofString "_law_field") (Str.ofString "_law_field") a260.1 (FuncBody.stmts b260.1) s260.1 3 [] Value.none Value.none Value.none (Value.str (Str.ofString "law_rg0263_01") 484) none (Value.ref 259) Value.none 0)) #[]
noncomputable def o_307 : Params → Obj := fun _ => Obj.mk (Value.type "tuple") none (Data.seq #[]) #[]
noncomputable def o_308 : Params → Obj := fun _ => Obj.mk Value.none none (Data.fields #[]) #[]
noncomputable def o_309 : Params → Obj := fun _ => Obj.mk (Value.type "tuple") none (Data.seq #[Value.str (Str.ofString "chest") 521, Value.str (Str.ofString "kind") 522, Value.str (Str.ofString "far") 523, Value.str (Str.ofString "farther") 524, Value.str (Str.ofString "word") 525]) #[]
noncomputable def o_310 : Params → Obj := fun _ => Obj.mk (Value.type "tuple") none (Data.seq #[]) #[]
noncomputable def o_311 : Params → Obj := fun _ => Obj.mk Value.none none (Data.func (FuncData.mk (Str.ofString "_law_order") (Str.ofString "_law_order") a267.1 (FuncBody.stmts b267.1) s267.1 0 [] Value.none Value.none Value.none Value.none none Value.none Value.none 0)) #[]
noncomputable def o_312 : Params → Obj := fun _ => Obj.mk (Value.type "code") none (Data.fields #[Value.str (Str.ofString "_law_order") 518, Value.str (Str.ofString "_law_order") 519, Value.str (Str.ofString "/claim/cut.py") 520, Value.int 137 0, Value.int 1 0, Value.int 0 0, Value.int 0 0, Value.int 3 0, Value.ref 261, Value.bool true, Value.int 181 0, Value.ref 262, Value.none, Value.ref 263, Value.ref 264, Value.ref 265, Value.int 526 0, Value.int 137 0, Value.str (Str.ofString "/claim/cut.py") 527]) #[]
noncomputable def o_313 : Params → Obj := fun _ => Obj.mk (Value.type "function") none (Data.func (FuncData.mk (Str.ofString "_law_order") (Str.ofString "_law_order") a267.1 (FuncBody.stmts b267.1) s267.1 3 [] Value.none Value.none Value.none (Value.str (Str.ofString "law_rg0263_01") 484) none (Value.ref 266) Value.none 0)) #[]
noncomputable def o_314 : Params → Obj := fun _ => Obj.mk (Value.type "tuple") none (Data.seq #[]) #[]
noncomputable def o_315 : Params → Obj := fun _ => Obj.mk Value.none none (Data.fields #[]) #[]
noncomputable def o_316 : Params → Obj := fun _ => Obj.mk Value.none none (Data.func (FuncData.mk (Str.ofString "_law_laid") (Str.ofString "_law_laid") a272.1 (FuncBody.stmts b272.1) s272.1 0 [] Value.none Value.none Value.none Value.none none Value.none Value.none 0)) #[]
noncomputable def o_317 : Params → Obj := fun _ => Obj.mk (Value.type "code") none (Data.fields #[Value.str (Str.ofString "_law_laid") 529, Value.str (Str.ofString "_law_laid") 530, Value.str (Str.ofString "/claim/cut.py") 531, Value.int 149 0, Value.int 1 0, Value.int 0 0, Value.int 0 0, Value.int 3 0, Value.ref 268, Value.bool true, Value.int 181 0, Value.ref 269, Value.none, Value.none, Value.none, Value.ref 270, Value.int 532 0, Value.int 149 0, Value.str (Str.ofString "/claim/cut.py") 533]) #[]
noncomputable def o_318 : Params → Obj := fun _ => Obj.mk (Value.type "function") none (Data.func (FuncData.mk (Str.ofString "_law_laid") (Str.ofString "_law_laid") a272.1 (FuncBody.stmts b272.1) s272.1 3 [] Value.none Value.none Value.none (Value.str (Str.ofString "law_rg0263_01") 484) none (Value.ref 271) Value.none 0)) #[]
noncomputable def o_319 : Params → Obj := fun _ => Obj.mk (Value.type "tuple") none (Data.seq #[]) #[]
noncomputable def o_320 : Params → Obj := fun _ => Obj.mk Value.none none (Data.fields #[]) #[]
noncomputable def o_321 : Params → Obj := fun _ => Obj.mk Value.none none (Data.func (FuncData.mk (Str.ofString "_law_read") (Str.ofString "_law_read") a277.1 (FuncBody.stmts b277.1) s277.1 0 [] Value.none Value.none Value.none Value.none none Value.none Value.none 0)) #[]
noncomputable def o_322 : Params → Obj := fun _ => Obj.mk (Value.type "code") none (Data.fields #[Value.str (Str.ofString "_law_read") 535, Value.str (Str.ofString "_law_read") 536, Value.str (Str.ofString "/claim/cut.py") 537, Value.int 152 0, Value.int 2 0, Value.int 0 0, Value.int 0 0, Value.int 3 0, Value.ref 273, Value.bool true, Value.int 181 0, Value.ref 274, Value.none, Value.none, Value.none, Value.ref 275, Value.int 538 0, Value.int 152 0, Value.str (Str.ofString "/claim/cut.py") 539]) #[]
noncomputable def o_323 : Params → Obj := fun _ => Obj.mk (Value.type "function") none (Data.func (FuncData.mk (Str.ofString "_law_read") (Str.ofString "_law_read") a277.1 (FuncBody.stmts b277.1) s277.1 3 [] Value.none Value.none Value.none (Value.str (Str.ofString "law_rg0263_01") 484) none (Value.ref 276) Value.none 0)) #[]
noncomputable def o_324 : Params → Obj := fun _ => Obj.mk (Value.type "tuple") none (Data.seq #[]) #[]
noncomputable def o_325 : Params → Obj := fun _ => Obj.mk Value.none none (Data.fields #[]) #[]
noncomputable def o_326 : Params → Obj := fun _ => Obj.mk (Value.type "tuple") none (Data.seq #[Value.str (Str.ofString "octets") 544, Value.str (Str.ofString "at") 545]) #[]
noncomputable def o_327 : Params → Obj := fun _ => Obj.mk (Value.type "tuple") none (Data.seq #[]) #[]
noncomputable def o_328 : Params → Obj := fun _ => Obj.mk Value.none none (Data.func (FuncData.mk (Str.ofString "_law_heard") (Str.ofString "_law_heard") a284.1 (FuncBody.stmts b284.1) s284.1 0 [] Value.none Value.none Value.none Value.none none Value.none Value.none 0)) #[]
noncomputable def o_329 : Params → Obj := fun _ => Obj.mk (Value.type "code") none (Data.fields #[Value.str (Str.ofString "_law_heard") 541, Value.str (Str.ofString "_law_heard") 542, Value.str (Str.ofString "/claim/cut.py") 543, Value.int 157 0, Value.int 2 0, Value.int 0 0, Value.int 0 0, Value.int 3 0, Value.ref 278, Value.bool true, Value.int 181 0, Value.ref 279, Value.none, Value.ref 280, Value.ref 281, Value.ref 282, Value.int 546 0, Value.int 157 0, Value.str (Str.ofString "/claim/cut.py") 547]) #[]
noncomputable def o_330 : Params → Obj := fun _ => Obj.mk (Value.type "function") none (Data.func (FuncData.mk (Str.ofString "_law_heard") (Str.ofString "_law_heard") a284.1 (FuncBody.stmts b284.1) s284.1 3 [] Value.none Value.none Value.none (Value.str (Str.ofString "law_rg0263_01") 484) none (Value.ref 283) Value.none 0)) #[]
noncomputable def o_331 : Params → Obj := fun _ => Obj.mk (Value.type "tuple") none (Data.seq #[]) #[]
noncomputable def o_332 : Params → Obj := fun _ => Obj.mk Value.none none (Data.fields #[]) #[]
noncomputable def o_333 : Params → Obj := fun _ => Obj.mk Value.none none (Data.func (FuncData.mk (Str.ofString "_law_all_heard") (Str.ofString "_law_all_heard") a289.1 (FuncBody.stmts b289.1) s289.1 0 [] Value.none Value.none Value.none Value.none none Value.none Value.none 0)) #[]
noncomputable def o_334 : Params → Obj := fun _ => Obj.mk (Value.type "code") none (Data.fields #[Value.str (Str.ofString "_law_all_heard") 549, Value.str (Str.ofString "_law_all_heard") 550, Value.str (Str.ofString "/claim/cut.py") 551, Value.int 162 0, Value.int 1 0, Value.int 0 0, Value.int 0 0, Value.int 3 0, Value.ref 285, Value.bool true, Value.int 181 0, Value.ref 286, Value.none, Value.none, Value.none, Value.ref 287, Value.int 552 0, Value.int 162 0, Value.str (Str.ofString "/claim/cut.py") 553]) #[]
noncomputable def o_335 : Params → Obj := fun _ => Obj.mk (Value.type "function") none (Data.func (FuncData.mk (Str.ofString "_law_all_heard") (Str.ofString "_law_all_heard") a289.1 (FuncBody.stmts b289.1) s289.1 3 [] Value.none Value.none Value.none (Value.str (Str.ofString "law_rg0263_01") 484) none (Value.ref 288) Value.none 0)) #[]
noncomputable def o_336 : Params → Obj := fun P => Obj.mk (Value.type "dict") none (Data.dict #[DictEntry.mk (PyData.keyHash P (Str.ofString "__name__")) (Value.str (Str.ofString "__name__") 165) (Value.str (Str.ofString "law_rg0263_01") 484), DictEntry.mk (PyData.keyHash P (Str.ofString "__doc__")) (Value.str (Str.ofString "__doc__") 166) Value.none, DictEntry.mk (PyData.keyHash P (Str.ofString "__package__")) (Value.str (Str.ofString "__package__") 167) Value.none, DictEntry.mk (PyData.keyHash P (Str.ofString "__loader__")) (Value.str (Str.ofString "__loader__") 168) (Value.builtin "__main__.__loader__#opaque"), DictEntry.mk (PyData.keyHash P (Str.ofString "__spec__")) (Value.str (Str.ofString "__spec__") 169) Value.none, DictEntry.mk (PyData.keyHash P (Str.ofString "__annotations__")) (Value.str (Str.ofString "__annotations__") 170) (Value.ref 6), DictEntry.mk (PyData.keyHash P (Str.ofString "__builtins__")) (Value.str (Str.ofString "__builtins__") 171) (Value.ref 4), DictEntry.mk (PyData.keyHash P (Str.ofString "__file__")) (Value.str (Str.ofString "__file__") 173) (Value.str (Str.ofString "/claim/cut.py") 172), DictEntry.mk (PyData.keyHash P (Str.ofString "__cached__")) (Value.str (Str.ofString "__cached__") 174) Value.none, DictEntry.mk (PyData.keyHash P (Str.ofString "GateError")) (Value.str (Str.ofString "GateError") 226) (Value.ref 39), DictEntry.mk (PyData.keyHash P (Str.ofString "CodeError")) (Value.str (Str.ofString "CodeError") 242) (Value.ref 52), DictEntry.mk (PyData.keyHash P (Str.ofString "little")) (Value.str (Str.ofString "little") 248) (Value.ref 59), DictEntry.mk (PyData.keyHash P (Str.ofString "from_little")) (Value.str (Str.ofString "from_little") 257) (Value.ref 66), DictEntry.mk (PyData.keyHash P (Str.ofString "ST")) (Value.str (Str.ofString "ST") 261) (Value.int 2 260), DictEntry.mk (PyData.keyHash P (Str.ofString "ALU")) (Value.str (Str.ofString "ALU") 263) (Value.int 4 262), DictEntry.mk (PyData.keyHash P (Str.ofString "JMP")) (Value.str (Str.ofString "JMP") 265) (Value.int 5 264), DictEntry.mk (PyData.keyHash P (Str.ofString "RET")) (Value.str (Str.ofString "RET") 267) (Value.int 6 266), DictEntry.mk (PyData.keyHash P (Str.ofString "MISC")) (Value.str (Str.ofString "MISC") 269) (Value.int 7 268), DictEntry.mk (PyData.keyHash P (Str.ofString "BY_X")) (Value.str (Str.ofString "BY_X") 271) (Value.int 8 270), DictEntry.mk (PyData.keyHash P (Str.ofString "RETURN_A")) (Value.str (Str.ofString "RETURN_A") 273) (Value.int 16 272), DictEntry.mk (PyData.keyHash P (Str.ofString "TXA")) (Value.str (Str.ofString "TXA") 275) (Value.int 128 274), DictEntry.mk (PyData.keyHash P (Str.ofString "WIDTH")) (Value.str (Str.ofString "WIDTH") 277) (Value.int 8 276), DictEntry.mk (PyData.keyHash P (Str.ofString "ALU_NAMES")) (Value.str (Str.ofString "ALU_NAMES") 279) (Value.str (Str.ofString "add sub mul div or and lsh rsh neg mod xor") 278), DictEntry.mk (PyData.keyHash P (Str.ofString "JUMP_NAMES")) (Value.str (Str.ofString "JUMP_NAMES") 281) (Value.str (Str.ofString "ja jeq jgt jge jset") 280), DictEntry.mk (PyData.keyHash P (Str.ofString "ClassicOrder")) (Value.str (Str.ofString "ClassicOrder") 323) (Value.ref 90), DictEntry.mk (PyData.keyHash P (Str.ofString "jump_name")) (Value.str (Str.ofString "jump_name") 332) (Value.ref 101), DictEntry.mk (PyData.keyHash P (Str.ofString "is_return")) (Value.str (Str.ofString "is_return") 339) (Value.ref 108), DictEntry.mk (PyData.keyHash P (Str.ofString "is_jump_order")) (Value.str (Str.ofString "is_jump_order") 346) (Value.ref 115), DictEntry.mk (PyData.keyHash P (Str.ofString "goals_of_classic")) (Value.str (Str.ofString "goals_of_classic") 355) (Value.ref 122), DictEntry.mk (PyData.keyHash P (Str.ofString "check_field")) (Value.str (Str.ofString "check_field") 363) (Value.ref 129), DictEntry.mk (PyData.keyHash P (Str.ofString "pack_classic")) (Value.str (Str.ofString "pack_classic") 370) (Value.ref 136), DictEntry.mk (PyData.keyHash P (Str.ofString "unpack_classic")) (Value.str (Str.ofString "unpack_classic") 381) (Value.ref 144), DictEntry.mk (PyData.keyHash P (Str.ofString "pack_filter")) (Value.str (Str.ofString "pack_filter") 387) (Value.ref 149), DictEntry.mk (PyData.keyHash P (Str.ofString "unpack_filter")) (Value.str (Str.ofString "unpack_filter") 396) (Value.ref 156), DictEntry.mk (PyData.keyHash P (Str.ofString "spot_in")) (Value.str (Str.ofString "spot_in") 405) (Value.ref 163), DictEntry.mk (PyData.keyHash P (Str.ofString "st")) (Value.str (Str.ofString "st") 412) (Value.ref 170), DictEntry.mk (PyData.keyHash P (Str.ofString "alu_x")) (Value.str (Str.ofString "alu_x") 419) (Value.ref 177), DictEntry.mk (PyData.keyHash P (Str.ofString "jump_code")) (Value.str (Str.ofString "jump_code") 426) (Value.ref 184), DictEntry.mk (PyData.keyHash P (Str.ofString "jump_k")) (Value.str (Str.ofString "jump_k") 436) (Value.ref 191), DictEntry.mk (PyData.keyHash P (Str.ofString "jump_x")) (Value.str (Str.ofString "jump_x") 445) (Value.ref 198), DictEntry.mk (PyData.keyHash P (Str.ofString "ja")) (Value.str (Str.ofString "ja") 452) (Value.ref 205), DictEntry.mk (PyData.keyHash P (Str.ofString "ret_k")) (Value.str (Str.ofString "ret_k") 459) (Value.ref 212), DictEntry.mk (PyData.keyHash P (Str.ofString "ret_a")) (Value.str (Str.ofString "ret_a") 465) (Value.ref 219), DictEntry.mk (PyData.keyHash P (Str.ofString "tax")) (Value.str (Str.ofString "tax") 471) (Value.ref 226), DictEntry.mk (PyData.keyHash P (Str.ofString "txa")) (Value.str (Str.ofString "txa") 477) (Value.ref 233), DictEntry.mk (PyData.keyHash P (Str.ofString "reached_orders")) (Value.str (Str.ofString "reached_orders") 483) (Value.ref 238), DictEntry.mk (PyData.keyHash P (Str.ofString "_law_TESTS")) (Value.str (Str.ofString "_law_TESTS") 490) (Value.ref 239), DictEntry.mk (PyData.keyHash P (Str.ofString "_law_chest")) (Value.str (Str.ofString "_law_chest") 499) (Value.ref 246), DictEntry.mk (PyData.keyHash P (Str.ofString "_law_penny")) (Value.str (Str.ofString "_law_penny") 508) (Value.ref 253), DictEntry.mk (PyData.keyHash P (Str.ofString "_law_field")) (Value.str (Str.ofString "_law_field") 517) (Value.ref 260), DictEntry.mk (PyData.keyHash P (Str.ofString "_law_order")) (Value.str (Str.ofString "_law_order") 528) (Value.ref 267), DictEntry.mk (PyData.keyHash P (Str.ofString "_law_laid")) (Value.str (Str.ofString "_law_laid") 534) (Value.ref 272), DictEntry.mk (PyData.keyHash P (Str.ofString "_law_read")) (Value.str (Str.ofString "_law_read") 540) (Value.ref 277), DictEntry.mk (PyData.keyHash P (Str.ofString "_law_heard")) (Value.str (Str.ofString "_law_heard") 548) (Value.ref 284), DictEntry.mk (PyData.keyHash P (Str.ofString "_law_all_heard")) (Value.str (Str.ofString "_law_all_heard") 554) (Value.ref 289), DictEntry.mk (PyData.keyHash P (Str.ofString "_law_next")) (Value.str (Str.ofString "_law_next") 566) (Value.ref 296), DictEntry.mk (PyData.keyHash P (Str.ofString "_law_reached")) (Value.str (Str.ofString "_law_reached") 572) (Value.ref 301), DictEntry.mk (PyData.keyHash P (Str.ofString "law")) (Value.str (Str.ofString "law") 578) (Value.ref 306)] 58) #[]
noncomputable def o_337 : Params → Obj := fun _ => Obj.mk Value.none none (Data.fields #[Value.int 2 0, Value.int 0 0, Value.ref 20, Value.int 11 0, Value.int 0 0, Value.ref 48, Value.int 13 0, Value.int 0 0, Value.ref 58, Value.int 15 0, Value.int 0 0, Value.ref 65, Value.int 32 0, Value.int 0 0, Value.ref 72, Value.int 42 0, Value.int 0 0, Value.ref 100, Value.int 45 0, Value.int 0 0, Value.ref 107, Value.int 47 0, Value.int 0 0, Value.ref 114, Value.int 49 0, Value.int 0 0, Value.ref 121, Value.int 60 0, Value.int 0 0, Value.ref 128, Value.int 63 0, Value.int 0 0, Value.ref 135, Value.int 69 0, Value.int 0 0, Value.ref 143, Value.int 74 0, Value.int 0 0, Value.ref 148, Value.int 76 0, Value.int 0 0, Value.ref 155, Value.int 83 0, Value.int 0 0, Value.ref 162, Value.int 88 0, Value.int 0 0, Value.ref 169, Value.int 90 0, Value.int 0 0, Value.ref 176, Value.int 94 0, Value.int 0 0, Value.ref 183, Value.int 98 0, Value.int 0 0, Value.ref 190, Value.int 100 0, Value.int 0 0, Value.ref 197, Value.int 102 0, Value.int 0 0, Value.ref 204, Value.int 104 0, Value.int 0 0, Value.ref 211, Value.int 106 0, Value.int 0 0, Value.ref 218, Value.int 108 0, Value.int 0 0, Value.ref 225, Value.int 110 0, Value.int 0 0, Value.ref 232, Value.int 112 0, Value.int 0 0, Value.ref 237, Value.int 122 0, Value.int 0 0, Value.ref 245, Value.int 127 0, Value.int 0 0, Value.ref 252, Value.int 134 0, Value.int 0 0, Value.ref 259, Value.int 137 0, Value.int 0 0, Value.ref 266, Value.int 149 0, Value.int 0 0, Value.ref 271, Value.int 152 0, Value.int 0 0, Value.ref 276, Value.int 157 0, Value.int 0 0, Value.ref 283, Value.int 162 0, Value.int 0 0, Value.ref 288, Value.int 167 0, Value.int 0 0, Value.ref 295, Value.int 172 0, Value.int 0 0, Value.ref 300, Value.int 178 0, Value.int 0 0, Value.ref 305]) #[]
noncomputable def o_338 : Params → Obj := fun _ => Obj.mk (Value.type "tuple") none (Data.seq #[]) #[]
noncomputable def o_339 : Params → Obj := fun _ => Obj.mk Value.none none (Data.fields #[]) #[]
noncomputable def o_340 : Params → Obj := fun _ => Obj.mk (Value.type "tuple") none (Data.seq #[Value.str (Str.ofString "row") 558, Value.str (Str.ofString "at") 559, Value.str (Str.ofString "code") 560, Value.str (Str.ofString "first") 561, Value.str (Str.ofString "second") 562, Value.str (Str.ofString "number") 563]) #[]
noncomputable def o_341 : Params → Obj := fun _ => Obj.mk (Value.type "tuple") none (Data.seq #[]) #[]
noncomputable def o_342 : Params → Obj := fun _ => Obj.mk Value.none none (Data.func (FuncData.mk (Str.ofString "_law_next") (Str.ofString "_law_next") a296.1 (FuncBody.stmts b296.1) s296.1 0 [] Value.none Value.none Value.none Value.none none Value.none Value.none 0)) #[]
noncomputable def o_343 : Params → Obj := fun _ => Obj.mk (Value.type "code") none (Data.fields #[Value.str (Str.ofString "_law_next") 555, Value.str (Str.ofString "_law_next") 556, Value.str (Str.ofString "/claim/cut.py") 557, Value.int 167 0, Value.int 2 0, Value.int 0 0, Value.int 0 0, Value.int 3 0, Value.ref 290, Value.bool true, Value.int 181 0, Value.ref 291, Value.none, Value.ref 292, Value.ref 293, Value.ref 294, Value.int 564 0, Value.int 167 0, Value.str (Str.ofString "/claim/cut.py") 565]) #[]
noncomputable def o_344 : Params → Obj := fun _ => Obj.mk (Value.type "function") none (Data.func (FuncData.mk (Str.ofString "_law_next") (Str.ofString "_law_next") a296.1 (FuncBody.stmts b296.1) s296.1 3 [] Value.none Value.none Value.none (Value.str (Str.ofString "law_rg0263_01") 484) none (Value.ref 295) Value.none 0)) #[]
noncomputable def o_345 : Params → Obj := fun _ => Obj.mk (Value.type "tuple") none (Data.seq #[]) #[]
noncomputable def o_346 : Params → Obj := fun _ => Obj.mk Value.none none (Data.fields #[]) #[]
noncomputable def o_347 : Params → Obj := fun _ => Obj.mk Value.none none (Data.func (FuncData.mk (Str.ofString "_law_reached") (Str.ofString "_law_reached") a301.1 (FuncBody.stmts b301.1) s301.1 0 [] Value.none Value.none Value.none Value.none none Value.none Value.none 0)) #[]
noncomputable def o_348 : Params → Obj := fun _ => Obj.mk (Value.type "code") none (Data.fields #[Value.str (Str.ofString "_law_reached") 567, Value.str (Str.ofString "_law_reached") 568, Value.str (Str.ofString "/claim/cut.py") 569, Value.int 172 0, Value.int 1 0, Value.int 0 0, Value.int 0 0, Value.int 3 0, Value.ref 297, Value.bool true, Value.int 181 0, Value.ref 298, Value.none, Value.none, Value.none, Value.ref 299, Value.int 570 0, Value.int 172 0, Value.str (Str.ofString "/claim/cut.py") 571]) #[]
noncomputable def o_349 : Params → Obj := fun _ => Obj.mk (Value.type "function") none (Data.func (FuncData.mk (Str.ofString "_law_reached") (Str.ofString "_law_reached") a301.1 (FuncBody.stmts b301.1) s301.1 3 [] Value.none Value.none Value.none (Value.str (Str.ofString "law_rg0263_01") 484) none (Value.ref 300) Value.none 0)) #[]
noncomputable def o_350 : Params → Obj := fun _ => Obj.mk (Value.type "tuple") none (Data.seq #[]) #[]
noncomputable def o_351 : Params → Obj := fun _ => Obj.mk Value.none none (Data.fields #[]) #[]
noncomputable def o_352 : Params → Obj := fun _ => Obj.mk Value.none none (Data.func (FuncData.mk (Str.ofString "law") (Str.ofString "law") a306.1 (FuncBody.stmts b306.1) s306.1 0 [] Value.none Value.none Value.none Value.none none Value.none Value.none 0)) #[]
noncomputable def o_353 : Params → Obj := fun _ => Obj.mk (Value.type "code") none (Data.fields #[Value.str (Str.ofString "law") 573, Value.str (Str.ofString "law") 574, Value.str (Str.ofString "/claim/cut.py") 575, Value.int 178 0, Value.int 1 0, Value.int 0 0, Value.int 0 0, Value.int 3 0, Value.ref 302, Value.bool true, Value.int 181 0, Value.ref 303, Value.none, Value.none, Value.none, Value.ref 304, Value.int 576 0, Value.int 178 0, Value.str (Str.ofString "/claim/cut.py") 577]) #[]
noncomputable def o_354 : Params → Obj := fun _ => Obj.mk (Value.type "function") none (Data.func (FuncData.mk (Str.ofString "law") (Str.ofString "law") a306.1 (FuncBody.stmts b306.1) s306.1 3 [] Value.none Value.none Value.none (Value.str (Str.ofString "law_rg0263_01") 484) none (Value.ref 305) Value.none 0)) #[]
noncomputable def tree_47 : Params → BT := fun P => BT.node (boot_o_0 P) (BT.node (boot_o_1 P) (BT.node (boot_o_3 P) (BT.node (boot_o_7 P) BT.nil BT.nil) (BT.node (o_43 P) BT.nil BT.nil)) (BT.node (boot_o_5 P) (BT.node (boot_o_9 P) BT.nil BT.nil) (BT.node (o_45 P) BT.nil BT.nil))) (BT.node (boot_o_2 P) (BT.node (boot_o_4 P) (BT.node (boot_o_8 P) BT.nil BT.nil) (BT.node (o_44 P) BT.nil BT.nil)) (BT.node (boot_o_6 P) (BT.node (boot_o_10 P) BT.nil BT.nil) (BT.node (o_46 P) BT.nil BT.nil)))
noncomputable def tree_79 : Params → BT := fun P => BT.node (boot_o_0 P) (BT.node (boot_o_1 P) (BT.node (o_50 P) (BT.node (boot_o_7 P) (BT.node (o_52 P) (BT.node (o_68 P) BT.nil BT.nil) BT.nil) (BT.node (o_60 P) (BT.node (o_76 P) BT.nil BT.nil) BT.nil)) (BT.node (o_43 P) (BT.node (o_56 P) (BT.node (o_72 P) BT.nil BT.nil) BT.nil) (BT.node (o_64 P) BT.nil BT.nil))) (BT.node (boot_o_5 P) (BT.node (boot_o_9 P) (BT.node (o_54 P) (BT.node (o_70 P) BT.nil BT.nil) BT.nil) (BT.node (o_62 P) (BT.node (o_78 P) BT.nil BT.nil) BT.nil)) (BT.node (o_45 P) (BT.node (o_58 P) (BT.node (o_74 P) BT.nil BT.nil) BT.nil) (BT.node (o_66 P) BT.nil BT.nil)))) (BT.node (o_49 P) (BT.node (boot_o_4 P) (BT.node (boot_o_8 P) (BT.node (o_53 P) (BT.node (o_69 P) BT.nil BT.nil) BT.nil) (BT.node (o_61 P) (BT.node (o_77 P) BT.nil BT.nil) BT.nil)) (BT.node (o_51 P) (BT.node (o_57 P) (BT.node (o_73 P) BT.nil BT.nil) BT.nil) (BT.node (o_65 P) BT.nil BT.nil))) (BT.node (boot_o_6 P) (BT.node (boot_o_10 P) (BT.node (o_55 P) (BT.node (o_71 P) BT.nil BT.nil) BT.nil) (BT.node (o_63 P) (BT.node (o_79 P) BT.nil BT.nil) BT.nil)) (BT.node (o_46 P) (BT.node (o_59 P) (BT.node (o_75 P) BT.nil BT.nil) BT.nil) (BT.node (o_67 P) BT.nil BT.nil))))
noncomputable def tree_106 : Params → BT := fun P => BT.node (boot_o_0 P) (BT.node (boot_o_1 P) (BT.node (o_80 P) (BT.node (boot_o_7 P) (BT.node (o_52 P) (BT.node (o_68 P) (BT.node (o_103 P) BT.nil BT.nil) BT.nil) (BT.node (o_87 P) BT.nil BT.nil)) (BT.node (o_60 P) (BT.node (o_82 P) BT.nil BT.nil) (BT.node (o_95 P) BT.nil BT.nil))) (BT.node (o_43 P) (BT.node (o_56 P) (BT.node (o_72 P) BT.nil BT.nil) (BT.node (o_91 P) BT.nil BT.nil)) (BT.node (o_64 P) (BT.node (o_83 P) BT.nil BT.nil) (BT.node (o_99 P) BT.nil BT.nil)))) (BT.node (boot_o_5 P) (BT.node (boot_o_9 P) (BT.node (o_54 P) (BT.node (o_70 P) (BT.node (o_105 P) BT.nil BT.nil) BT.nil) (BT.node (o_89 P) BT.nil BT.nil)) (BT.node (o_62 P) (BT.node (o_78 P) BT.nil BT.nil) (BT.node (o_97 P) BT.nil BT.nil))) (BT.node (o_45 P) (BT.node (o_58 P) (BT.node (o_74 P) BT.nil BT.nil) (BT.node (o_93 P) BT.nil BT.nil)) (BT.node (o_66 P) (BT.node (o_85 P) BT.nil BT.nil) (BT.node (o_101 P) BT.nil BT.nil))))) (BT.node (o_49 P) (BT.node (boot_o_4 P) (BT.node (boot_o_8 P) (BT.node (o_53 P) (BT.node (o_69 P) (BT.node (o_104 P) BT.nil BT.nil) BT.nil) (BT.node (o_88 P) BT.nil BT.nil)) (BT.node (o_61 P) (BT.node (o_77 P) BT.nil BT.nil) (BT.node (o_96 P) BT.nil BT.nil))) (BT.node (o_81 P) (BT.node (o_57 P) (BT.node (o_73 P) BT.nil BT.nil) (BT.node (o_92 P) BT.nil BT.nil)) (BT.node (o_65 P) (BT.node (o_84 P) BT.nil BT.nil) (BT.node (o_100 P) BT.nil BT.nil)))) (BT.node (boot_o_6 P) (BT.node (boot_o_10 P) (BT.node (o_55 P) (BT.node (o_71 P) (BT.node (o_106 P) BT.nil BT.nil) BT.nil) (BT.node (o_90 P) BT.nil BT.nil)) (BT.node (o_63 P) (BT.node (o_79 P) BT.nil BT.nil) (BT.node (o_98 P) BT.nil BT.nil))) (BT.node (o_46 P) (BT.node (o_59 P) (BT.node (o_75 P) BT.nil BT.nil) (BT.node (o_94 P) BT.nil BT.nil)) (BT.node (o_67 P) (BT.node (o_86 P) BT.nil BT.nil) (BT.node (o_102 P) BT.nil BT.nil)))))
noncomputable def tree_164 : Params → BT := fun P => BT.node (boot_o_0 P) (BT.node (boot_o_1 P) (BT.node (o_107 P) (BT.node (boot_o_7 P) (BT.node (o_52 P) (BT.node (o_68 P) (BT.node (o_103 P) BT.nil BT.nil) (BT.node (o_137 P) BT.nil BT.nil)) (BT.node (o_87 P) (BT.node (o_121 P) BT.nil BT.nil) (BT.node (o_153 P) BT.nil BT.nil))) (BT.node (o_60 P) (BT.node (o_82 P) (BT.node (o_113 P) BT.nil BT.nil) (BT.node (o_145 P) BT.nil BT.nil)) (BT.node (o_95 P) (BT.node (o_129 P) BT.nil BT.nil) (BT.node (o_161 P) BT.nil BT.nil)))) (BT.node (o_43 P) (BT.node (o_56 P) (BT.node (o_72 P) (BT.node (o_109 P) BT.nil BT.nil) (BT.node (o_141 P) BT.nil BT.nil)) (BT.node (o_91 P) (BT.node (o_125 P) BT.nil BT.nil) (BT.node (o_157 P) BT.nil BT.nil))) (BT.node (o_64 P) (BT.node (o_83 P) (BT.node (o_117 P) BT.nil BT.nil) (BT.node (o_149 P) BT.nil BT.nil)) (BT.node (o_99 P) (BT.node (o_133 P) BT.nil BT.nil) BT.nil)))) (BT.node (boot_o_5 P) (BT.node (boot_o_9 P) (BT.node (o_54 P) (BT.node (o_70 P) (BT.node (o_105 P) BT.nil BT.nil) (BT.node (o_139 P) BT.nil BT.nil)) (BT.node (o_89 P) (BT.node (o_123 P) BT.nil BT.nil) (BT.node (o_155 P) BT.nil BT.nil))) (BT.node (o_62 P) (BT.node (o_78 P) (BT.node (o_115 P) BT.nil BT.nil) (BT.node (o_147 P) BT.nil BT.nil)) (BT.node (o_97 P) (BT.node (o_131 P) BT.nil BT.nil) (BT.node (o_163 P) BT.nil BT.nil)))) (BT.node (o_45 P) (BT.node (o_58 P) (BT.node (o_74 P) (BT.node (o_111 P) BT.nil BT.nil) (BT.node (o_143 P) BT.nil BT.nil)) (BT.node (o_93 P) (BT.node (o_127 P) BT.nil BT.nil) (BT.node (o_159 P) BT.nil BT.nil))) (BT.node (o_66 P) (BT.node (o_85 P) (BT.node (o_119 P) BT.nil BT.nil) (BT.node (o_151 P) BT.nil BT.nil)) (BT.node (o_101 P) (BT.node (o_135 P) BT.nil BT.nil) BT.nil))))) (BT.node (o_49 P) (BT.node (boot_o_4 P) (BT.node (boot_o_8 P) (BT.node (o_53 P) (BT.node (o_69 P) (BT.node (o_104 P) BT.nil BT.nil) (BT.node (o_138 P) BT.nil BT.nil)) (BT.node (o_88 P) (BT.node (o_122 P) BT.nil BT.nil) (BT.node (o_154 P) BT.nil BT.nil))) (BT.node (o_61 P) (BT.node (o_77 P) (BT.node (o_114 P) BT.nil BT.nil) (BT.node (o_146 P) BT.nil BT.nil)) (BT.node (o_96 P) (BT.node (o_130 P) BT.nil BT.nil) (BT.node (o_162 P) BT.nil BT.nil)))) (BT.node (o_108 P) (BT.node (o_57 P) (BT.node (o_73 P) (BT.node (o_110 P) BT.nil BT.nil) (BT.node (o_142 P) BT.nil BT.nil)) (BT.node (o_92 P) (BT.node (o_126 P) BT.nil BT.nil) (BT.node (o_158 P) BT.nil BT.nil))) (BT.node (o_65 P) (BT.node (o_84 P) (BT.node (o_118 P) BT.nil BT.nil) (BT.node (o_150 P) BT.nil BT.nil)) (BT.node (o_100 P) (BT.node (o_134 P) BT.nil BT.nil) BT.nil)))) (BT.node (boot_o_6 P) (BT.node (boot_o_10 P) (BT.node (o_55 P) (BT.node (o_71 P) (BT.node (o_106 P) BT.nil BT.nil) (BT.node (o_140 P) BT.nil BT.nil)) (BT.node (o_90 P) (BT.node (o_124 P) BT.nil BT.nil) (BT.node (o_156 P) BT.nil BT.nil))) (BT.node (o_63 P) (BT.node (o_79 P) (BT.node (o_116 P) BT.nil BT.nil) (BT.node (o_148 P) BT.nil BT.nil)) (BT.node (o_98 P) (BT.node (o_132 P) BT.nil BT.nil) (BT.node (o_164 P) BT.nil BT.nil)))) (BT.node (o_46 P) (BT.node (o_59 P) (BT.node (o_75 P) (BT.node (o_112 P) BT.nil BT.nil) (BT.node (o_144 P) BT.nil BT.nil)) (BT.node (o_94 P) (BT.node (o_128 P) BT.nil BT.nil) (BT.node (o_160 P) BT.nil BT.nil))) (BT.node (o_67 P) (BT.node (o_86 P) (BT.node (o_120 P) BT.nil BT.nil) (BT.node (o_152 P) BT.nil BT.nil)) (BT.node (o_102 P) (BT.node (o_136 P) BT.nil BT.nil) BT.nil)))))
noncomputable def tree_256 : Params → BT := fun P => BT.node (boot_o_0 P) (BT.node (boot_o_1 P) (BT.node (o_165 P) (BT.node (boot_o_7 P) (BT.node (o_52 P) (BT.node (o_68 P) (BT.node (o_103 P) (BT.node (o_171 P) BT.nil BT.nil) (BT.node (o_235 P) BT.nil BT.nil)) (BT.node (o_137 P) (BT.node (o_203 P) BT.nil BT.nil) BT.nil)) (BT.node (o_87 P) (BT.node (o_121 P) (BT.node (o_187 P) BT.nil BT.nil) (BT.node (o_251 P) BT.nil BT.nil)) (BT.node (o_153 P) (BT.node (o_219 P) BT.nil BT.nil) BT.nil))) (BT.node (o_60 P) (BT.node (o_82 P) (BT.node (o_113 P) (BT.node (o_179 P) BT.nil BT.nil) (BT.node (o_243 P) BT.nil BT.nil)) (BT.node (o_145 P) (BT.node (o_211 P) BT.nil BT.nil) BT.nil)) (BT.node (o_95 P) (BT.node (o_129 P) (BT.node (o_195 P) BT.nil BT.nil) BT.nil) (BT.node (o_161 P) (BT.node (o_227 P) BT.nil BT.nil) BT.nil)))) (BT.node (o_43 P) (BT.node (o_56 P) (BT.node (o_72 P) (BT.node (o_109 P) (BT.node (o_175 P) BT.nil BT.nil) (BT.node (o_239 P) BT.nil BT.nil)) (BT.node (o_141 P) (BT.node (o_207 P) BT.nil BT.nil) BT.nil)) (BT.node (o_91 P) (BT.node (o_125 P) (BT.node (o_191 P) BT.nil BT.nil) (BT.node (o_255 P) BT.nil BT.nil)) (BT.node (o_157 P) (BT.node (o_223 P) BT.nil BT.nil) BT.nil))) (BT.node (o_64 P) (BT.node (o_83 P) (BT.node (o_117 P) (BT.node (o_183 P) BT.nil BT.nil) (BT.node (o_247 P) BT.nil BT.nil)) (BT.node (o_149 P) (BT.node (o_215 P) BT.nil BT.nil) BT.nil)) (BT.node (o_99 P) (BT.node (o_133 P) (BT.node (o_199 P) BT.nil BT.nil) BT.nil) (BT.node (o_167 P) (BT.node (o_231 P) BT.nil BT.nil) BT.nil))))) (BT.node (boot_o_5 P) (BT.node (boot_o_9 P) (BT.node (o_54 P) (BT.node (o_70 P) (BT.node (o_105 P) (BT.node (o_173 P) BT.nil BT.nil) (BT.node (o_237 P) BT.nil BT.nil)) (BT.node (o_139 P) (BT.node (o_205 P) BT.nil BT.nil) BT.nil)) (BT.node (o_89 P) (BT.node (o_123 P) (BT.node (o_189 P) BT.nil BT.nil) (BT.node (o_253 P) BT.nil BT.nil)) (BT.node (o_155 P) (BT.node (o_221 P) BT.nil BT.nil) BT.nil))) (BT.node (o_62 P) (BT.node (o_78 P) (BT.node (o_115 P) (BT.node (o_181 P) BT.nil BT.nil) (BT.node (o_245 P) BT.nil BT.nil)) (BT.node (o_147 P) (BT.node (o_213 P) BT.nil BT.nil) BT.nil)) (BT.node (o_97 P) (BT.node (o_131 P) (BT.node (o_197 P) BT.nil BT.nil) BT.nil) (BT.node (o_163 P) (BT.node (o_229 P) BT.nil BT.nil) BT.nil)))) (BT.node (o_45 P) (BT.node (o_58 P) (BT.node (o_74 P) (BT.node (o_111 P) (BT.node (o_177 P) BT.nil BT.nil) (BT.node (o_241 P) BT.nil BT.nil)) (BT.node (o_143 P) (BT.node (o_209 P) BT.nil BT.nil) BT.nil)) (BT.node (o_93 P) (BT.node (o_127 P) (BT.node (o_193 P) BT.nil BT.nil) BT.nil) (BT.node (o_159 P) (BT.node (o_225 P) BT.nil BT.nil) BT.nil))) (BT.node (o_66 P) (BT.node (o_85 P) (BT.node (o_119 P) (BT.node (o_185 P) BT.nil BT.nil) (BT.node (o_249 P) BT.nil BT.nil)) (BT.node (o_151 P) (BT.node (o_217 P) BT.nil BT.nil) BT.nil)) (BT.node (o_101 P) (BT.node (o_135 P) (BT.node (o_201 P) BT.nil BT.nil) BT.nil) (BT.node (o_169 P) (BT.node (o_233 P) BT.nil BT.nil) BT.nil)))))) (BT.node (o_49 P) (BT.node (boot_o_4 P) (BT.node (boot_o_8 P) (BT.node (o_53 P) (BT.node (o_69 P) (BT.node (o_104 P) (BT.node (o_172 P) BT.nil BT.nil) (BT.node (o_236 P) BT.nil BT.nil)) (BT.node (o_138 P) (BT.node (o_204 P) BT.nil BT.nil) BT.nil)) (BT.node (o_88 P) (BT.node (o_122 P) (BT.node (o_188 P) BT.nil BT.nil) (BT.node (o_252 P) BT.nil BT.nil)) (BT.node (o_154 P) (BT.node (o_220 P) BT.nil BT.nil) BT.nil))) (BT.node (o_61 P) (BT.node (o_77 P) (BT.node (o_114 P) (BT.node (o_180 P) BT.nil BT.nil) (BT.node (o_244 P) BT.nil BT.nil)) (BT.node (o_146 P) (BT.node (o_212 P) BT.nil BT.nil) BT.nil)) (BT.node (o_96 P) (BT.node (o_130 P) (BT.node (o_196 P) BT.nil BT.nil) BT.nil) (BT.node (o_162 P) (BT.node (o_228 P) BT.nil BT.nil) BT.nil)))) (BT.node (o_166 P) (BT.node (o_57 P) (BT.node (o_73 P) (BT.node (o_110 P) (BT.node (o_176 P) BT.nil BT.nil) (BT.node (o_240 P) BT.nil BT.nil)) (BT.node (o_142 P) (BT.node (o_208 P) BT.nil BT.nil) BT.nil)) (BT.node (o_92 P) (BT.node (o_126 P) (BT.node (o_192 P) BT.nil BT.nil) (BT.node (o_256 P) BT.nil BT.nil)) (BT.node (o_158 P) (BT.node (o_224 P) BT.nil BT.nil) BT.nil))) (BT.node (o_65 P) (BT.node (o_84 P) (BT.node (o_118 P) (BT.node (o_184 P) BT.nil BT.nil) (BT.node (o_248 P) BT.nil BT.nil)) (BT.node (o_150 P) (BT.node (o_216 P) BT.nil BT.nil) BT.nil)) (BT.node (o_100 P) (BT.node (o_134 P) (BT.node (o_200 P) BT.nil BT.nil) BT.nil) (BT.node (o_168 P) (BT.node (o_232 P) BT.nil BT.nil) BT.nil))))) (BT.node (boot_o_6 P) (BT.node (boot_o_10 P) (BT.node (o_55 P) (BT.node (o_71 P) (BT.node (o_106 P) (BT.node (o_174 P) BT.nil BT.nil) (BT.node (o_238 P) BT.nil BT.nil)) (BT.node (o_140 P) (BT.node (o_206 P) BT.nil BT.nil) BT.nil)) (BT.node (o_90 P) (BT.node (o_124 P) (BT.node (o_190 P) BT.nil BT.nil) (BT.node (o_254 P) BT.nil BT.nil)) (BT.node (o_156 P) (BT.node (o_222 P) BT.nil BT.nil) BT.nil))) (BT.node (o_63 P) (BT.node (o_79 P) (BT.node (o_116 P) (BT.node (o_182 P) BT.nil BT.nil) (BT.node (o_246 P) BT.nil BT.nil)) (BT.node (o_148 P) (BT.node (o_214 P) BT.nil BT.nil) BT.nil)) (BT.node (o_98 P) (BT.node (o_132 P) (BT.node (o_198 P) BT.nil BT.nil) BT.nil) (BT.node (o_164 P) (BT.node (o_230 P) BT.nil BT.nil) BT.nil)))) (BT.node (o_46 P) (BT.node (o_59 P) (BT.node (o_75 P) (BT.node (o_112 P) (BT.node (o_178 P) BT.nil BT.nil) (BT.node (o_242 P) BT.nil BT.nil)) (BT.node (o_144 P) (BT.node (o_210 P) BT.nil BT.nil) BT.nil)) (BT.node (o_94 P) (BT.node (o_128 P) (BT.node (o_194 P) BT.nil BT.nil) BT.nil) (BT.node (o_160 P) (BT.node (o_226 P) BT.nil BT.nil) BT.nil))) (BT.node (o_67 P) (BT.node (o_86 P) (BT.node (o_120 P) (BT.node (o_186 P) BT.nil BT.nil) (BT.node (o_250 P) BT.nil BT.nil)) (BT.node (o_152 P) (BT.node (o_218 P) BT.nil BT.nil) BT.nil)) (BT.node (o_102 P) (BT.node (o_136 P) (BT.node (o_202 P) BT.nil BT.nil) BT.nil) (BT.node (o_170 P) (BT.node (o_234 P) BT.nil BT.nil) BT.nil))))))
noncomputable def tree_335 : Params → BT := fun P => BT.node (boot_o_0 P) (BT.node (boot_o_1 P) (BT.node (o_257 P) (BT.node (boot_o_7 P) (BT.node (o_52 P) (BT.node (o_68 P) (BT.node (o_103 P) (BT.node (o_171 P) (BT.node (o_301 P) BT.nil BT.nil) BT.nil) (BT.node (o_235 P) BT.nil BT.nil)) (BT.node (o_137 P) (BT.node (o_203 P) (BT.node (o_333 P) BT.nil BT.nil) BT.nil) (BT.node (o_269 P) BT.nil BT.nil))) (BT.node (o_87 P) (BT.node (o_121 P) (BT.node (o_187 P) (BT.node (o_317 P) BT.nil BT.nil) BT.nil) (BT.node (o_251 P) BT.nil BT.nil)) (BT.node (o_153 P) (BT.node (o_219 P) BT.nil BT.nil) (BT.node (o_285 P) BT.nil BT.nil)))) (BT.node (o_60 P) (BT.node (o_82 P) (BT.node (o_113 P) (BT.node (o_179 P) (BT.node (o_309 P) BT.nil BT.nil) BT.nil) (BT.node (o_243 P) BT.nil BT.nil)) (BT.node (o_145 P) (BT.node (o_211 P) BT.nil BT.nil) (BT.node (o_277 P) BT.nil BT.nil))) (BT.node (o_95 P) (BT.node (o_129 P) (BT.node (o_195 P) (BT.node (o_325 P) BT.nil BT.nil) BT.nil) (BT.node (o_261 P) BT.nil BT.nil)) (BT.node (o_161 P) (BT.node (o_227 P) BT.nil BT.nil) (BT.node (o_293 P) BT.nil BT.nil))))) (BT.node (o_43 P) (BT.node (o_56 P) (BT.node (o_72 P) (BT.node (o_109 P) (BT.node (o_175 P) (BT.node (o_305 P) BT.nil BT.nil) BT.nil) (BT.node (o_239 P) BT.nil BT.nil)) (BT.node (o_141 P) (BT.node (o_207 P) BT.nil BT.nil) (BT.node (o_273 P) BT.nil BT.nil))) (BT.node (o_91 P) (BT.node (o_125 P) (BT.node (o_191 P) (BT.node (o_321 P) BT.nil BT.nil) BT.nil) (BT.node (o_255 P) BT.nil BT.nil)) (BT.node (o_157 P) (BT.node (o_223 P) BT.nil BT.nil) (BT.node (o_289 P) BT.nil BT.nil)))) (BT.node (o_64 P) (BT.node (o_83 P) (BT.node (o_117 P) (BT.node (o_183 P) (BT.node (o_313 P) BT.nil BT.nil) BT.nil) (BT.node (o_247 P) BT.nil BT.nil)) (BT.node (o_149 P) (BT.node (o_215 P) BT.nil BT.nil) (BT.node (o_281 P) BT.nil BT.nil))) (BT.node (o_99 P) (BT.node (o_133 P) (BT.node (o_199 P) (BT.node (o_329 P) BT.nil BT.nil) BT.nil) (BT.node (o_265 P) BT.nil BT.nil)) (BT.node (o_167 P) (BT.node (o_231 P) BT.nil BT.nil) (BT.node (o_297 P) BT.nil BT.nil)))))) (BT.node (boot_o_5 P) (BT.node (boot_o_9 P) (BT.node (o_54 P) (BT.node (o_70 P) (BT.node (o_105 P) (BT.node (o_173 P) (BT.node (o_303 P) BT.nil BT.nil) BT.nil) (BT.node (o_237 P) BT.nil BT.nil)) (BT.node (o_139 P) (BT.node (o_205 P) (BT.node (o_335 P) BT.nil BT.nil) BT.nil) (BT.node (o_271 P) BT.nil BT.nil))) (BT.node (o_89 P) (BT.node (o_123 P) (BT.node (o_189 P) (BT.node (o_319 P) BT.nil BT.nil) BT.nil) (BT.node (o_253 P) BT.nil BT.nil)) (BT.node (o_155 P) (BT.node (o_221 P) BT.nil BT.nil) (BT.node (o_287 P) BT.nil BT.nil)))) (BT.node (o_62 P) (BT.node (o_78 P) (BT.node (o_115 P) (BT.node (o_181 P) (BT.node (o_311 P) BT.nil BT.nil) BT.nil) (BT.node (o_245 P) BT.nil BT.nil)) (BT.node (o_147 P) (BT.node (o_213 P) BT.nil BT.nil) (BT.node (o_279 P) BT.nil BT.nil))) (BT.node (o_97 P) (BT.node (o_131 P) (BT.node (o_197 P) (BT.node (o_327 P) BT.nil BT.nil) BT.nil) (BT.node (o_263 P) BT.nil BT.nil)) (BT.node (o_163 P) (BT.node (o_229 P) BT.nil BT.nil) (BT.node (o_295 P) BT.nil BT.nil))))) (BT.node (o_45 P) (BT.node (o_58 P) (BT.node (o_74 P) (BT.node (o_111 P) (BT.node (o_177 P) (BT.node (o_307 P) BT.nil BT.nil) BT.nil) (BT.node (o_241 P) BT.nil BT.nil)) (BT.node (o_143 P) (BT.node (o_209 P) BT.nil BT.nil) (BT.node (o_275 P) BT.nil BT.nil))) (BT.node (o_93 P) (BT.node (o_127 P) (BT.node (o_193 P) (BT.node (o_323 P) BT.nil BT.nil) BT.nil) (BT.node (o_259 P) BT.nil BT.nil)) (BT.node (o_159 P) (BT.node (o_225 P) BT.nil BT.nil) (BT.node (o_291 P) BT.nil BT.nil)))) (BT.node (o_66 P) (BT.node (o_85 P) (BT.node (o_119 P) (BT.node (o_185 P) (BT.node (o_315 P) BT.nil BT.nil) BT.nil) (BT.node (o_249 P) BT.nil BT.nil)) (BT.node (o_151 P) (BT.node (o_217 P) BT.nil BT.nil) (BT.node (o_283 P) BT.nil BT.nil))) (BT.node (o_101 P) (BT.node (o_135 P) (BT.node (o_201 P) (BT.node (o_331 P) BT.nil BT.nil) BT.nil) (BT.node (o_267 P) BT.nil BT.nil)) (BT.node (o_169 P) (BT.node (o_233 P) BT.nil BT.nil) (BT.node (o_299 P) BT.nil BT.nil))))))) (BT.node (o_49 P) (BT.node (boot_o_4 P) (BT.node (boot_o_8 P) (BT.node (o_53 P) (BT.node (o_69 P) (BT.node (o_104 P) (BT.node (o_172 P) (BT.node (o_302 P) BT.nil BT.nil) BT.nil) (BT.node (o_236 P) BT.nil BT.nil)) (BT.node (o_138 P) (BT.node (o_204 P) (BT.node (o_334 P) BT.nil BT.nil) BT.nil) (BT.node (o_270 P) BT.nil BT.nil))) (BT.node (o_88 P) (BT.node (o_122 P) (BT.node (o_188 P) (BT.node (o_318 P) BT.nil BT.nil) BT.nil) (BT.node (o_252 P) BT.nil BT.nil)) (BT.node (o_154 P) (BT.node (o_220 P) BT.nil BT.nil) (BT.node (o_286 P) BT.nil BT.nil)))) (BT.node (o_61 P) (BT.node (o_77 P) (BT.node (o_114 P) (BT.node (o_180 P) (BT.node (o_310 P) BT.nil BT.nil) BT.nil) (BT.node (o_244 P) BT.nil BT.nil)) (BT.node (o_146 P) (BT.node (o_212 P) BT.nil BT.nil) (BT.node (o_278 P) BT.nil BT.nil))) (BT.node (o_96 P) (BT.node (o_130 P) (BT.node (o_196 P) (BT.node (o_326 P) BT.nil BT.nil) BT.nil) (BT.node (o_262 P) BT.nil BT.nil)) (BT.node (o_162 P) (BT.node (o_228 P) BT.nil BT.nil) (BT.node (o_294 P) BT.nil BT.nil))))) (BT.node (o_258 P) (BT.node (o_57 P) (BT.node (o_73 P) (BT.node (o_110 P) (BT.node (o_176 P) (BT.node (o_306 P) BT.nil BT.nil) BT.nil) (BT.node (o_240 P) BT.nil BT.nil)) (BT.node (o_142 P) (BT.node (o_208 P) BT.nil BT.nil) (BT.node (o_274 P) BT.nil BT.nil))) (BT.node (o_92 P) (BT.node (o_126 P) (BT.node (o_192 P) (BT.node (o_322 P) BT.nil BT.nil) BT.nil) (BT.node (o_256 P) BT.nil BT.nil)) (BT.node (o_158 P) (BT.node (o_224 P) BT.nil BT.nil) (BT.node (o_290 P) BT.nil BT.nil)))) (BT.node (o_65 P) (BT.node (o_84 P) (BT.node (o_118 P) (BT.node (o_184 P) (BT.node (o_314 P) BT.nil BT.nil) BT.nil) (BT.node (o_248 P) BT.nil BT.nil)) (BT.node (o_150 P) (BT.node (o_216 P) BT.nil BT.nil) (BT.node (o_282 P) BT.nil BT.nil))) (BT.node (o_100 P) (BT.node (o_134 P) (BT.node (o_200 P) (BT.node (o_330 P) BT.nil BT.nil) BT.nil) (BT.node (o_266 P) BT.nil BT.nil)) (BT.node (o_168 P) (BT.node (o_232 P) BT.nil BT.nil) (BT.node (o_298 P) BT.nil BT.nil)))))) (BT.node (boot_o_6 P) (BT.node (boot_o_10 P) (BT.node (o_55 P) (BT.node (o_71 P) (BT.node (o_106 P) (BT.node (o_174 P) (BT.node (o_304 P) BT.nil BT.nil) BT.nil) (BT.node (o_238 P) BT.nil BT.nil)) (BT.node (o_140 P) (BT.node (o_206 P) BT.nil BT.nil) (BT.node (o_272 P) BT.nil BT.nil))) (BT.node (o_90 P) (BT.node (o_124 P) (BT.node (o_190 P) (BT.node (o_320 P) BT.nil BT.nil) BT.nil) (BT.node (o_254 P) BT.nil BT.nil)) (BT.node (o_156 P) (BT.node (o_222 P) BT.nil BT.nil) (BT.node (o_288 P) BT.nil BT.nil)))) (BT.node (o_63 P) (BT.node (o_79 P) (BT.node (o_116 P) (BT.node (o_182 P) (BT.node (o_312 P) BT.nil BT.nil) BT.nil) (BT.node (o_246 P) BT.nil BT.nil)) (BT.node (o_148 P) (BT.node (o_214 P) BT.nil BT.nil) (BT.node (o_280 P) BT.nil BT.nil))) (BT.node (o_98 P) (BT.node (o_132 P) (BT.node (o_198 P) (BT.node (o_328 P) BT.nil BT.nil) BT.nil) (BT.node (o_264 P) BT.nil BT.nil)) (BT.node (o_164 P) (BT.node (o_230 P) BT.nil BT.nil) (BT.node (o_296 P) BT.nil BT.nil))))) (BT.node (o_46 P) (BT.node (o_59 P) (BT.node (o_75 P) (BT.node (o_112 P) (BT.node (o_178 P) (BT.node (o_308 P) BT.nil BT.nil) BT.nil) (BT.node (o_242 P) BT.nil BT.nil)) (BT.node (o_144 P) (BT.node (o_210 P) BT.nil BT.nil) (BT.node (o_276 P) BT.nil BT.nil))) (BT.node (o_94 P) (BT.node (o_128 P) (BT.node (o_194 P) (BT.node (o_324 P) BT.nil BT.nil) BT.nil) (BT.node (o_260 P) BT.nil BT.nil)) (BT.node (o_160 P) (BT.node (o_226 P) BT.nil BT.nil) (BT.node (o_292 P) BT.nil BT.nil)))) (BT.node (o_67 P) (BT.node (o_86 P) (BT.node (o_120 P) (BT.node (o_186 P) (BT.node (o_316 P) BT.nil BT.nil) BT.nil) (BT.node (o_250 P) BT.nil BT.nil)) (BT.node (o_152 P) (BT.node (o_218 P) BT.nil BT.nil) (BT.node (o_284 P) BT.nil BT.nil))) (BT.node (o_102 P) (BT.node (o_136 P) (BT.node (o_202 P) (BT.node (o_332 P) BT.nil BT.nil) BT.nil) (BT.node (o_268 P) BT.nil BT.nil)) (BT.node (o_170 P) (BT.node (o_234 P) BT.nil BT.nil) (BT.node (o_300 P) BT.nil BT.nil)))))))
noncomputable def tree_354 : Params → BT := fun P => BT.node (boot_o_0 P) (BT.node (boot_o_1 P) (BT.node (o_336 P) (BT.node (boot_o_7 P) (BT.node (o_52 P) (BT.node (o_68 P) (BT.node (o_103 P) (BT.node (o_171 P) (BT.node (o_301 P) BT.nil BT.nil) BT.nil) (BT.node (o_235 P) BT.nil BT.nil)) (BT.node (o_137 P) (BT.node (o_203 P) (BT.node (o_333 P) BT.nil BT.nil) BT.nil) (BT.node (o_269 P) BT.nil BT.nil))) (BT.node (o_87 P) (BT.node (o_121 P) (BT.node (o_187 P) (BT.node (o_317 P) BT.nil BT.nil) BT.nil) (BT.node (o_251 P) BT.nil BT.nil)) (BT.node (o_153 P) (BT.node (o_219 P) (BT.node (o_351 P) BT.nil BT.nil) BT.nil) (BT.node (o_285 P) BT.nil BT.nil)))) (BT.node (o_60 P) (BT.node (o_82 P) (BT.node (o_113 P) (BT.node (o_179 P) (BT.node (o_309 P) BT.nil BT.nil) BT.nil) (BT.node (o_243 P) BT.nil BT.nil)) (BT.node (o_145 P) (BT.node (o_211 P) (BT.node (o_343 P) BT.nil BT.nil) BT.nil) (BT.node (o_277 P) BT.nil BT.nil))) (BT.node (o_95 P) (BT.node (o_129 P) (BT.node (o_195 P) (BT.node (o_325 P) BT.nil BT.nil) BT.nil) (BT.node (o_261 P) BT.nil BT.nil)) (BT.node (o_161 P) (BT.node (o_227 P) BT.nil BT.nil) (BT.node (o_293 P) BT.nil BT.nil))))) (BT.node (o_43 P) (BT.node (o_56 P) (BT.node (o_72 P) (BT.node (o_109 P) (BT.node (o_175 P) (BT.node (o_305 P) BT.nil BT.nil) BT.nil) (BT.node (o_239 P) BT.nil BT.nil)) (BT.node (o_141 P) (BT.node (o_207 P) (BT.node (o_339 P) BT.nil BT.nil) BT.nil) (BT.node (o_273 P) BT.nil BT.nil))) (BT.node (o_91 P) (BT.node (o_125 P) (BT.node (o_191 P) (BT.node (o_321 P) BT.nil BT.nil) BT.nil) (BT.node (o_255 P) BT.nil BT.nil)) (BT.node (o_157 P) (BT.node (o_223 P) BT.nil BT.nil) (BT.node (o_289 P) BT.nil BT.nil)))) (BT.node (o_64 P) (BT.node (o_83 P) (BT.node (o_117 P) (BT.node (o_183 P) (BT.node (o_313 P) BT.nil BT.nil) BT.nil) (BT.node (o_247 P) BT.nil BT.nil)) (BT.node (o_149 P) (BT.node (o_215 P) (BT.node (o_347 P) BT.nil BT.nil) BT.nil) (BT.node (o_281 P) BT.nil BT.nil))) (BT.node (o_99 P) (BT.node (o_133 P) (BT.node (o_199 P) (BT.node (o_329 P) BT.nil BT.nil) BT.nil) (BT.node (o_265 P) BT.nil BT.nil)) (BT.node (o_167 P) (BT.node (o_231 P) BT.nil BT.nil) (BT.node (o_297 P) BT.nil BT.nil)))))) (BT.node (boot_o_5 P) (BT.node (boot_o_9 P) (BT.node (o_54 P) (BT.node (o_70 P) (BT.node (o_105 P) (BT.node (o_173 P) (BT.node (o_303 P) BT.nil BT.nil) BT.nil) (BT.node (o_237 P) BT.nil BT.nil)) (BT.node (o_139 P) (BT.node (o_205 P) (BT.node (o_335 P) BT.nil BT.nil) BT.nil) (BT.node (o_271 P) BT.nil BT.nil))) (BT.node (o_89 P) (BT.node (o_123 P) (BT.node (o_189 P) (BT.node (o_319 P) BT.nil BT.nil) BT.nil) (BT.node (o_253 P) BT.nil BT.nil)) (BT.node (o_155 P) (BT.node (o_221 P) (BT.node (o_353 P) BT.nil BT.nil) BT.nil) (BT.node (o_287 P) BT.nil BT.nil)))) (BT.node (o_62 P) (BT.node (o_78 P) (BT.node (o_115 P) (BT.node (o_181 P) (BT.node (o_311 P) BT.nil BT.nil) BT.nil) (BT.node (o_245 P) BT.nil BT.nil)) (BT.node (o_147 P) (BT.node (o_213 P) (BT.node (o_345 P) BT.nil BT.nil) BT.nil) (BT.node (o_279 P) BT.nil BT.nil))) (BT.node (o_97 P) (BT.node (o_131 P) (BT.node (o_197 P) (BT.node (o_327 P) BT.nil BT.nil) BT.nil) (BT.node (o_263 P) BT.nil BT.nil)) (BT.node (o_163 P) (BT.node (o_229 P) BT.nil BT.nil) (BT.node (o_295 P) BT.nil BT.nil))))) (BT.node (o_45 P) (BT.node (o_58 P) (BT.node (o_74 P) (BT.node (o_111 P) (BT.node (o_177 P) (BT.node (o_307 P) BT.nil BT.nil) BT.nil) (BT.node (o_241 P) BT.nil BT.nil)) (BT.node (o_143 P) (BT.node (o_209 P) (BT.node (o_341 P) BT.nil BT.nil) BT.nil) (BT.node (o_275 P) BT.nil BT.nil))) (BT.node (o_93 P) (BT.node (o_127 P) (BT.node (o_193 P) (BT.node (o_323 P) BT.nil BT.nil) BT.nil) (BT.node (o_259 P) BT.nil BT.nil)) (BT.node (o_159 P) (BT.node (o_225 P) BT.nil BT.nil) (BT.node (o_291 P) BT.nil BT.nil)))) (BT.node (o_66 P) (BT.node (o_85 P) (BT.node (o_119 P) (BT.node (o_185 P) (BT.node (o_315 P) BT.nil BT.nil) BT.nil) (BT.node (o_249 P) BT.nil BT.nil)) (BT.node (o_151 P) (BT.node (o_217 P) (BT.node (o_349 P) BT.nil BT.nil) BT.nil) (BT.node (o_283 P) BT.nil BT.nil))) (BT.node (o_101 P) (BT.node (o_135 P) (BT.node (o_201 P) (BT.node (o_331 P) BT.nil BT.nil) BT.nil) (BT.node (o_267 P) BT.nil BT.nil)) (BT.node (o_169 P) (BT.node (o_233 P) BT.nil BT.nil) (BT.node (o_299 P) BT.nil BT.nil))))))) (BT.node (o_49 P) (BT.node (boot_o_4 P) (BT.node (boot_o_8 P) (BT.node (o_53 P) (BT.node (o_69 P) (BT.node (o_104 P) (BT.node (o_172 P) (BT.node (o_302 P) BT.nil BT.nil) BT.nil) (BT.node (o_236 P) BT.nil BT.nil)) (BT.node (o_138 P) (BT.node (o_204 P) (BT.node (o_334 P) BT.nil BT.nil) BT.nil) (BT.node (o_270 P) BT.nil BT.nil))) (BT.node (o_88 P) (BT.node (o_122 P) (BT.node (o_188 P) (BT.node (o_318 P) BT.nil BT.nil) BT.nil) (BT.node (o_252 P) BT.nil BT.nil)) (BT.node (o_154 P) (BT.node (o_220 P) (BT.node (o_352 P) BT.nil BT.nil) BT.nil) (BT.node (o_286 P) BT.nil BT.nil)))) (BT.node (o_61 P) (BT.node (o_77 P) (BT.node (o_114 P) (BT.node (o_180 P) (BT.node (o_310 P) BT.nil BT.nil) BT.nil) (BT.node (o_244 P) BT.nil BT.nil)) (BT.node (o_146 P) (BT.node (o_212 P) (BT.node (o_344 P) BT.nil BT.nil) BT.nil) (BT.node (o_278 P) BT.nil BT.nil))) (BT.node (o_96 P) (BT.node (o_130 P) (BT.node (o_196 P) (BT.node (o_326 P) BT.nil BT.nil) BT.nil) (BT.node (o_262 P) BT.nil BT.nil)) (BT.node (o_162 P) (BT.node (o_228 P) BT.nil BT.nil) (BT.node (o_294 P) BT.nil BT.nil))))) (BT.node (o_337 P) (BT.node (o_57 P) (BT.node (o_73 P) (BT.node (o_110 P) (BT.node (o_176 P) (BT.node (o_306 P) BT.nil BT.nil) BT.nil) (BT.node (o_240 P) BT.nil BT.nil)) (BT.node (o_142 P) (BT.node (o_208 P) (BT.node (o_340 P) BT.nil BT.nil) BT.nil) (BT.node (o_274 P) BT.nil BT.nil))) (BT.node (o_92 P) (BT.node (o_126 P) (BT.node (o_192 P) (BT.node (o_322 P) BT.nil BT.nil) BT.nil) (BT.node (o_256 P) BT.nil BT.nil)) (BT.node (o_158 P) (BT.node (o_224 P) BT.nil BT.nil) (BT.node (o_290 P) BT.nil BT.nil)))) (BT.node (o_65 P) (BT.node (o_84 P) (BT.node (o_118 P) (BT.node (o_184 P) (BT.node (o_314 P) BT.nil BT.nil) BT.nil) (BT.node (o_248 P) BT.nil BT.nil)) (BT.node (o_150 P) (BT.node (o_216 P) (BT.node (o_348 P) BT.nil BT.nil) BT.nil) (BT.node (o_282 P) BT.nil BT.nil))) (BT.node (o_100 P) (BT.node (o_134 P) (BT.node (o_200 P) (BT.node (o_330 P) BT.nil BT.nil) BT.nil) (BT.node (o_266 P) BT.nil BT.nil)) (BT.node (o_168 P) (BT.node (o_232 P) BT.nil BT.nil) (BT.node (o_298 P) BT.nil BT.nil)))))) (BT.node (boot_o_6 P) (BT.node (boot_o_10 P) (BT.node (o_55 P) (BT.node (o_71 P) (BT.node (o_106 P) (BT.node (o_174 P) (BT.node (o_304 P) BT.nil BT.nil) BT.nil) (BT.node (o_238 P) BT.nil BT.nil)) (BT.node (o_140 P) (BT.node (o_206 P) (BT.node (o_338 P) BT.nil BT.nil) BT.nil) (BT.node (o_272 P) BT.nil BT.nil))) (BT.node (o_90 P) (BT.node (o_124 P) (BT.node (o_190 P) (BT.node (o_320 P) BT.nil BT.nil) BT.nil) (BT.node (o_254 P) BT.nil BT.nil)) (BT.node (o_156 P) (BT.node (o_222 P) (BT.node (o_354 P) BT.nil BT.nil) BT.nil) (BT.node (o_288 P) BT.nil BT.nil)))) (BT.node (o_63 P) (BT.node (o_79 P) (BT.node (o_116 P) (BT.node (o_182 P) (BT.node (o_312 P) BT.nil BT.nil) BT.nil) (BT.node (o_246 P) BT.nil BT.nil)) (BT.node (o_148 P) (BT.node (o_214 P) (BT.node (o_346 P) BT.nil BT.nil) BT.nil) (BT.node (o_280 P) BT.nil BT.nil))) (BT.node (o_98 P) (BT.node (o_132 P) (BT.node (o_198 P) (BT.node (o_328 P) BT.nil BT.nil) BT.nil) (BT.node (o_264 P) BT.nil BT.nil)) (BT.node (o_164 P) (BT.node (o_230 P) BT.nil BT.nil) (BT.node (o_296 P) BT.nil BT.nil))))) (BT.node (o_46 P) (BT.node (o_59 P) (BT.node (o_75 P) (BT.node (o_112 P) (BT.node (o_178 P) (BT.node (o_308 P) BT.nil BT.nil) BT.nil) (BT.node (o_242 P) BT.nil BT.nil)) (BT.node (o_144 P) (BT.node (o_210 P) (BT.node (o_342 P) BT.nil BT.nil) BT.nil) (BT.node (o_276 P) BT.nil BT.nil))) (BT.node (o_94 P) (BT.node (o_128 P) (BT.node (o_194 P) (BT.node (o_324 P) BT.nil BT.nil) BT.nil) (BT.node (o_260 P) BT.nil BT.nil)) (BT.node (o_160 P) (BT.node (o_226 P) BT.nil BT.nil) (BT.node (o_292 P) BT.nil BT.nil)))) (BT.node (o_67 P) (BT.node (o_86 P) (BT.node (o_120 P) (BT.node (o_186 P) (BT.node (o_316 P) BT.nil BT.nil) BT.nil) (BT.node (o_250 P) BT.nil BT.nil)) (BT.node (o_152 P) (BT.node (o_218 P) (BT.node (o_350 P) BT.nil BT.nil) BT.nil) (BT.node (o_284 P) BT.nil BT.nil))) (BT.node (o_102 P) (BT.node (o_136 P) (BT.node (o_202 P) (BT.node (o_332 P) BT.nil BT.nil) BT.nil) (BT.node (o_268 P) BT.nil BT.nil)) (BT.node (o_170 P) (BT.node (o_234 P) BT.nil BT.nil) (BT.node (o_300 P) BT.nil BT.nil)))))))
noncomputable def heap_46 : Params → Heap := fun P => Heap.mk (Array.mk (boot_o_0 P :: boot_o_1 P :: boot_o_2 P :: boot_o_3 P :: boot_o_4 P :: boot_o_5 P :: boot_o_6 P :: boot_o_7 P :: boot_o_8 P :: boot_o_9 P :: boot_o_10 P :: o_43 P :: o_44 P :: o_45 P :: o_46 P :: [])) (Life.mk [] [] [] 0 [] [] false #[] [] 0 false false false 0 [2000, 10, 10] false 0 true [] [] 0 false)
noncomputable def heap_355 : Params → Heap := fun P => Heap.mk (Array.mk (boot_o_0 P :: boot_o_1 P :: o_49 P :: o_336 P :: boot_o_4 P :: boot_o_5 P :: boot_o_6 P :: boot_o_7 P :: boot_o_8 P :: boot_o_9 P :: boot_o_10 P :: o_43 P :: o_337 P :: o_45 P :: o_46 P :: o_52 P :: o_53 P :: o_54 P :: o_55 P :: o_56 P :: o_57 P :: o_58 P :: o_59 P :: o_60 P :: o_61 P :: o_62 P :: o_63 P :: o_64 P :: o_65 P :: o_66 P :: o_67 P :: o_68 P :: o_69 P :: o_70 P :: o_71 P :: o_72 P :: o_73 P :: o_74 P :: o_75 P :: o_82 P :: o_77 P :: o_78 P :: o_79 P :: o_83 P :: o_84 P :: o_85 P :: o_86 P :: o_87 P :: o_88 P :: o_89 P :: o_90 P :: o_91 P :: o_92 P :: o_93 P :: o_94 P :: o_95 P :: o_96 P :: o_97 P :: o_98 P :: o_99 P :: o_100 P :: o_101 P :: o_102 P :: o_103 P :: o_104 P :: o_105 P :: o_106 P :: o_109 P :: o_110 P :: o_111 P :: o_112 P :: o_113 P :: o_114 P :: o_115 P :: o_116 P :: o_117 P :: o_118 P :: o_119 P :: o_120 P :: o_121 P :: o_122 P :: o_123 P :: o_124 P :: o_125 P :: o_126 P :: o_127 P :: o_128 P :: o_129 P :: o_130 P :: o_131 P :: o_132 P :: o_133 P :: o_134 P :: o_135 P :: o_136 P :: o_137 P :: o_138 P :: o_139 P :: o_140 P :: o_141 P :: o_142 P :: o_143 P :: o_144 P :: o_145 P :: o_146 P :: o_147 P :: o_148 P :: o_149 P :: o_150 P :: o_151 P :: o_152 P :: o_153 P :: o_154 P :: o_155 P :: o_156 P :: o_157 P :: o_158 P :: o_159 P :: o_160 P :: o_161 P :: o_162 P :: o_163 P :: o_164 P :: o_167 P :: o_168 P :: o_169 P :: o_170 P :: o_171 P :: o_172 P :: o_173 P :: o_174 P :: o_175 P :: o_176 P :: o_177 P :: o_178 P :: o_179 P :: o_180 P :: o_181 P :: o_182 P :: o_183 P :: o_184 P :: o_185 P :: o_186 P :: o_187 P :: o_188 P :: o_189 P :: o_190 P :: o_191 P :: o_192 P :: o_193 P :: o_194 P :: o_195 P :: o_196 P :: o_197 P :: o_198 P :: o_199 P :: o_200 P :: o_201 P :: o_202 P :: o_203 P :: o_204 P :: o_205 P :: o_206 P :: o_207 P :: o_208 P :: o_209 P :: o_210 P :: o_211 P :: o_212 P :: o_213 P :: o_214 P :: o_215 P :: o_216 P :: o_217 P :: o_218 P :: o_219 P :: o_220 P :: o_221 P :: o_222 P :: o_223 P :: o_224 P :: o_225 P :: o_226 P :: o_227 P :: o_228 P :: o_229 P :: o_230 P :: o_231 P :: o_232 P :: o_233 P :: o_234 P :: o_235 P :: o_236 P :: o_237 P :: o_238 P :: o_239 P :: o_240 P :: o_241 P :: o_242 P :: o_243 P :: o_244 P :: o_245 P :: o_246 P :: o_247 P :: o_248 P :: o_249 P :: o_250 P :: o_251 P :: o_252 P :: o_253 P :: o_254 P :: o_255 P :: o_256 P :: o_259 P :: o_260 P :: o_261 P :: o_262 P :: o_263 P :: o_264 P :: o_265 P :: o_266 P :: o_267 P :: o_268 P :: o_269 P :: o_270 P :: o_271 P :: o_272 P :: o_273 P :: o_274 P :: o_275 P :: o_276 P :: o_277 P :: o_278 P :: o_279 P :: o_280 P :: o_281 P :: o_282 P :: o_283 P :: o_284 P :: o_285 P :: o_286 P :: o_287 P :: o_288 P :: o_289 P :: o_290 P :: o_291 P :: o_292 P :: o_293 P :: o_294 P :: o_295 P :: o_296 P :: o_297 P :: o_298 P :: o_299 P :: o_300 P :: o_301 P :: o_302 P :: o_303 P :: o_304 P :: o_305 P :: o_306 P :: o_307 P :: o_308 P :: o_309 P :: o_310 P :: o_311 P :: o_312 P :: o_313 P :: o_314 P :: o_315 P :: o_316 P :: o_317 P :: o_318 P :: o_319 P :: o_320 P :: o_321 P :: o_322 P :: o_323 P :: o_324 P :: o_325 P :: o_326 P :: o_327 P :: o_328 P :: o_329 P :: o_330 P :: o_331 P :: o_332 P :: o_333 P :: o_334 P :: o_335 P :: o_338 P :: o_339 P :: o_340 P :: o_341 P :: o_342 P :: o_343 P :: o_344 P :: o_345 P :: o_346 P :: o_347 P :: o_348 P :: o_349 P :: o_350 P :: o_351 P :: o_352 P :: o_353 P :: o_354 P :: [])) (Life.mk [] [] [] 0 [] [] false #[] [] 0 false false false 0 [2000, 10, 10] false 0 true [] [] 0 false)
end hd
/-- the program, its frame, its body's parts -/
noncomputable abbrev pg : Program := PySem.Challenge.rw_rg0263_01.row.toRowW.1
noncomputable def envT : Env := Env.mk pg.main.scope mainNs mainNs [] Str.empty none (Value.ref 13) (some 14) 0
noncomputable abbrev codeT : Code := .body (behindTheImports pg) envT
noncomputable def stsT (i n : Nat) : List Stmt := ((behindTheImports pg).drop i).take n
noncomputable abbrev lifeT : Life := Life.mk [] [] [] 0 [] [] false #[] [] 0 false false false 0 [2000, 10, 10] false 0 true [] [] 0 false
noncomputable abbrev shT (t : BT) (n toks : Nat) (os : OsState) : SharedT := SharedT.mk t n lifeT (Array.mk []) (Drawn.mk 0 0 0 0) toks os
noncomputable abbrev shH (h : Heap) (toks : Nat) (os : OsState) : Shared := Shared.mk h (Array.mk []) (Drawn.mk 0 0 0 0) toks os
abbrev annT : Option Value := some (.ref 6)
abbrev topT : List Frame := [topFrame ⟨0, 0, 0, 0⟩]
theorem go0 (w : World) (os : OsState) : topGo treeTable pg w 11 annT 12 (Shared.mk (boot_heap w.params) (Array.mk []) boot_drawn boot_toks os) (topStub pg) = some (shH (hd.heap_46 w.params) 187 os, Thread.mk (denote treeTable codeT) codeT ⟨0, 0, 0, 0⟩ topT) := by kernel_rfl
theorem blk0 (w : World) (os : OsState) : segRun treeTable pg w 11 annT 1 1 (shH (hd.heap_46 w.params) 187 os) (blockOf (behindTheImports pg) envT codeT ⟨0, 0, 0, 0⟩ topT) = some (.next, (shT (hd.tree_47 w.params) 15 187 os).abs, codeT, ⟨0, 0, 0, 0⟩) := by kernel_rfl
theorem seg0 (w : World) (os : OsState) : segRunT treeTable pg w 11 annT 1 272 (shT (hd.tree_47 w.params) 15 187 os) (piecesOf (stsT 0 2) envT codeT ⟨0, 0, 0, 0⟩ topT) = some (.next, shT (hd.tree_79 w.params) 43 227 os, codeT, ⟨2, 0, 10, 35⟩) := by kernel_rfl
theorem seg1 (w : World) (os : OsState) : segRunT treeTable pg w 11 annT 1 379 (shT (hd.tree_79 w.params) 43 227 os) (piecesOf (stsT 2 15) envT codeT ⟨2, 0, 10, 35⟩ topT) = some (.next, shT (hd.tree_106 w.params) 67 282 os, codeT, ⟨31, 0, 31, 10⟩) := by kernel_rfl
theorem seg2 (w : World) (os : OsState) : segRunT treeTable pg w 11 annT 1 380 (shT (hd.tree_106 w.params) 67 282 os) (piecesOf (stsT 17 5) envT codeT ⟨31, 0, 31, 10⟩ topT) = some (.next, shT (hd.tree_164 w.params) 123 356 os, codeT, ⟨49, 0, 59, 49⟩) := by kernel_rfl
theorem seg3 (w : World) (os : OsState) : segRunT treeTable pg w 11 annT 1 390 (shT (hd.tree_164 w.params) 123 356 os) (piecesOf (stsT 22 13) envT codeT ⟨49, 0, 59, 49⟩ topT) = some (.next, shT (hd.tree_256 w.params) 213 460 os, codeT, ⟨104, 0, 105, 37⟩) := by kernel_rfl
theorem seg4 (w : World) (os : OsState) : segRunT treeTable pg w 11 annT 1 368 (shT (hd.tree_256 w.params) 213 460 os) (piecesOf (stsT 35 14) envT codeT ⟨104, 0, 105, 37⟩ topT) = some (.next, shT (hd.tree_335 w.params) 290 555 os, codeT, ⟨162, 0, 166, 23⟩) := by kernel_rfl
theorem seg5 (w : World) (os : OsState) : segRunT treeTable pg w 11 annT 1 87 (shT (hd.tree_335 w.params) 290 555 os) (piecesOf (stsT 49 3) envT codeT ⟨162, 0, 166, 23⟩ topT) = some (.next, shT (hd.tree_354 w.params) 307 579 os, codeT, ⟨178, 0, 192, 54⟩) := by kernel_rfl
theorem fin0 (w : World) (os : OsState) : topRun treeTable pg w 11 annT 2 (shT (hd.tree_354 w.params) 307 579 os).abs (Thread.mk (doneF .next) codeT ⟨178, 0, 192, 54⟩ topT) = some (shH (hd.heap_355 w.params) 579 os) := by kernel_rfl
theorem runT (w : World) (os : OsState) : topRun treeTable pg w 11 annT (12 + (1 + (272 + (379 + (380 + (390 + (368 + (87 + 2)))))))) (Shared.mk (boot_heap w.params) (Array.mk []) boot_drawn boot_toks os) (topStub pg) = some (shH (hd.heap_355 w.params) 579 os) :=
  go_top (go0 w os) (piece_block (blk0 w os) (piece_app (segRun_of (seg0 w os)) (piece_app (segRun_of (seg1 w os)) (piece_app (segRun_of (seg2 w os)) (piece_app (segRun_of (seg3 w os)) (piece_app (segRun_of (seg4 w os)) (piece_app (rest := []) (segRun_of (seg5 w os)) (fin0 w os))))))))
abbrev loose39 : List Str := [Str.ofString "GateError", Str.ofString "unpack_classic"]
theorem keysK : ∀ P, hd.as_39 = (hd.heap_39 P).map (·.1) := fun _ => by kernel_rfl
theorem and2 {a b : Bool} (ha : a = true) (hb : b = true) : (a && b) = true := by rw [ha, hb]; rfl
theorem said : OpenLaw.wellSaid PySem.Challenge.rw_rg0263_01 = true := by
  unfold OpenLaw.wellSaid OpenRow.wellSaid OpenRow.partSaid looksOpen
  repeat' (with_reducible apply and2)
  all_goals (as_aux_lemma => kernel_rfl)
theorem open0 : opening pg = plainProg pg.main.scope.names := by kernel_rfl
theorem fence0 (s : Shared) : fenceModules? pg s = some s := by kernel_rfl
theorem open1 : ∀ w : World, (fencedOpening treeTable pg w 3900).map (fun s => (s.heap, s.gens, s.drawn, s.toks)) = some (boot_heap w.params, Array.mk [], boot_drawn, boot_toks) := boot_open open0 rfl fence0
theorem size0 (w : World) : ((boot_heap w.params).isNs mainGlobals && (Array.mk [] : Array GenState).size == 0, (boot_heap w.params).objs.size, (boot_heap w.params).nsMap mainGlobals "__annotations__") = (true, 11, annT) := by kernel_rfl
noncomputable abbrev ends0 (w : World) (os : OsState) : Shared := shH (hd.heap_355 w.params) 579 os
noncomputable abbrev mods0 : List Str := importedModules pg.main.body
noncomputable abbrev Xt0 : Shared → Bool := fun s => xlAt hd.view_39 [] s && recOk (RowW.records PySem.Challenge.rw_rg0263_01.row.toRowW) s
theorem lkA (w : World) (os : OsState) : staticsOk mods0 (boot_heap w.params) (hd.heap_355 w.params) = true := by kernel_rfl
theorem lkB (w : World) (os : OsState) : namesBound pg (hd.heap_355 w.params) = true := by kernel_rfl
theorem lkC (w : World) (os : OsState) : gensDone (ends0 w os) = true := by kernel_rfl
theorem lkD (w : World) (os : OsState) : laidKept (boot_heap w.params) (hd.heap_355 w.params) = true := by kernel_rfl
theorem lk1 (w : World) (os : OsState) : (openSeen hd.view_39 loose39 mods0 Xt0 true (ends0 w os)).1 = expectedOf hd.view_39 := by kernel_rfl
theorem lk2 (w : World) (os : OsState) : (openSeen hd.view_39 loose39 mods0 Xt0 true (ends0 w os)).2.1 = bltViewBooted := by kernel_rfl
theorem lk3 (w : World) (os : OsState) : (openSeen hd.view_39 loose39 mods0 Xt0 true (ends0 w os)).2.2.1 = true := by kernel_rfl
theorem lk4 (w : World) (os : OsState) : (openSeen hd.view_39 loose39 mods0 Xt0 true (ends0 w os)).2.2.2.1 = true := by kernel_rfl
theorem lk5 (w : World) (os : OsState) : (openSeen hd.view_39 loose39 mods0 Xt0 true (ends0 w os)).2.2.2.2.1 = pinGoodD (drecsOf hd.view_39) := by kernel_rfl
theorem lk6 (w : World) (os : OsState) : (openSeen hd.view_39 loose39 mods0 Xt0 true (ends0 w os)).2.2.2.2.2.1 = plainGoodE hd.view_39 (looseW hd.view_39 loose39) := by kernel_rfl
theorem lk7 (w : World) (os : OsState) : (openSeen hd.view_39 loose39 mods0 Xt0 true (ends0 w os)).2.2.2.2.2.2.1 = plainGoodD hd.view_39 loose39 := by kernel_rfl
theorem lk8 (w : World) (os : OsState) : (openSeen hd.view_39 loose39 mods0 Xt0 true (ends0 w os)).2.2.2.2.2.2.2.1 = wideGood hd.view_39 := by kernel_rfl
theorem lk9 (w : World) (os : OsState) : (openSeen hd.view_39 loose39 mods0 Xt0 true (ends0 w os)).2.2.2.2.2.2.2.2 = clsGoodW hd.view_39 loose39 := by kernel_rfl
theorem lkY (w : World) (os : OsState) : Hook.obs (kHook hd.heap_39 hd.as_39 keysK) (ends0 w os) = Hook.val (kHook hd.heap_39 hd.as_39 keysK) w := by kernel_rfl
theorem seen_good {q : Program} {loose mods : List Str} {Xt : Shared → Bool} {s : Shared}
    (h1 : (openSeen q loose mods Xt true s).1 = expectedOf q)
    (h2 : (openSeen q loose mods Xt true s).2.1 = bltViewBooted)
    (h3 : (openSeen q loose mods Xt true s).2.2.1 = true)
    (h4 : (openSeen q loose mods Xt true s).2.2.2.1 = true)
    (h5 : (openSeen q loose mods Xt true s).2.2.2.2.1 = pinGoodD (drecsOf q))
    (h6 : (openSeen q loose mods Xt true s).2.2.2.2.2.1 = plainGoodE q (looseW q loose))
    (h7 : (openSeen q loose mods Xt true s).2.2.2.2.2.2.1 = plainGoodD q loose)
    (h8 : (openSeen q loose mods Xt true s).2.2.2.2.2.2.2.1 = wideGood q)
    (h9 : (openSeen q loose mods Xt true s).2.2.2.2.2.2.2.2 = clsGoodW q loose) : openSeen q loose mods Xt true s = openGood q loose :=
  Prod.ext h1 (Prod.ext h2 (Prod.ext h3 (Prod.ext h4 (Prod.ext h5 (Prod.ext h6 (Prod.ext h7 (Prod.ext h8 h9)))))))
theorem lkS (w : World) (os : OsState) : openSeen hd.view_39 loose39 mods0 Xt0 true (ends0 w os) = openGood hd.view_39 loose39 :=
  seen_good (lk1 w os) (lk2 w os) (lk3 w os) (lk4 w os) (lk5 w os) (lk6 w os) (lk7 w os) (lk8 w os) (lk9 w os)
theorem trip {α β γ : Type} {a a' : α} {b b' : β} {c c' : γ} (x : a = a') (y : b = b') (z : c = c') : (a, b, c) = (a', b', c') := by rw [x, y, z]
theorem looks0 (w : World) : (fun os : OsState => ((staticsOk mods0 (boot_heap w.params) (hd.heap_355 w.params) && namesBound pg (hd.heap_355 w.params) && gensDone (ends0 w os) && laidKept (boot_heap w.params) (hd.heap_355 w.params)),
        openSeen hd.view_39 loose39 mods0 Xt0 true (ends0 w os), Hook.obs (kHook hd.heap_39 hd.as_39 keysK) (ends0 w os))) = fun _ => (true, openGood hd.view_39 loose39, Hook.val (kHook hd.heap_39 hd.as_39 keysK) w) :=
  funext fun os => trip (and2 (and2 (and2 (lkA w os) (lkB w os)) (lkC w os)) (lkD w os)) (lkS w os) (lkY w os)
theorem left : LeftO PySem.Challenge.rw_rg0263_01.row.toRowW.prog hd.view_39 loose39 (fun s => xlAt hd.view_39 [] s && recOk (RowW.records PySem.Challenge.rw_rg0263_01.row.toRowW) s) (Hook.obs (kHook hd.heap_39 hd.as_39 keysK)) (Hook.val (kHook hd.heap_39 hd.as_39 keysK)) 3900 :=
  LeftO.of_pieces (p := pg) open1 size0 runT (by decide) looks0
local macro_rules | `(tactic| walk_at $s:str) => `(tactic| k_extra $s)
theorem fill_K (w : World) : PySem.Challenge.rw_rg0263_01.prog = PySem.Challenge.rw_rg0263_01.prog ∧ hd.heap_39 w.params = hd.heap_39 w.params := by
  k_fill
  exact ⟨rfl, rfl⟩

/-- where a call is made from: the frames below, the caller's frame, the written part, the top -/
structure Cx (w : World) (p : Program) (lo : List Str) (mean : ExcName → Option Value) (mg mb : Str → Option Value) (A₀ : Around) (base : Heap) (outer : List Env) (h₀ : Heap) (L : Addr) (h : Heap) (m : Str → Option Value) (cs : Scope) : Prop where
  B : Below A₀ base outer h₀
  F : Fr h₀ L h m
  X : (hd.heap_39 w.params).In h₀
  T : Top p lo mean mg mb h₀
  k : cs.kind = .function

/-- the dict of an order -/
abbrev ordD (P : Params) (t1 t2 t3 t4 : Tok) (v1 v2 v3 v4 : Value) : Obj := dictOf [⟨PyData.keyHash P (Str.ofString "code"), .str (Str.ofString "code") t1, v1⟩, ⟨PyData.keyHash P (Str.ofString "jt"), .str (Str.ofString "jt") t2, v2⟩, ⟨PyData.keyHash P (Str.ofString "jf"), .str (Str.ofString "jf") t3, v3⟩, ⟨PyData.keyHash P (Str.ofString "k"), .str (Str.ofString "k") t4, v4⟩] 4

section
variable {w : World} {p : Program} {lo : List Str} {mean : ExcName → Option Value} {mg mb : Str → Option Value} {dp un : Nat} {gd : Option (List Code)} {cn : Str} {cs : Scope} {a : Addr} {ccd : Value} {cl : List (Str × Addr)} {outer : List Env} {A₀ : Around} {base h₀ : Heap} {L : Addr} {m : Str → Option Value} {s : Shared} {Q E : Value → Shared → Prop} {news : List (Addr × Obj)}

theorem mk (c : Cx w p lo mean mg mb A₀ base outer h₀ L s.heap m cs) (N : News h₀ L s.heap news) (v1 v2 v3 v4 : Value) (hd : dp + 2 < recursionLimit)
  (ret : ∀ x dx t1 t2 t3 t4 h' tk', Fr h₀ L h' m → News h₀ L h' ((x, instObj 90 dx) :: (dx, ordD w.params t1 t2 t3 t4 v1 v2 v3 v4) :: news) → (∀ p ∈ news, p.1 < dx) → dx < x → Q (.ref x) { s with heap := h', toks := tk' }) :
  wpAny (model PySem.Challenge.rw_rg0263_01.row.prog w) (ktrTop dp un gd cn cs L a ccd cl outer) (call (.ref 90) [v1, v2, v3, v4]) Q E s := by
  k_with_none
  obtain ⟨B, F, X, T, hk⟩ := c
  k_dflt (refine' call_cls ?k1 ?k2 ?k3 ?k4 ?k5 ?k6 ?_; (case k1 => k_asm); (case k2 => k_asm); (case k3 => k_asm); (case k4 => k_is); (case k5 => k_is); (case k6 => k_is); k_whole; intro x' d' h' F' N' l1 l2; (try k_lt2 l2); (try k_sweep))
  k_dflt ktr_enter
  k_steps
  refine' ret _ _ _ _ _ _ _ _ ?F ?N l1 l2
  case F => k_asm
  case N => k_asm
end
/-- what an operator gives on two ints -/
inductive Iop : Operator → Int → Int → Int → Prop
  | add {a b} : Iop .Add a b (a + b)
  | sub {a b} : Iop .Sub a b (a - b)
  | mod {a b} : 0 < b → Iop .Mod a b (a.fmod b)
  | div {a b} : 0 < b → b < 1073741824 → Iop .FloorDiv a b (a.fdiv b)
  | pow {a b} : a.natAbs < 2 ^ 64 → 0 ≤ b → b ≤ 1000000 → Iop .Pow a b (a ^ b.toNat)
/-- the fields of an order -/
inductive OrdF (v1 v2 v3 v4 : Value) : Str → Value → Prop
  | code : OrdF v1 v2 v3 v4 (Str.ofString "code") v1
  | jt : OrdF v1 v2 v3 v4 (Str.ofString "jt") v2
  | jf : OrdF v1 v2 v3 v4 (Str.ofString "jf") v3
  | k : OrdF v1 v2 v3 v4 (Str.ofString "k") v4
/-- the values of simple expressions: names, ints, sums .. of these, items of lists at hand, fields of orders at hand -/
inductive Sev (w : World) (env : Env) (m : Str → Option Value) (led : List (Addr × Obj)) : Expr → Nat → Value → Nat → Prop
  | loc {x pos tk v} : env.kindOf x = some .local → m x = some v → (x == ("__debug__" : Str)) = false → Sev w env m led (.Name x pos) tk v tk
  | glo {x pos tk v} : env.kindOf x = some .globalImplicit → nsIn (hd.heap_39 w.params) mainGlobals x = some (some v) → (x == ("__debug__" : Str)) = false → Sev w env m led (.Name x pos) tk v tk
  | int {i k pos tk} : Sev w env m led (.Constant (.int i) k pos) tk (.int i tk) (tk + 1)
  | bin {l op r pos tk a ta t1 b tb t2 i} : Sev w env m led l tk (.int a ta) t1 → Sev w env m led r t1 (.int b tb) t2 → Iop op a b i → Sev w env m led (.BinOp l op r pos) tk (.int i t2) (t2 + 1)
  | item {e i pos tk l t1 k tt t2 its nn v} : Sev w env m led e tk (.ref l) t1 → Sev w env m led i t1 (.int k tt) t2 → (l, listOf (List.toArray its) nn) ∈ led → 0 ≤ k → k < 2 ^ 63 → its[k.toNat]? = some v → Sev w env m led (.Subscript e i pos) tk v t2
  | fld {x xp name pos tk o dx u1 u2 u3 u4 v1 v2 v3 v4 v t1} : Sev w env m led (.Name x xp) tk (.ref o) t1 → (o, instObj 90 dx) ∈ led → (dx, ordD w.params u1 u2 u3 u4 v1 v2 v3 v4) ∈ led → OrdF v1 v2 v3 v4 name v → handedIn v = true → Sev w env m led (.Attribute (.Name x xp) name pos) tk v (t1 + 1)
inductive Sargs (w : World) (env : Env) (m : Str → Option Value) (led : List (Addr × Obj)) : List Expr → Nat → List Value → Nat → Prop
  | nil {tk} : Sargs w env m led [] tk [] tk
  | cons {e r tk v t1 vs t2} : Sev w env m led e tk v t1 → Sargs w env m led r t1 vs t2 → Sargs w env m led (e :: r) tk (v :: vs) t2
inductive CmpI : CmpOp → Int → Int → Bool → Prop
  | lt {a b} : CmpI .Lt a b (decide (a < b))
  | le {a b} : CmpI .LtE a b (decide (a ≤ b))
  | gt {a b} : CmpI .Gt a b (decide (b < a))
  | ge {a b} : CmpI .GtE a b (decide (b ≤ a))
  | eq {a b} : CmpI .Eq a b (a == b)
  | ne {a b} : CmpI .NotEq a b (a != b)
section
variable {prog : Program} {w : World} {env : Env} {m mg mb : Str → Option Value} {A : Around} {E : Value → Shared → Prop} {h₀ : Heap} {p : Program} {lo : List Str} {led : List (Addr × Obj)}
theorem Iop.ok {op : Operator} {a b i : Int} {ta tb : Tok} {Q : Value → Shared → Prop} {s : Shared} (h : Iop op a b i) (hq : Q (.int i s.toks) { s with toks := s.toks + 1 }) :
    wpAny (model prog w) A (binaryOp op (.int a ta) (.int b tb)) Q E s := by
  cases h with
  | add => exact PyProof.Rows.add_int hq
  | sub => exact PyProof.Rows.sub_int' hq
  | mod hb => exact PyProof.Rows.mod_int' (Int.ne_of_gt hb) hq
  | div hb h2 => exact PyProof.Rows.floordiv_int (Int.ne_of_gt hb) hq (Or.inl (PyProof.noPylong_small (by omega)))
  | pow h1 h2 h3 => exact PyProof.Rows.pow_int_small h2 h3 h1 hq
/-- what a heap bears: the names at hand, the module's, the written part, the ledger -/
structure Sx (w : World) (env : Env) (m mg : Str → Option Value) (led : List (Addr × Obj)) (h : Heap) : Prop where
  ns : h.Ns env.locals m
  gl : h.Ns mainGlobals mg
  X : (hd.heap_39 w.params).In h
  mg : ∀ x v, nsIn (hd.heap_39 w.params) mainGlobals x = some (some v) → mg x = some v
  led : ∀ q ∈ led, h.get? q.1 = some q.2
theorem Sx.of {h : Heap} (F : Fr h₀ env.locals h m) (X : (hd.heap_39 w.params).In h₀) (T : TopRead p lo mg mb h₀) (N : News h₀ env.locals h led) : Sx w env m mg led h :=
  ⟨F.ns, T.g.keeps F.keep, X.keeps F.keep, fun _ _ e => mg_of X T.g e, fun q hq => (N q hq).1⟩
theorem OrdF.ok {x dx : Addr} {u1 u2 u3 u4 : Tok} {v1 v2 v3 v4 v : Value} {name : Str} {expr : Bool} {Q : Value → Shared → Prop} {s : Shared} (hf : OrdF v1 v2 v3 v4 name v) (X : (hd.heap_39 w.params).In s.heap)
    (h1 : s.heap.get? x = some (instObj 90 dx)) (h2 : s.heap.get? dx = some (ordD w.params u1 u2 u3 u4 v1 v2 v3 v4)) (hv : handedIn v = true) (h : Q v { s with toks := s.toks + 1 }) : wpAny (model prog w) A (getAttr (.ref x) name expr) Q E s := by
  have I : InstAt s.heap x (instObj 90 dx) 90 (some (ordD w.params u1 u2 u3 u4 v1 v2 v3 v4)) := ⟨h1, rfl, rfl, h2⟩
  cases hf
  · exact get_value X I (plainGet_of (K := hd.heap_39 w.params) (C := 90) (name := Str.ofString "code") (by k_is)).1 (findObj_own (K := hd.heap_39 w.params) (C := 90) (name := Str.ofString "code") (attr := none) (by k_is) (by k_is) (by k_is) (by rw [lookIn_dict]; k_get)) hv h
  · exact get_value X I (plainGet_of (K := hd.heap_39 w.params) (C := 90) (name := Str.ofString "jt") (by k_is)).1 (findObj_own (K := hd.heap_39 w.params) (C := 90) (name := Str.ofString "jt") (attr := none) (by k_is) (by k_is) (by k_is) (by rw [lookIn_dict]; k_get)) hv h
  · exact get_value X I (plainGet_of (K := hd.heap_39 w.params) (C := 90) (name := Str.ofString "jf") (by k_is)).1 (findObj_own (K := hd.heap_39 w.params) (C := 90) (name := Str.ofString "jf") (attr := none) (by k_is) (by k_is) (by k_is) (by rw [lookIn_dict]; k_get)) hv h
  · exact get_value X I (plainGet_of (K := hd.heap_39 w.params) (C := 90) (name := Str.ofString "k") (by k_is)).1 (findObj_own (K := hd.heap_39 w.params) (C := 90) (name := Str.ofString "k") (attr := none) (by k_is) (by k_is) (by k_is) (by rw [lookIn_dict]; k_get)) hv h
theorem Sev.plain {e : Expr} {tk tk' : Nat} {v : Value} (h : Sev w env m led e tk v tk') : (∀ rest, starEach (e :: rest) env = (false, eval e env) :: starEach rest env) ∧ (∀ op, behindInMarks op e = false) ∧ (∀ o k u, subscripted e false o (.int k u) = operate [o, .int k u] (getItem o (.int k u))) := by
  cases h <;> exact ⟨fun _ => rfl, fun _ => rfl, fun _ _ _ => by with_unfolding_all rfl⟩
theorem Sev.ok (hk : env.scope.kind = .function) (hg : env.globals = mainGlobals) {e : Expr} {tk tk' : Nat} {v : Value} (h : Sev w env m led e tk v tk') : ∀ {Q : Value → Shared → Prop} {s : Shared},
    Sx w env m mg led s.heap → s.toks = tk → Q v { s with toks := tk' } → wpAny (model prog w) A (eval e env) Q E s := by
  induction h with
  | loc hx hm hd => intro Q s S ht hq; subst ht; exact wpAny_Name (wpAny_loadName_local hk hx S.ns hm hq) hd
  | glo hx hm hd => intro Q s S ht hq; subst ht; exact PySem.Calls.Name_function_global hk hx (PySem.Calls.loadGlobal_global (show s.heap.Ns env.globals mg from hg ▸ S.gl) (S.mg _ _ hm) hq) hd
  | int => intro Q s S ht hq; subst ht; exact wpAny_Constant_int hq
  | bin _ _ hi ih1 ih2 =>
    intro Q s S ht hq
    exact wpAny_BinOp (ih1 S ht (ih2 (s := { s with toks := _ }) S rfl (hi.ok hq)))
  | @item e i pos tk l t1 k tt t2 its nn v _ h2 hm h0 h63 hx ih1 ih2 =>
    intro Q s S ht hq
    refine Subscript_ (ih1 S ht (ih2 (s := { s with toks := t1 }) S rfl ?_))
    have hl : s.heap.IsList l its.toArray := ⟨_, S.led _ hm, rfl, nn, rfl⟩
    exact tail_any (s := { s with toks := t2 }) (Heap.IsList.typeIs hl) slot_list_getitem.lookup (wpAny_getItem_list hl h0 h63 (by simpa using hx) hq) (h2.plain.2.2 _ _ _)
  | @fld x xp name pos tk o dx u1 u2 u3 u4 v1 v2 v3 v4 v t1 _ h1 h2 hf hv ih =>
    intro Q s S ht hq
    exact Attribute_Name_ (ih S ht (hf.ok (s := { s with toks := t1 }) S.X (S.led _ h1) (S.led _ h2) hv hq))
theorem Sargs.ok (hk : env.scope.kind = .function) (hg : env.globals = mainGlobals) {pos : Pos} {es : List Expr} {tk tk' : Nat} {vs : List Value} (h : Sargs w env m led es tk vs tk') : ∀ {Q : List Value → Shared → Prop} {s : Shared},
    Sx w env m mg led s.heap → s.toks = tk → Q vs { s with toks := tk' } → wpAny (model prog w) A (spliced (backTo pos (starEach es env))) Q E s ∧ (backTo pos (starEach es env)).any (·.1) = false := by
  induction h with
  | nil => intro Q s S ht hq; subst ht; exact ⟨PySem.Calls.spliced_nil hq, rfl⟩
  | @cons e r tk v t1 vs t2 h1 _ ih =>
    intro Q s S ht hq
    rw [h1.plain.1 r]
    have z := ih (Q := fun vs s' => Q (v :: vs) s') (s := { s with toks := t1 }) S rfl hq
    exact ⟨PySem.Calls.spliced_cons (h1.ok hk hg S ht z.1), z.2⟩
variable {s : Shared} {v : Value} {tk' : Nat}
theorem evalS {e : Expr} {Q : Value → Shared → Prop} (F : Fr h₀ env.locals s.heap m) (X : (hd.heap_39 w.params).In h₀) (T : TopRead p lo mg mb h₀) (N : News h₀ env.locals s.heap led) (h1 : Sev w env m led e s.toks v tk') (h : Q v { s with toks := tk' }) (hk : env.scope.kind = .function) (hg : env.globals = mainGlobals) :
    wpAny (model prog w) A (eval e env) Q E s := h1.ok hk hg (.of F X T N) rfl h
theorem testS {l r : Expr} {op : CmpOp} {pos : Pos} {whole : Sem Value} {a b : Int} {ta tb : Tok} {t1 : Nat} {c : Bool} {Q : Bool → Shared → Prop} (F : Fr h₀ env.locals s.heap m) (X : (hd.heap_39 w.params).In h₀) (T : TopRead p lo mg mb h₀) (N : News h₀ env.locals s.heap led)
    (h1 : Sev w env m led l s.toks (.int a ta) t1) (h2 : Sev w env m led r t1 (.int b tb) tk') (hc : CmpI op a b c) (h : Q c { s with toks := tk' }) (hk : env.scope.kind = .function) (hg : env.globals = mainGlobals) :
    wpAny (model prog w) A (isTrue (.Compare l [op] [r] pos) env whole) Q E s := by
  refine wpAny_isTrue_Compare1 (h1.ok hk hg (.of F X T N) rfl (h2.ok (s := { s with toks := t1 }) hk hg (.of F X T N) rfl ?_)) (h2.plain.2.1 _)
  cases hc with
  | eq => exact PyProof.Rows.eq_int (wpAny_truthy_bool h)
  | ne => exact PyProof.Rows.ne_int (wpAny_truthy_bool h)
  | lt => exact PyProof.Rows.lt_int (wpAny_truthy_bool h)
  | le => exact PyProof.Rows.le_int (wpAny_truthy_bool h)
  | gt => exact PyProof.Rows.gt_int (wpAny_truthy_bool h)
  | ge => exact PyProof.Rows.ge_int (wpAny_truthy_bool h)
theorem callS {fx : Str} {pf pos : Pos} {es : List Expr} {fa : Addr} {vs : List Value} {Q : Value → Shared → Prop} (F : Fr h₀ env.locals s.heap m) (X : (hd.heap_39 w.params).In h₀) (T : TopRead p lo mg mb h₀) (N : News h₀ env.locals s.heap led)
    (h0 : Sev w env m led (.Name fx pf) s.toks (.ref fa) s.toks) (hkeep : keepIn (hd.heap_39 w.params) (.ref fa) = true) (h1 : Sargs w env m led es s.toks vs tk') (h : wpAny (model prog w) A (call (.ref fa) vs) Q E { s with toks := tk' }) (hk : env.scope.kind = .function) (hg : env.globals = mainGlobals) :
    wpAny (model prog w) A (eval (.Call (.Name fx pf) es [] pos) env) Q E s := by
  refine PyProof.Rows.Call_ (h0.ok hk hg (.of F X T N) rfl ?_)
  cases h1 with
  | nil => exact callWith_K0 (X.keeps F.keep) hkeep h
  | @cons e r _ v t1 vs _ h1 h2 =>
    have z := Sargs.ok (prog := prog) (w := w) (A := A) (E := E) hk hg (pos := pos) (.cons h1 h2) (Q := fun vs s₁ => (hd.heap_39 w.params).In s₁.heap ∧ wpAny (model prog w) A (call (.ref fa) ([] ++ vs)) Q E s₁) (.of F X T N) rfl ⟨X.keeps F.keep, h⟩
    have hany := z.2
    rw [h1.plain.1 r] at hany
    exact callWith_K (h₀ := h₀) X hkeep z.1 (h1.plain.1 r) (by simpa [backTo] using hany)
theorem assignS {x : Str} {e : Expr} {px pos : Pos} {rest : List Stmt} {Q : Flow → Shared → Prop} (F : Fr h₀ env.locals s.heap m) (X : (hd.heap_39 w.params).In h₀) (T : TopRead p lo mg mb h₀) (N : News h₀ env.locals s.heap led)
    (h1 : Sev w env m led e s.toks v tk') (hx : env.kindOf x = some .local) (hs : swapsWith e (some (.Name x px)) pos.line env = pure false)
    (h : ∀ h', Fr h₀ env.locals h' (fun y => if y = x then some v else m y) → News h₀ env.locals h' led → wpAny (model prog w) A (execs rest env) Q E { s with heap := h', toks := tk' + 1 }) (hk : env.scope.kind = .function) (hg : env.globals = mainGlobals) :
    wpAny (model prog w) A (execs (.Assign [.Name x px] e pos :: rest) env) Q E s := by
  refine wpAny_execs_cons (wpAny_Assign_Name (h1.ok hk hg (.of F X T N) rfl ?_) hs)
  exact wpAny_storeName_local (s := { s with toks := tk' }) hx F.ns (fun h' hn hs => h h' (F.set hn hs) (N.set hs)) (by show (env.scope.kind == .class || (env.scope.kind == .module && env.locals != env.globals)) = false; rw [hk]; rfl)
end

abbrev chestObj (n : Int) (t0 : Tok) (k : Int) (t1 : Tok) (nn : Nat) : Obj := listOf [.int n t0, .int k t1].toArray nn

theorem rm {n a b : Nat} (h : n + b < recursionLimit) (hab : a ≤ b) : n + a < recursionLimit := Nat.lt_of_le_of_lt (Nat.add_le_add_left hab n) h
/-- how far the chest's counter stands below its bound: r more draws are let by -/
def Fuel (k : Int) (r : Nat) : Prop := 0 ≤ k ∧ k + r ≤ 1000
theorem Fuel.pow {k : Int} {r : Nat} (h : Fuel k (r + 1)) : 0 ≤ 16 + (k + 1) ∧ 16 + (k + 1) ≤ 1000000 := by unfold Fuel at h; omega
theorem Fuel.up {k : Int} {r : Nat} (h : Fuel k (r + 1)) : Fuel (k + 1) r := by unfold Fuel at h ⊢; omega
theorem Fuel.le {k : Int} {r q : Nat} (h : Fuel k r) (hq : q ≤ r) : Fuel k q := by unfold Fuel at h ⊢; omega
theorem log2_many {y : Int} (h0 : 0 < y) (h1 : y ≤ 4294967296) : y.natAbs.log2 < 9000 := by
  have h : y.natAbs < 2 ^ 33 := by omega
  have := (Nat.log2_lt (n := y.natAbs) (k := 33) (by omega)).mpr h
  omega
theorem fmod_rng {a b : Int} (h : 0 < b) : 0 ≤ a.fmod b ∧ a.fmod b < b := by
  rw [Int.fmod_eq_emod_of_nonneg a (by omega)]
  exact ⟨Int.emod_nonneg _ (by omega), Int.emod_lt_of_pos _ h⟩
theorem updF_open {h₀ h : Heap} {L c : Addr} {o : Obj} {news : List (Addr × Obj)} {g : Obj → List (Addr × Obj)} (U : UpdF c o news g) (N : News h₀ L h news) :
    ∃ rest, News h₀ L h ((c, o) :: rest) ∧ (∀ p ∈ rest, p.1 ≠ c) ∧ (∀ h₀' L' h' o', News h₀' L' h' ((c, o') :: rest) → News h₀' L' h' (g o')) ∧ ∀ p ∈ news, p.1 = c ∨ p ∈ rest := by
  obtain ⟨pre, post, rfl, hg, h1, h2⟩ := U.split
  refine ⟨pre ++ post, fun p hp => N p ?_, fun p hp => (List.mem_append.mp hp).elim (h1 p) (h2 p), fun h₀' L' h' o' N' => ?_, fun p hp => ?_⟩
  · rcases List.mem_cons.mp hp with rfl | hp
    · exact List.mem_append_right _ (.head _)
    · exact (List.mem_append.mp hp).elim (fun q => List.mem_append_left _ q) fun q => List.mem_append_right _ (.tail _ q)
  · rw [hg]
    intro p hp
    rcases List.mem_append.mp hp with hp | hp
    · exact N' p (.tail _ (List.mem_append_left _ hp))
    · rcases List.mem_cons.mp hp with rfl | hp
      · exact N' _ (.head _)
      · exact N' p (.tail _ (List.mem_append_right _ hp))
  · rcases List.mem_append.mp hp with hp | hp
    · exact .inr (List.mem_append_left _ hp)
    · rcases List.mem_cons.mp hp with rfl | hp
      · exact .inl rfl
      · exact .inr (List.mem_append_right _ hp)
section
variable {w : World} {p : Program} {lo : List Str} {mean : ExcName → Option Value} {mg mb : Str → Option Value} {dp un : Nat} {gd : Option (List Code)} {cn : Str} {cs : Scope} {a : Addr} {ccd : Value} {cl : List (Str × Addr)} {outer : List Env} {A₀ : Around} {base h₀ : Heap} {L : Addr} {m : Str → Option Value} {s : Shared} {Q E : Value → Shared → Prop} {news : List (Addr × Obj)}
  {c : Addr} {n k many : Int} {t0 t1 tm : Tok} {nn r : Nat} {rest : List (Addr × Obj)} {g : Obj → List (Addr × Obj)}

theorem penny0 (cx : Cx w p lo mean mg mb A₀ base outer h₀ L s.heap m cs)
  (N : News h₀ L s.heap ((c, chestObj n t0 k t1 nn) :: rest)) (hne : ∀ p ∈ rest, p.1 ≠ c) (fu : Fuel k (r + 1)) (hm : 0 < many) (hm2 : many ≤ 4294967296) (hd : dp + 1 < recursionLimit)
  (ret : ∀ d td n' t0' k' t1' nn' h' tk', 0 ≤ d → d < many → Fuel k' r → Fr h₀ L h' m → News h₀ L h' ((c, chestObj n' t0' k' t1' nn') :: rest) → Q (.int d td) { s with heap := h', toks := tk' }) :
  wpAny (model PySem.Challenge.rw_rg0263_01.row.prog w) (ktrTop dp un gd cn cs L a ccd cl outer) (call (.ref 253) [.ref c, .int many tm]) Q E s := by
  obtain ⟨B, F, X, T, hk⟩ := cx
  (refine wpAny_call ?_; k_dflt (refine' code_def ?qk1 ?qk2 ?qk3 ?qk4 ?qk5 ?qkA ?qkF ?qkK ?qk6 ?qk7 ?qk8 ?qk9 ?qkB ?_ ?qc2 ?qc3 ?qc4 ?qc5; (case qkA => exact rfl); (case qkF => exact rfl); (case qkK => first | assumption | exact rfl); (case qk1 => k_asm); (case qk2 => k_asm); (case qk3 => k_asm); (case qk4 => k_asm); (case qk5 => k_asm); (case qk6 => k_is); (case qk7 => k_is); (case qk8 => exact rm (a := 0) hd (by decide)); (case qk9 => exact BindsTo.of_eq rfl); (case qc5 => decide); (case qkB => exact locs rfl); (case qc2 => exact rfl); (case qc3 => exact rfl); (case qc4 => exact rfl); k_whole; intro g' L' h' FG' F' N' B' X' T'; (try dsimp only); (try k_fold)))
  k_with_none
  k_with "iop" => (first | exact Iop.add | exact Iop.sub | exact Iop.mod (by first | assumption | decide) | exact Iop.div (by decide) (by decide))
  k_with "idx" => decide
  k_with "item" => rfl
  k_with "nn" => (first | decide | assumption)
  k_with "sevi" => (first | exact Sev.int | exact Sev.loc rfl rfl (by decide) | exact Sev.glo rfl (by k_is) (by decide) | (apply Sev.bin; (k_extra "sevi"); (k_extra "sevi"); (k_extra "iop")) | (apply Sev.item; (k_extra "sevi"); (k_extra "sevi"); k_mem; (k_extra "nn"); (k_extra "idx"); (k_extra "item")) | (apply Sev.fld; (k_extra "sevi"); k_mem; k_mem; constructor; rfl))
  k_with "sargs" => (first | exact Sargs.nil | (apply Sargs.cons; (k_extra "sevi"); (k_extra "sargs")))
  k_with "eval Call" => ((with_reducible show wpAny _ _ (eval (Expr.Call (Expr.Name _ _) _ [] _) _) _ _ _); k_dflt (refine' callS ?qF ?qX ?qT ?qN ?qh0 ?qkp ?qh1 ?_ ?qx1 ?qx2; (case qF => k_asm); (case qX => k_asm); (case qT => k_asm); (case qN => k_asm); (case qx1 => exact rfl); (case qx2 => exact rfl); (case qh0 => exact Sev.glo rfl (by k_is) (by decide)); (case qkp => k_is); (case qh1 => k_extra "sargs"); k_whole); (try dsimp only))
  k_with "isTrue Compare" => ((with_reducible show wpAny _ _ (isTrue (Expr.Compare _ [_] [_] _) _ _) _ _ _); k_dflt (refine' testS ?qF ?qX ?qT ?qN ?qh1 ?qh2 ?qhc ?_ ?qx1 ?qx2; (case qF => k_asm); (case qX => k_asm); (case qT => k_asm); (case qN => k_asm); (case qx1 => exact rfl); (case qx2 => exact rfl); (case qh1 => k_extra "sevi"); (case qh2 => k_extra "sevi"); (case qhc => constructor); k_whole); (try dsimp only))
  k_with "evals" => (k_dflt (refine' evalS ?qF ?qX ?qT ?qN ?qh1 ?_ ?qx1 ?qx2; (case qF => k_asm); (case qX => k_asm); (case qT => k_asm); (case qN => k_asm); (case qx1 => exact rfl); (case qx2 => exact rfl); (case qh1 => k_extra "sevi"); k_whole); (try dsimp only))
  k_with "eval BinOp" => k_extra "evals"
  k_with "eval Subscript" => k_extra "evals"
  k_with "eval Attribute Name" => k_extra "evals"
  k_with "execs cons" => ((with_reducible show wpAny _ _ (execs (Stmt.Assign [Expr.Name _ _] _ _ :: _) _) _ _ _); k_dflt (refine' assignS ?qF ?qX ?qT ?qN ?qh1 ?qhx ?qhs ?_ ?qx1 ?qx2; (case qF => k_asm); (case qX => k_asm); (case qT => k_asm); (case qN => k_asm); (case qx1 => exact rfl); (case qx2 => exact rfl); (case qhx => exact rfl); (case qhs => exact rfl); (case qh1 => k_extra "sevi"); k_whole); intro h' F' N'; (try k_sweep); (try dsimp only))
  k_with "binaryOp FloorDiv int int" => (with_reducible refine floordiv_int (Int.ne_of_gt hm) ?_ (Or.inl (PyProof.noPylong_of_log2 (log2_many hm hm2))))
  k_with "iop" => (exact Iop.pow (by decide) fu.pow.1 fu.pow.2)
  k_with "setItem ref int" => (k_dflt (refine' ki_set ?qF ?qN ?qa ?qb ?qe (Upd.head hne) ?_; (case qF => k_asm); (case qN => k_asm); (case qa => decide); (case qb => decide); (case qe => rfl)); intro h' F' N'; (try k_sweep))
  k_steps
  all_goals (refine' ret _ _ _ _ _ _ _ _ _ (fmod_rng hm).1 (fmod_rng hm).2 ?qzA ?qzF ?qzN; (case qzF => k_asm); (case qzN => k_asm); (case qzA => first | exact fu.up | exact fu.le (Nat.le_succ _)))
theorem penny (cx : Cx w p lo mean mg mb A₀ base outer h₀ L s.heap m cs)
  (N : News h₀ L s.heap news) (U : UpdF c (chestObj n t0 k t1 nn) news g) (fu : Fuel k (r + 1)) (hm : 0 < many) (hm2 : many ≤ 4294967296) (hd : dp + 1 < recursionLimit)
  (ret : ∀ d td n' t0' k' t1' nn' h' tk', 0 ≤ d → d < many → Fuel k' r → Fr h₀ L h' m → News h₀ L h' (g (chestObj n' t0' k' t1' nn')) → Q (.int d td) { s with heap := h', toks := tk' }) :
  wpAny (model PySem.Challenge.rw_rg0263_01.row.prog w) (ktrTop dp un gd cn cs L a ccd cl outer) (call (.ref 253) [.ref c, .int many tm]) Q E s := by
  obtain ⟨rest, N0, h1, h2, _⟩ := updF_open U N
  exact penny0 cx N0 h1 fu hm hm2 hd fun d td n' t0' k' t1' nn' h' tk' a1 a2 a3 F' N' => ret d td n' t0' k' t1' nn' h' tk' a1 a2 a3 F' (h2 _ _ _ _ N')
end
theorem pow_rng {b : Int} (h1 : b ≤ 32) : 0 < (2 : Int) ^ b.toNat ∧ (2 : Int) ^ b.toNat ≤ 4294967296 := by
  refine ⟨Int.pow_pos (by decide), ?_⟩
  have h : (2 : Int) ^ b.toNat ≤ 2 ^ 32 := by
    have := Nat.pow_le_pow_right (n := 2) (by decide) (show b.toNat ≤ 32 by omega)
    exact_mod_cast this
  exact h
theorem newsTail {h₀ h : Heap} {L : Addr} {p : Addr × Obj} {r : List (Addr × Obj)} (N : News h₀ L h (p :: r)) : News h₀ L h r := fun q hq => N q (.tail _ hq)
theorem pick_rng {P d : Int} (h : 0 < P) (hd : d < 2) : 0 ≤ [0, P - 1].getD d.toNat 0 ∧ [0, P - 1].getD d.toNat 0 < P := by
  by_cases e : d.toNat = 0
  · rw [e]; exact ⟨Int.le_refl _, h⟩
  · have e : d.toNat = 1 := by omega
    rw [e]; exact ⟨Int.le_sub_one_of_lt h, Int.sub_one_lt_of_le (Int.le_refl _)⟩
section
variable {w : World} {p : Program} {lo : List Str} {mean : ExcName → Option Value} {mg mb : Str → Option Value} {dp un : Nat} {gd : Option (List Code)} {cn : Str} {cs : Scope} {a : Addr} {ccd : Value} {cl : List (Str × Addr)} {outer : List Env} {A₀ : Around} {base h₀ : Heap} {L : Addr} {m : Str → Option Value} {s : Shared} {Q E : Value → Shared → Prop} {news : List (Addr × Obj)}
  {c : Addr} {n k bits : Int} {t0 t1 tm : Tok} {nn r : Nat} {rest : List (Addr × Obj)} {g : Obj → List (Addr × Obj)}

theorem field0 (cx : Cx w p lo mean mg mb A₀ base outer h₀ L s.heap m cs)
  (N : News h₀ L s.heap ((c, chestObj n t0 k t1 nn) :: rest)) (hne : ∀ p ∈ rest, p.1 ≠ c) (fu : Fuel k (r + 2)) (hb0 : 0 ≤ bits) (hb1 : bits ≤ 32) (hd : dp + 2 < recursionLimit)
  (ret : ∀ d td n' t0' k' t1' nn' h' tk', 0 ≤ d → d < 2 ^ bits.toNat → Fuel k' r → Fr h₀ L h' m → News h₀ L h' ((c, chestObj n' t0' k' t1' nn') :: rest) → Q (.int d td) { s with heap := h', toks := tk' }) :
  wpAny (model PySem.Challenge.rw_rg0263_01.row.prog w) (ktrTop dp un gd cn cs L a ccd cl outer) (call (.ref 260) [.ref c, .int bits tm]) Q E s := by
  obtain ⟨B, F, X, T, hk⟩ := cx
  obtain ⟨hp0, hp1⟩ := pow_rng hb1
  have hb2 : bits ≤ 1000000 := Int.le_trans hb1 (by decide)
  (refine wpAny_call ?_; k_dflt (refine' code_def ?qk1 ?qk2 ?qk3 ?qk4 ?qk5 ?qkA ?qkF ?qkK ?qk6 ?qk7 ?qk8 ?qk9 ?qkB ?_ ?qc2 ?qc3 ?qc4 ?qc5; (case qkA => exact rfl); (case qkF => exact rfl); (case qkK => first | assumption | exact rfl); (case qk1 => k_asm); (case qk2 => k_asm); (case qk3 => k_asm); (case qk4 => k_asm); (case qk5 => k_asm); (case qk6 => k_is); (case qk7 => k_is); (case qk8 => exact rm (a := 0) hd (by decide)); (case qk9 => exact BindsTo.of_eq rfl); (case qc5 => decide); (case qkB => exact locs rfl); (case qc2 => exact rfl); (case qc3 => exact rfl); (case qc4 => exact rfl); k_whole; intro g' L' h' FG' F' N' B' X' T'; (try dsimp only); (try k_fold)))
  k_with_none
  k_with "iop" => (first | exact Iop.add | exact Iop.sub | exact Iop.mod (by first | assumption | decide) | exact Iop.div (by decide) (by decide))
  k_with "idx" => decide
  k_with "item" => rfl
  k_with "nn" => (first | decide | assumption)
  k_with "sevi" => (first | exact Sev.int | exact Sev.loc rfl rfl (by decide) | exact Sev.glo rfl (by k_is) (by decide) | (apply Sev.bin; (k_extra "sevi"); (k_extra "sevi"); (k_extra "iop")) | (apply Sev.item; (k_extra "sevi"); (k_extra "sevi"); k_mem; (k_extra "nn"); (k_extra "idx"); (k_extra "item")) | (apply Sev.fld; (k_extra "sevi"); k_mem; k_mem; constructor; rfl))
  k_with "sargs" => (first | exact Sargs.nil | (apply Sargs.cons; (k_extra "sevi"); (k_extra "sargs")))
  k_with "eval Call" => ((with_reducible show wpAny _ _ (eval (Expr.Call (Expr.Name _ _) _ [] _) _) _ _ _); k_dflt (refine' callS ?qF ?qX ?qT ?qN ?qh0 ?qkp ?qh1 ?_ ?qx1 ?qx2; (case qF => k_asm); (case qX => k_asm); (case qT => k_asm); (case qN => k_asm); (case qx1 => exact rfl); (case qx2 => exact rfl); (case qh0 => exact Sev.glo rfl (by k_is) (by decide)); (case qkp => k_is); (case qh1 => k_extra "sargs"); k_whole); (try dsimp only))
  k_with "isTrue Compare" => ((with_reducible show wpAny _ _ (isTrue (Expr.Compare _ [_] [_] _) _ _) _ _ _); k_dflt (refine' testS ?qF ?qX ?qT ?qN ?qh1 ?qh2 ?qhc ?_ ?qx1 ?qx2; (case qF => k_asm); (case qX => k_asm); (case qT => k_asm); (case qN => k_asm); (case qx1 => exact rfl); (case qx2 => exact rfl); (case qh1 => k_extra "sevi"); (case qh2 => k_extra "sevi"); (case qhc => constructor); k_whole); (try dsimp only))
  k_with "evals" => (k_dflt (refine' evalS ?qF ?qX ?qT ?qN ?qh1 ?_ ?qx1 ?qx2; (case qF => k_asm); (case qX => k_asm); (case qT => k_asm); (case qN => k_asm); (case qx1 => exact rfl); (case qx2 => exact rfl); (case qh1 => k_extra "sevi"); k_whole); (try dsimp only))
  k_with "eval BinOp" => k_extra "evals"
  k_with "eval Subscript" => k_extra "evals"
  k_with "eval Attribute Name" => k_extra "evals"
  k_with "execs cons" => ((with_reducible show wpAny _ _ (execs (Stmt.Assign [Expr.Name _ _] _ _ :: _) _) _ _ _); k_dflt (refine' assignS ?qF ?qX ?qT ?qN ?qh1 ?qhx ?qhs ?_ ?qx1 ?qx2; (case qF => k_asm); (case qX => k_asm); (case qT => k_asm); (case qN => k_asm); (case qx1 => exact rfl); (case qx2 => exact rfl); (case qhx => exact rfl); (case qhs => exact rfl); (case qh1 => k_extra "sevi"); k_whole); intro h' F' N'; (try k_sweep); (try dsimp only))
  k_with "call ref" => ((with_reducible show wpAny _ _ (call (Value.ref 253) _) _ _ _); k_dflt (refine' penny ⟨?qB, ?qF, ?qX, ?qT, ?qK⟩ ?qN ?qU ?qf ?qm0 ?qm1 ?qhd ?_ ; (case qB => k_asm); (case qF => k_asm); (case qX => k_asm); (case qT => k_asm); (case qK => first | assumption | exact rfl); (case qN => k_asm); (case qU => k_extra "updf"); (case qf => assumption); (case qm0 => first | decide | assumption); (case qm1 => first | decide | assumption); (case qhd => exact rm (a := 2) hd (by decide)); k_whole); intro d' td' n' t0' k' t1' nn' h' tk' e1 e2 e3 F' N'; (try k_sweep); (try dsimp only); (try k_fold))
  k_with "updf" => exact UpdF.head hne
  k_with "iop" => exact Iop.pow (by decide) hb0 hb2
  k_steps
  · (refine' ret _ _ _ _ _ _ _ _ _ (pick_rng hp0 (by assumption)).1 (pick_rng hp0 (by assumption)).2 ?qa ?qF ?qN; (case qF => k_asm); (case qN => (refine' newsTail ?qn; (case qn => k_asm))); (case qa => exact e3.le (Nat.le_succ _)))
  · (refine' ret _ _ _ _ _ _ _ _ _ ?qe1 ?qe2 ?qa ?qF ?qN; (case qF => k_asm); (case qN => k_asm); (case qe1 => assumption); (case qe2 => assumption); (case qa => assumption))
theorem field (cx : Cx w p lo mean mg mb A₀ base outer h₀ L s.heap m cs)
  (N : News h₀ L s.heap news) (U : UpdF c (chestObj n t0 k t1 nn) news g) (fu : Fuel k (r + 2)) (hb0 : 0 ≤ bits) (hb1 : bits ≤ 32) (hd : dp + 2 < recursionLimit)
  (ret : ∀ d td n' t0' k' t1' nn' h' tk', 0 ≤ d → d < 2 ^ bits.toNat → Fuel k' r → Fr h₀ L h' m → News h₀ L h' (g (chestObj n' t0' k' t1' nn')) → Q (.int d td) { s with heap := h', toks := tk' }) :
  wpAny (model PySem.Challenge.rw_rg0263_01.row.prog w) (ktrTop dp un gd cn cs L a ccd cl outer) (call (.ref 260) [.ref c, .int bits tm]) Q E s := by
  obtain ⟨rest, N0, h1, h2, _⟩ := updF_open U N
  exact field0 cx N0 h1 fu hb0 hb1 hd fun d td n' t0' k' t1' nn' h' tk' a1 a2 a3 F' N' => ret d td n' t0' k' t1' nn' h' tk' a1 a2 a3 F' (h2 _ _ _ _ N')
end
/-- the fields of an order lie in their bounds -/
structure Rng (c a b k : Int) : Prop where
  c0 : 0 ≤ c
  c1 : c < 65536
  a0 : 0 ≤ a
  a1 : a < 256
  b0 : 0 ≤ b
  b1 : b < 256
  k0 : 0 ≤ k
  k1 : k < 4294967296

/-- what is handed on where a new order is made -/
abbrev RetOrd (w : World) (h₀ : Heap) (L : Addr) (m : Str → Option Value) (news : List (Addr × Obj)) (s : Shared) (Q : Value → Shared → Prop) : Prop :=
  ∀ x dx t1 t2 t3 t4 c1 c2 c3 c4 u1 u2 u3 u4 h' tk', Rng c1 c2 c3 c4 → Fr h₀ L h' m → News h₀ L h' ((x, instObj 90 dx) :: (dx, ordD w.params t1 t2 t3 t4 (.int c1 u1) (.int c2 u2) (.int c3 u3) (.int c4 u4)) :: news) → (∀ p ∈ news, p.1 < dx) → dx < x → Q (.ref x) { s with heap := h', toks := tk' }

/-- y stands at place j of the words of x, and not before -/
structure WordAt (x y : Str) (j : Nat) : Prop where
  at_ : (Txt.words x)[j]? = some y
  before : ∀ i < j, (Txt.words x)[i]? ≠ some y
  small : j < 16
def strP (y : Str) : Value → Bool
  | .str z _ => z.cps.toList == y.cps.toList
  | _ => false
theorem strP_iff {y z : Str} {t : Tok} : strP y (.str z t) = true ↔ z = y := by
  show (z.cps.toList == y.cps.toList) = true ↔ _
  rw [beq_iff_eq]
  exact ⟨fun h => Str.ext' (Array.toList_inj.mp h), fun h => by rw [h]⟩
theorem strP_gives {y : Str} {t : Tok} {l : List (Str × Tok)} : ∀ v ∈ strValues l, MeetsSeq.EqGives v (.str y t) (strP y v) := by
  intro v hv
  obtain ⟨q, _, rfl⟩ := List.mem_map.mp hv
  exact PySem.SeqRoads2.EqGives.str _ _ _ _
theorem strValues_get {l : List (Str × Tok)} {i : Nat} {y : Str} (h : (l.map (·.1))[i]? = some y) : ∃ t, (strValues l)[i]? = some (.str y t) := by
  rw [List.getElem?_map] at h
  obtain ⟨q, hq, rfl⟩ := Option.map_eq_some_iff.mp h
  exact ⟨q.2, by rw [strValues, List.getElem?_map, hq]; rfl⟩

section
variable {w : World} {p : Program} {lo : List Str} {mean : ExcName → Option Value} {mg mb : Str → Option Value} {dp un : Nat} {gd : Option (List Code)} {cn : Str} {cs : Scope} {a : Addr} {ccd : Value} {cl : List (Str × Addr)} {outer : List Env} {A₀ : Around} {base h₀ : Heap} {L : Addr} {m : Str → Option Value} {s : Shared} {Q E : Value → Shared → Prop} {news : List (Addr × Obj)}
  {x y : Str} {tx ty : Tok} {j : Nat}

theorem words_any {l : List (Str × Tok)} (e : l.map (·.1) = Txt.words x) (W : WordAt x y j) : ∃ t, (strValues l)[j]? = some (.str y t) ∧ j < (strValues l).length ∧ ∀ i v, (strValues l)[i]? = some v → i < j → strP y v = false := by
  obtain ⟨t, ht⟩ := strValues_get (l := l) (i := j) (y := y) (by rw [e]; exact W.at_)
  refine ⟨t, ht, (List.getElem?_eq_some_iff.mp ht).1, fun i v hv hi => ?_⟩
  cases hs : strP y v with
  | false => rfl
  | true =>
    rw [strValues, List.getElem?_map] at hv
    obtain ⟨q, hq, rfl⟩ := Option.map_eq_some_iff.mp hv
    refine absurd ?_ (W.before i hi)
    rw [← e, List.getElem?_map, hq]
    exact congrArg some (strP_iff.mp hs)
theorem notIn_words {D : Addr} {l : List (Str × Tok)} {n : Nat} {t : Tok} {A : Around} (N : News h₀ L s.heap news) (hm : (D, listOf (strValues l).toArray n) ∈ news) (e : l.map (·.1) = Txt.words x) (W : WordAt x y j) (h : Q (.bool false) s) :
    wpAny (model PySem.Challenge.rw_rg0263_01.row.prog w) A (compareOp .NotIn (.str y t) (.ref D)) Q E s := by
  obtain ⟨u, h1, h2, _⟩ := words_any e W
  refine SeqInW.notIn_listW (strP y) (fun v hv => strP_gives v (by simpa using hv)) (PySem.IsL.isList (n := n) (N.get hm)) ?_
  have : (strValues l).toArray.any (strP y) = true := by
    rw [← Array.any_toList]
    exact List.any_eq_true.mpr ⟨_, List.mem_of_getElem? h1, strP_iff.mpr rfl⟩
  rw [this]
  exact h
theorem index_words {D : Addr} {l : List (Str × Tok)} {n : Nat} {t : Tok} {A : Around} (N : News h₀ L s.heap news) (hm : (D, listOf (strValues l).toArray n) ∈ news) (e : l.map (·.1) = Txt.words x) (W : WordAt x y j) (h : Q (.int (j : Int) s.toks) { s with toks := s.toks + 1 }) :
    wpAny (model PySem.Challenge.rw_rg0263_01.row.prog w) A (call (.builtin "list.index") [.ref D, .str y t]) Q E s := by
  obtain ⟨u, h1, h2, h3⟩ := words_any e W
  have hj := W.small
  refine call_meets PySem.F.slot_list_index ⟨_, N.get hm, rfl⟩ PySem.F.entry_list_index (PySem.F.args_list_index_2 _ _)
    (MeetsSeq.list_index D (strValues l).toArray n (.str y t) (strP y) (fun v hv => strP_gives v (by simpa using hv)) j (by simpa using h2) (by omega) (by rw [List.getElem_toArray, (List.getElem?_eq_some_iff.mp h1).2]; exact strP_iff.mpr rfl)
      (fun i hi hlt => h3 i _ (by rw [List.getElem?_eq_getElem (by simpa using hi)]; rfl) hlt)) ⟨N.get hm, h⟩

theorem spot (cx : Cx w p lo mean mg mb A₀ base outer h₀ L s.heap m cs) (N : News h₀ L s.heap news) (hx : x.length + 2 ≤ sizeLine) (W : WordAt x y j) (hd : dp + 1 < recursionLimit)
  (ret : ∀ t h' tk', Fr h₀ L h' m → News h₀ L h' news → Q (.int (j : Int) t) { s with heap := h', toks := tk' }) :
  wpAny (model PySem.Challenge.rw_rg0263_01.row.prog w) (ktrTop dp un gd cn cs L a ccd cl outer) (call (.ref 163) [.str x tx, .str y ty]) Q E s := by
  obtain ⟨B, F, X, T, hk⟩ := cx
  (refine wpAny_call ?_; k_dflt (refine' code_def ?qk1 ?qk2 ?qk3 ?qk4 ?qk5 ?qkA ?qkF ?qkK ?qk6 ?qk7 ?qk8 ?qk9 ?qkB ?_ ?qc2 ?qc3 ?qc4 ?qc5; (case qkA => exact rfl); (case qkF => exact rfl); (case qkK => first | assumption | exact rfl); (case qk1 => k_asm); (case qk2 => k_asm); (case qk3 => k_asm); (case qk4 => k_asm); (case qk5 => k_asm); (case qk6 => k_is); (case qk7 => k_is); (case qk8 => exact rm (a := 0) hd (by decide)); (case qk9 => exact BindsTo.of_eq rfl); (case qc5 => decide); (case qkB => exact locs rfl); (case qc2 => exact rfl); (case qc3 => exact rfl); (case qc4 => exact rfl); k_whole; intro g' L' h' FG' F' N' B' X' T'; (try dsimp only); (try k_fold)))
  k_with_none
  k_with "iop" => (first | exact Iop.add | exact Iop.sub | exact Iop.mod (by first | assumption | decide) | exact Iop.div (by decide) (by decide))
  k_with "idx" => decide
  k_with "item" => rfl
  k_with "nn" => (first | decide | assumption)
  k_with "sevi" => (first | exact Sev.int | exact Sev.loc rfl rfl (by decide) | exact Sev.glo rfl (by k_is) (by decide) | (apply Sev.bin; (k_extra "sevi"); (k_extra "sevi"); (k_extra "iop")) | (apply Sev.item; (k_extra "sevi"); (k_extra "sevi"); k_mem; (k_extra "nn"); (k_extra "idx"); (k_extra "item")) | (apply Sev.fld; (k_extra "sevi"); k_mem; k_mem; constructor; rfl))
  k_with "sargs" => (first | exact Sargs.nil | (apply Sargs.cons; (k_extra "sevi"); (k_extra "sargs")))
  k_with "eval Call" => ((with_reducible show wpAny _ _ (eval (Expr.Call (Expr.Name _ _) _ [] _) _) _ _ _); k_dflt (refine' callS ?qF ?qX ?qT ?qN ?qh0 ?qkp ?qh1 ?_ ?qx1 ?qx2; (case qF => k_asm); (case qX => k_asm); (case qT => k_asm); (case qN => k_asm); (case qx1 => exact rfl); (case qx2 => exact rfl); (case qh0 => exact Sev.glo rfl (by k_is) (by decide)); (case qkp => k_is); (case qh1 => k_extra "sargs"); k_whole); (try dsimp only))
  k_with "isTrue Compare" => ((with_reducible show wpAny _ _ (isTrue (Expr.Compare _ [_] [_] _) _ _) _ _ _); k_dflt (refine' testS ?qF ?qX ?qT ?qN ?qh1 ?qh2 ?qhc ?_ ?qx1 ?qx2; (case qF => k_asm); (case qX => k_asm); (case qT => k_asm); (case qN => k_asm); (case qx1 => exact rfl); (case qx2 => exact rfl); (case qh1 => k_extra "sevi"); (case qh2 => k_extra "sevi"); (case qhc => constructor); k_whole); (try dsimp only))
  k_with "evals" => (k_dflt (refine' evalS ?qF ?qX ?qT ?qN ?qh1 ?_ ?qx1 ?qx2; (case qF => k_asm); (case qX => k_asm); (case qT => k_asm); (case qN => k_asm); (case qx1 => exact rfl); (case qx2 => exact rfl); (case qh1 => k_extra "sevi"); k_whole); (try dsimp only))
  k_with "eval BinOp" => k_extra "evals"
  k_with "eval Subscript" => k_extra "evals"
  k_with "eval Attribute Name" => k_extra "evals"
  k_with "execs cons" => ((with_reducible show wpAny _ _ (execs (Stmt.Assign [Expr.Name _ _] _ _ :: _) _) _ _ _); k_dflt (refine' assignS ?qF ?qX ?qT ?qN ?qh1 ?qhx ?qhs ?_ ?qx1 ?qx2; (case qF => k_asm); (case qX => k_asm); (case qT => k_asm); (case qN => k_asm); (case qx1 => exact rfl); (case qx2 => exact rfl); (case qhx => exact rfl); (case qhs => exact rfl); (case qh1 => k_extra "sevi"); k_whole); intro h' F' N'; (try k_sweep); (try dsimp only))
  k_with "call builtin:str.split" => (refine KSpl.split0 (by k_asm) (by k_asm) ?_ hx; intro D l h' k e a F' N' l1; try k_sweep)
  k_with "compareOp NotIn str ref" => (k_dflt (refine notIn_words (by k_asm) (.head _) (by assumption) W ?_))
  k_with "getMethod ref" => (k_dflt (refine' kf_method ?qN ?qm PySem.F.slot_list_index PySem.F.type_list_index ?_; (case qN => k_asm); (case qm => k_mem)))
  k_with "call builtin:list.index" => (k_dflt (refine index_words (by k_asm) (.head _) (by assumption) W ?_))
  k_steps
  refine' ret _ _ _ ?qF ?qN
  case qF => k_asm
  case qN => (refine' newsTail ?qn; (case qn => k_asm))
end
abbrev jNames : Str := Str.ofString "ja jeq jgt jge jset"
theorem eq_strF {x y : Str} {b : Bool} {t u : Tok} {prog : Program} {w : World} {A : Around} {Q E : Value → Shared → Prop} {s : Shared} (hb : (x == y) = b) (h : Q (.bool b) s) : wpAny (model prog w) A (compareOp .Eq (.str x t) (.str y u)) Q E s :=
  PyProof.Rows.eq_str (by rw [hb]; exact h)
theorem word_ne {x y z : Str} {j : Nat} (W : WordAt x y j) (h : 0 < j) (hz : (Txt.words x)[0]? = some z) : (y == z) = false := by
  cases e : y == z with
  | false => rfl
  | true => exact absurd (hz.trans (congrArg some (eq_of_beq e).symm)) (W.before 0 h)
theorem word_code {j : Nat} (h : j ≤ 4) : (0 : Int) ≤ 5 + (j : Int) * 2 ^ (4 : Int).toNat ∧ 5 + (j : Int) * 2 ^ (4 : Int).toNat < 80 := by
  show (0 : Int) ≤ 5 + (j : Int) * 16 ∧ 5 + (j : Int) * 16 < 80
  omega
section
variable {w : World} {p : Program} {lo : List Str} {mean : ExcName → Option Value} {mg mb : Str → Option Value} {dp un : Nat} {gd : Option (List Code)} {cn : Str} {cs : Scope} {a : Addr} {ccd : Value} {cl : List (Str × Addr)} {outer : List Env} {A₀ : Around} {base h₀ : Heap} {L : Addr} {m : Str → Option Value} {s : Shared} {Q E : Value → Shared → Prop} {news : List (Addr × Obj)}
  {y : Str} {ty tk ta tb : Tok} {j : Nat} {k ja jb : Int}

theorem jcode (cx : Cx w p lo mean mg mb A₀ base outer h₀ L s.heap m cs) (N : News h₀ L s.heap news) (W : WordAt jNames y j) (h1 : 0 < j) (h4 : j ≤ 4) (hd : dp + 2 < recursionLimit)
  (ret : ∀ d t h' tk', 0 ≤ d → d < 80 → Fr h₀ L h' m → News h₀ L h' news → Q (.int d t) { s with heap := h', toks := tk' }) :
  wpAny (model PySem.Challenge.rw_rg0263_01.row.prog w) (ktrTop dp un gd cn cs L a ccd cl outer) (call (.ref 184) [.str y ty]) Q E s := by
  obtain ⟨B, F, X, T, hk⟩ := cx
  have hne : (y == Str.ofString "ja") = false := word_ne W h1 (by decide +kernel)
  (refine wpAny_call ?_; k_dflt (refine' code_def ?qk1 ?qk2 ?qk3 ?qk4 ?qk5 ?qkA ?qkF ?qkK ?qk6 ?qk7 ?qk8 ?qk9 ?qkB ?_ ?qc2 ?qc3 ?qc4 ?qc5; (case qkA => exact rfl); (case qkF => exact rfl); (case qkK => first | assumption | exact rfl); (case qk1 => k_asm); (case qk2 => k_asm); (case qk3 => k_asm); (case qk4 => k_asm); (case qk5 => k_asm); (case qk6 => k_is); (case qk7 => k_is); (case qk8 => exact rm (a := 0) hd (by decide)); (case qk9 => exact BindsTo.of_eq rfl); (case qc5 => decide); (case qkB => exact locs rfl); (case qc2 => exact rfl); (case qc3 => exact rfl); (case qc4 => exact rfl); k_whole; intro g' L' h' FG' F' N' B' X' T'; (try dsimp only); (try k_fold)))
  k_with_none
  k_with "iop" => (first | exact Iop.add | exact Iop.sub | exact Iop.mod (by first | assumption | decide) | exact Iop.div (by decide) (by decide))
  k_with "idx" => decide
  k_with "item" => rfl
  k_with "nn" => (first | decide | assumption)
  k_with "sevi" => (first | exact Sev.int | exact Sev.loc rfl rfl (by decide) | exact Sev.glo rfl (by k_is) (by decide) | (apply Sev.bin; (k_extra "sevi"); (k_extra "sevi"); (k_extra "iop")) | (apply Sev.item; (k_extra "sevi"); (k_extra "sevi"); k_mem; (k_extra "nn"); (k_extra "idx"); (k_extra "item")) | (apply Sev.fld; (k_extra "sevi"); k_mem; k_mem; constructor; rfl))
  k_with "sargs" => (first | exact Sargs.nil | (apply Sargs.cons; (k_extra "sevi"); (k_extra "sargs")))
  k_with "eval Call" => ((with_reducible show wpAny _ _ (eval (Expr.Call (Expr.Name _ _) _ [] _) _) _ _ _); k_dflt (refine' callS ?qF ?qX ?qT ?qN ?qh0 ?qkp ?qh1 ?_ ?qx1 ?qx2; (case qF => k_asm); (case qX => k_asm); (case qT => k_asm); (case qN => k_asm); (case qx1 => exact rfl); (case qx2 => exact rfl); (case qh0 => exact Sev.glo rfl (by k_is) (by decide)); (case qkp => k_is); (case qh1 => k_extra "sargs"); k_whole); (try dsimp only))
  k_with "isTrue Compare" => ((with_reducible show wpAny _ _ (isTrue (Expr.Compare _ [_] [_] _) _ _) _ _ _); k_dflt (refine' testS ?qF ?qX ?qT ?qN ?qh1 ?qh2 ?qhc ?_ ?qx1 ?qx2; (case qF => k_asm); (case qX => k_asm); (case qT => k_asm); (case qN => k_asm); (case qx1 => exact rfl); (case qx2 => exact rfl); (case qh1 => k_extra "sevi"); (case qh2 => k_extra "sevi"); (case qhc => constructor); k_whole); (try dsimp only))
  k_with "evals" => (k_dflt (refine' evalS ?qF ?qX ?qT ?qN ?qh1 ?_ ?qx1 ?qx2; (case qF => k_asm); (case qX => k_asm); (case qT => k_asm); (case qN => k_asm); (case qx1 => exact rfl); (case qx2 => exact rfl); (case qh1 => k_extra "sevi"); k_whole); (try dsimp only))
  k_with "eval BinOp" => k_extra "evals"
  k_with "eval Subscript" => k_extra "evals"
  k_with "eval Attribute Name" => k_extra "evals"
  k_with "execs cons" => ((with_reducible show wpAny _ _ (execs (Stmt.Assign [Expr.Name _ _] _ _ :: _) _) _ _ _); k_dflt (refine' assignS ?qF ?qX ?qT ?qN ?qh1 ?qhx ?qhs ?_ ?qx1 ?qx2; (case qF => k_asm); (case qX => k_asm); (case qT => k_asm); (case qN => k_asm); (case qx1 => exact rfl); (case qx2 => exact rfl); (case qhx => exact rfl); (case qhs => exact rfl); (case qh1 => k_extra "sevi"); k_whole); intro h' F' N'; (try k_sweep); (try dsimp only))
  k_with "compareOp Eq str str" => (k_dflt (refine eq_strF hne ?_))
  k_with "call ref" => ((with_reducible show wpAny _ _ (call (Value.ref 163) _) _ _ _); k_dflt (refine' spot ⟨?qB, ?qF, ?qX, ?qT, ?qK⟩ ?qN ?qx ?qW ?qhd ?_ ; (case qB => k_asm); (case qF => k_asm); (case qX => k_asm); (case qT => k_asm); (case qK => first | assumption | exact rfl); (case qN => k_asm); (case qx => decide +kernel); (case qW => k_extra "word"); (case qhd => exact rm (a := 2) hd (by decide)); k_whole); intro t' h' tk' F' N'; (try k_sweep); (try dsimp only); (try k_fold))
  k_with "word" => exact W
  k_steps
  refine' ret _ _ _ _ (word_code h4).1 (word_code h4).2 ?qF ?qN
  case qF => k_asm
  case qN => k_asm

theorem jumpk (cx : Cx w p lo mean mg mb A₀ base outer h₀ L s.heap m cs) (N : News h₀ L s.heap news) (W : WordAt jNames y j) (h1 : 0 < j) (h4 : j ≤ 4) (R : Rng 0 ja jb k) (hd : dp + 3 < recursionLimit) (ret : RetOrd w h₀ L m news s Q) :
  wpAny (model PySem.Challenge.rw_rg0263_01.row.prog w) (ktrTop dp un gd cn cs L a ccd cl outer) (call (.ref 191) [.str y ty, .int k tk, .int ja ta, .int jb tb]) Q E s := by
  obtain ⟨B, F, X, T, hk⟩ := cx
  (refine wpAny_call ?_; k_dflt (refine' code_def ?qk1 ?qk2 ?qk3 ?qk4 ?qk5 ?qkA ?qkF ?qkK ?qk6 ?qk7 ?qk8 ?qk9 ?qkB ?_ ?qc2 ?qc3 ?qc4 ?qc5; (case qkA => exact rfl); (case qkF => exact rfl); (case qkK => first | assumption | exact rfl); (case qk1 => k_asm); (case qk2 => k_asm); (case qk3 => k_asm); (case qk4 => k_asm); (case qk5 => k_asm); (case qk6 => k_is); (case qk7 => k_is); (case qk8 => exact rm (a := 0) hd (by decide)); (case qk9 => exact BindsTo.of_eq rfl); (case qc5 => decide); (case qkB => exact locs rfl); (case qc2 => exact rfl); (case qc3 => exact rfl); (case qc4 => exact rfl); k_whole; intro g' L' h' FG' F' N' B' X' T'; (try dsimp only); (try k_fold)))
  k_with_none
  k_with "iop" => (first | exact Iop.add | exact Iop.sub | exact Iop.mod (by first | assumption | decide) | exact Iop.div (by decide) (by decide))
  k_with "idx" => decide
  k_with "item" => rfl
  k_with "nn" => (first | decide | assumption)
  k_with "sevi" => (first | exact Sev.int | exact Sev.loc rfl rfl (by decide) | exact Sev.glo rfl (by k_is) (by decide) | (apply Sev.bin; (k_extra "sevi"); (k_extra "sevi"); (k_extra "iop")) | (apply Sev.item; (k_extra "sevi"); (k_extra "sevi"); k_mem; (k_extra "nn"); (k_extra "idx"); (k_extra "item")) | (apply Sev.fld; (k_extra "sevi"); k_mem; k_mem; constructor; rfl))
  k_with "sargs" => (first | exact Sargs.nil | (apply Sargs.cons; (k_extra "sevi"); (k_extra "sargs")))
  k_with "eval Call" => ((with_reducible show wpAny _ _ (eval (Expr.Call (Expr.Name _ _) _ [] _) _) _ _ _); k_dflt (refine' callS ?qF ?qX ?qT ?qN ?qh0 ?qkp ?qh1 ?_ ?qx1 ?qx2; (case qF => k_asm); (case qX => k_asm); (case qT => k_asm); (case qN => k_asm); (case qx1 => exact rfl); (case qx2 => exact rfl); (case qh0 => exact Sev.glo rfl (by k_is) (by decide)); (case qkp => k_is); (case qh1 => k_extra "sargs"); k_whole); (try dsimp only))
  k_with "isTrue Compare" => ((with_reducible show wpAny _ _ (isTrue (Expr.Compare _ [_] [_] _) _ _) _ _ _); k_dflt (refine' testS ?qF ?qX ?qT ?qN ?qh1 ?qh2 ?qhc ?_ ?qx1 ?qx2; (case qF => k_asm); (case qX => k_asm); (case qT => k_asm); (case qN => k_asm); (case qx1 => exact rfl); (case qx2 => exact rfl); (case qh1 => k_extra "sevi"); (case qh2 => k_extra "sevi"); (case qhc => constructor); k_whole); (try dsimp only))
  k_with "evals" => (k_dflt (refine' evalS ?qF ?qX ?qT ?qN ?qh1 ?_ ?qx1 ?qx2; (case qF => k_asm); (case qX => k_asm); (case qT => k_asm); (case qN => k_asm); (case qx1 => exact rfl); (case qx2 => exact rfl); (case qh1 => k_extra "sevi"); k_whole); (try dsimp only))
  k_with "eval BinOp" => k_extra "evals"
  k_with "eval Subscript" => k_extra "evals"
  k_with "eval Attribute Name" => k_extra "evals"
  k_with "execs cons" => ((with_reducible show wpAny _ _ (execs (Stmt.Assign [Expr.Name _ _] _ _ :: _) _) _ _ _); k_dflt (refine' assignS ?qF ?qX ?qT ?qN ?qh1 ?qhx ?qhs ?_ ?qx1 ?qx2; (case qF => k_asm); (case qX => k_asm); (case qT => k_asm); (case qN => k_asm); (case qx1 => exact rfl); (case qx2 => exact rfl); (case qhx => exact rfl); (case qhs => exact rfl); (case qh1 => k_extra "sevi"); k_whole); intro h' F' N'; (try k_sweep); (try dsimp only))
  k_with "call ref" => ((with_reducible show wpAny _ _ (call (Value.ref 184) _) _ _ _); k_dflt (refine' jcode ⟨?qB, ?qF, ?qX, ?qT, ?qK⟩ ?qN W h1 h4 ?qhd ?_ ; (case qB => k_asm); (case qF => k_asm); (case qX => k_asm); (case qT => k_asm); (case qK => first | assumption | exact rfl); (case qN => k_asm); (case qhd => exact rm (a := 3) hd (by decide)); k_whole); intro d' t' h' tk' e1 e2 F' N'; (try k_sweep); (try dsimp only); (try k_fold))
  k_with "call ref" => ((with_reducible show wpAny _ _ (call (Value.ref 90) _) _ _ _); k_dflt (refine' mk ⟨?qB, ?qF, ?qX, ?qT, ?qK⟩ ?qN _ _ _ _ ?qhd ?_ ; (case qB => k_asm); (case qF => k_asm); (case qX => k_asm); (case qT => k_asm); (case qK => first | assumption | exact rfl); (case qN => k_asm); (case qhd => exact rm (a := 3) hd (by decide)); k_whole); intro x' d' t1' t2' t3' t4' h' tk' F' N' l1 l2; (try k_sweep); (try dsimp only); (try k_fold))
  k_steps
  refine' ret _ _ _ _ _ _ _ _ _ _ _ _ _ _ _ _ ⟨e1, Int.lt_trans e2 (by decide), R.a0, R.a1, R.b0, R.b1, R.k0, R.k1⟩ ?qF ?qN l1 l2
  case qF => k_asm
  case qN => k_asm
theorem jumpx (cx : Cx w p lo mean mg mb A₀ base outer h₀ L s.heap m cs) (N : News h₀ L s.heap news) (W : WordAt jNames y j) (h1 : 0 < j) (h4 : j ≤ 4) (R : Rng 0 ja jb 0) (hd : dp + 3 < recursionLimit) (ret : RetOrd w h₀ L m news s Q) :
  wpAny (model PySem.Challenge.rw_rg0263_01.row.prog w) (ktrTop dp un gd cn cs L a ccd cl outer) (call (.ref 198) [.str y ty, .int ja ta, .int jb tb]) Q E s := by
  obtain ⟨B, F, X, T, hk⟩ := cx
  (refine wpAny_call ?_; k_dflt (refine' code_def ?qk1 ?qk2 ?qk3 ?qk4 ?qk5 ?qkA ?qkF ?qkK ?qk6 ?qk7 ?qk8 ?qk9 ?qkB ?_ ?qc2 ?qc3 ?qc4 ?qc5; (case qkA => exact rfl); (case qkF => exact rfl); (case qkK => first | assumption | exact rfl); (case qk1 => k_asm); (case qk2 => k_asm); (case qk3 => k_asm); (case qk4 => k_asm); (case qk5 => k_asm); (case qk6 => k_is); (case qk7 => k_is); (case qk8 => exact rm (a := 0) hd (by decide)); (case qk9 => exact BindsTo.of_eq rfl); (case qc5 => decide); (case qkB => exact locs rfl); (case qc2 => exact rfl); (case qc3 => exact rfl); (case qc4 => exact rfl); k_whole; intro g' L' h' FG' F' N' B' X' T'; (try dsimp only); (try k_fold)))
  k_with_none
  k_with "iop" => (first | exact Iop.add | exact Iop.sub | exact Iop.mod (by first | assumption | decide) | exact Iop.div (by decide) (by decide))
  k_with "idx" => decide
  k_with "item" => rfl
  k_with "nn" => (first | decide | assumption)
  k_with "sevi" => (first | exact Sev.int | exact Sev.loc rfl rfl (by decide) | exact Sev.glo rfl (by k_is) (by decide) | (apply Sev.bin; (k_extra "sevi"); (k_extra "sevi"); (k_extra "iop")) | (apply Sev.item; (k_extra "sevi"); (k_extra "sevi"); k_mem; (k_extra "nn"); (k_extra "idx"); (k_extra "item")) | (apply Sev.fld; (k_extra "sevi"); k_mem; k_mem; constructor; rfl))
  k_with "sargs" => (first | exact Sargs.nil | (apply Sargs.cons; (k_extra "sevi"); (k_extra "sargs")))
  k_with "eval Call" => ((with_reducible show wpAny _ _ (eval (Expr.Call (Expr.Name _ _) _ [] _) _) _ _ _); k_dflt (refine' callS ?qF ?qX ?qT ?qN ?qh0 ?qkp ?qh1 ?_ ?qx1 ?qx2; (case qF => k_asm); (case qX => k_asm); (case qT => k_asm); (case qN => k_asm); (case qx1 => exact rfl); (case qx2 => exact rfl); (case qh0 => exact Sev.glo rfl (by k_is) (by decide)); (case qkp => k_is); (case qh1 => k_extra "sargs"); k_whole); (try dsimp only))
  k_with "isTrue Compare" => ((with_reducible show wpAny _ _ (isTrue (Expr.Compare _ [_] [_] _) _ _) _ _ _); k_dflt (refine' testS ?qF ?qX ?qT ?qN ?qh1 ?qh2 ?qhc ?_ ?qx1 ?qx2; (case qF => k_asm); (case qX => k_asm); (case qT => k_asm); (case qN => k_asm); (case qx1 => exact rfl); (case qx2 => exact rfl); (case qh1 => k_extra "sevi"); (case qh2 => k_extra "sevi"); (case qhc => constructor); k_whole); (try dsimp only))
  k_with "evals" => (k_dflt (refine' evalS ?qF ?qX ?qT ?qN ?qh1 ?_ ?qx1 ?qx2; (case qF => k_asm); (case qX => k_asm); (case qT => k_asm); (case qN => k_asm); (case qx1 => exact rfl); (case qx2 => exact rfl); (case qh1 => k_extra "sevi"); k_whole); (try dsimp only))
  k_with "eval BinOp" => k_extra "evals"
  k_with "eval Subscript" => k_extra "evals"
  k_with "eval Attribute Name" => k_extra "evals"
  k_with "execs cons" => ((with_reducible show wpAny _ _ (execs (Stmt.Assign [Expr.Name _ _] _ _ :: _) _) _ _ _); k_dflt (refine' assignS ?qF ?qX ?qT ?qN ?qh1 ?qhx ?qhs ?_ ?qx1 ?qx2; (case qF => k_asm); (case qX => k_asm); (case qT => k_asm); (case qN => k_asm); (case qx1 => exact rfl); (case qx2 => exact rfl); (case qhx => exact rfl); (case qhs => exact rfl); (case qh1 => k_extra "sevi"); k_whole); intro h' F' N'; (try k_sweep); (try dsimp only))
  k_with "call ref" => ((with_reducible show wpAny _ _ (call (Value.ref 184) _) _ _ _); k_dflt (refine' jcode ⟨?qB, ?qF, ?qX, ?qT, ?qK⟩ ?qN W h1 h4 ?qhd ?_ ; (case qB => k_asm); (case qF => k_asm); (case qX => k_asm); (case qT => k_asm); (case qK => first | assumption | exact rfl); (case qN => k_asm); (case qhd => exact rm (a := 3) hd (by decide)); k_whole); intro d' t' h' tk' e1 e2 F' N'; (try k_sweep); (try dsimp only); (try k_fold))
  k_with "call ref" => ((with_reducible show wpAny _ _ (call (Value.ref 90) _) _ _ _); k_dflt (refine' mk ⟨?qB, ?qF, ?qX, ?qT, ?qK⟩ ?qN _ _ _ _ ?qhd ?_ ; (case qB => k_asm); (case qF => k_asm); (case qX => k_asm); (case qT => k_asm); (case qK => first | assumption | exact rfl); (case qN => k_asm); (case qhd => exact rm (a := 3) hd (by decide)); k_whole); intro x' d' t1' t2' t3' t4' h' tk' F' N' l1 l2; (try k_sweep); (try dsimp only); (try k_fold))
  k_steps
  refine' ret _ _ _ _ _ _ _ _ _ _ _ _ _ _ _ _ ⟨Int.le_trans e1 (Int.le_add_of_nonneg_right (by decide : (0 : Int) ≤ 8)), Int.lt_trans (Int.add_lt_add_right e2 8) (by decide), R.a0, R.a1, R.b0, R.b1, R.k0, R.k1⟩ ?qF ?qN l1 l2
  case qF => k_asm
  case qN => k_asm
theorem jumpa (cx : Cx w p lo mean mg mb A₀ base outer h₀ L s.heap m cs) (N : News h₀ L s.heap news) (R : Rng 5 0 0 k) (hd : dp + 3 < recursionLimit) (ret : RetOrd w h₀ L m news s Q) :
  wpAny (model PySem.Challenge.rw_rg0263_01.row.prog w) (ktrTop dp un gd cn cs L a ccd cl outer) (call (.ref 205) [.int k tk]) Q E s := by
  obtain ⟨B, F, X, T, hk⟩ := cx
  (refine wpAny_call ?_; k_dflt (refine' code_def ?qk1 ?qk2 ?qk3 ?qk4 ?qk5 ?qkA ?qkF ?qkK ?qk6 ?qk7 ?qk8 ?qk9 ?qkB ?_ ?qc2 ?qc3 ?qc4 ?qc5; (case qkA => exact rfl); (case qkF => exact rfl); (case qkK => first | assumption | exact rfl); (case qk1 => k_asm); (case qk2 => k_asm); (case qk3 => k_asm); (case qk4 => k_asm); (case qk5 => k_asm); (case qk6 => k_is); (case qk7 => k_is); (case qk8 => exact rm (a := 0) hd (by decide)); (case qk9 => exact BindsTo.of_eq rfl); (case qc5 => decide); (case qkB => exact locs rfl); (case qc2 => exact rfl); (case qc3 => exact rfl); (case qc4 => exact rfl); k_whole; intro g' L' h' FG' F' N' B' X' T'; (try dsimp only); (try k_fold)))
  k_with_none
  k_with "iop" => (first | exact Iop.add | exact Iop.sub | exact Iop.mod (by first | assumption | decide) | exact Iop.div (by decide) (by decide))
  k_with "idx" => decide
  k_with "item" => rfl
  k_with "nn" => (first | decide | assumption)
  k_with "sevi" => (first | exact Sev.int | exact Sev.loc rfl rfl (by decide) | exact Sev.glo rfl (by k_is) (by decide) | (apply Sev.bin; (k_extra "sevi"); (k_extra "sevi"); (k_extra "iop")) | (apply Sev.item; (k_extra "sevi"); (k_extra "sevi"); k_mem; (k_extra "nn"); (k_extra "idx"); (k_extra "item")) | (apply Sev.fld; (k_extra "sevi"); k_mem; k_mem; constructor; rfl))
  k_with "sargs" => (first | exact Sargs.nil | (apply Sargs.cons; (k_extra "sevi"); (k_extra "sargs")))
  k_with "eval Call" => ((with_reducible show wpAny _ _ (eval (Expr.Call (Expr.Name _ _) _ [] _) _) _ _ _); k_dflt (refine' callS ?qF ?qX ?qT ?qN ?qh0 ?qkp ?qh1 ?_ ?qx1 ?qx2; (case qF => k_asm); (case qX => k_asm); (case qT => k_asm); (case qN => k_asm); (case qx1 => exact rfl); (case qx2 => exact rfl); (case qh0 => exact Sev.glo rfl (by k_is) (by decide)); (case qkp => k_is); (case qh1 => k_extra "sargs"); k_whole); (try dsimp only))
  k_with "isTrue Compare" => ((with_reducible show wpAny _ _ (isTrue (Expr.Compare _ [_] [_] _) _ _) _ _ _); k_dflt (refine' testS ?qF ?qX ?qT ?qN ?qh1 ?qh2 ?qhc ?_ ?qx1 ?qx2; (case qF => k_asm); (case qX => k_asm); (case qT => k_asm); (case qN => k_asm); (case qx1 => exact rfl); (case qx2 => exact rfl); (case qh1 => k_extra "sevi"); (case qh2 => k_extra "sevi"); (case qhc => constructor); k_whole); (try dsimp only))
  k_with "evals" => (k_dflt (refine' evalS ?qF ?qX ?qT ?qN ?qh1 ?_ ?qx1 ?qx2; (case qF => k_asm); (case qX => k_asm); (case qT => k_asm); (case qN => k_asm); (case qx1 => exact rfl); (case qx2 => exact rfl); (case qh1 => k_extra "sevi"); k_whole); (try dsimp only))
  k_with "eval BinOp" => k_extra "evals"
  k_with "eval Subscript" => k_extra "evals"
  k_with "eval Attribute Name" => k_extra "evals"
  k_with "execs cons" => ((with_reducible show wpAny _ _ (execs (Stmt.Assign [Expr.Name _ _] _ _ :: _) _) _ _ _); k_dflt (refine' assignS ?qF ?qX ?qT ?qN ?qh1 ?qhx ?qhs ?_ ?qx1 ?qx2; (case qF => k_asm); (case qX => k_asm); (case qT => k_asm); (case qN => k_asm); (case qx1 => exact rfl); (case qx2 => exact rfl); (case qhx => exact rfl); (case qhs => exact rfl); (case qh1 => k_extra "sevi"); k_whole); intro h' F' N'; (try k_sweep); (try dsimp only))
  k_with "call ref" => ((with_reducible show wpAny _ _ (call (Value.ref 90) _) _ _ _); k_dflt (refine' mk ⟨?qB, ?qF, ?qX, ?qT, ?qK⟩ ?qN _ _ _ _ ?qhd ?_ ; (case qB => k_asm); (case qF => k_asm); (case qX => k_asm); (case qT => k_asm); (case qK => first | assumption | exact rfl); (case qN => k_asm); (case qhd => exact rm (a := 3) hd (by decide)); k_whole); intro x' d' t1' t2' t3' t4' h' tk' F' N' l1 l2; (try k_sweep); (try dsimp only); (try k_fold))
  k_steps
  refine' ret _ _ _ _ _ _ _ _ _ _ _ _ _ _ _ _ R ?qF ?qN l1 l2
  case qF => k_asm
  case qN => k_asm
end
inductive UpdC (c : Addr) (o : Obj) (rest : List (Addr × Obj)) : List (Addr × Obj) → (Obj → List (Addr × Obj)) → Prop
  | head : UpdC c o rest ((c, o) :: rest) (fun o' => (c, o') :: rest)
  | tail {p : Addr × Obj} {r : List (Addr × Obj)} {g : Obj → List (Addr × Obj)} : (p.2.cls == Value.type "list") = false → UpdC c o rest r g → UpdC c o rest (p :: r) (fun o' => p :: g o')
theorem UpdC.mem {c : Addr} {o : Obj} {rest r : List (Addr × Obj)} {g : Obj → List (Addr × Obj)} (U : UpdC c o rest r g) : (c, o) ∈ r ∧ ∀ p ∈ rest, p ∈ r := by
  induction U with
  | head => exact ⟨.head _, fun _ h => .tail _ h⟩
  | tail _ _ ih => exact ⟨.tail _ ih.1, fun p h => .tail _ (ih.2 p h)⟩
theorem UpdC.lows {c d : Addr} {o : Obj} {rest r : List (Addr × Obj)} {g : Obj → List (Addr × Obj)} (h : ∀ p ∈ r, p.1 < d) (U : UpdC c o rest r g) : (∀ p ∈ rest, p.1 < d) ∧ c < d := ⟨fun p hp => h p (U.mem.2 p hp), h _ U.mem.1⟩
theorem UpdC.F {c : Addr} {n k : Int} {t0 t1 : Tok} {nn : Nat} {rest r : List (Addr × Obj)} {g : Obj → List (Addr × Obj)} {h₀ h : Heap} {L : Addr} (U : UpdC c (chestObj n t0 k t1 nn) rest r g) (N : News h₀ L h r) (hne : ∀ p ∈ rest, p.1 ≠ c) : UpdF c (chestObj n t0 k t1 nn) r g := by
  induction U with
  | head => exact UpdF.head hne
  | @tail p r g hc U ih =>
    refine UpdF.tail (fun e => ?_) (ih (newsTail N))
    have h1 := N.get (a := p.1) (o := p.2) (.head _)
    have h2 := N.get (.tail _ U.mem.1)
    rw [e, h2] at h1
    rw [← Option.some.inj h1] at hc
    have hc' : (Value.type "list" == Value.type "list") = false := hc
    exact absurd hc' (by decide)
/-- the tests' names -/
theorem test_word {d : Int} (h1 : d < 4) : WordAt jNames ([Str.ofString "jeq", Str.ofString "jgt", Str.ofString "jge", Str.ofString "jset"].getD d.toNat Str.empty) (d.toNat + 1) ∧ d.toNat + 1 ≤ 4 := by
  have : d.toNat = 0 ∨ d.toNat = 1 ∨ d.toNat = 2 ∨ d.toNat = 3 := by omega
  rcases this with e | e | e | e <;> rw [e] <;> exact ⟨⟨by decide +kernel, by decide +kernel, by decide⟩, by decide⟩
theorem xor_word : WordAt (Str.ofString "add sub mul div or and lsh rsh neg mod xor") (Str.ofString "xor") 10 := ⟨by decide +kernel, by decide +kernel, by decide⟩
theorem rng_fields {c a b k : Int} (h1 : 0 ≤ c) (h2 : c < 2 ^ (16 : Int).toNat) (h3 : 0 ≤ a) (h4 : a < 2 ^ (8 : Int).toNat) (h5 : 0 ≤ b) (h6 : b < 2 ^ (8 : Int).toNat) (h7 : 0 ≤ k) (h8 : k < 2 ^ (32 : Int).toNat) : Rng c a b k := ⟨h1, h2, h3, h4, h5, h6, h7, h8⟩
theorem rng_k {c k : Int} (h7 : 0 ≤ k) (h8 : k < 4294967296) (h1 : 0 ≤ c) (h2 : c < 65536) : Rng c 0 0 k := ⟨h1, h2, by decide, by decide, by decide, by decide, h7, h8⟩
theorem rng_j {a b k : Int} (h1 : 0 ≤ a) (h2 : a < 9) (h3 : 0 ≤ b ∧ b < 256) (h5 : 0 ≤ k) (h6 : k < 2 ^ (32 : Int).toNat) : Rng 0 a b k ∧ Rng 0 b a 0 :=
  have h2' : a < 256 := Int.lt_trans h2 (by decide)
  ⟨⟨by decide, by decide, h1, h2', h3.1, h3.2, h5, h6⟩, ⟨by decide, by decide, h3.1, h3.2, h1, h2', by decide, by decide⟩⟩
theorem neg_k {d : Int} (h0 : 0 ≤ d) (h : d < 9) : 0 ≤ 2 ^ (32 : Int).toNat - 1 - d ∧ 2 ^ (32 : Int).toNat - 1 - d < 4294967296 := by
  show 0 ≤ (4294967296 : Int) - 1 - d ∧ (4294967296 : Int) - 1 - d < 4294967296
  omega
theorem rng_k2 {c k : Int} (h7 : 0 ≤ k) (h8 : k < 2 ^ (32 : Int).toNat) (h1 : 0 ≤ c) (h2 : c < 65536) : Rng c 0 0 k := rng_k h7 h8 h1 h2
theorem lt4 {d : Int} (h0 : 0 ≤ d) (h : d < 4) : d = 0 ∨ d = 1 ∨ d = 2 ∨ d = 3 := by omega
theorem small_k {d : Int} (h : d < 9) : d < 4294967296 := Int.lt_trans h (by decide)
theorem small_b {d : Int} (h : d < 9) : d < 256 := Int.lt_trans h (by decide)

section
variable {w : World} {p : Program} {lo : List Str} {mean : ExcName → Option Value} {mg mb : Str → Option Value} {dp un : Nat} {gd : Option (List Code)} {cn : Str} {cs : Scope} {a : Addr} {ccd : Value} {cl : List (Str × Addr)} {outer : List Env} {A₀ : Around} {base h₀ : Heap} {L : Addr} {m : Str → Option Value} {s : Shared} {Q E : Value → Shared → Prop} {news : List (Addr × Obj)}
  {c : Addr} {n k : Int} {t0 t1 : Tok} {nn r : Nat} {rest : List (Addr × Obj)} {g : Obj → List (Addr × Obj)}
theorem cutInt {M : Model} {A : Around} {t : Sem Value} (P : Int → Prop) (_ : Fr h₀ L s.heap m) (_ : News h₀ L s.heap news) (_ : UpdF c (chestObj n t0 k t1 nn) news g) (_ : Fuel k (r + 1))
  (h : ∀ Q' : Value → Shared → Prop, (∀ d td n' t0' k' t1' nn' h' tk', P d → Fuel k' r → Fr h₀ L h' m → News h₀ L h' (g (chestObj n' t0' k' t1' nn')) → Q' (.int d td) { s with heap := h', toks := tk' }) → wpAny M A t Q' E s)
  (ret : ∀ d td n' t0' k' t1' nn' h' tk', P d → Fuel k' r → Fr h₀ L h' m → News h₀ L h' (g (chestObj n' t0' k' t1' nn')) → Q (.int d td) { s with heap := h', toks := tk' }) : wpAny M A t Q E s := h Q ret

theorem order0 (cx : Cx w p lo mean mg mb A₀ base outer h₀ L s.heap m cs)
  (N : News h₀ L s.heap ((c, chestObj n t0 k t1 nn) :: rest)) (hne : ∀ p ∈ rest, p.1 ≠ c) (fu : Fuel k (r + 16)) (hd : dp + 4 < recursionLimit)
  (ret : ∀ n' t0' k' t1' nn' x dx u1 u2 u3 u4 c1 c2 c3 c4 w1 w2 w3 w4 h' tk', Fuel k' r → Rng c1 c2 c3 c4 → Fr h₀ L h' m → News h₀ L h' ((x, instObj 90 dx) :: (dx, ordD w.params u1 u2 u3 u4 (.int c1 w1) (.int c2 w2) (.int c3 w3) (.int c4 w4)) :: (c, chestObj n' t0' k' t1' nn') :: rest) → ((∀ p ∈ rest, p.1 < dx) ∧ c < dx) → dx < x → Q (.ref x) { s with heap := h', toks := tk' }) :
  wpAny (model PySem.Challenge.rw_rg0263_01.row.prog w) (ktrTop dp un gd cn cs L a ccd cl outer) (call (.ref 267) [.ref c]) Q E s := by
  obtain ⟨B, F, X, T, hk⟩ := cx
  (refine wpAny_call ?_; k_dflt (refine' code_def ?qk1 ?qk2 ?qk3 ?qk4 ?qk5 ?qkA ?qkF ?qkK ?qk6 ?qk7 ?qk8 ?qk9 ?qkB ?_ ?qc2 ?qc3 ?qc4 ?qc5; (case qkA => exact rfl); (case qkF => exact rfl); (case qkK => first | assumption | exact rfl); (case qk1 => k_asm); (case qk2 => k_asm); (case qk3 => k_asm); (case qk4 => k_asm); (case qk5 => k_asm); (case qk6 => k_is); (case qk7 => k_is); (case qk8 => exact rm (a := 0) hd (by decide)); (case qk9 => exact BindsTo.of_eq rfl); (case qc5 => decide); (case qkB => exact locs rfl); (case qc2 => exact rfl); (case qc3 => exact rfl); (case qc4 => exact rfl); k_whole; intro g' L' h' FG' F' N' B' X' T'; (try dsimp only); (try k_fold)))
  k_with_none
  k_with "iop" => (first | exact Iop.add | exact Iop.sub | exact Iop.mod (by first | assumption | decide) | exact Iop.div (by decide) (by decide))
  k_with "idx" => decide
  k_with "item" => rfl
  k_with "nn" => (first | decide | assumption)
  k_with "sevi" => (first | exact Sev.int | exact Sev.loc rfl rfl (by decide) | exact Sev.glo rfl (by k_is) (by decide) | (apply Sev.bin; (k_extra "sevi"); (k_extra "sevi"); (k_extra "iop")) | (apply Sev.item; (k_extra "sevi"); (k_extra "sevi"); k_mem; (k_extra "nn"); (k_extra "idx"); (k_extra "item")) | (apply Sev.fld; (k_extra "sevi"); k_mem; k_mem; constructor; rfl))
  k_with "sargs" => (first | exact Sargs.nil | (apply Sargs.cons; (k_extra "sevi"); (k_extra "sargs")))
  k_with "eval Call" => ((with_reducible show wpAny _ _ (eval (Expr.Call (Expr.Name _ _) _ [] _) _) _ _ _); k_dflt (refine' callS ?qF ?qX ?qT ?qN ?qh0 ?qkp ?qh1 ?_ ?qx1 ?qx2; (case qF => k_asm); (case qX => k_asm); (case qT => k_asm); (case qN => k_asm); (case qx1 => exact rfl); (case qx2 => exact rfl); (case qh0 => exact Sev.glo rfl (by k_is) (by decide)); (case qkp => k_is); (case qh1 => k_extra "sargs"); k_whole); (try dsimp only))
  k_with "isTrue Compare" => ((with_reducible show wpAny _ _ (isTrue (Expr.Compare _ [_] [_] _) _ _) _ _ _); k_dflt (refine' testS ?qF ?qX ?qT ?qN ?qh1 ?qh2 ?qhc ?_ ?qx1 ?qx2; (case qF => k_asm); (case qX => k_asm); (case qT => k_asm); (case qN => k_asm); (case qx1 => exact rfl); (case qx2 => exact rfl); (case qh1 => k_extra "sevi"); (case qh2 => k_extra "sevi"); (case qhc => constructor); k_whole); (try dsimp only))
  k_with "evals" => (k_dflt (refine' evalS ?qF ?qX ?qT ?qN ?qh1 ?_ ?qx1 ?qx2; (case qF => k_asm); (case qX => k_asm); (case qT => k_asm); (case qN => k_asm); (case qx1 => exact rfl); (case qx2 => exact rfl); (case qh1 => k_extra "sevi"); k_whole); (try dsimp only))
  k_with "eval BinOp" => k_extra "evals"
  k_with "eval Subscript" => k_extra "evals"
  k_with "eval Attribute Name" => k_extra "evals"
  k_with "execs cons" => ((with_reducible show wpAny _ _ (execs (Stmt.Assign [Expr.Name _ _] _ _ :: _) _) _ _ _); k_dflt (refine' assignS ?qF ?qX ?qT ?qN ?qh1 ?qhx ?qhs ?_ ?qx1 ?qx2; (case qF => k_asm); (case qX => k_asm); (case qT => k_asm); (case qN => k_asm); (case qx1 => exact rfl); (case qx2 => exact rfl); (case qhx => exact rfl); (case qhs => exact rfl); (case qh1 => k_extra "sevi"); k_whole); intro h' F' N'; (try k_sweep); (try dsimp only))
  k_with "table" => skip
  k_with "updc" => (first | exact UpdC.head | (apply UpdC.tail; rfl; k_extra "updc"))
  k_with "updf" => (first | exact UpdF.head hne | (refine' UpdC.F ?quc (by k_asm) hne; (case quc => k_extra "updc")))
  k_with "call ref" => ((first | (with_reducible show wpAny _ _ (call (Value.ref 219) _) _ _ _) | (with_reducible show wpAny _ _ (call (Value.ref 212) _) _ _ _) | (with_reducible show wpAny _ _ (call (Value.ref 170) _) _ _ _) | (with_reducible show wpAny _ _ (call (Value.ref 226) _) _ _ _) | (with_reducible show wpAny _ _ (call (Value.ref 233) _) _ _ _) | (with_reducible show wpAny _ _ (call (Value.ref 177) _) _ _ _)); (refine wpAny_call ?_; k_dflt (refine' code_def ?qk1 ?qk2 ?qk3 ?qk4 ?qk5 ?qkA ?qkF ?qkK ?qk6 ?qk7 ?qk8 ?qk9 ?qkB ?_ ?qc2 ?qc3 ?qc4 ?qc5; (case qkA => exact rfl); (case qkF => exact rfl); (case qkK => first | assumption | exact rfl); (case qk1 => k_asm); (case qk2 => k_asm); (case qk3 => k_asm); (case qk4 => k_asm); (case qk5 => k_asm); (case qk6 => k_is); (case qk7 => k_is); (case qk8 => exact rm (a := 1) hd (by decide)); (case qk9 => exact BindsTo.of_eq rfl); (case qc5 => decide); (case qkB => exact locs rfl); (case qc2 => exact rfl); (case qc3 => exact rfl); (case qc4 => exact rfl); k_whole; intro g' L' h' FG' F' N' B' X' T'; (try dsimp only); (try k_fold))))
  k_with "call ref" => ((with_reducible show wpAny _ _ (call (Value.ref 253) _) _ _ _); k_dflt (refine' penny ⟨?qB, ?qF, ?qX, ?qT, ?qK⟩ ?qN ?qU ?qf ?qm0 ?qm1 ?qhd ?_ ; (case qB => k_asm); (case qF => k_asm); (case qX => k_asm); (case qT => k_asm); (case qK => first | assumption | exact rfl); (case qN => k_asm); (case qU => k_extra "updf"); (case qf => assumption); (case qm0 => first | decide | assumption); (case qm1 => first | decide | assumption); (case qhd => exact rm (a := 2) hd (by decide)); k_whole); intro d' td' n' t0' k' t1' nn' h' tk' e1 e2 e3 F' N'; (try k_sweep); (try dsimp only); (try k_fold))
  k_with "call ref" => ((with_reducible show wpAny _ _ (call (Value.ref 260) _) _ _ _); k_dflt (refine' field ⟨?qB, ?qF, ?qX, ?qT, ?qK⟩ ?qN ?qU ?qf ?qm0 ?qm1 ?qhd ?_ ; (case qB => k_asm); (case qF => k_asm); (case qX => k_asm); (case qT => k_asm); (case qK => first | assumption | exact rfl); (case qN => k_asm); (case qU => k_extra "updf"); (case qf => assumption); (case qm0 => decide); (case qm1 => decide); (case qhd => exact rm (a := 3) hd (by decide)); k_whole); intro d' td' n' t0' k' t1' nn' h' tk' e1 e2 e3 F' N'; (try k_sweep); (try dsimp only); (try k_fold))
  k_with "call ref" => ((with_reducible show wpAny _ _ (call (Value.ref 90) _) _ _ _); k_dflt (refine' mk ⟨?qB, ?qF, ?qX, ?qT, ?qK⟩ ?qN _ _ _ _ ?qhd ?_ ; (case qB => k_asm); (case qF => k_asm); (case qX => k_asm); (case qT => k_asm); (case qK => first | assumption | exact rfl); (case qN => k_asm); (case qhd => first | exact rm (a := 3) hd (by decide) | exact rm (a := 4) hd (by decide)); k_whole); intro x' d' t1' t2' t3' t4' h' tk' F' N' l1 l2; (try k_sweep); (try dsimp only); (try k_fold))
  k_with "call ref" => ((with_reducible show wpAny _ _ (call (Value.ref 205) _) _ _ _); k_dflt (refine' jumpa ⟨?qB, ?qF, ?qX, ?qT, ?qK⟩ ?qN ?qR ?qhd ?_ ; (case qB => k_asm); (case qF => k_asm); (case qX => k_asm); (case qT => k_asm); (case qK => first | assumption | exact rfl); (case qN => k_asm); (case qR => exact rng_k hP.1 hP.2 (by decide) (by decide)); (case qhd => exact rm (a := 4) hd (by decide)); k_whole); intro x' d' t1' t2' t3' t4' c1' c2' c3' c4' u1' u2' u3' u4' h' tk' R' F' N' l1 l2; (try k_sweep); (try dsimp only); (try k_fold))
  k_with "call ref" => ((with_reducible show wpAny _ _ (call (Value.ref 191) _) _ _ _); k_dflt (refine' jumpk ⟨?qB, ?qF, ?qX, ?qT, ?qK⟩ ?qN ?qW ?qp ?q4 ?qR ?qhd ?_ ; (case qB => k_asm); (case qF => k_asm); (case qX => k_asm); (case qT => k_asm); (case qK => first | assumption | exact rfl); (case qN => k_asm); (case qW => exact (test_word (by assumption)).1); (case qp => exact Nat.succ_pos _); (case q4 => exact (test_word (by assumption)).2); (case qR => exact (rng_j (by assumption) (by assumption) hP e1 e2).1); (case qhd => exact rm (a := 4) hd (by decide)); k_whole); intro x' d' t1' t2' t3' t4' c1' c2' c3' c4' u1' u2' u3' u4' h' tk' R' F' N' l1 l2; (try k_sweep); (try dsimp only); (try k_fold))
  k_with "call ref" => ((with_reducible show wpAny _ _ (call (Value.ref 198) _) _ _ _); k_dflt (refine' jumpx ⟨?qB, ?qF, ?qX, ?qT, ?qK⟩ ?qN ?qW ?qp ?q4 ?qR ?qhd ?_ ; (case qB => k_asm); (case qF => k_asm); (case qX => k_asm); (case qT => k_asm); (case qK => first | assumption | exact rfl); (case qN => k_asm); (case qW => exact (test_word (by assumption)).1); (case qp => exact Nat.succ_pos _); (case q4 => exact (test_word (by assumption)).2); (case qR => exact (rng_j (k := 0) (by assumption) (by assumption) hP (by decide) (by decide)).2); (case qhd => exact rm (a := 4) hd (by decide)); k_whole); intro x' d' t1' t2' t3' t4' c1' c2' c3' c4' u1' u2' u3' u4' h' tk' R' F' N' l1 l2; (try k_sweep); (try dsimp only); (try k_fold))
  k_with "call ref" => ((with_reducible show wpAny _ _ (call (Value.ref 163) _) _ _ _); k_dflt (refine' spot ⟨?qB, ?qF, ?qX, ?qT, ?qK⟩ ?qN ?qx ?qW ?qhd ?_ ; (case qB => k_asm); (case qF => k_asm); (case qX => k_asm); (case qT => k_asm); (case qK => first | assumption | exact rfl); (case qN => k_asm); (case qx => decide +kernel); (case qW => exact xor_word); (case qhd => exact rm (a := 3) hd (by decide)); k_whole); intro t' h' tk' F' N'; (try k_sweep); (try dsimp only); (try k_fold))
  k_with "ifend" => (refine' ret' _ _ _ _ _ _ _ _ _ ⟨?qp1, ?qp2⟩ ?qfu ?qFF ?qNN; (case qFF => k_asm); (case qNN => k_asm); (case qfu => assumption); (case qp1 => first | decide | assumption | exact (neg_k (by assumption) (by assumption)).1); (case qp2 => first | decide | exact small_b (by assumption) | exact small_k (by assumption) | exact (neg_k (by assumption) (by assumption)).2))
  k_with "eval IfExp" => ((with_reducible show wpAny _ _ (eval (Expr.IfExp _ (Expr.Name _ _) (Expr.Constant _ _ _) _) _) _ _ _); k_dflt (refine' cutInt (fun d => 0 ≤ d ∧ d < 256) ?qF ?qN ?qU ?qf ?qh ?_; (case qF => k_asm); (case qN => k_asm); (case qU => k_extra "updf"); (case qf => assumption)); (case qh => (intro Q' ret'; refine wpAny_IfExp ?_; k_steps; all_goals k_extra "ifend")); intro d' td' n' t0' k' t1' nn' h' tk' hP e3 F' N'; (try k_sweep); (try dsimp only))
  k_with "eval IfExp" => ((with_reducible show wpAny _ _ (eval (Expr.IfExp _ (Expr.Name _ _) (Expr.BinOp _ _ _ _) _) _) _ _ _); k_dflt (refine' cutInt (fun d => 0 ≤ d ∧ d < 4294967296) ?qF ?qN ?qU ?qf ?qh ?_; (case qF => k_asm); (case qN => k_asm); (case qU => k_extra "updf"); (case qf => assumption)); (case qh => (intro Q' ret'; refine wpAny_IfExp ?_; k_steps; all_goals k_extra "ifend")); intro d' td' n' t0' k' t1' nn' h' tk' hP e3 F' N'; (try k_sweep); (try dsimp only))
  k_with "subscriptTail Name Call ref int" => ((rcases lt4 e1 e2 with e | e | e | e) <;> subst e <;> k_dflt (refine' item_tupleT ?qt (by decide) (by decide) ?qc ?qd ?_; (case qt => exact News.isTup (by k_asm) (.head _)); (case qc => rfl); (case qd => with_unfolding_all rfl); k_whole))
  k_with "mem3" => exact List.forall_mem_cons.mpr ⟨by k_mem, List.forall_mem_cons.mpr ⟨by k_mem, List.forall_mem_cons.mpr ⟨by k_mem, (UpdC.mem (by k_extra "updc")).2⟩⟩⟩
  k_with "rng" => (first | assumption | exact rng_fields (by assumption) (by assumption) (by assumption) (by assumption) (by assumption) (by assumption) (by assumption) (by assumption) | exact rng_k (by assumption) (small_k (by assumption)) (by decide) (by decide) | exact rng_k2 (by assumption) (by assumption) (by decide) (by decide) | (constructor <;> decide))
  k_steps
  all_goals (refine' ret _ _ _ _ _ _ _ _ _ _ _ _ _ _ _ _ _ _ _ _ _ ?qfu ?qR ?qF ?qN ?qlo ?qlt; (case qF => k_asm); (case qN => (refine' cb_drop ?qn ?qs; (case qn => k_asm); (case qs => k_extra "mem3"))); (case qlo => (refine' UpdC.lows ?ql ?qu; (case ql => assumption); (case qu => k_extra "updc"))); (case qlt => assumption); (case qfu => (refine' Fuel.le ?qg ?qh; (case qg => assumption); (case qh => exact Nat.le_add_right _ _))); (case qR => k_extra "rng"))
theorem order (cx : Cx w p lo mean mg mb A₀ base outer h₀ L s.heap m cs)
  (N : News h₀ L s.heap news) (U : UpdF c (chestObj n t0 k t1 nn) news g) (fu : Fuel k (r + 16)) (hd : dp + 4 < recursionLimit)
  (ret : ∀ n' t0' k' t1' nn' x dx u1 u2 u3 u4 c1 c2 c3 c4 w1 w2 w3 w4 h' tk', Fuel k' r → Rng c1 c2 c3 c4 → Fr h₀ L h' m → News h₀ L h' ((x, instObj 90 dx) :: (dx, ordD w.params u1 u2 u3 u4 (.int c1 w1) (.int c2 w2) (.int c3 w3) (.int c4 w4)) :: g (chestObj n' t0' k' t1' nn')) → (∀ p ∈ news, p.1 < dx) → dx < x → Q (.ref x) { s with heap := h', toks := tk' }) :
  wpAny (model PySem.Challenge.rw_rg0263_01.row.prog w) (ktrTop dp un gd cn cs L a ccd cl outer) (call (.ref 267) [.ref c]) Q E s := by
  obtain ⟨rest, N0, h1, h2, h3⟩ := updF_open U N
  refine order0 cx N0 h1 fu hd fun n' t0' k' t1' nn' x dx u1 u2 u3 u4 c1 c2 c3 c4 w1 w2 w3 w4 h' tk' a1 a2 F' N' a3 a4 => ret n' t0' k' t1' nn' x dx u1 u2 u3 u4 c1 c2 c3 c4 w1 w2 w3 w4 h' tk' a1 a2 F' (fun p hp => ?_) (fun p hp => (h3 p hp).elim (fun e => e ▸ a3.2) (a3.1 p)) a4
  rcases List.mem_cons.mp hp with rfl | hp
  · exact N' _ (.head _)
  · rcases List.mem_cons.mp hp with rfl | hp
    · exact N' _ (.tail _ (.head _))
    · exact h2 _ _ _ _ (fun p hp => N' p (.tail _ (.tail _ hp))) p hp
end
section
open PyProof.Rows.LCg
/-- a comprehension's turns by what holds between them -/
theorem comp_inv {prog : Program} {w : World} {A : Around} {h₀ : Heap} {L : Addr} {m : Str → Option Value} {env : Env} {elt : Expr} {x : Str} {scope : Scope} {cl : List (Str × Addr)} {s : Shared} {S : List (Addr × Obj) → Prop} {P : Nat → Value → Prop} {Fin : List Value → List (Addr × Obj) → Prop} {n : Nat} {news : List (Addr × Obj)}
    (J : Nat → List Value → List (Addr × Obj) → Prop) (h0 : J 0 [] news) (hS : ∀ i ys news', J i ys news' → S news') (fin : ∀ ys news', J n ys news' → Fin ys news')
    (step : ∀ i v ys news' I oI C oC D m₂ h tk (E' : Value → Shared → Prop), i < n → P i v → J i ys news' → NsObj oC m₂ → m₂ x = some v → Fr h₀ L h m → News h₀ L h ((I, oI) :: (C, oC) :: (D, lst ys) :: news') → Off3 I C D news' → ((@Ne Nat I C) ∧ (@Ne Nat I D) ∧ (@Ne Nat C D)) →
      wpAny (model prog w) A (eval elt (compEnvC scope cl C env)) (CompEnd h₀ L m { s with heap := h, toks := tk } I oI C oC D (lst ys) (fun _ => True) (fun y news'' => J (i + 1) (ys ++ [y]) news'')) E' { s with heap := h, toks := tk }) :
    CompRest prog w A h₀ L m env elt x scope cl s S P Fin n 0 [] news := by
  have main : ∀ k i ys news', i + k = n → J i ys news' → CompRest prog w A h₀ L m env elt x scope cl s S P Fin k i ys news' := by
    intro k
    induction k with
    | zero => intro i ys news' e hj; have e' : i = n := e; subst e'; exact fin ys news' hj
    | succ k ih =>
      intro i ys news' e hj v I oI C oC D m₂ h tk E' hP hC hx F N off ne
      refine wpAny_mono (step i v ys news' I oI C oC D m₂ h tk E' (by omega) hP hj hC hx F N off ne) (fun y s₂ h₂ => ?_) fun _ _ e => e
      obtain ⟨h', tk', news'', e2, F', N', off', _, hj'⟩ := h₂
      exact ⟨h', tk', news'', e2, F', N', off', hS _ _ _ hj', ih (i + 1) _ _ (by omega) hj'⟩
  exact main n 0 [] news (Nat.zero_add n) h0
end

abbrev tupO (its : List Value) : Obj := { cls := .type "tuple", data := .seq its.toArray }
theorem newTup {M : Model} {A : Around} {E : Value → Shared → Prop} {s : Shared} {h₀ : Heap} {L : Addr} {m : Str → Option Value} {news : List (Addr × Obj)} {vs : List Value} {Q : Value → Shared → Prop} (F : Fr h₀ L s.heap m) (N : News h₀ L s.heap news)
    (h : ∀ t h', Fr h₀ L h' m → News h₀ L h' ((t, tupO vs) :: news) → (∀ p ∈ news, p.1 < t) → Q (.ref t) { s with heap := h' }) (hsz : vs.length ≤ sizeLine) : wpAny M A (newTuple vs) Q E s :=
  newTuple_N F N (fun h' F' N' => h _ h' F' N' fun p hp => Heap.lt_size (N p hp).1) hsz
section
variable {w : World} {p : Program} {lo : List Str} {mean : ExcName → Option Value} {mg mb : Str → Option Value} {dp un : Nat} {gd : Option (List Code)} {cn : Str} {cs : Scope} {a : Addr} {ccd : Value} {cl : List (Str × Addr)} {outer : List Env} {A₀ : Around} {base h₀ : Heap} {L : Addr} {m : Str → Option Value} {s : Shared} {Q E : Value → Shared → Prop} {news : List (Addr × Obj)}
  {x dx : Addr} {u1 u2 u3 u4 w1 w2 w3 w4 : Tok} {c1 c2 c3 c4 : Int}
theorem told (cx : Cx w p lo mean mg mb A₀ base outer h₀ L s.heap m cs) (N : News h₀ L s.heap news) (i1 : (x, instObj 90 dx) ∈ news) (i2 : (dx, ordD w.params u1 u2 u3 u4 (.int c1 w1) (.int c2 w2) (.int c3 w3) (.int c4 w4)) ∈ news) (hd : dp + 1 < recursionLimit)
  (ret : ∀ t h' tk', Fr h₀ L h' m → News h₀ L h' ((t, tupO [.int c1 w1, .int c2 w2, .int c3 w3, .int c4 w4]) :: news) → (∀ p ∈ news, p.1 < t) → Q (.ref t) { s with heap := h', toks := tk' }) :
  wpAny (model PySem.Challenge.rw_rg0263_01.row.prog w) (ktrTop dp un gd cn cs L a ccd cl outer) (call (.ref 87) [.ref x]) Q E s := by
  obtain ⟨B, F, X, T, hk⟩ := cx
  (refine wpAny_call ?_; k_dflt (refine' code_def ?qk1 ?qk2 ?qk3 ?qk4 ?qk5 ?qkA ?qkF ?qkK ?qk6 ?qk7 ?qk8 ?qk9 ?qkB ?_ ?qc2 ?qc3 ?qc4 ?qc5; (case qkA => exact rfl); (case qkF => exact rfl); (case qkK => first | assumption | exact rfl); (case qk1 => k_asm); (case qk2 => k_asm); (case qk3 => k_asm); (case qk4 => k_asm); (case qk5 => k_asm); (case qk6 => k_is); (case qk7 => k_is); (case qk8 => exact rm (a := 0) hd (by decide)); (case qk9 => exact BindsTo.of_eq rfl); (case qc5 => decide); (case qkB => exact locs rfl); (case qc2 => exact rfl); (case qc3 => exact rfl); (case qc4 => exact rfl); k_whole; intro g' L' h' FG' F' N' B' X' T'; (try dsimp only); (try k_fold)))
  k_with_none
  k_with "iop" => (first | exact Iop.add | exact Iop.sub | exact Iop.mod (by first | assumption | decide) | exact Iop.div (by decide) (by decide))
  k_with "idx" => decide
  k_with "item" => rfl
  k_with "nn" => (first | decide | assumption)
  k_with "sevi" => (first | exact Sev.int | exact Sev.loc rfl rfl (by decide) | exact Sev.glo rfl (by k_is) (by decide) | (apply Sev.bin; (k_extra "sevi"); (k_extra "sevi"); (k_extra "iop")) | (apply Sev.item; (k_extra "sevi"); (k_extra "sevi"); k_mem; (k_extra "nn"); (k_extra "idx"); (k_extra "item")) | (apply Sev.fld; (k_extra "sevi"); k_mem; k_mem; constructor; rfl))
  k_with "sargs" => (first | exact Sargs.nil | (apply Sargs.cons; (k_extra "sevi"); (k_extra "sargs")))
  k_with "eval Call" => ((with_reducible show wpAny _ _ (eval (Expr.Call (Expr.Name _ _) _ [] _) _) _ _ _); k_dflt (refine' callS ?qF ?qX ?qT ?qN ?qh0 ?qkp ?qh1 ?_ ?qx1 ?qx2; (case qF => k_asm); (case qX => k_asm); (case qT => k_asm); (case qN => k_asm); (case qx1 => exact rfl); (case qx2 => exact rfl); (case qh0 => exact Sev.glo rfl (by k_is) (by decide)); (case qkp => k_is); (case qh1 => k_extra "sargs"); k_whole); (try dsimp only))
  k_with "isTrue Compare" => ((with_reducible show wpAny _ _ (isTrue (Expr.Compare _ [_] [_] _) _ _) _ _ _); k_dflt (refine' testS ?qF ?qX ?qT ?qN ?qh1 ?qh2 ?qhc ?_ ?qx1 ?qx2; (case qF => k_asm); (case qX => k_asm); (case qT => k_asm); (case qN => k_asm); (case qx1 => exact rfl); (case qx2 => exact rfl); (case qh1 => k_extra "sevi"); (case qh2 => k_extra "sevi"); (case qhc => constructor); k_whole); (try dsimp only))
  k_with "evals" => (k_dflt (refine' evalS ?qF ?qX ?qT ?qN ?qh1 ?_ ?qx1 ?qx2; (case qF => k_asm); (case qX => k_asm); (case qT => k_asm); (case qN => k_asm); (case qx1 => exact rfl); (case qx2 => exact rfl); (case qh1 => k_extra "sevi"); k_whole); (try dsimp only))
  k_with "eval BinOp" => k_extra "evals"
  k_with "eval Subscript" => k_extra "evals"
  k_with "eval Attribute Name" => k_extra "evals"
  k_with "execs cons" => ((with_reducible show wpAny _ _ (execs (Stmt.Assign [Expr.Name _ _] _ _ :: _) _) _ _ _); k_dflt (refine' assignS ?qF ?qX ?qT ?qN ?qh1 ?qhx ?qhs ?_ ?qx1 ?qx2; (case qF => k_asm); (case qX => k_asm); (case qT => k_asm); (case qN => k_asm); (case qx1 => exact rfl); (case qx2 => exact rfl); (case qhx => exact rfl); (case qhs => exact rfl); (case qh1 => k_extra "sevi"); k_whole); intro h' F' N'; (try k_sweep); (try dsimp only))
  k_with "newTuple" => (k_dflt (refine' newTup ?qF ?qN ?_ ?qz; (case qF => k_asm); (case qN => k_asm); (case qz => exact Nat.le_of_ble_eq_true rfl)); intro t' h' F' N' l1; (try k_sweep); (try dsimp only))
  k_steps
  refine' ret _ _ _ ?qF ?qN l1
  case qF => k_asm
  case qN => k_asm
end
/-- the octets of a number, the lowest first -/
def littleL (x : Int) (n : Nat) : List Int := (List.range n).map fun i => x / 256 ^ i % 256
theorem littleL_len {x : Int} {n : Nat} : (littleL x n).length = n := by simp [littleL]
theorem littleL_rng {x : Int} {n : Nat} : ∀ v ∈ littleL x n, 0 ≤ v ∧ v < 256 := by
  intro v hv
  obtain ⟨i, _, rfl⟩ := List.mem_map.mp hv
  exact ⟨Int.emod_nonneg _ (by decide), Int.emod_lt_of_pos _ (by decide)⟩
theorem fdiv_pow (x : Int) (b : Nat) (i : Nat) : x.fdiv ((b : Int) ^ i) = x / (b : Int) ^ i := Int.fdiv_eq_ediv_of_nonneg _ (Int.pow_nonneg (Int.natCast_nonneg b))
theorem little_list {x sz : Int} {ys : List Value} (h : IntsAre ys (List.map (fun k' => Builtin.bitAnd (x.fdiv (2 ^ (8 * k').toNat)) 255) (rangeKs 0 (sz - 0).toNat))) : IntsAre ys (littleL x sz.toNat) := by
  have e : List.map (fun k' => Builtin.bitAnd (x.fdiv (2 ^ (8 * k').toNat)) 255) (rangeKs 0 (sz - 0).toNat) = littleL x sz.toNat := by
    unfold littleL rangeKs
    rw [List.map_map, Int.sub_zero]
    refine List.map_congr_left fun i _ => ?_
    show Builtin.bitAnd (x.fdiv (2 ^ (8 * ((0 : Int) + (i : Int))).toNat)) 255 = x / 256 ^ i % 256
    rw [bitAnd_m8, show (8 * ((0 : Int) + (i : Int))).toNat = 8 * i by omega, show (2 : Int) ^ (8 * i) = ((256 : Nat) : Int) ^ i by rw [Int.pow_mul]; rfl, fdiv_pow]
    rfl
  rw [← e]; exact h
section
variable {w : World} {p : Program} {lo : List Str} {mean : ExcName → Option Value} {mg mb : Str → Option Value} {dp un : Nat} {gd : Option (List Code)} {cn : Str} {cs : Scope} {a : Addr} {ccd : Value} {cl : List (Str × Addr)} {outer : List Env} {A₀ : Around} {base h₀ : Heap} {L : Addr} {m : Str → Option Value} {s : Shared} {Q E : Value → Shared → Prop} {news : List (Addr × Obj)}
  {wv sz : Int} {tw ts : Tok}
theorem checkf (cx : Cx w p lo mean mg mb A₀ base outer h₀ L s.heap m cs) (N : News h₀ L s.heap news) (h0 : 0 ≤ wv) (h1 : wv < 2 ^ sz.toNat) (hs0 : 0 ≤ sz) (hs1 : sz ≤ 32) (hd : dp + 1 < recursionLimit)
  (ret : ∀ h' tk', Fr h₀ L h' m → News h₀ L h' news → Q .none { s with heap := h', toks := tk' }) :
  wpAny (model PySem.Challenge.rw_rg0263_01.row.prog w) (ktrTop dp un gd cn cs L a ccd cl outer) (call (.ref 129) [.int wv tw, .int sz ts]) Q E s := by
  obtain ⟨B, F, X, T, hk⟩ := cx
  (refine wpAny_call ?_; k_dflt (refine' code_def ?qk1 ?qk2 ?qk3 ?qk4 ?qk5 ?qkA ?qkF ?qkK ?qk6 ?qk7 ?qk8 ?qk9 ?qkB ?_ ?qc2 ?qc3 ?qc4 ?qc5; (case qkA => exact rfl); (case qkF => exact rfl); (case qkK => first | assumption | exact rfl); (case qk1 => k_asm); (case qk2 => k_asm); (case qk3 => k_asm); (case qk4 => k_asm); (case qk5 => k_asm); (case qk6 => k_is); (case qk7 => k_is); (case qk8 => exact rm (a := 0) hd (by decide)); (case qk9 => exact BindsTo.of_eq rfl); (case qc5 => decide); (case qkB => exact locs rfl); (case qc2 => exact rfl); (case qc3 => exact rfl); (case qc4 => exact rfl); k_whole; intro g' L' h' FG' F' N' B' X' T'; (try dsimp only); (try k_fold)))
  k_with_none
  k_with "iop" => (first | exact Iop.add | exact Iop.sub | exact Iop.mod (by first | assumption | decide) | exact Iop.div (by decide) (by decide))
  k_with "idx" => decide
  k_with "item" => rfl
  k_with "nn" => (first | decide | assumption)
  k_with "sevi" => (first | exact Sev.int | exact Sev.loc rfl rfl (by decide) | exact Sev.glo rfl (by k_is) (by decide) | (apply Sev.bin; (k_extra "sevi"); (k_extra "sevi"); (k_extra "iop")) | (apply Sev.item; (k_extra "sevi"); (k_extra "sevi"); k_mem; (k_extra "nn"); (k_extra "idx"); (k_extra "item")) | (apply Sev.fld; (k_extra "sevi"); k_mem; k_mem; constructor; rfl))
  k_with "sargs" => (first | exact Sargs.nil | (apply Sargs.cons; (k_extra "sevi"); (k_extra "sargs")))
  k_with "eval Call" => ((with_reducible show wpAny _ _ (eval (Expr.Call (Expr.Name _ _) _ [] _) _) _ _ _); k_dflt (refine' callS ?qF ?qX ?qT ?qN ?qh0 ?qkp ?qh1 ?_ ?qx1 ?qx2; (case qF => k_asm); (case qX => k_asm); (case qT => k_asm); (case qN => k_asm); (case qx1 => exact rfl); (case qx2 => exact rfl); (case qh0 => exact Sev.glo rfl (by k_is) (by decide)); (case qkp => k_is); (case qh1 => k_extra "sargs"); k_whole); (try dsimp only))
  k_with "isTrue Compare" => ((with_reducible show wpAny _ _ (isTrue (Expr.Compare _ [_] [_] _) _ _) _ _ _); k_dflt (refine' testS ?qF ?qX ?qT ?qN ?qh1 ?qh2 ?qhc ?_ ?qx1 ?qx2; (case qF => k_asm); (case qX => k_asm); (case qT => k_asm); (case qN => k_asm); (case qx1 => exact rfl); (case qx2 => exact rfl); (case qh1 => k_extra "sevi"); (case qh2 => k_extra "sevi"); (case qhc => constructor); k_whole); (try dsimp only))
  k_with "evals" => (k_dflt (refine' evalS ?qF ?qX ?qT ?qN ?qh1 ?_ ?qx1 ?qx2; (case qF => k_asm); (case qX => k_asm); (case qT => k_asm); (case qN => k_asm); (case qx1 => exact rfl); (case qx2 => exact rfl); (case qh1 => k_extra "sevi"); k_whole); (try dsimp only))
  k_with "eval BinOp" => k_extra "evals"
  k_with "eval Subscript" => k_extra "evals"
  k_with "eval Attribute Name" => k_extra "evals"
  k_with "execs cons" => ((with_reducible show wpAny _ _ (execs (Stmt.Assign [Expr.Name _ _] _ _ :: _) _) _ _ _); k_dflt (refine' assignS ?qF ?qX ?qT ?qN ?qh1 ?qhx ?qhs ?_ ?qx1 ?qx2; (case qF => k_asm); (case qX => k_asm); (case qT => k_asm); (case qN => k_asm); (case qx1 => exact rfl); (case qx2 => exact rfl); (case qhx => exact rfl); (case qhs => exact rfl); (case qh1 => k_extra "sevi"); k_whole); intro h' F' N'; (try k_sweep); (try dsimp only))
  k_steps
  refine' ret _ _ ?qF ?qN
  case qF => k_asm
  case qN => k_asm
theorem little (cx : Cx w p lo mean mg mb A₀ base outer h₀ L s.heap m cs) (N : News h₀ L s.heap news) (hs0 : 0 ≤ sz) (hs1 : sz ≤ 4) (hd : dp + 1 < recursionLimit)
  (ret : ∀ t h' tk', Fr h₀ L h' m → News h₀ L h' news → Q (.bytes (byteArr (littleL wv sz.toNat)) t) { s with heap := h', toks := tk' }) :
  wpAny (model PySem.Challenge.rw_rg0263_01.row.prog w) (ktrTop dp un gd cn cs L a ccd cl outer) (call (.ref 59) [.int wv tw, .int sz ts]) Q E s := by
  obtain ⟨B, F, X, T, hk⟩ := cx
  (refine wpAny_call ?_; k_dflt (refine' code_defC ?qk1 ?qk2 ?qk3 ?qk4 ?qk5 ?qkA ?qkF ?qkK ?qk6 ?qk7 ?qk8 ?qk9 ?qkB ?qkD ?_ ?qc2 ?qc3 ?qc4; (case qkA => exact rfl); (case qkF => exact rfl); (case qkK => first | assumption | exact rfl); (case qk1 => k_asm); (case qk2 => k_asm); (case qk3 => k_asm); (case qk4 => k_asm); (case qk5 => k_asm); (case qk6 => k_is); (case qk7 => k_is); (case qk8 => exact rm (a := 0) hd (by decide)); (case qk9 => exact BindsTo.of_eq rfl); (case qkB => exact rfl); (case qkD => decide +kernel); (case qc2 => exact rfl); (case qc3 => exact rfl); (case qc4 => exact rfl); k_whole; intro g' L' h' tk' cells' FG' F' N' Y' B' X' T' l1; k_cells Y'; (try simp only [List.cons_append, List.nil_append] at N'); (try dsimp only); (try k_fold)))
  k_with_none
  k_with "iop" => (first | exact Iop.add | exact Iop.sub | exact Iop.mod (by first | assumption | decide) | exact Iop.div (by decide) (by decide))
  k_with "idx" => decide
  k_with "item" => rfl
  k_with "nn" => (first | decide | assumption)
  k_with "sevi" => (first | exact Sev.int | exact Sev.loc rfl rfl (by decide) | exact Sev.glo rfl (by k_is) (by decide) | (apply Sev.bin; (k_extra "sevi"); (k_extra "sevi"); (k_extra "iop")) | (apply Sev.item; (k_extra "sevi"); (k_extra "sevi"); k_mem; (k_extra "nn"); (k_extra "idx"); (k_extra "item")) | (apply Sev.fld; (k_extra "sevi"); k_mem; k_mem; constructor; rfl))
  k_with "sargs" => (first | exact Sargs.nil | (apply Sargs.cons; (k_extra "sevi"); (k_extra "sargs")))
  k_with "eval Call" => ((with_reducible show wpAny _ _ (eval (Expr.Call (Expr.Name _ _) _ [] _) _) _ _ _); k_dflt (refine' callS ?qF ?qX ?qT ?qN ?qh0 ?qkp ?qh1 ?_ ?qx1 ?qx2; (case qF => k_asm); (case qX => k_asm); (case qT => k_asm); (case qN => k_asm); (case qx1 => exact rfl); (case qx2 => exact rfl); (case qh0 => exact Sev.glo rfl (by k_is) (by decide)); (case qkp => k_is); (case qh1 => k_extra "sargs"); k_whole); (try dsimp only))
  k_with "isTrue Compare" => ((with_reducible show wpAny _ _ (isTrue (Expr.Compare _ [_] [_] _) _ _) _ _ _); k_dflt (refine' testS ?qF ?qX ?qT ?qN ?qh1 ?qh2 ?qhc ?_ ?qx1 ?qx2; (case qF => k_asm); (case qX => k_asm); (case qT => k_asm); (case qN => k_asm); (case qx1 => exact rfl); (case qx2 => exact rfl); (case qh1 => k_extra "sevi"); (case qh2 => k_extra "sevi"); (case qhc => constructor); k_whole); (try dsimp only))
  k_with "evals" => (k_dflt (refine' evalS ?qF ?qX ?qT ?qN ?qh1 ?_ ?qx1 ?qx2; (case qF => k_asm); (case qX => k_asm); (case qT => k_asm); (case qN => k_asm); (case qx1 => exact rfl); (case qx2 => exact rfl); (case qh1 => k_extra "sevi"); k_whole); (try dsimp only))
  k_with "eval BinOp" => k_extra "evals"
  k_with "eval Subscript" => k_extra "evals"
  k_with "eval Attribute Name" => k_extra "evals"
  k_with "execs cons" => ((with_reducible show wpAny _ _ (execs (Stmt.Assign [Expr.Name _ _] _ _ :: _) _) _ _ _); k_dflt (refine' assignS ?qF ?qX ?qT ?qN ?qh1 ?qhx ?qhs ?_ ?qx1 ?qx2; (case qF => k_asm); (case qX => k_asm); (case qT => k_asm); (case qN => k_asm); (case qx1 => exact rfl); (case qx2 => exact rfl); (case qhx => exact rfl); (case qhs => exact rfl); (case qh1 => k_extra "sevi"); k_whole); intro h' F' N'; (try k_sweep); (try dsimp only))
  k_with "call type:bytes" => (k_dflt (refine' call_bytes_ints ?qhl (little_list (by assumption)) littleL_rng ?qhz rfl ?_; (case qhl => exact News.isList (by k_asm) (.head _)); (case qhz => (rw [IntsAre.length (little_list (by assumption)), littleL_len]; exact Nat.le_trans (Int.toNat_le.mpr hs1) (by decide)))); intro h' t' k' hk'; (have F' := Fr.keeps (by k_asm) hk'); (have N' := News.grown (by k_asm) hk'); (try k_sweep); (try dsimp only))
  k_steps
  refine' ret _ _ _ ?qF ?qN
  case qF => k_asm
  case qN => (refine' newsTail (newsTail ?qn); (case qn => k_asm))
end
def packL (c a b k : Int) : List Int := littleL c 2 ++ [a, b] ++ littleL k 4
theorem pack_eq {c a b k : Int} : ((byteArr (littleL c (Int.toNat 2))).toList ++ (byteArr [a, b]).toList ++ (byteArr (littleL k (Int.toNat 4))).toList).toArray = byteArr (packL c a b k) := by
  show _ = byteArr (littleL c 2 ++ [a, b] ++ littleL k 4)
  simp only [byteArr, List.map_append]
  rfl
theorem Rng.two {c a b k : Int} (R : Rng c a b k) : ∀ v ∈ [a, b], 0 ≤ v ∧ v < 256 := List.forall_mem_cons.mpr ⟨⟨R.a0, R.a1⟩, List.forall_mem_cons.mpr ⟨⟨R.b0, R.b1⟩, List.forall_mem_nil _⟩⟩
theorem p256 {k : Int} (h : k < 0 + (((4 : Int) - 0).toNat : Int)) : (256 : Int) ^ k.toNat ≠ 0 ∧ ((256 : Int) ^ k.toNat).natAbs < 1073741824 := by
  have h1 : k.toNat < 4 := Int.toNat_lt' (by decide) |>.mpr h
  generalize k.toNat = n at h1
  match n, h1 with
  | 0, _ => decide
  | 1, _ => decide
  | 2, _ => decide
  | 3, _ => decide
theorem laid_list {c a b k : Int} (R : Rng c a b k) {ys : List Value} (h : IntsAre ys ([c.fmod 256, c.fdiv 256, a, b] ++ List.map (fun k' => (k.fdiv (256 ^ k'.toNat)).fmod 256) (rangeKs 0 ((4 : Int) - 0).toNat))) : IntsAre ys (packL c a b k) := by
  have e1 : c.fmod 256 = c / 256 ^ 0 % 256 := by rw [Int.pow_zero, Int.ediv_one]; exact Int.fmod_eq_emod_of_nonneg c (by decide)
  have e2 : c.fdiv 256 = c / 256 ^ 1 % 256 := by
    rw [Int.pow_succ, Int.pow_zero, Int.one_mul, Int.fdiv_eq_ediv_of_nonneg c (by decide)]
    exact (Int.emod_eq_of_lt (Int.ediv_nonneg R.c0 (by decide)) (Int.ediv_lt_of_lt_mul (by decide) R.c1)).symm
  have e3 : List.map (fun k' => (k.fdiv (256 ^ k'.toNat)).fmod 256) (rangeKs 0 ((4 : Int) - 0).toNat) = littleL k 4 := by
    have q : ∀ i : Nat, (k.fdiv (256 ^ i)).fmod 256 = k / 256 ^ i % 256 := fun i => by
      rw [show (256 : Int) = ((256 : Nat) : Int) from rfl, fdiv_pow]; exact Int.fmod_eq_emod_of_nonneg _ (by decide)
    unfold rangeKs littleL
    rw [List.map_map]
    refine List.map_congr_left fun i _ => ?_
    show (k.fdiv (256 ^ ((0 : Int) + (i : Int)).toNat)).fmod 256 = _
    rw [Int.zero_add, Int.toNat_natCast]
    exact q i
  rw [e1, e2, e3] at h
  exact h
theorem packL_len {c a b k : Int} : (packL c a b k).length = 8 := rfl
theorem packL_rng {c a b k : Int} (R : Rng c a b k) : ∀ v ∈ packL c a b k, 0 ≤ v ∧ v < 256 := fun v hv => by
  rcases List.mem_append.mp hv with hv | hv
  · rcases List.mem_append.mp hv with hv | hv
    · exact littleL_rng v hv
    · exact R.two v hv
  · exact littleL_rng v hv
section
variable {w : World} {p : Program} {lo : List Str} {mean : ExcName → Option Value} {mg mb : Str → Option Value} {dp un : Nat} {gd : Option (List Code)} {cn : Str} {cs : Scope} {a : Addr} {ccd : Value} {cl : List (Str × Addr)} {outer : List Env} {A₀ : Around} {base h₀ : Heap} {L : Addr} {m : Str → Option Value} {s : Shared} {Q E : Value → Shared → Prop} {news : List (Addr × Obj)}
  {x dx : Addr} {u1 u2 u3 u4 w1 w2 w3 w4 : Tok} {c1 c2 c3 c4 : Int}
theorem packc (cx : Cx w p lo mean mg mb A₀ base outer h₀ L s.heap m cs) (N : News h₀ L s.heap news) (i1 : (x, instObj 90 dx) ∈ news) (i2 : (dx, ordD w.params u1 u2 u3 u4 (.int c1 w1) (.int c2 w2) (.int c3 w3) (.int c4 w4)) ∈ news) (R : Rng c1 c2 c3 c4) (hd : dp + 2 < recursionLimit)
  (ret : ∀ t h' tk', Fr h₀ L h' m → News h₀ L h' news → Q (.bytes (byteArr (packL c1 c2 c3 c4)) t) { s with heap := h', toks := tk' }) :
  wpAny (model PySem.Challenge.rw_rg0263_01.row.prog w) (ktrTop dp un gd cn cs L a ccd cl outer) (call (.ref 136) [.ref x]) Q E s := by
  obtain ⟨B, F, X, T, hk⟩ := cx
  (refine wpAny_call ?_; k_dflt (refine' code_def ?qk1 ?qk2 ?qk3 ?qk4 ?qk5 ?qkA ?qkF ?qkK ?qk6 ?qk7 ?qk8 ?qk9 ?qkB ?_ ?qc2 ?qc3 ?qc4 ?qc5; (case qkA => exact rfl); (case qkF => exact rfl); (case qkK => first | assumption | exact rfl); (case qk1 => k_asm); (case qk2 => k_asm); (case qk3 => k_asm); (case qk4 => k_asm); (case qk5 => k_asm); (case qk6 => k_is); (case qk7 => k_is); (case qk8 => exact rm (a := 0) hd (by decide)); (case qk9 => exact BindsTo.of_eq rfl); (case qc5 => decide); (case qkB => exact locs rfl); (case qc2 => exact rfl); (case qc3 => exact rfl); (case qc4 => exact rfl); k_whole; intro g' L' h' FG' F' N' B' X' T'; (try dsimp only); (try k_fold)))
  k_with_none
  k_with "iop" => (first | exact Iop.add | exact Iop.sub | exact Iop.mod (by first | assumption | decide) | exact Iop.div (by decide) (by decide))
  k_with "idx" => decide
  k_with "item" => rfl
  k_with "nn" => (first | decide | assumption)
  k_with "sevi" => (first | exact Sev.int | exact Sev.loc rfl rfl (by decide) | exact Sev.glo rfl (by k_is) (by decide) | (apply Sev.bin; (k_extra "sevi"); (k_extra "sevi"); (k_extra "iop")) | (apply Sev.item; (k_extra "sevi"); (k_extra "sevi"); k_mem; (k_extra "nn"); (k_extra "idx"); (k_extra "item")) | (apply Sev.fld; (k_extra "sevi"); k_mem; k_mem; constructor; rfl))
  k_with "sargs" => (first | exact Sargs.nil | (apply Sargs.cons; (k_extra "sevi"); (k_extra "sargs")))
  k_with "eval Call" => ((with_reducible show wpAny _ _ (eval (Expr.Call (Expr.Name _ _) _ [] _) _) _ _ _); k_dflt (refine' callS ?qF ?qX ?qT ?qN ?qh0 ?qkp ?qh1 ?_ ?qx1 ?qx2; (case qF => k_asm); (case qX => k_asm); (case qT => k_asm); (case qN => k_asm); (case qx1 => exact rfl); (case qx2 => exact rfl); (case qh0 => exact Sev.glo rfl (by k_is) (by decide)); (case qkp => k_is); (case qh1 => k_extra "sargs"); k_whole); (try dsimp only))
  k_with "isTrue Compare" => ((with_reducible show wpAny _ _ (isTrue (Expr.Compare _ [_] [_] _) _ _) _ _ _); k_dflt (refine' testS ?qF ?qX ?qT ?qN ?qh1 ?qh2 ?qhc ?_ ?qx1 ?qx2; (case qF => k_asm); (case qX => k_asm); (case qT => k_asm); (case qN => k_asm); (case qx1 => exact rfl); (case qx2 => exact rfl); (case qh1 => k_extra "sevi"); (case qh2 => k_extra "sevi"); (case qhc => constructor); k_whole); (try dsimp only))
  k_with "evals" => (k_dflt (refine' evalS ?qF ?qX ?qT ?qN ?qh1 ?_ ?qx1 ?qx2; (case qF => k_asm); (case qX => k_asm); (case qT => k_asm); (case qN => k_asm); (case qx1 => exact rfl); (case qx2 => exact rfl); (case qh1 => k_extra "sevi"); k_whole); (try dsimp only))
  k_with "eval BinOp" => k_extra "evals"
  k_with "eval Subscript" => k_extra "evals"
  k_with "eval Attribute Name" => k_extra "evals"
  k_with "execs cons" => ((with_reducible show wpAny _ _ (execs (Stmt.Assign [Expr.Name _ _] _ _ :: _) _) _ _ _); k_dflt (refine' assignS ?qF ?qX ?qT ?qN ?qh1 ?qhx ?qhs ?_ ?qx1 ?qx2; (case qF => k_asm); (case qX => k_asm); (case qT => k_asm); (case qN => k_asm); (case qx1 => exact rfl); (case qx2 => exact rfl); (case qhx => exact rfl); (case qhs => exact rfl); (case qh1 => k_extra "sevi"); k_whole); intro h' F' N'; (try k_sweep); (try dsimp only))
  k_with "call ref" => ((with_reducible show wpAny _ _ (call (Value.ref 129) _) _ _ _); k_dflt (refine' checkf ⟨?qB, ?qF, ?qX, ?qT, ?qK⟩ ?qN ?qa ?qb ?qc ?qd ?qhd ?_ ; (case qB => k_asm); (case qF => k_asm); (case qX => k_asm); (case qT => k_asm); (case qK => first | assumption | exact rfl); (case qN => k_asm); (case qa => first | exact R.c0 | exact R.a0 | exact R.b0 | exact R.k0); (case qb => first | exact R.c1 | exact R.a1 | exact R.b1 | exact R.k1); (case qc => decide); (case qd => decide); (case qhd => exact rm (a := 2) hd (by decide)); k_whole); intro h' tk' F' N'; (try k_sweep); (try dsimp only); (try k_fold))
  k_with "call ref" => ((with_reducible show wpAny _ _ (call (Value.ref 59) _) _ _ _); k_dflt (refine' little ⟨?qB, ?qF, ?qX, ?qT, ?qK⟩ ?qN ?qc ?qd ?qhd ?_ ; (case qB => k_asm); (case qF => k_asm); (case qX => k_asm); (case qT => k_asm); (case qK => first | assumption | exact rfl); (case qN => k_asm); (case qc => decide); (case qd => decide); (case qhd => exact rm (a := 2) hd (by decide)); k_whole); intro t' h' tk' F' N'; (try k_sweep); (try dsimp only); (try k_fold))
  k_with "call type:bytes" => (k_dflt (refine' call_bytes_ints ?qhl ?qhi R.two ?qhz rfl ?_; (case qhl => exact News.isList (by k_asm) (.head _)); (case qhi => repeat constructor); (case qhz => exact Nat.le_of_ble_eq_true rfl)); intro h' t' k' hk'; (have F' := Fr.keeps (by k_asm) hk'); (have N' := News.grown (newsTail (by k_asm)) hk'); (try k_sweep); (try dsimp only))
  k_steps
  rw [pack_eq]
  refine' ret _ _ _ ?qF ?qN
  case qF => k_asm
  case qN => k_asm

variable {tt : Addr}
theorem laid (cx : Cx w p lo mean mg mb A₀ base outer h₀ L s.heap m cs) (N : News h₀ L s.heap news) (i1 : (tt, tupO [.int c1 w1, .int c2 w2, .int c3 w3, .int c4 w4]) ∈ news) (R : Rng c1 c2 c3 c4) (hd : dp + 2 < recursionLimit)
  (ret : ∀ t h' tk', Fr h₀ L h' m → News h₀ L h' news → Q (.bytes (byteArr (packL c1 c2 c3 c4)) t) { s with heap := h', toks := tk' }) :
  wpAny (model PySem.Challenge.rw_rg0263_01.row.prog w) (ktrTop dp un gd cn cs L a ccd cl outer) (call (.ref 272) [.ref tt]) Q E s := by
  obtain ⟨B, F, X, T, hk⟩ := cx
  (refine wpAny_call ?_; k_dflt (refine' code_defC ?qk1 ?qk2 ?qk3 ?qk4 ?qk5 ?qkA ?qkF ?qkK ?qk6 ?qk7 ?qk8 ?qk9 ?qkB ?qkD ?_ ?qc2 ?qc3 ?qc4; (case qkA => exact rfl); (case qkF => exact rfl); (case qkK => first | assumption | exact rfl); (case qk1 => k_asm); (case qk2 => k_asm); (case qk3 => k_asm); (case qk4 => k_asm); (case qk5 => k_asm); (case qk6 => k_is); (case qk7 => k_is); (case qk8 => exact rm (a := 0) hd (by decide)); (case qk9 => exact BindsTo.of_eq rfl); (case qkB => exact rfl); (case qkD => decide +kernel); (case qc2 => exact rfl); (case qc3 => exact rfl); (case qc4 => exact rfl); k_whole; intro g' L' h' tk' cells' FG' F' N' Y' B' X' T' l1; k_cells Y'; (try simp only [List.cons_append, List.nil_append] at N'); (try dsimp only); (try k_fold)))
  k_with_none
  k_with "iop" => (first | exact Iop.add | exact Iop.sub | exact Iop.mod (by first | assumption | decide) | exact Iop.div (by decide) (by decide))
  k_with "idx" => decide
  k_with "item" => rfl
  k_with "nn" => (first | decide | assumption)
  k_with "sevi" => (first | exact Sev.int | exact Sev.loc rfl rfl (by decide) | exact Sev.glo rfl (by k_is) (by decide) | (apply Sev.bin; (k_extra "sevi"); (k_extra "sevi"); (k_extra "iop")) | (apply Sev.item; (k_extra "sevi"); (k_extra "sevi"); k_mem; (k_extra "nn"); (k_extra "idx"); (k_extra "item")) | (apply Sev.fld; (k_extra "sevi"); k_mem; k_mem; constructor; rfl))
  k_with "sargs" => (first | exact Sargs.nil | (apply Sargs.cons; (k_extra "sevi"); (k_extra "sargs")))
  k_with "eval Call" => ((with_reducible show wpAny _ _ (eval (Expr.Call (Expr.Name _ _) _ [] _) _) _ _ _); k_dflt (refine' callS ?qF ?qX ?qT ?qN ?qh0 ?qkp ?qh1 ?_ ?qx1 ?qx2; (case qF => k_asm); (case qX => k_asm); (case qT => k_asm); (case qN => k_asm); (case qx1 => exact rfl); (case qx2 => exact rfl); (case qh0 => exact Sev.glo rfl (by k_is) (by decide)); (case qkp => k_is); (case qh1 => k_extra "sargs"); k_whole); (try dsimp only))
  k_with "isTrue Compare" => ((with_reducible show wpAny _ _ (isTrue (Expr.Compare _ [_] [_] _) _ _) _ _ _); k_dflt (refine' testS ?qF ?qX ?qT ?qN ?qh1 ?qh2 ?qhc ?_ ?qx1 ?qx2; (case qF => k_asm); (case qX => k_asm); (case qT => k_asm); (case qN => k_asm); (case qx1 => exact rfl); (case qx2 => exact rfl); (case qh1 => k_extra "sevi"); (case qh2 => k_extra "sevi"); (case qhc => constructor); k_whole); (try dsimp only))
  k_with "evals" => (k_dflt (refine' evalS ?qF ?qX ?qT ?qN ?qh1 ?_ ?qx1 ?qx2; (case qF => k_asm); (case qX => k_asm); (case qT => k_asm); (case qN => k_asm); (case qx1 => exact rfl); (case qx2 => exact rfl); (case qh1 => k_extra "sevi"); k_whole); (try dsimp only))
  k_with "eval BinOp" => k_extra "evals"
  k_with "eval Subscript" => k_extra "evals"
  k_with "eval Attribute Name" => k_extra "evals"
  k_with "execs cons" => ((with_reducible show wpAny _ _ (execs (Stmt.Assign [Expr.Name _ _] _ _ :: _) _) _ _ _); k_dflt (refine' assignS ?qF ?qX ?qT ?qN ?qh1 ?qhx ?qhs ?_ ?qx1 ?qx2; (case qF => k_asm); (case qX => k_asm); (case qT => k_asm); (case qN => k_asm); (case qx1 => exact rfl); (case qx2 => exact rfl); (case qhx => exact rfl); (case qhs => exact rfl); (case qh1 => k_extra "sevi"); k_whole); intro h' F' N'; (try k_sweep); (try dsimp only))
  k_with "assign Tuple" => (k_dflt (refine' unpackN_ ?qF ?qN ?qT ?qk1 ?qk2 ?qk3 ?_; (case qF => k_asm); (case qN => k_asm); (case qT => exact News.isTup (by k_asm) (.tail _ i1)); (case qk1 => exact rfl); (case qk2 => exact rfl); (case qk3 => exact rfl); k_whole); intro h' F' N'; (try k_sweep); (try dsimp only))
  k_with "storeName" => (k_dflt (refine' storeX_C ?qF ?qN ?qc (UpdF.head (fun p hp => Nat.ne_of_lt (Nat.lt_succ_of_lt (l1 p hp)))) ?qd ?_ ?qa ?qb; (case qF => k_asm); (case qN => k_asm); (case qc => exact rfl); (case qd => k_asm); (case qa => exact rfl); (case qb => exact rfl)); intro h' o' F' N' d'; (try dsimp only at N'); k_sweep)
  k_with "call type:bytes" => (k_dflt (refine' call_bytes_ints ?qhl (laid_list R (by assumption)) (packL_rng R) ?qhz rfl ?_; (case qhl => exact News.isList (by k_asm) (.head _)); (case qhz => (rw [IntsAre.length (laid_list R (by assumption)), packL_len]; exact Nat.le_of_ble_eq_true rfl))); intro h' t' k' hk'; (have F' := Fr.keeps (by k_asm) hk'); (have N' := News.grown (by k_asm) hk'); (try k_sweep); (try dsimp only))
  k_with "binaryOp FloorDiv int int" => (k_dflt (refine floordiv_int (p256 (by assumption)).1 ?_ (Or.inl (PyProof.noPylong_small (p256 (by assumption)).2))); (try k_fold))
  k_with "eval ListComp" => (k_dflt (refine LCg.ListComp_U (F₀ := by k_asm) (by with_unfolding_all rfl) (by decide) (by rfl) (by decide) (by rfl) ?_))
  k_steps
  refine' ret _ _ _ ?qF ?qN
  case qF => k_asm
  case qN => (refine' newsTail (newsTail (newsTail (newsTail ?qn))); (case qn => k_asm))
end
/-- where a turn of a loop ends: the iterator stands as it stood, the loop's word holds -/
def TurnP (h₀ : Heap) (L I : Addr) (oI : Obj) (J : (Str → Option Value) → List (Addr × Obj) → Prop) (s₁ : Shared) (Q : Flow → Shared → Prop) (f : Flow) (s₂ : Shared) : Prop :=
  match f with
  | .ret v => Q (.ret v) s₂
  | .brk => Q .next s₂
  | _ => ∃ h' tk m' news', s₂ = { s₁ with heap := h', toks := tk } ∧ Fr h₀ L h' m' ∧ News h₀ L h' ((I, oI) :: news') ∧ (∀ p ∈ news', p.1 ≠ I) ∧ J m' news'
section
variable {prog : Program} {w : World} {A : Around} {E : Value → Shared → Prop} {s : Shared} {h₀ : Heap} {env : Env} {x : Str} {body : List Stmt} {Q : Flow → Shared → Prop} {m₀ : Str → Option Value} {news : List (Addr × Obj)}
theorem TurnP.intro {L I : Addr} {oI : Obj} {J : (Str → Option Value) → List (Addr × Obj) → Prop} {h' : Heap} {tk : Nat} {m' : Str → Option Value} {news' : List (Addr × Obj)} (F : Fr h₀ L h' m') (N : News h₀ L h' ((I, oI) :: news')) (o : ∀ p ∈ news', p.1 ≠ I) (hj : J m' news') :
    TurnP h₀ L I oI J s Q .next { s with heap := h', toks := tk } := ⟨h', tk, m', news', rfl, F, N, o, hj⟩
/-- a loop's turns by what holds between them, its iterator at I -/
theorem iter_W {I : Addr} {n : Nat} {P : Nat → Value → Prop} {St : Nat → Heap → Prop} (fp : List Addr) (J : Nat → (Str → Option Value) → List (Addr × Obj) → Prop)
    (W : Walks prog w A I fp [I] n P St) (hfp : ∀ b ∈ fp, b ≠ I → ∀ i m' nw h', J i m' nw → News h₀ env.locals h' nw → ∀ o, s.heap.get? b = some o → h'.get? b = some o) (hl : ∀ b ∈ fp, b ≠ I → ∃ o, s.heap.get? b = some o) (hLf : env.locals ∉ fp) (hI : h₀.get? I = none)
    (hIo : ∀ i h, St i h → ∃ o, h.get? I = some o) (hst : St 0 s.heap) (F : Fr h₀ env.locals s.heap m₀) (N : News h₀ env.locals s.heap news) (hnI : ∀ p ∈ news, p.1 ≠ I) (h0 : J 0 m₀ news)
    (turn : ∀ i v m₁ news₁ oI h tk, i < n → P i v → J i m₁ news₁ → Fr h₀ env.locals h (fun y => if y = x then some v else m₁ y) → News h₀ env.locals h ((I, oI) :: news₁) → (∀ p ∈ news₁, p.1 ≠ I) →
      wpAny (model prog w) A (execs body env) (TurnP h₀ env.locals I oI (J (i + 1)) { s with heap := h, toks := tk } Q) E { s with heap := h, toks := tk })
    (done : ∀ m₁ news₁ h tk, J n m₁ news₁ → Fr h₀ env.locals h m₁ → News h₀ env.locals h news₁ → Q .next { s with heap := h, toks := tk }) :
    LoopAtV prog w A h₀ env x body Q E (.ref I) s := by
  refine ⟨I, fp, [I], n, P, St, m₀, news, J, rfl, W, hLf, fun b hb => List.mem_singleton.mp hb ▸ hI, fun p hp hq => hnI p hp (List.mem_singleton.mp hq), hst, F, N, h0, ?_, fun h' tk m' news' F' N' _ hj => done m' news' h' tk hj F' N'⟩
  rintro i v m₁ news₁ s₁ own ⟨h, tk, rfl⟩ hi hP hJ hoff hown1 hown2 hown3 hst1 F₁ N₁
  obtain ⟨oI, eI⟩ := hIo _ _ hst1
  have hm : (I, oI) ∈ own := hown3 I (W.sub I (List.mem_singleton.mpr rfl)) hI oI eI
  have off₁ : ∀ p ∈ news₁, p.1 ≠ I := fun p hp e => hoff p hp (List.mem_singleton.mpr e)
  refine wpAny_mono (turn i v m₁ news₁ oI h tk hi hP hJ F₁ (fun p hp => N₁ p ?_) off₁) (fun f s₂ hf => ?_) fun _ _ e => e
  · rcases List.mem_cons.mp hp with rfl | hp
    · exact List.mem_append_left _ hm
    · exact List.mem_append_right _ hp
  have fin : (∃ h' tk m' news', s₂ = { s with heap := h', toks := tk } ∧ Fr h₀ env.locals h' m' ∧ News h₀ env.locals h' ((I, oI) :: news') ∧ (∀ p ∈ news', p.1 ≠ I) ∧ J (i + 1) m' news') → LoopStepU h₀ env.locals [I] own (J (i + 1)) { s with heap := h, toks := tk } .next s₂ := by
    rintro ⟨h', tk', m', news', e, F', N', off', hj⟩
    refine ⟨rfl, h', tk', m', news', e, F', fun p hp => ?_, fun p hp hq => off' p hp (List.mem_singleton.mp hq), hj⟩
    rcases List.mem_append.mp hp with hp | hp
    · refine ⟨?_, (N₁ p (List.mem_append_left _ hp)).2⟩
      by_cases hpI : p.1 = I
      · have e1 := hown2 p hp
        rw [hpI] at e1 ⊢
        rw [show p.2 = oI from Option.some.inj (e1.symm.trans eI)]
        exact (N' (I, oI) List.mem_cons_self).1
      · obtain ⟨o, eo⟩ := hl _ (hown1 p hp) hpI
        have e1 := hfp _ (hown1 p hp) hpI i m₁ news₁ h hJ (fun q hq => N₁ q (List.mem_append_right _ hq)) o eo
        rw [show p.2 = o from Option.some.inj ((hown2 p hp).symm.trans e1)]
        exact hfp _ (hown1 p hp) hpI (i + 1) m' news' h' hj (fun q hq => N' q (List.mem_cons_of_mem _ hq)) o eo
    · exact N' p (List.mem_cons_of_mem _ hp)
  cases f with
  | ret v => exact .ret hf
  | brk => exact .brk hf
  | next => exact .next (fin hf)
  | cont => exact .cont (fin hf)
theorem iter_range {r : Addr} {a b c : Int} {t u v : Tok} {n : Nat} (J : Nat → (Str → Option Value) → List (Addr × Obj) → Prop)
    (hh : A.handled = none) (F : Fr h₀ env.locals s.heap m₀) (N : News h₀ env.locals s.heap news) (hr : IsRange s.heap r a b c t u v) (hsm : Builtin.Range.small a b c = true) (hn : Builtin.Range.rangeSize a b c = ((n : Nat) : Int)) (h0 : J 0 m₀ news)
    (turn : ∀ i t m₁ news₁ I oI h tk, i < n → J i m₁ news₁ → Fr h₀ env.locals h (fun y => if y = x then some (.int (a + i * c) t) else m₁ y) → News h₀ env.locals h ((I, oI) :: news₁) → (∀ p ∈ news₁, p.1 ≠ I) →
      wpAny (model prog w) A (execs body env) (TurnP h₀ env.locals I oI (J (i + 1)) { s with heap := h, toks := tk } Q) E { s with heap := h, toks := tk })
    (done : ∀ m₁ news₁ h tk, J n m₁ news₁ → Fr h₀ env.locals h m₁ → News h₀ env.locals h news₁ → Q .next { s with heap := h, toks := tk }) :
    wpAny (model prog w) A (pyIter (.ref r)) (fun it s₂ => LoopAtV prog w A h₀ env x body Q E it s₂) E s := by
  refine wpAny_pyIter_range hr hsm ?_
  refine iter_W [s.heap.objs.size] J (Walks.range hh s.heap.objs.size a c n) (fun b hb hq => absurd (List.mem_singleton.mp hb) hq) (fun b hb hq => absurd (List.mem_singleton.mp hb) hq) (fun hb => Nat.ne_of_lt F.ns.lt (List.mem_singleton.mp hb)) (next_is_new F) (fun i h st => ⟨_, st⟩) ?_
    (F.keeps fun _ _ e => Heap.get?_push_of_some _ e) (N.grown fun _ _ e => Heap.get?_push_of_some _ e) (fun p hp => Nat.ne_of_lt (Heap.lt_size (N p hp).1)) h0 ?_ done
  · show IsRangeIter _ _ _ _ _
    rw [hn]; simpa using Heap.get?_push_size _ rfl
  · rintro i v m₁ news₁ oI h tk hi ⟨t, rfl⟩ hJ F₁ N₁ o
    exact turn i t m₁ news₁ _ oI h tk hi hJ F₁ N₁ o
/-- the same over a list of the ledger -/
theorem iter_list {l : Addr} {vs : List Value} {nn : Nat} (J : Nat → (Str → Option Value) → List (Addr × Obj) → Prop)
    (hh : A.handled = none) (F : Fr h₀ env.locals s.heap m₀) (N : News h₀ env.locals s.heap news) (hl : ∀ i m' nw, J i m' nw → (l, listOf vs.toArray nn) ∈ nw) (h0 : J 0 m₀ news)
    (turn : ∀ i v m₁ news₁ I oI h tk, vs[i]? = some v → J i m₁ news₁ → Fr h₀ env.locals h (fun y => if y = x then some v else m₁ y) → News h₀ env.locals h ((I, oI) :: news₁) → (∀ p ∈ news₁, p.1 ≠ I) →
      wpAny (model prog w) A (execs body env) (TurnP h₀ env.locals I oI (J (i + 1)) { s with heap := h, toks := tk } Q) E { s with heap := h, toks := tk })
    (done : ∀ m₁ news₁ h tk, J vs.length m₁ news₁ → Fr h₀ env.locals h m₁ → News h₀ env.locals h news₁ → Q .next { s with heap := h, toks := tk }) :
    wpAny (model prog w) A (pyIter (.ref l)) (fun it s₂ => LoopAtV prog w A h₀ env x body Q E it s₂) E s := by
  have hm := hl 0 _ _ h0
  have e := (N _ hm).1
  have hls : s.heap.IsList l vs.toArray := ⟨_, e, rfl, _, rfl⟩
  have hlt : l < s.heap.objs.size := Heap.lt_size e
  refine wpAny_pyIter_list hls ?_
  have up : ∀ b o, s.heap.get? b = some o → (s.heap.push { cls := .type "list_iterator", data := .fields #[.ref l, .int 0 0] }).get? b = some o := fun b o e => Heap.get?_push_of_some _ e
  have only : ∀ b ∈ [s.heap.objs.size, l], b ≠ s.heap.objs.size → b = l := fun b hb hq => (List.mem_cons.mp hb).elim (fun q => absurd q hq) List.mem_singleton.mp
  refine iter_W [s.heap.objs.size, l] J (Walks.list hh s.heap.objs.size l (Nat.ne_of_lt hlt) vs.toArray) (fun b hb hq i m' nw h' hj hn o eo => ?_) (fun b hb hq => by rw [only b hb hq]; exact ⟨_, up _ _ e⟩) (fun hb => ?_) (next_is_new F) (fun i h st => by obtain ⟨o, e, _⟩ := st.1; exact ⟨o, e⟩) ⟨⟨_, Heap.get?_push_size _ rfl, rfl, rfl⟩, hls.push _⟩
    (F.keeps up) (N.grown up) (fun p hp => Nat.ne_of_lt (Heap.lt_size (N p hp).1)) h0 (fun i v m₁ news₁ oI h tk _ hP hJ F₁ N₁ o => turn i v m₁ news₁ _ oI h tk (by simpa using hP) hJ F₁ N₁ o) (by simpa using done)
  · have hb' := only b hb hq
    subst hb'
    rw [show o = _ from (Option.some.inj ((up _ _ e).symm.trans eo)).symm]
    exact (hn _ (hl _ _ _ hj)).1
  · rcases List.mem_cons.mp hb with hb | hb
    · exact Nat.ne_of_lt F.ns.lt hb
    · exact (N _ hm).2.1 (List.mem_singleton.mp hb).symm
/-- one name that a loop's turns store beside its own, the others as they were -/
def One (x y : Str) (m₀ : Str → Option Value) (K : Value → List (Addr × Obj) → Prop) (m' : Str → Option Value) (nw : List (Addr × Obj)) : Prop := (∃ v, m' y = some v ∧ K v nw) ∧ ∀ z, z ≠ x → z ≠ y → m' z = m₀ z
theorem One.eq2 {x y : Str} {v : Value} {m' : Str → Option Value} (hy : m' y = some v) (hz : ∀ z, z ≠ x → z ≠ y → m' z = m₀ z) : m' = fun z => if z = x then m' x else if z = y then some v else m₀ z := by
  funext z
  by_cases h1 : z = x
  · rw [if_pos h1, h1]
  · rw [if_neg h1]
    by_cases h2 : z = y
    · rw [if_pos h2, h2, hy]
    · rw [if_neg h2, hz z h1 h2]
theorem One.eq {x y : Str} {v0 v : Value} {m' : Str → Option Value} (hy : m' y = some v) (hz : ∀ z, z ≠ x → z ≠ y → m' z = m₀ z) : (fun z => if z = x then some v0 else m' z) = fun z => if z = x then some v0 else if z = y then some v else m₀ z := by
  funext z
  by_cases h1 : z = x
  · rw [if_pos h1, if_pos h1]
  · rw [if_neg h1, if_neg h1]
    by_cases h2 : z = y
    · rw [if_pos h2, h2, hy]
    · rw [if_neg h2, hz z h1 h2]
theorem iter_range1 {r : Addr} {a b c : Int} {t u v : Tok} {n : Nat} {y : Str} {v₀ : Value} (K : Nat → Value → List (Addr × Obj) → Prop)
    (hh : A.handled = none) (F : Fr h₀ env.locals s.heap m₀) (N : News h₀ env.locals s.heap news) (hr : IsRange s.heap r a b c t u v) (hsm : Builtin.Range.small a b c = true) (hn : Builtin.Range.rangeSize a b c = ((n : Nat) : Int)) (hy : m₀ y = some v₀) (h0 : K 0 v₀ news)
    (turn : ∀ i t v news₁ I oI h tk, i < n → K i v news₁ → Fr h₀ env.locals h (fun z => if z = x then some (.int (a + i * c) t) else if z = y then some v else m₀ z) → News h₀ env.locals h ((I, oI) :: news₁) → (∀ p ∈ news₁, p.1 ≠ I) →
      wpAny (model prog w) A (execs body env) (TurnP h₀ env.locals I oI (One x y m₀ (K (i + 1))) { s with heap := h, toks := tk } Q) E { s with heap := h, toks := tk })
    (done : ∀ u v news₁ h tk, K n v news₁ → Fr h₀ env.locals h (fun z => if z = x then u else if z = y then some v else m₀ z) → News h₀ env.locals h news₁ → Q .next { s with heap := h, toks := tk }) :
    wpAny (model prog w) A (pyIter (.ref r)) (fun it s₂ => LoopAtV prog w A h₀ env x body Q E it s₂) E s := by
  refine iter_range (fun i => One x y m₀ (K i)) hh F N hr hsm hn ⟨⟨v₀, hy, h0⟩, fun _ _ _ => rfl⟩ ?_ ?_
  · rintro i t m₁ news₁ I oI h tk hi ⟨⟨v, e1, k⟩, e2⟩ F₁ N₁ o
    exact turn i t v news₁ I oI h tk hi k (One.eq e1 e2 ▸ F₁) N₁ o
  · rintro m₁ news₁ h tk ⟨⟨v, e1, k⟩, e2⟩ F₁ N₁
    exact done _ v news₁ h tk k (One.eq2 e1 e2 ▸ F₁) N₁
theorem iter_list1 {l : Addr} {vs : List Value} {nn : Nat} {y : Str} {v₀ : Value} (K : Nat → Value → List (Addr × Obj) → Prop)
    (hh : A.handled = none) (F : Fr h₀ env.locals s.heap m₀) (N : News h₀ env.locals s.heap news) (hl : ∀ i v nw, K i v nw → (l, listOf vs.toArray nn) ∈ nw) (hy : m₀ y = some v₀) (h0 : K 0 v₀ news)
    (turn : ∀ i u v news₁ I oI h tk, vs[i]? = some u → K i v news₁ → Fr h₀ env.locals h (fun z => if z = x then some u else if z = y then some v else m₀ z) → News h₀ env.locals h ((I, oI) :: news₁) → (∀ p ∈ news₁, p.1 ≠ I) →
      wpAny (model prog w) A (execs body env) (TurnP h₀ env.locals I oI (One x y m₀ (K (i + 1))) { s with heap := h, toks := tk } Q) E { s with heap := h, toks := tk })
    (done : ∀ u v news₁ h tk, K vs.length v news₁ → Fr h₀ env.locals h (fun z => if z = x then u else if z = y then some v else m₀ z) → News h₀ env.locals h news₁ → Q .next { s with heap := h, toks := tk }) :
    wpAny (model prog w) A (pyIter (.ref l)) (fun it s₂ => LoopAtV prog w A h₀ env x body Q E it s₂) E s := by
  refine iter_list (fun i => One x y m₀ (K i)) hh F N (fun i m' nw h => let ⟨⟨v, _, k⟩, _⟩ := h; hl i v nw k) ⟨⟨v₀, hy, h0⟩, fun _ _ _ => rfl⟩ ?_ ?_
  · rintro i u m₁ news₁ I oI h tk hi ⟨⟨v, e1, k⟩, e2⟩ F₁ N₁ o
    exact turn i u v news₁ I oI h tk hi k (One.eq e1 e2 ▸ F₁) N₁ o
  · rintro m₁ news₁ h tk ⟨⟨v, e1, k⟩, e2⟩ F₁ N₁
    exact done _ v news₁ h tk k (One.eq2 e1 e2 ▸ F₁) N₁
end
def fromL : List Int → Int
  | [] => 0
  | x :: r => x + 256 * fromL r
theorem fromL_snoc {xs : List Int} {y : Int} : fromL (xs ++ [y]) = fromL xs + y * 2 ^ (8 * (xs.length : Int)).toNat := by
  induction xs with
  | nil => show y + 256 * 0 = 0 + y * 2 ^ 0; omega
  | cons x r ih =>
    show x + 256 * fromL (r ++ [y]) = x + 256 * fromL r + _
    rw [ih, show (8 * ((x :: r).length : Int)).toNat = (8 * (r.length : Int)).toNat + 8 by rw [List.length_cons]; omega, Int.pow_add, Int.mul_add, Int.add_assoc]
    congr 2
    rw [show (2 : Int) ^ 8 = 256 by decide, Int.mul_left_comm, Int.mul_comm 256]
theorem take_fromL {xs : List Int} {i : Nat} {t : Tok} (h : i < xs.length) : Value.int (fromL (xs.take i) + xs.getD ((0 : Int) + (i : Int) * 1).toNat 0 * 2 ^ (8 * ((0 : Int) + (i : Int) * 1)).toNat) t = .int (fromL (xs.take (i + 1))) t := by
  rw [Int.zero_add, Int.mul_one, Int.toNat_natCast, List.take_add_one, List.getD_eq_getElem?_getD, List.getElem?_eq_getElem h]
  show _ = Value.int (fromL (xs.take i ++ [xs[i]])) t
  rw [fromL_snoc, List.length_take_of_le (Nat.le_of_lt h)]
  rfl
theorem nat64 {y : Int} (h0 : 0 ≤ y) (h1 : y < 256) : y.natAbs < 2 ^ 64 := by omega
theorem small4 {xs : List Int} (h : xs.length ≤ 4) : Builtin.Range.small 0 (xs.length : Int) 1 = true := small_one (by decide) (by decide) (by omega) (by omega)
theorem size4 {xs : List Int} : Builtin.Range.rangeSize 0 (xs.length : Int) 1 = ((xs.length : Nat) : Int) := by rw [rangeSize_nat]; omega
theorem at0n {i : Nat} : 0 ≤ (0 : Int) + (i : Int) * 1 := by omega
theorem at0l {i n : Nat} (h : i < n) : (0 : Int) + (i : Int) * 1 < (n : Int) := by omega
theorem at8n {i : Nat} : 0 ≤ 8 * ((0 : Int) + (i : Int) * 1) := by omega
theorem at8l {i n : Nat} (h : i < n) (hn : n ≤ 4) : 8 * ((0 : Int) + (i : Int) * 1) ≤ 1000000 := by omega
section
variable {w : World} {p : Program} {lo : List Str} {mean : ExcName → Option Value} {mg mb : Str → Option Value} {dp un : Nat} {gd : Option (List Code)} {cn : Str} {cs : Scope} {a : Addr} {ccd : Value} {cl : List (Str × Addr)} {outer : List Env} {A₀ : Around} {base h₀ : Heap} {L : Addr} {m : Str → Option Value} {s : Shared} {Q E : Value → Shared → Prop} {news : List (Addr × Obj)}
  {xs : List Int} {tb : Tok} {b : Array UInt8}
theorem fromlit (cx : Cx w p lo mean mg mb A₀ base outer h₀ L s.heap m cs) (N : News h₀ L s.heap news) (hb : KBw.bInts b = xs) (hl : xs.length ≤ 4) (hd : dp + 1 < recursionLimit)
  (ret : ∀ t h' tk', Fr h₀ L h' m → News h₀ L h' news → Q (.int (fromL xs) t) { s with heap := h', toks := tk' }) :
  wpAny (model PySem.Challenge.rw_rg0263_01.row.prog w) (ktrTop dp un gd cn cs L a ccd cl outer) (call (.ref 66) [.bytes b tb]) Q E s := by
  obtain ⟨B, F, X, T, hk⟩ := cx
  (refine wpAny_call ?_; k_dflt (refine' code_def ?qk1 ?qk2 ?qk3 ?qk4 ?qk5 ?qkA ?qkF ?qkK ?qk6 ?qk7 ?qk8 ?qk9 ?qkB ?_ ?qc2 ?qc3 ?qc4 ?qc5; (case qkA => exact rfl); (case qkF => exact rfl); (case qkK => first | assumption | exact rfl); (case qk1 => k_asm); (case qk2 => k_asm); (case qk3 => k_asm); (case qk4 => k_asm); (case qk5 => k_asm); (case qk6 => k_is); (case qk7 => k_is); (case qk8 => exact rm (a := 0) hd (by decide)); (case qk9 => exact BindsTo.of_eq rfl); (case qc5 => decide); (case qkB => exact locs rfl); (case qc2 => exact rfl); (case qc3 => exact rfl); (case qc4 => exact rfl); k_whole; intro g' L' h' FG' F' N' B' X' T'; (try dsimp only); (try k_fold)))
  k_with_none
  k_with "iop" => (first | exact Iop.add | exact Iop.sub | exact Iop.mod (by first | assumption | decide) | exact Iop.div (by decide) (by decide))
  k_with "idx" => decide
  k_with "item" => rfl
  k_with "nn" => (first | decide | assumption)
  k_with "sevi" => (first | exact Sev.int | exact Sev.loc rfl rfl (by decide) | exact Sev.glo rfl (by k_is) (by decide) | (apply Sev.bin; (k_extra "sevi"); (k_extra "sevi"); (k_extra "iop")) | (apply Sev.item; (k_extra "sevi"); (k_extra "sevi"); k_mem; (k_extra "nn"); (k_extra "idx"); (k_extra "item")) | (apply Sev.fld; (k_extra "sevi"); k_mem; k_mem; constructor; rfl))
  k_with "sargs" => (first | exact Sargs.nil | (apply Sargs.cons; (k_extra "sevi"); (k_extra "sargs")))
  k_with "eval Call" => ((with_reducible show wpAny _ _ (eval (Expr.Call (Expr.Name _ _) _ [] _) _) _ _ _); k_dflt (refine' callS ?qF ?qX ?qT ?qN ?qh0 ?qkp ?qh1 ?_ ?qx1 ?qx2; (case qF => k_asm); (case qX => k_asm); (case qT => k_asm); (case qN => k_asm); (case qx1 => exact rfl); (case qx2 => exact rfl); (case qh0 => exact Sev.glo rfl (by k_is) (by decide)); (case qkp => k_is); (case qh1 => k_extra "sargs"); k_whole); (try dsimp only))
  k_with "isTrue Compare" => ((with_reducible show wpAny _ _ (isTrue (Expr.Compare _ [_] [_] _) _ _) _ _ _); k_dflt (refine' testS ?qF ?qX ?qT ?qN ?qh1 ?qh2 ?qhc ?_ ?qx1 ?qx2; (case qF => k_asm); (case qX => k_asm); (case qT => k_asm); (case qN => k_asm); (case qx1 => exact rfl); (case qx2 => exact rfl); (case qh1 => k_extra "sevi"); (case qh2 => k_extra "sevi"); (case qhc => constructor); k_whole); (try dsimp only))
  k_with "evals" => (k_dflt (refine' evalS ?qF ?qX ?qT ?qN ?qh1 ?_ ?qx1 ?qx2; (case qF => k_asm); (case qX => k_asm); (case qT => k_asm); (case qN => k_asm); (case qx1 => exact rfl); (case qx2 => exact rfl); (case qh1 => k_extra "sevi"); k_whole); (try dsimp only))
  k_with "eval BinOp" => k_extra "evals"
  k_with "eval Subscript" => k_extra "evals"
  k_with "eval Attribute Name" => k_extra "evals"
  k_with "execs cons" => ((with_reducible show wpAny _ _ (execs (Stmt.Assign [Expr.Name _ _] _ _ :: _) _) _ _ _); k_dflt (refine' assignS ?qF ?qX ?qT ?qN ?qh1 ?qhx ?qhs ?_ ?qx1 ?qx2; (case qF => k_asm); (case qX => k_asm); (case qT => k_asm); (case qN => k_asm); (case qx1 => exact rfl); (case qx2 => exact rfl); (case qhx => exact rfl); (case qhs => exact rfl); (case qh1 => k_extra "sevi"); k_whole); intro h' F' N'; (try k_sweep); (try dsimp only))
  k_with "pyIter ref" => (k_dflt (refine' iter_range1 (n := xs.length) (y := Str.ofString "worth") (fun i v nw => nw = news ∧ ∃ t, v = .int (fromL (xs.take i)) t) ?qh ?qF ?qN ?qr ?qs ?qn ?qy ?q0 ?qt ?qe; (case qh => first | assumption | exact rfl); (case qF => k_asm); (case qN => k_asm); (case qr => assumption); (case qs => exact small4 hl); (case qn => exact size4); (case qy => exact rfl); (case q0 => exact ⟨rfl, _, rfl⟩); k_whole); (case' qt => (intro i t v news₁ I oI h tk hi hK F' N' o'; (obtain ⟨rfl, t', rfl⟩ := hK))); (case' qe => (intro u v news₁ h tk hK F' N'; (obtain ⟨rfl, t', rfl⟩ := hK))))
  k_with "subscriptTail" => (k_dflt (refine' KBw.item_K hb ?qa ?qb ?qc ?_; (case qa => exact Nat.le_trans hl (by decide)); (case qb => exact at0n); (case qc => exact at0l (by assumption)); intro t' k' hlo' hhi'))
  k_with "binaryOp LShift int int" => (k_dflt (refine lshift_int_small at8n (at8l (by assumption) hl) (nat64 (by assumption) (by assumption)) ?_))
  k_steps
  · rw [List.take_length]
    refine' ret _ _ _ ?qF ?qN
    case qF => k_asm
    case qN => k_asm
  · refine' TurnP.intro ?qF ?qN o' ?qJ
    case qF => k_asm
    case qN => k_asm
    case qJ => exact ⟨⟨_, rfl, rfl, _, take_fromL hi⟩, fun z h1 h2 => by simp only [if_neg h1, if_neg h2]⟩
end
theorem cut2 {b' : Array UInt8} {ks : List Int} {a : Int} (h0 : 0 ≤ a) (h1 : a + 8 ≤ (ks.length : Int)) (h : KBw.bInts b' = List.take (clipAt ks.length (a + 2) - clipAt ks.length a) (List.drop (clipAt ks.length a) ks)) : KBw.bInts b' = (ks.drop a.toNat).take 2 := by
  obtain ⟨i, rfl⟩ := Int.eq_ofNat_of_zero_le h0
  rw [show (i : Int) + 2 = ((i + 2 : Nat) : Int) from rfl, clipAt_nat, clipAt_nat, Nat.min_eq_left (by omega), Nat.min_eq_left (by omega), Nat.add_sub_cancel_left] at h
  exact h
theorem cut4 {b' : Array UInt8} {ks : List Int} {a : Int} (h0 : 0 ≤ a) (h1 : a + 8 ≤ (ks.length : Int)) (h : KBw.bInts b' = List.take (clipAt ks.length (a + 8) - clipAt ks.length (a + 4)) (List.drop (clipAt ks.length (a + 4)) ks)) : KBw.bInts b' = (ks.drop (a.toNat + 4)).take 4 := by
  obtain ⟨i, rfl⟩ := Int.eq_ofNat_of_zero_le h0
  rw [show (i : Int) + 8 = ((i + 8 : Nat) : Int) from rfl, show (i : Int) + 4 = ((i + 4 : Nat) : Int) from rfl, clipAt_nat, clipAt_nat, Nat.min_eq_left (by omega), Nat.min_eq_left (by omega), Nat.add_sub_add_left] at h
  exact h
theorem drop3 {h₀ h : Heap} {L : Addr} {p q r : Addr × Obj} {l : List (Addr × Obj)} (N : News h₀ L h (p :: q :: r :: l)) : News h₀ L h (p :: q :: l) := fun z hz => N z (by
  rcases List.mem_cons.mp hz with h | hz
  · exact h ▸ .head _
  · rcases List.mem_cons.mp hz with h | hz
    · exact h ▸ .tail _ (.head _)
    · exact .tail _ (.tail _ (.tail _ hz)))
section
variable {w : World} {p : Program} {lo : List Str} {mean : ExcName → Option Value} {mg mb : Str → Option Value} {dp un : Nat} {gd : Option (List Code)} {cn : Str} {cs : Scope} {a : Addr} {ccd : Value} {cl : List (Str × Addr)} {outer : List Env} {A₀ : Around} {base h₀ : Heap} {L : Addr} {m : Str → Option Value} {s : Shared} {Q E : Value → Shared → Prop} {news : List (Addr × Obj)}
  {ks : List Int} {tb ta : Tok} {b : Array UInt8} {at' : Int}
theorem unpackc (cx : Cx w p lo mean mg mb A₀ base outer h₀ L s.heap m cs) (N : News h₀ L s.heap news) (hb : KBw.bInts b = ks) (hz : ks.length ≤ 64) (h0 : 0 ≤ at') (h1 : at' + 8 ≤ (ks.length : Int)) (hd : dp + 3 < recursionLimit)
  (ret : ∀ x dx t1 t2 t3 t4 u1 u2 u3 u4 h' tk', Fr h₀ L h' m → News h₀ L h' ((x, instObj 90 dx) :: (dx, ordD w.params t1 t2 t3 t4 (.int (fromL ((ks.drop at'.toNat).take 2)) u1) (.int (ks.getD (at' + 2).toNat 0) u2) (.int (ks.getD (at' + 3).toNat 0) u3) (.int (fromL ((ks.drop (at'.toNat + 4)).take 4)) u4)) :: news) → (∀ p ∈ news, p.1 < dx) → dx < x → Q (.ref x) { s with heap := h', toks := tk' }) :
  wpAny (model PySem.Challenge.rw_rg0263_01.row.prog w) (ktrTop dp un gd cn cs L a ccd cl outer) (call (.ref 144) [.bytes b tb, .int at' ta]) Q E s := by
  obtain ⟨B, F, X, T, hk⟩ := cx
  (refine wpAny_call ?_; k_dflt (refine' code_def ?qk1 ?qk2 ?qk3 ?qk4 ?qk5 ?qkA ?qkF ?qkK ?qk6 ?qk7 ?qk8 ?qk9 ?qkB ?_ ?qc2 ?qc3 ?qc4 ?qc5; (case qkA => exact rfl); (case qkF => exact rfl); (case qkK => first | assumption | exact rfl); (case qk1 => k_asm); (case qk2 => k_asm); (case qk3 => k_asm); (case qk4 => k_asm); (case qk5 => k_asm); (case qk6 => k_is); (case qk7 => k_is); (case qk8 => exact rm (a := 0) hd (by decide)); (case qk9 => exact binds_K (by k_in) rfl (by k_is) rfl rfl rfl); (case qc5 => decide); (case qkB => exact locs rfl); (case qc2 => exact rfl); (case qc3 => exact rfl); (case qc4 => exact rfl); k_whole; intro g' L' h' FG' F' N' B' X' T'; (try dsimp only); (try k_fold)))
  k_with_none
  k_with "iop" => (first | exact Iop.add | exact Iop.sub | exact Iop.mod (by first | assumption | decide) | exact Iop.div (by decide) (by decide))
  k_with "idx" => decide
  k_with "item" => rfl
  k_with "nn" => (first | decide | assumption)
  k_with "sevi" => (first | exact Sev.int | exact Sev.loc rfl rfl (by decide) | exact Sev.glo rfl (by k_is) (by decide) | (apply Sev.bin; (k_extra "sevi"); (k_extra "sevi"); (k_extra "iop")) | (apply Sev.item; (k_extra "sevi"); (k_extra "sevi"); k_mem; (k_extra "nn"); (k_extra "idx"); (k_extra "item")) | (apply Sev.fld; (k_extra "sevi"); k_mem; k_mem; constructor; rfl))
  k_with "sargs" => (first | exact Sargs.nil | (apply Sargs.cons; (k_extra "sevi"); (k_extra "sargs")))
  k_with "eval Call" => ((with_reducible show wpAny _ _ (eval (Expr.Call (Expr.Name _ _) _ [] _) _) _ _ _); k_dflt (refine' callS ?qF ?qX ?qT ?qN ?qh0 ?qkp ?qh1 ?_ ?qx1 ?qx2; (case qF => k_asm); (case qX => k_asm); (case qT => k_asm); (case qN => k_asm); (case qx1 => exact rfl); (case qx2 => exact rfl); (case qh0 => exact Sev.glo rfl (by k_is) (by decide)); (case qkp => k_is); (case qh1 => k_extra "sargs"); k_whole); (try dsimp only))
  k_with "isTrue Compare" => ((with_reducible show wpAny _ _ (isTrue (Expr.Compare _ [_] [_] _) _ _) _ _ _); k_dflt (refine' testS ?qF ?qX ?qT ?qN ?qh1 ?qh2 ?qhc ?_ ?qx1 ?qx2; (case qF => k_asm); (case qX => k_asm); (case qT => k_asm); (case qN => k_asm); (case qx1 => exact rfl); (case qx2 => exact rfl); (case qh1 => k_extra "sevi"); (case qh2 => k_extra "sevi"); (case qhc => constructor); k_whole); (try dsimp only))
  k_with "evals" => (k_dflt (refine' evalS ?qF ?qX ?qT ?qN ?qh1 ?_ ?qx1 ?qx2; (case qF => k_asm); (case qX => k_asm); (case qT => k_asm); (case qN => k_asm); (case qx1 => exact rfl); (case qx2 => exact rfl); (case qh1 => k_extra "sevi"); k_whole); (try dsimp only))
  k_with "eval BinOp" => k_extra "evals"
  k_with "eval Subscript" => k_extra "evals"
  k_with "eval Attribute Name" => k_extra "evals"
  k_with "execs cons" => ((with_reducible show wpAny _ _ (execs (Stmt.Assign [Expr.Name _ _] _ _ :: _) _) _ _ _); k_dflt (refine' assignS ?qF ?qX ?qT ?qN ?qh1 ?qhx ?qhs ?_ ?qx1 ?qx2; (case qF => k_asm); (case qX => k_asm); (case qT => k_asm); (case qN => k_asm); (case qx1 => exact rfl); (case qx2 => exact rfl); (case qhx => exact rfl); (case qhs => exact rfl); (case qh1 => k_extra "sevi"); k_whole); intro h' F' N'; (try k_sweep); (try dsimp only))
  k_with "call ref" => ((with_reducible show wpAny _ _ (call (Value.ref 90) _) _ _ _); k_dflt (refine' mk ⟨?qB, ?qF, ?qX, ?qT, ?qK⟩ ?qN _ _ _ _ ?qhd ?_ ; (case qB => k_asm); (case qF => k_asm); (case qX => k_asm); (case qT => k_asm); (case qK => first | assumption | exact rfl); (case qN => k_asm); (case qhd => exact rm (a := 3) hd (by decide)); k_whole); intro x' d' t1' t2' t3' t4' h' tk' F' N' l1 l2; (try k_sweep); (try dsimp only); (try k_fold))
  k_with "call ref" => ((with_reducible show wpAny _ _ (call (Value.ref 66) _) _ _ _); k_dflt (refine' fromlit ⟨?qB, ?qF, ?qX, ?qT, ?qK⟩ ?qN ?qb ?ql ?qhd ?_ ; (case qB => k_asm); (case qF => k_asm); (case qX => k_asm); (case qT => k_asm); (case qK => first | assumption | exact rfl); (case qN => k_asm); (case qb => first | exact cut2 h0 h1 (by assumption) | exact cut4 h0 h1 (by assumption)); (case ql => exact Nat.le_trans (List.length_take_le _ _) (by decide)); (case qhd => exact rm (a := 2) hd (by decide)); k_whole); intro t' h' tk' F' N'; (try k_sweep); (try dsimp only); (try k_fold))
  k_steps
  refine' ret _ _ _ _ _ _ _ _ _ _ _ _ ?qF ?qN (fun p hp => l1 p (.tail _ hp)) l2
  case qF => k_asm
  case qN => exact drop3 (by k_asm)
end
section
open PySem.W.KBw
set_option maxRecDepth 100000
variable {prog : Program} {w : World} {A : Around} {E : Value → Shared → Prop} {s : Shared} {b : Array UInt8} {t : Tok}
theorem hint_bytes {Q : Bool → Shared → Prop} (h : Q false s) : wpAny (model prog w) A (Builtin.List.listLengthHint (.bytes b t)) Q E s := by
  unfold Builtin.List.listLengthHint
  refine wpAny_bind (wpAny_specialOf (typeIs_bytes s b t) FB.slot_bytes_len.lookup ?_)
  generalize hid : ("bytes.__len__" : String) = id0
  wp_delta
  rw [show splitId id0 = some ("bytes", "__len__") from by subst hid; decide +kernel]
  subst hid
  refine wpAny_bind (wpAny_isInstance (T := "bytes") (b := true) (typeIs_bytes s b t) (by rw [isSubtype_type]; kernel_rfl) ?_)
  refine wpAny_ite_split (fun hab => absurd hab (by decide)) (fun _ => ?_)
  refine wpAny_ite_split (fun _ => ?_) (fun hab => absurd (by decide +kernel) hab)
  exact wpAny_bind (wpAny_typeOf (typeIs_bytes s b t) (wpAny_pure h))
theorem extend_bytes {R : Result → Shared → Prop} (hh : A.handled = none) (hlen : b.size ≤ 2 ^ 24) (S : Addr) (res : Value) (c₀ : Nat) (hS : s.heap.get? S = some { cls := .type "list", data := .seq #[] c₀ })
    (hR : ∀ h' tk acc' c', (∀ b o, b ≠ S → s.heap.get? b = some o → h'.get? b = some o) → h'.get? S = some { cls := .type "list", dict := none, data := .seq acc' c', slots := #[] } →
      ItemsOf (fun i v => ∃ c u, b[i]? = some c ∧ v = .int (c.toNat : Int) u) acc' b.size → R (.ok (.ret res)) { s with heap := h', toks := tk }) :
    wpAny (model prog w) A.in1 (Builtin.List.listExtendWith (.ref S) (.bytes b t) res)
      (fun fin s' => match fin with | .done f => R (.ok f) s' | .again c' => c'.quiet = true ∧ codeAny (model prog w) A c' R s') (fun e s' => R (.error e) s') s := by
  have hSlt : S < s.heap.objs.size := Heap.lt_size hS
  have hSI : S ≠ s.heap.objs.size := Nat.ne_of_lt hSlt
  have hSf : S ∉ [s.heap.objs.size] := fun hm => hSI (List.mem_singleton.mp hm)
  have W := (walks (prog := prog) (w := w) (A := A.in1) hh s.heap.objs.size b t).toS
  have key : ∀ (h : Heap) (c₁ tk : Nat), IsBytesIter h s.heap.objs.size b t 0 → (∀ b o, b ≠ S → s.heap.get? b = some o → h.get? b = some o) →
      h.get? S = some { cls := .type "list", data := .seq #[] c₁ } → codeAny (model prog w) A (.builtin "list.extend.loop" ⟨[.ref S, .ref s.heap.objs.size, res], []⟩) R { s with heap := h, toks := tk } := by
    intro h c₁ tk hit hk hS₁
    refine codeAny_extend_loopS W (by rw [sizeLine_eq]; omega) S hSf res b.size 0 _ #[] c₁ rfl (Nat.zero_le _) hit hS₁ (ItemsOf.nil _) fun s' acc' c' hm hS' hacc => ?_
    rw [Moved.eq_with hm]
    refine hR s'.heap s'.toks acc' c' (fun b o hb e => hm.heap b o (fun hmem => ?_) (hk b o hb e)) hS' hacc
    rcases List.mem_cons.mp hmem with e' | hmem
    · exact hb e'
    · exact absurd (Heap.lt_size e) (by rw [List.mem_singleton.mp hmem]; exact Nat.lt_irrefl _)
  unfold Builtin.List.listExtendWith
  refine wpAny_bind (wpAny_typeOf (T := "bytes") (typeIs_bytes s b t) ?_)
  have h1 : Builtin.List.listSameRef (.ref S) (.bytes b t) = false := rfl
  have h2 : (Value.type "bytes" == Value.type "list") = false := by decide
  have h3 : (Value.type "bytes" == Value.type "tuple") = false := by decide
  simp only [h1, h2, h3, Bool.or_false, Bool.false_eq_true, if_false]
  refine wpAny_bind (pyIter_bytes ?_)
  refine wpAny_bind (wpAny_holding (hint_bytes ?_))
  have hit₁ : IsBytesIter (s.heap.push { cls := .type "bytes_iterator", data := .fields #[.bytes b t, .int 0 0] }) s.heap.objs.size b t 0 := ⟨_, Heap.get?_push_size _ rfl, rfl, rfl⟩
  have hS₁ := Heap.get?_push_of_some { cls := .type "bytes_iterator", data := .fields #[.bytes b t, .int 0 0] } hS
  exact wpAny_ite_split (fun hab => nomatch hab) (fun _ => wpAny_pure ⟨plainId_quiet F.plain_extend_loop _, key _ c₀ _ hit₁ (fun b o _ e => Heap.get?_push_of_some _ e) hS₁⟩)
theorem call_list_bytes {Q : Value → Shared → Prop} (hh : A.handled = none) (hlen : b.size ≤ 2 ^ 24)
    (hQ : ∀ h' tk acc' c', (∀ b o, s.heap.get? b = some o → h'.get? b = some o) →
      h'.get? s.heap.objs.size = some { cls := .type "list", dict := none, data := .seq acc' c', slots := #[] } → ItemsOf (fun i v => ∃ c u, b[i]? = some c ∧ v = .int (c.toNat : Int) u) acc' b.size → Q (.ref s.heap.objs.size) { s with heap := h', toks := tk }) :
    wpAny (model prog w) A (call (.type "list") [.bytes b t]) Q E s := by
  refine callType_codes (Q₁ := fun obj s₁ => obj = .ref s.heap.objs.size ∧ s₁ = { s with heap := s.heap.push { cls := .type "list", data := .seq #[] } }) F.called_list (F.typeCall_list_1 _) F.entry_list_init
    (code_list_new _ ⟨rfl, rfl⟩) fun obj s₁ h₁ => ?_
  obtain ⟨rfl, rfl⟩ := h₁
  have hS : (s.heap.push { cls := .type "list", data := .seq #[] }).get? s.heap.objs.size = some { cls := .type "list", data := .seq #[] } := Heap.get?_push_size _ rfl
  refine ⟨⟨_, hS, rfl⟩, F.args_list_init_2 _ _, ?_⟩
  show wpAny _ _ (do let old ← Builtin.List.listItems (.ref s.heap.objs.size); Builtin.List.listUpdate (.ref s.heap.objs.size) (fun _ => #[]); letGo old.toList.reverse; Builtin.List.listExtendWith (.ref s.heap.objs.size) (.bytes b t) .none) _ _ _
  refine wpAny_bind ?_
  unfold Builtin.List.listItems
  refine wpAny_bind (wpAny_seqItems hS rfl (wpAny_pure ?_))
  show wpAny _ _ (updateSeq s.heap.objs.size (fun _ => #[]) >>= fun _ => letGo (#[] : Array Value).toList.reverse >>= fun _ => Builtin.List.listExtendWith (.ref s.heap.objs.size) (.bytes b t) .none) _ _ _
  refine wpAny_bind (wpAny_updateSeq hS rfl ?_)
  have hS₂ := Heap.get?_update_self (Obj.mapSeq (fun _ => (#[] : Array Value))) hS rfl
  refine wpAny_bind (wpAny_letGo ?_)
  refine extend_bytes (A := A.in1) hh hlen _ .none _ hS₂ fun h' tk acc' c' hk hS' hacc => ?_
  exact ⟨rfl, hQ h' tk acc' c' (fun b o e => hk b o (Nat.ne_of_lt (Heap.lt_size e)) ((Heap.get?_update_other _ _ (Nat.ne_of_gt (Heap.lt_size e))).trans (Heap.get?_push_of_some _ e))) hS' hacc⟩
theorem list_bytes {h₀ : Heap} {L : Addr} {m : Str → Option Value} {news : List (Addr × Obj)} {ks : List Int} {Q : Value → Shared → Prop} (F : Fr h₀ L s.heap m) (N : News h₀ L s.heap news) (hh : A.handled = none) (hb : bInts b = ks) (hlen : ks.length ≤ 2 ^ 24)
    (h : ∀ D h' tk ys c, IntsAre ys ks → Fr h₀ L h' m → News h₀ L h' ((D, listOf ys.toArray c) :: news) → (∀ p ∈ news, p.1 < D) → Q (.ref D) { s with heap := h', toks := tk }) :
    wpAny (model prog w) A (call (.type "list") [.bytes b t]) Q E s := by
  subst hb
  have hlt : b.size ≤ 2 ^ 24 := by rw [← ints_length]; exact hlen
  refine call_list_bytes hh hlt fun h' tk acc' c' hk hS' hacc => ?_
  have L₀ : h₀.get? s.heap.objs.size = none := next_is_new F
  refine h _ h' tk acc'.toList c' (IntsAre.ofCarried (carriedAll_of_get _ _ (by rw [List.length_map, ints_length]; simpa using hacc.1) fun j v hv => ?_)) (F.keeps hk) (fun p hp => ?_) fun p hp => Heap.lt_size (N p hp).1
  · obtain ⟨c, u, hc, rfl⟩ := hacc.2 j v (by simpa using hv)
    exact ⟨.int (c.toNat : Int), by rw [List.getElem?_map, ints_get hc]; rfl, by constructor⟩
  · rcases List.mem_cons.mp hp with rfl | hp
    · exact ⟨hS', Nat.ne_of_gt F.ns.lt, L₀⟩
    · exact ⟨hk _ _ (N p hp).1, (N p hp).2⟩
end
theorem cut8 {b' : Array UInt8} {ks : List Int} {a : Int} (h0 : 0 ≤ a) (h1 : a + 8 ≤ (ks.length : Int)) (h : KBw.bInts b' = List.take (clipAt ks.length (a + 8) - clipAt ks.length a) (List.drop (clipAt ks.length a) ks)) : KBw.bInts b' = (ks.drop a.toNat).take 8 := by
  obtain ⟨i, rfl⟩ := Int.eq_ofNat_of_zero_le h0
  rw [show (i : Int) + 8 = ((i + 8 : Nat) : Int) from rfl, clipAt_nat, clipAt_nat, Nat.min_eq_left (by omega), Nat.min_eq_left (by omega), Nat.add_sub_cancel_left] at h
  exact h
theorem drop_at {ks : List Int} {n : Nat} (h : n < ks.length) : ks.drop n = ks.getD n 0 :: ks.drop (n + 1) := by
  rw [List.drop_eq_getElem_cons h, List.getD_eq_getElem?_getD, List.getElem?_eq_getElem h]; rfl
/-- the eight octets at a place -/
def eight (ks : List Int) (n : Nat) : List Int := [ks.getD n 0, ks.getD (n + 1) 0, ks.getD (n + 2) 0, ks.getD (n + 3) 0, ks.getD (n + 4) 0, ks.getD (n + 5) 0, ks.getD (n + 6) 0, ks.getD (n + 7) 0]
theorem drop_eight {ks : List Int} {n : Nat} (h : n + 8 ≤ ks.length) : ks.drop n = eight ks n ++ ks.drop (n + 8) := by
  have g : ∀ i, i < 8 → ks.drop (n + i) = ks.getD (n + i) 0 :: ks.drop (n + (i + 1)) := fun i hi => drop_at (Nat.lt_of_lt_of_le (Nat.add_lt_add_left hi n) h)
  exact (g 0 (by decide)).trans (congrArg (List.cons _) ((g 1 (by decide)).trans (congrArg (List.cons _) ((g 2 (by decide)).trans (congrArg (List.cons _) ((g 3 (by decide)).trans (congrArg (List.cons _)
    ((g 4 (by decide)).trans (congrArg (List.cons _) ((g 5 (by decide)).trans (congrArg (List.cons _) ((g 6 (by decide)).trans (congrArg (List.cons _) (g 7 (by decide)))))))))))))))
section
variable {ks : List Int} {a : Int} (h0 : 0 ≤ a) (h1 : a + 8 ≤ (ks.length : Int))
include h0 h1
theorem at_eight : ks.drop a.toNat = eight ks a.toNat ++ ks.drop (a.toNat + 8) := drop_eight (by omega)
theorem rd1 : (List.take 8 (ks.drop a.toNat)).getD (Int.toNat 0) 0 + 256 * (List.take 8 (ks.drop a.toNat)).getD (Int.toNat 1) 0 = fromL ((ks.drop a.toNat).take 2) := by
  rw [at_eight h0 h1]
  show _ = _ + 256 * (_ + 256 * 0)
  rw [Int.mul_zero, Int.add_zero]
  rfl
theorem rd2 : (List.take 8 (ks.drop a.toNat)).getD (Int.toNat 2) 0 = ks.getD (a + 2).toNat 0 := by
  rw [at_eight h0 h1, Int.toNat_add h0 (by decide)]
  rfl
theorem rd3 : (List.take 8 (ks.drop a.toNat)).getD (Int.toNat 3) 0 = ks.getD (a + 3).toNat 0 := by
  rw [at_eight h0 h1, Int.toNat_add h0 (by decide)]
  rfl
theorem rd4 : (List.map (fun k => (List.take 8 (ks.drop a.toNat)).getD (4 + k).toNat 0 * 256 ^ k.toNat) (rangeKs 0 ((4 : Int) - 0).toNat)).sum = fromL ((ks.drop (a.toNat + 4)).take 4) := by
  rw [← List.drop_drop, at_eight h0 h1]
  show ks.getD (a.toNat + 4) 0 * 1 + (ks.getD (a.toNat + 5) 0 * 256 + (ks.getD (a.toNat + 6) 0 * 65536 + (ks.getD (a.toNat + 7) 0 * 16777216 + 0))) = ks.getD (a.toNat + 4) 0 + 256 * (ks.getD (a.toNat + 5) 0 + 256 * (ks.getD (a.toNat + 6) 0 + 256 * (ks.getD (a.toNat + 7) 0 + 256 * 0)))
  omega
end
theorem oct64 {b : Array UInt8} {ks : List Int} (hb : KBw.bInts b = ks) {n j i : Nat} : Builtin.Int.intBits (((ks.drop n).take j).getD i 0) ≤ 64 := by
  have h := KBw.getD_in (ks := (ks.drop n).take j) (j := i) fun k hk => KBw.ints_in (b := b) (hb ▸ List.mem_of_mem_drop (List.mem_of_mem_take hk))
  exact intBits_le_64 (by omega) (by omega)
theorem drop4 {h₀ h : Heap} {L : Addr} {p q r c : Addr × Obj} {l : List (Addr × Obj)} (N : News h₀ L h (p :: q :: r :: c :: l)) : News h₀ L h (p :: l) := fun z hz => N z (by
  rcases List.mem_cons.mp hz with h | hz
  · exact h ▸ .head _
  · exact .tail _ (.tail _ (.tail _ (.tail _ hz))))
section
variable {w : World} {p : Program} {lo : List Str} {mean : ExcName → Option Value} {mg mb : Str → Option Value} {dp un : Nat} {gd : Option (List Code)} {cn : Str} {cs : Scope} {a : Addr} {ccd : Value} {cl : List (Str × Addr)} {outer : List Env} {A₀ : Around} {base h₀ : Heap} {L : Addr} {m : Str → Option Value} {s : Shared} {Q E : Value → Shared → Prop} {news : List (Addr × Obj)}
  {ks : List Int} {tb ta : Tok} {b : Array UInt8} {at' : Int}
theorem readok (cx : Cx w p lo mean mg mb A₀ base outer h₀ L s.heap m cs) (N : News h₀ L s.heap news) (hb : KBw.bInts b = ks) (hz : ks.length ≤ 64) (h0 : 0 ≤ at') (h1 : at' + 8 ≤ (ks.length : Int)) (hd : dp + 3 < recursionLimit)
  (ret : ∀ x t1 t2 t3 t4 h' tk', Fr h₀ L h' m → News h₀ L h' ((x, tupO [.int (fromL ((ks.drop at'.toNat).take 2)) t1, .int (ks.getD (at' + 2).toNat 0) t2, .int (ks.getD (at' + 3).toNat 0) t3, .int (fromL ((ks.drop (at'.toNat + 4)).take 4)) t4]) :: news) → Q (.ref x) { s with heap := h', toks := tk' }) :
  wpAny (model PySem.Challenge.rw_rg0263_01.row.prog w) (ktrTop dp un gd cn cs L a ccd cl outer) (call (.ref 277) [.bytes b tb, .int at' ta]) Q E s := by
  obtain ⟨B, F, X, T, hk⟩ := cx
  (refine wpAny_call ?_; k_dflt (refine' code_defC ?qk1 ?qk2 ?qk3 ?qk4 ?qk5 ?qkA ?qkF ?qkK ?qk6 ?qk7 ?qk8 ?qk9 ?qkB ?qkD ?_ ?qc2 ?qc3 ?qc4; (case qkA => exact rfl); (case qkF => exact rfl); (case qkK => first | assumption | exact rfl); (case qk1 => k_asm); (case qk2 => k_asm); (case qk3 => k_asm); (case qk4 => k_asm); (case qk5 => k_asm); (case qk6 => k_is); (case qk7 => k_is); (case qk8 => exact rm (a := 0) hd (by decide)); (case qk9 => exact BindsTo.of_eq rfl); (case qkB => exact rfl); (case qkD => decide +kernel); (case qc2 => exact rfl); (case qc3 => exact rfl); (case qc4 => exact rfl); k_whole; intro g' L' h' tk' cells' FG' F' N' Y' B' X' T' l1; k_cells Y'; (try simp only [List.cons_append, List.nil_append] at N'); (try dsimp only); (try k_fold)))
  k_with_none
  k_with "iop" => (first | exact Iop.add | exact Iop.sub | exact Iop.mod (by first | assumption | decide) | exact Iop.div (by decide) (by decide))
  k_with "idx" => decide
  k_with "item" => rfl
  k_with "nn" => (first | decide | assumption)
  k_with "sevi" => (first | exact Sev.int | exact Sev.loc rfl rfl (by decide) | exact Sev.glo rfl (by k_is) (by decide) | (apply Sev.bin; (k_extra "sevi"); (k_extra "sevi"); (k_extra "iop")) | (apply Sev.item; (k_extra "sevi"); (k_extra "sevi"); k_mem; (k_extra "nn"); (k_extra "idx"); (k_extra "item")) | (apply Sev.fld; (k_extra "sevi"); k_mem; k_mem; constructor; rfl))
  k_with "sargs" => (first | exact Sargs.nil | (apply Sargs.cons; (k_extra "sevi"); (k_extra "sargs")))
  k_with "eval Call" => ((with_reducible show wpAny _ _ (eval (Expr.Call (Expr.Name _ _) _ [] _) _) _ _ _); k_dflt (refine' callS ?qF ?qX ?qT ?qN ?qh0 ?qkp ?qh1 ?_ ?qx1 ?qx2; (case qF => k_asm); (case qX => k_asm); (case qT => k_asm); (case qN => k_asm); (case qx1 => exact rfl); (case qx2 => exact rfl); (case qh0 => exact Sev.glo rfl (by k_is) (by decide)); (case qkp => k_is); (case qh1 => k_extra "sargs"); k_whole); (try dsimp only))
  k_with "isTrue Compare" => ((with_reducible show wpAny _ _ (isTrue (Expr.Compare _ [_] [_] _) _ _) _ _ _); k_dflt (refine' testS ?qF ?qX ?qT ?qN ?qh1 ?qh2 ?qhc ?_ ?qx1 ?qx2; (case qF => k_asm); (case qX => k_asm); (case qT => k_asm); (case qN => k_asm); (case qx1 => exact rfl); (case qx2 => exact rfl); (case qh1 => k_extra "sevi"); (case qh2 => k_extra "sevi"); (case qhc => constructor); k_whole); (try dsimp only))
  k_with "evals" => (k_dflt (refine' evalS ?qF ?qX ?qT ?qN ?qh1 ?_ ?qx1 ?qx2; (case qF => k_asm); (case qX => k_asm); (case qT => k_asm); (case qN => k_asm); (case qx1 => exact rfl); (case qx2 => exact rfl); (case qh1 => k_extra "sevi"); k_whole); (try dsimp only))
  k_with "eval BinOp" => k_extra "evals"
  k_with "eval Subscript" => k_extra "evals"
  k_with "eval Attribute Name" => k_extra "evals"
  k_with "execs cons" => ((with_reducible show wpAny _ _ (execs (Stmt.Assign [Expr.Name _ _] _ _ :: _) _) _ _ _); k_dflt (refine' assignS ?qF ?qX ?qT ?qN ?qh1 ?qhx ?qhs ?_ ?qx1 ?qx2; (case qF => k_asm); (case qX => k_asm); (case qT => k_asm); (case qN => k_asm); (case qx1 => exact rfl); (case qx2 => exact rfl); (case qhx => exact rfl); (case qhs => exact rfl); (case qh1 => k_extra "sevi"); k_whole); intro h' F' N'; (try k_sweep); (try dsimp only))
  k_with "call type:list" => (k_dflt (refine' list_bytes ?qF ?qN ?qh (cut8 h0 h1 (by assumption)) ?ql ?_; (case qF => k_asm); (case qN => k_asm); (case qh => first | assumption | exact rfl); (case ql => exact Nat.le_trans (List.length_take_le _ _) (by decide)); k_whole); intro D' h' tk' ys' c' iY F' N' l9; (try k_sweep); (try dsimp only))
  k_with "storeName" => (k_dflt (refine' storeX_C ?qF ?qN ?qc (UpdF.tail (p := (D', _)) (Nat.ne_of_gt (l9 _ (.head _))) (UpdF.head (fun p hp => Nat.ne_of_lt (Nat.lt_succ_of_lt (l1 p hp))))) ?qd ?_ ?qa ?qb; (case qF => k_asm); (case qN => k_asm); (case qc => exact rfl); (case qd => k_asm); (case qa => exact rfl); (case qb => exact rfl)); intro h' o' F' N' d'; (try dsimp only at N'); k_sweep)
  k_with "binaryOp Mult int int" => (k_dflt (refine mul_int ?_ (IntMulOk.of_left (oct64 hb))))
  k_steps
  rename News _ _ _ (_ :: _) => NN
  rename Fr _ _ _ _ => FF
  rw [rd1 h0 h1, rd2 h0 h1, rd3 h0 h1, rd4 h0 h1] at NN
  exact ret _ _ _ _ _ _ _ FF (drop4 NN)
end
/-- an order's fields -/
abbrev Fld := Int × Int × Int × Int
def OrdAt (w : World) (led : List (Addr × Obj)) (x dx : Addr) (f : Fld) (t : Nat → Tok) : Prop := (x, instObj 90 dx) ∈ led ∧ (dx, ordD w.params (t 0) (t 1) (t 2) (t 3) (.int f.1 (t 4)) (.int f.2.1 (t 5)) (.int f.2.2.1 (t 6)) (.int f.2.2.2 (t 7))) ∈ led
def Ord (w : World) (led : List (Addr × Obj)) (v : Value) (f : Fld) : Prop := ∃ x dx t, v = .ref x ∧ OrdAt w led x dx f t
def Tup (led : List (Addr × Obj)) (v : Value) (f : Fld) : Prop := ∃ (x : Addr) (t : Nat → Tok), v = .ref x ∧ (x, tupO [.int f.1 (t 0), .int f.2.1 (t 1), .int f.2.2.1 (t 2), .int f.2.2.2 (t 3)]) ∈ led
theorem Ord.mk {w : World} {led : List (Addr × Obj)} {x dx : Addr} {t1 t2 t3 t4 u1 u2 u3 u4 : Tok} {c a b k : Int} (h1 : (x, instObj 90 dx) ∈ led) (h2 : (dx, ordD w.params t1 t2 t3 t4 (.int c u1) (.int a u2) (.int b u3) (.int k u4)) ∈ led) : Ord w led (.ref x) (c, a, b, k) :=
  ⟨x, dx, ([t1, t2, t3, t4, u1, u2, u3, u4].getD · 0), rfl, h1, h2⟩
theorem Tup.mk {led : List (Addr × Obj)} {x : Addr} {u1 u2 u3 u4 : Tok} {c a b k : Int} (h1 : (x, tupO [.int c u1, .int a u2, .int b u3, .int k u4]) ∈ led) : Tup led (.ref x) (c, a, b, k) :=
  ⟨x, ([u1, u2, u3, u4].getD · 0), rfl, h1⟩
/-- alike at every place -/
def All2 (P : Value → Fld → Prop) (as : List Value) (bs : List Fld) : Prop := as.length = bs.length ∧ ∀ (i : Nat) (a : Value), as[i]? = some a → ∃ b, bs[i]? = some b ∧ P a b
section
variable {P Q : Value → Fld → Prop} {as : List Value} {bs : List Fld}
theorem All2.nil : All2 P [] [] := ⟨rfl, fun _ _ e => nomatch e⟩
theorem All2.imp (h : ∀ a b, P a b → Q a b) (x : All2 P as bs) : All2 Q as bs := ⟨x.1, fun i a e => (x.2 i a e).imp fun _ y => ⟨y.1, h _ _ y.2⟩⟩
theorem All2.snoc {a : Value} {b : Fld} (h : P a b) (x : All2 P as bs) : All2 P (as ++ [a]) (bs ++ [b]) := by
  refine ⟨by rw [List.length_append, List.length_append, x.1]; rfl, fun i a' e => ?_⟩
  by_cases hi : i < as.length
  · rw [List.getElem?_append_left hi] at e
    rw [List.getElem?_append_left (x.1 ▸ hi)]
    exact x.2 i a' e
  · have hi := Nat.not_lt.mp hi
    rw [List.getElem?_append_right hi] at e
    rw [List.getElem?_append_right (x.1 ▸ hi), ← x.1]
    cases j : i - as.length with
    | zero => rw [j] at e; cases e; exact ⟨b, rfl, h⟩
    | succ j' => rw [j] at e; cases e
end
theorem Ord.sub {w : World} {led led' : List (Addr × Obj)} {v : Value} {f : Fld} (h : ∀ p ∈ led, p ∈ led') : Ord w led v f → Ord w led' v f := fun ⟨x, dx, t, e, a, b⟩ => ⟨x, dx, t, e, h _ a, h _ b⟩
theorem Tup.sub {led led' : List (Addr × Obj)} {v : Value} {f : Fld} (h : ∀ p ∈ led, p ∈ led') : Tup led v f → Tup led' v f := fun ⟨x, t, e, a⟩ => ⟨x, t, e, h _ a⟩
abbrev Ords (w : World) (led : List (Addr × Obj)) : List Value → List Fld → Prop := All2 (Ord w led)
abbrev Tups (led : List (Addr × Obj)) : List Value → List Fld → Prop := All2 (Tup led)
section
variable {w : World} {led led' : List (Addr × Obj)} (h : ∀ p ∈ led, p ∈ led') {vs : List Value} {fs : List Fld}
include h
theorem Ords.sub (o : Ords w led vs fs) : Ords w led' vs fs := o.imp fun _ _ => Ord.sub h
theorem Tups.sub (o : Tups led vs fs) : Tups led' vs fs := o.imp fun _ _ => Tup.sub h
end
/-- the order whose eight octets stand at a place -/
def fldAt (ks : List Int) (i : Nat) : Fld := (fromL ((ks.drop i).take 2), ks.getD (i + 2) 0, ks.getD (i + 3) 0, fromL ((ks.drop (i + 4)).take 4))
def flds (ks : List Int) (n : Nat) : List Fld := (List.range n).map fun i => fldAt ks (8 * i)
theorem flds_succ {ks : List Int} {n : Nat} : flds ks (n + 1) = flds ks n ++ [fldAt ks (8 * n)] := by
  unfold flds; rw [List.range_succ, List.map_append]; rfl
section
open PyProof.Rows.LCg
/-- a comprehension that maps a list's items, each by itself -/
theorem comp_map {prog : Program} {w : World} {A : Around} {h₀ : Heap} {L ax : Addr} {m : Str → Option Value} {env : Env} {elt : Expr} {x : Str} {scope : Scope} {cl : List (Str × Addr)} {s : Shared} {Fin : List Value → List (Addr × Obj) → Prop} {news : List (Addr × Obj)} {vs : List Value} {fs : List Fld} {nn : Nat}
    {Pin Pout : List (Addr × Obj) → Value → Fld → Prop} (mi : ∀ {l l' v f}, (∀ p ∈ l, p ∈ l') → Pin l v f → Pin l' v f) (mo : ∀ {l l' v f}, (∀ p ∈ l, p ∈ l') → Pout l v f → Pout l' v f)
    (hm : (ax, listOf vs.toArray nn) ∈ news) (hin : All2 (Pin news) vs fs) (fin : ∀ ys nw, (∀ p ∈ news, p ∈ nw) → All2 (Pout nw) ys fs → Fin ys nw)
    (step : ∀ v f ys nw I oI C oC D m₂ h tk (E' : Value → Shared → Prop), Pin nw v f → (∀ p ∈ news, p ∈ nw) → f ∈ fs → NsObj oC m₂ → m₂ x = some v → Fr h₀ L h m → News h₀ L h ((I, oI) :: (C, oC) :: (D, lst ys) :: nw) → Off3 I C D nw → ((@Ne Nat I C) ∧ (@Ne Nat I D) ∧ (@Ne Nat C D)) →
      wpAny (model prog w) A (eval elt (compEnvC scope cl C env)) (CompEnd h₀ L m { s with heap := h, toks := tk } I oI C oC D (lst ys) (fun _ => True) (fun y nw' => Pout nw' y f ∧ ∀ p ∈ nw, p ∈ nw')) E' { s with heap := h, toks := tk }) :
    CompRest prog w A h₀ L m env elt x scope cl s (SrcAt h₀ ax vs.toArray) (fun i v => vs.toArray[i]? = some v) Fin vs.toArray.size 0 [] news := by
  refine comp_inv (fun i ys nw => (∀ p ∈ news, p ∈ nw) ∧ All2 (Pout nw) ys (fs.take i)) ⟨fun _ h => h, by rw [List.take_zero]; exact All2.nil⟩ (fun _ _ _ h => .inr ⟨_, h.1 _ hm, rfl, _, rfl⟩) (fun ys nw h => fin ys nw h.1 (by rw [List.size_toArray, hin.1, List.take_length] at h; exact h.2)) ?_
  intro i v ys nw I oI C oC D m₂ h tk E' hi hv hJ hC hx F N off ne
  obtain ⟨f, hf, hP⟩ := hin.2 i v (by simpa using hv)
  refine wpAny_mono (step v f ys nw I oI C oC D m₂ h tk E' (mi hJ.1 hP) hJ.1 (List.mem_of_getElem? hf) hC hx F N off ne) (fun y s₂ h₂ => ?_) fun _ _ e => e
  obtain ⟨h', tk', nw', e, F', N', off', _, hy, hs⟩ := h₂
  refine ⟨h', tk', nw', e, F', N', off', trivial, fun p hp => hs p (hJ.1 p hp), ?_⟩
  rw [List.take_add_one, hf]
  exact All2.snoc hy (hJ.2.imp fun _ _ => mo hs)
theorem comp_end1 {h₀ h' : Heap} {L I C D x : Addr} {m : Str → Option Value} {s₁ : Shared} {oI oC oD o : Obj} {rest : Value → List (Addr × Obj) → Prop} {y : Value} {tk : Nat} {nw : List (Addr × Obj)} {S : List (Addr × Obj) → Prop}
    (F : Fr h₀ L h' m) (N : News h₀ L h' ((x, o) :: (I, oI) :: (C, oC) :: (D, oD) :: nw)) (l : ∀ p ∈ (I, oI) :: (C, oC) :: (D, oD) :: nw, p.1 < x) (off : Off3 I C D nw) (hS : S ((x, o) :: nw)) (r : rest y ((x, o) :: nw)) :
    CompEnd h₀ L m s₁ I oI C oC D oD S rest y { s₁ with heap := h', toks := tk } := by
  refine CompEnd.intro F N ((x, o) :: nw) (fun p hp => ?_) ⟨⟨Nat.ne_of_gt (l _ (.head _)), Nat.ne_of_gt (l _ (.tail _ (.head _))), Nat.ne_of_gt (l _ (.tail _ (.tail _ (.head _))))⟩, off⟩ hS r
  rcases List.mem_cons.mp hp with h | hp
  · exact h ▸ .tail _ (.head _)
  · rcases List.mem_cons.mp hp with h | hp
    · exact h ▸ .tail _ (.tail _ (.head _))
    · rcases List.mem_cons.mp hp with h | hp
      · exact h ▸ .tail _ (.tail _ (.tail _ (.head _)))
      · rcases List.mem_cons.mp hp with h | hp
        · exact h ▸ .head _
        · exact .tail _ (.tail _ (.tail _ (.tail _ hp)))
end
section
open Sem (wp)
abbrev bmE (b : Addr) : List Value := [.ref b, .type "Exception", .type "BaseException", .type "object"]
variable {prog : Program} {w : World} {A : Around} {E : Value → Shared → Prop} {h : Heap} {g : Array GenState} {d : Drawn} {t : Nat} {os : OsState} {R : Result → Shared → Prop}
variable {nm q : Str} {C N b : Addr} {bs : List Value} {hdct : Bool} {sn : List Str} {sub : List Value} {ab : Bool} {col : Option Bool} {dd : Option Addr} {k0 k1 k2 k3 k5 : Option Value} {rest : List Value}
theorem err_new (hC : h.get? C = some (excClassObj nm q C N bs (bmE b) hdct sn sub ab col dd k0 k1 k2 k3 k5 "Exception.__new__"))
    (hq : R (.ok (.ret (.ref (h.objs.size + 1)))) ⟨(h.push { cls := .type "tuple", data := .seq rest.toArray }).push { cls := .ref C, data := .fields #[.ref h.objs.size, .none, .none, .none, .bool false, .none] }, g, d, t, os⟩) (hrest : rest.length ≤ sizeLine) :
    codeAny (model prog w) A (.builtin "Exception.__new__" ⟨.ref C :: rest, []⟩) R ⟨h, g, d, t, os⟩ := by
  have Fx := PySem.F.excBase_Exception
  have hends := Fx.ends
  refine codeAny_builtinAt Fx.entry ?_
  unfold Builtin.«BaseException.__new__»
  refine PySem.wpAt_bind ?_
  show PySem.wpAt _ _ _ (stack >>= _) _ _ _
  refine PySem.wpAt_bind (PySem.wpAt_stack fun p below => PySem.wpAt_of_wpAny ?_)
  wp_walk
  refine PySem.wpAt_of_wpAny ?_
  rw [Fx.owner]
  repeat (first | with_reducible refine wpAny_madeHere_exc Fx.canon hC ?_ | with_reducible refine wpAny_loadPart_at hC ?_ | (with_reducible refine wpAny_isSubtype_exc hC ?_; first | rw [show (Value.ref C :: bmE b).contains (.type "Exception") = true from rfl] | rw [show (Value.ref C :: bmE b).contains (.type "AttributeError") = false from rfl] | rw [show (Value.ref C :: bmE b).contains (.type "NameError") = false from rfl]) | wp_step)
  show R _ _
  rw [Heap.size_push]
  exact hq
theorem err_check {Q : Unit → Shared → Prop} (hC : h.get? C = some (excClassObj nm q C N bs (bmE b) hdct sn sub ab col dd k0 k1 k2 k3 k5 "Exception.__new__"))
    (hq : Q () ⟨h, g, d, t, os⟩) : wpAny (model prog w) A (checkBuiltinCall "Exception.__new__" ⟨.ref C :: rest, []⟩) Q E ⟨h, g, d, t, os⟩ := by
  have Fx := PySem.F.excBase_Exception
  have hstar := Fx.noStar
  simp only [checkBuiltinCall, Fx.newKind, Fx.newSplit, Fx.newRow]
  repeat (first | refine wpAny_loadPart_at hC ?_ | (refine wpAny_isSubtype_exc hC ?_; rw [show (Value.ref C :: bmE b).contains (.type "Exception") = true from rfl]) | refine wpAny_staticBase_exc hC ?_ | refine wpAny_madeBy_exc hC ?_ | simp only [bne_self_eq_false, Bool.false_eq_true, if_false] | wp_step)
  exact hq
theorem err_type {K : Frag} {fI : Addr} {oI : Obj} {Q : Fin → Shared → Prop} (hC : h.get? C = some (excClassObj nm q C N bs (bmE b) hdct sn sub ab col dd k0 k1 k2 k3 k5 "Exception.__new__"))
    (X : K.In h) (hi : findIn K (.ref C) "__init__" = some (some (.ref fI))) (hfI : h.get? fI = some oI) (hfc : oI.cls = .type "function") (hrest : rest.length ≤ sizeLine)
    (hq : ∀ h' e, Heap.MadeExcOf h h' e (.ref C) rest → wpAny (model prog w) A (call (.ref fI) (.ref e :: rest)) (fun r s' => r = .none ∧ Q (.done (.ret (.ref e))) s') E ⟨h', g, d, t, os⟩) :
    wpAny (model prog w) A (Builtin.«type.__call__» ⟨.ref C :: rest, []⟩) Q E ⟨h, g, d, t, os⟩ := by
  have Fx := PySem.F.excBase_Exception
  repeat (first | with_reducible refine wpAny_loadPart_at hC ?_ | with_reducible refine wpAny_madeBy_exc hC ?_ | wp_step)
  refine codeAny_call_builtin_code (Code.quiet_builtin _ Fx.quiet) (err_check hC ?_)
  refine err_new hC ?_ hrest
  show wpAny _ _ _ _ _ _
  have up : ∀ a o, h.get? a = some o → ((h.push { cls := .type "tuple", data := .seq rest.toArray }).push { cls := .ref C, data := .fields #[.ref h.objs.size, .none, .none, .none, .bool false, .none] }).get? a = some o := fun a o e => Heap.get?_push_of_some _ (Heap.get?_push_of_some _ e)
  have hget : ((h.push { cls := .type "tuple", data := .seq rest.toArray }).push { cls := .ref C, data := .fields #[.ref h.objs.size, .none, .none, .none, .bool false, .none] }).get? (h.objs.size + 1) = some { cls := .ref C, data := .fields #[.ref h.objs.size, .none, .none, .none, .bool false, .none] } := by heap_get
  unfold isInstance
  repeat (first | with_reducible refine wpAny_loadPart_at hget ?_ | (with_reducible refine wpAny_isSubtype_exc (up _ _ hC) ?_; rw [show (Value.ref C :: bmE b).contains (.ref C) = true by simp]) | wp_step)
  show wpAny _ _ (typeLookup (.ref C) _) _ _ _
  refine (looks_findIn (X.keeps up) hi).here ?_
  refine (wpAny_holding (wpAny_bind ?_))
  unfold bindSpecial
  refine wpAny_bind (wpAny_typeOf (T := "function") ⟨_, up _ _ hfI, hfc⟩ ?_)
  rw [if_pos (by decide)]
  refine wpAny_pure (wpAny_bind (wpAny_mono (hq _ (h.objs.size + 1) ⟨up, Heap.get?_none_of_le (Nat.le_succ _), h.objs.size, ?_, Heap.get?_none_of_le (Nat.le_refl _), ?_⟩) (fun r s' hr => ?_) fun _ _ x => x))
  · exact hget
  · exact Heap.get?_push_of_some _ (Heap.get?_push_at rfl rfl)
  · obtain ⟨rfl, hQ⟩ := hr
    wp_walk
    exact hQ
theorem err_call {K : Frag} {fI : Addr} {oI : Obj} {Q : Value → Shared → Prop} (hC : h.get? C = some (excClassObj nm q C N bs (bmE b) hdct sn sub ab col dd k0 k1 k2 k3 k5 "Exception.__new__"))
    (X : K.In h) (hi : findIn K (.ref C) "__init__" = some (some (.ref fI))) (hfI : h.get? fI = some oI) (hfc : oI.cls = .type "function") (hrest : rest.length ≤ sizeLine)
    (hq : ∀ h' e, Heap.MadeExcOf h h' e (.ref C) rest → wpAny (model prog w) (A.under (.builtin "type.__call__" ⟨.ref C :: rest, []⟩)) (call (.ref fI) (.ref e :: rest)) (fun r s' => r = .none ∧ Q (.ref e) s') E ⟨h', g, d, t, os⟩) :
    wpAny (model prog w) A (call (.ref C) rest) Q E ⟨h, g, d, t, os⟩ := by
  have f1 := tc_lookup
  have f2 := tc_bind (.ref C)
  have hT : (⟨h, g, d, t, os⟩ : Shared).TypeIs (.ref C) "type" := ⟨_, hC, rfl⟩
  refine wpAny_call (codeAny_of_tree ?_)
  show wpAny _ _ (callAny (.ref C) _) _ _ _
  repeat (any_goals (first | assumption | with_reducible refine wpAny_loadPart_at hC ?_ | wp_step))
  refine ⟨rfl, ?_⟩
  exact codeAny_call_builtin_at (Code.quiet_builtin _ (by decide +kernel)) entry_typeCall (wpAny_check_type_call_sub hC (err_type hC X hi hfI hfc hrest fun h' e hm => hq h' e hm))
end
open PySem.Builtin PySem.Builtin.ObjectAttr
section
variable {prog : Program} {w : World} {A : Around} {E : Value → Shared → Prop} {h : Heap} {g : Array GenState} {d : Drawn} {t : Nat} {os : OsState}
variable {nm q : Str} {C N b : Addr} {bs : List Value} {hdct : Bool} {sn : List Str} {sub : List Value} {ab : Bool} {col : Option Bool} {dd : Option Addr} {k0 k1 k2 k3 k5 : Option Value} {rest : List Value}
theorem err_check_init {e : Addr} {oe : Obj} {Q : Unit → Shared → Prop} (hC : h.get? C = some (excClassObj nm q C N bs (bmE b) hdct sn sub ab col dd k0 k1 k2 k3 k5 "Exception.__new__"))
    (he : h.get? e = some oe) (hcls : oe.cls = .ref C) (hq : Q () ⟨h, g, d, t, os⟩) : wpAny (model prog w) A (checkBuiltinCall "Exception.__init__" ⟨.ref e :: rest, []⟩) Q E ⟨h, g, d, t, os⟩ := by
  have Fx := PySem.F.excBase_Exception
  have hshort := Fx.noStar
  simp only [checkBuiltinCall, Fx.initKind, Fx.initSplit, Fx.initRow]
  repeat (first | (with_reducible refine wpAny_loadPart_at he ?_; rw [hcls]) | with_reducible refine wpAny_loadPart_at hC ?_ | (with_reducible refine wpAny_isSubtype_exc hC ?_; rw [show (Value.ref C :: bmE b).contains (.type "Exception") = true from rfl]) | wp_step)
  refine wpAny_onRaise ?_
  rw [show ∀ (a b : String) (n : Nat), Bind.check ⟨.positional, "*", "Exception", .self, [⟨"args", .varPos, false⟩]⟩ a b n (List.map (fun x => x.fst) ({ pos := Value.ref e :: rest } : Args).kw) = pure () from
    fun a b n => check_star_args _ _ _ _ _ _]
  exact wpAny_pure hq
theorem err_base_init {e t' : Addr} {Q : Value → Shared → Prop} (hC : h.get? C = some (excClassObj nm q C N bs (bmE b) hdct sn sub ab col dd k0 k1 k2 k3 k5 "Exception.__new__"))
    (he : h.get? e = some { cls := .ref C, data := .fields #[.ref t', .none, .none, .none, .bool false, .none] }) (hrest : rest.length ≤ sizeLine)
    (hq : Q .none ⟨(h.push { cls := .type "tuple", data := .seq rest.toArray }).update e (Obj.mapFields fun x => x.setIfInBounds 0 (.ref h.objs.size)), g, d, t, os⟩) : wpAny (model prog w) A (call (.builtin "Exception.__init__") (.ref e :: rest)) Q E ⟨h, g, d, t, os⟩ := by
  have Fx := PySem.F.excBase_Exception
  refine wpAny_call (codeAny_call_builtin Fx.init.plain Fx.initEntry (err_check_init hC he rfl ?_))
  wp_walk
  exact hq
end
abbrev exo (C : Addr) (d : Option Addr) (t : Addr) : Obj := { cls := .ref C, dict := d, data := .fields #[.ref t, .none, .none, .none, .bool false, .none] }
section
variable {prog : Program} {w : World} {A : Around} {E : Value → Shared → Prop} {s : Shared} {h₀ : Heap} {L : Addr} {m : Str → Option Value} {news : List (Addr × Obj)} {K : Frag} {C : Addr} {x b : Addr} {ox : Obj} {od : Option Obj} {name : Str} {v : Value} {cd : ClassData} {R : Result → Shared → Prop}
theorem osaE {tk : Tok} (X : K.In s.heap) (I : InstAt s.heap x ox C od) (hc : clsIn K C = some cd) (hm : cd.mro = .ref C :: bmE b) (hf : findIn K (.ref C) name = some none)
    (h : wpAny (model prog w) A.in1 (storeInOwnDict (.ref x) (.ref C) (.str name tk) name v false)
      (fun fin s' => match fin with | .done f => R (.ok f) s' | .again c' => c'.quiet = true ∧ codeAny (model prog w) A c' R s') (fun e s' => R (.error e) s') s) :
    codeAny (model prog w) A (.call (.builtin "object.__setattr__") ⟨[.ref x, .str name tk, v], []⟩) R s := by
  have SF := PySem.F.store_object
  have ne : cd.mro.isEmpty = false := by rw [hm]; rfl
  have sub : Looks (model prog w) s.heap (isInstance (.ref x) (.type "object")) true := I.type.andThen (looks_mroIn X (by unfold mroIn; rw [hc, Option.bind_some, if_neg (by rw [ne]; decide), hm]; rfl))
  refine codeAny_call_builtin SF.slot.plain SF.entry (@check_slot (model prog w) _ _ s "object.__setattr__" "object" "__setattr__" (.ref x) [.str name tk, v] [] _ SF.kind SF.split sub (SF.args (.ref x) (.str name tk) v) ?_)
  have hmr : Looks (model prog w) s.heap (mroOf (.ref C)) cd.mro := (looks_clsIn X hc).andThen .now
  rw [osa_eq, refuse_eq]
  refine wpAny_bind (wpAny_bind (I.type.here (wpAny_bind (hmr.here ?_))))
  rw [hm, refuseLoop_ref, refuseLoop_ref, PySem.F.store_Exception.passes (.ref x)]
  exact wpAny_pure (wpAny_bind (I.type.here (wpAny_bind ((looks_findIn X hf).here (wpAny_bind (wpAny_pure h))))))
theorem store_in {od od' : Obj} {dx : Addr} {tk : Tok} {pre post : List (Addr × Obj)} {es : List DictEntry} {n : Nat} {Q : Fin → Shared → Prop} (F : Fr h₀ L s.heap m) (N : News h₀ L s.heap (pre ++ (dx, od) :: post))
    (hl : (lookIn name od).isSome = true) (h1 : ∀ p ∈ pre, p.1 ≠ dx) (h2 : ∀ p ∈ post, p.1 ≠ dx)
    (e : Obj.putName name (PyData.keyHash w.params name) (.str name s.toks) v od = od') (e' : od'.data = .dict es.toArray n) (hz : es.length ≤ 1000)
    (h : ∀ h', Fr h₀ L h' m → News h₀ L h' (pre ++ (dx, od') :: post) → Q (.done (.ret .none)) { s with heap := h', toks := s.toks + 1 }) :
    wpAny (model prog w) A (storeInDict dx (.str name tk) name v) Q E s := by
  obtain ⟨U1, U2⟩ := news_upd (f := Obj.putName name (PyData.keyHash w.params name) (.str name s.toks) v) F N h1 h2 e (by obtain ⟨_, _, dd, _⟩ := od'; cases e'; rfl)
  have D := (N (dx, od) (by simp)).1
  have D' := (U2 (dx, od') (by simp)).1
  refine wpAny_bind (wpAny_pure (wpAny_bind ?_))
  unfold nsSet
  refine wpAny_bind (wpAny_bind (wpAny_askSetting (wpAny_pure (wpAny_bind (wpAny_mkText (wpAny_bind (wpAny_loadPart D ?_)))))))
  unfold lookIn at hl
  split at hl
  · rename_i es₀ n₀ q
    rw [q]
    dsimp only
    have c : (!es₀.any (·.key.isStr name) && es₀.any (·.refKey)) = false := by
      rw [← Array.any_toList, ← Array.any_toList]
      split at hl
      · rename_i en he
        rw [List.any_eq_true.mpr ⟨en, List.mem_of_find?_eq_some he, List.find?_some he⟩]; rfl
      · split at hl
        · cases hl
        · rename_i z; rw [Bool.not_eq_true] at z; rw [z, Bool.and_false]
    rw [aRefKeyMayBeTheName_at, c]
    refine wpAny_updatePart D ?_
    refine wpAny_bind (wpAny_lookBehind D' (by rw [e']; exact pastItsLine_dict (by rw [List.size_toArray, sizeLine_eq]; omega)) ?_)
    exact wpAny_pure (h _ U1 U2)
  · cases hl
theorem set_first {t : Addr} {es : List DictEntry} {n : Nat} {Q : Unit → Shared → Prop} (F : Fr h₀ L s.heap m) (X₀ : K.In h₀) (N : News h₀ L s.heap ((x, exo C none t) :: news)) (off : ∀ p ∈ news, p.1 ≠ x)
    (hc : clsIn K C = some cd) (hm : cd.mro = .ref C :: bmE b) (hd : cd.hasDict = true) (hf : findIn K (.ref C) name = some none) (hs : findIn K (.ref C) "__setattr__" = some (some (.builtin "object.__setattr__")))
    (e : (putL name (PyData.keyHash w.params name) (.str name (s.toks + 1)) v [], putN name [] 0) = (es, n)) (hz : es.length ≤ 1000)
    (h : ∀ dx h', Fr h₀ L h' m → News h₀ L h' ((x, exo C (some dx) t) :: (dx, dictOf es n) :: news) → (∀ p ∈ news, p.1 < dx) → x < dx → Q () { s with heap := h', toks := s.toks + 2 }) :
    wpAny (model prog w) A (setAttr (.ref x) name v) Q E s := by
  have X := X₀.keeps F.keep
  have hx := (N _ (.head _)).1
  have I : InstAt s.heap x (exo C none t) C none := ⟨hx, rfl, rfl, trivial⟩
  refine set_plain X I hs (osaE (s := { s with toks := s.toks + 1 }) X I hc hm hf ?_)
  refine wpAny_bind (wpAny_pure (wpAny_bind (wpAny_bind (wpAny_loadPart hx (wpAny_bind (Looks.here (s := { s with toks := s.toks + 1 }) (looks_clsIn X hc) ?_))))))
  rw [hd]
  have hlt : x < s.heap.objs.size := Heap.lt_size hx
  have hx₁ : (s.heap.push (dictOf [] 0)).get? x = some (exo C none t) := Heap.get?_push_of_some _ hx
  have ne : s.heap.objs.size ≠ x := Nat.ne_of_gt hlt
  show wpAny _ _ (do let d ← alloc (dictOf [] 0); update x (fun o => { cls := o.cls, dict := some d, data := o.data, slots := o.slots }); dictMade (exo C none t).cls x d) _ _ _
  refine wpAny_bind (wpAny_alloc' (wpAny_bind (wpAny_update' hx₁ (wpAny_pure ?_))))
  have gx := Heap.get?_update_self (fun o => { cls := o.cls, dict := some s.heap.objs.size, data := o.data, slots := o.slots }) hx₁ rfl
  have other : ∀ a o, a ≠ x → (s.heap.push (dictOf [] 0)).get? a = some o → ((s.heap.push (dictOf [] 0)).update x (fun o => { cls := o.cls, dict := some s.heap.objs.size, data := o.data, slots := o.slots })).get? a = some o := fun a o h q => (Heap.get?_update_other _ _ (Ne.symm h)).trans q
  have F₁ : Fr h₀ L ((s.heap.push (dictOf [] 0)).update x (fun o => { cls := o.cls, dict := some s.heap.objs.size, data := o.data, slots := o.slots })) m :=
    ⟨F.ns.at' fun o e => other _ _ (Ne.symm (N _ (.head _)).2.1) (Heap.get?_push_of_some _ e), fun a o q => other _ _ (fun z => by have := (N _ (.head _)).2.2; rw [← z, q] at this; cases this) (Heap.get?_push_of_some _ (F.keep a o q)), F.above⟩
  have N₁ : News h₀ L ((s.heap.push (dictOf [] 0)).update x (fun o => { cls := o.cls, dict := some s.heap.objs.size, data := o.data, slots := o.slots })) ([(x, exo C (some s.heap.objs.size) t)] ++ (s.heap.objs.size, dictOf [] 0) :: news) := fun p hp => by
    rcases List.mem_cons.mp hp with rfl | hp
    · exact ⟨gx, (N _ (.head _)).2⟩
    · rcases List.mem_cons.mp hp with rfl | hp
      · exact ⟨other _ _ ne (Heap.get?_push_size _ rfl), Nat.ne_of_gt F.ns.lt, next_is_new F⟩
      · exact ⟨other _ _ (off p hp) (Heap.get?_push_of_some _ (N p (.tail _ hp)).1), (N p (.tail _ hp)).2⟩
  obtain ⟨e1, e2⟩ := Prod.mk.inj e
  refine store_in (s := { s with heap := _, toks := s.toks + 1 }) F₁ N₁ rfl (fun p hp => ?_) (fun p hp => Nat.ne_of_lt (Heap.lt_size (N p (.tail _ hp)).1)) (by rw [putName_dict, e1, e2]) rfl hz fun h' F' N' => h _ h' F' N' (fun p hp => Heap.lt_size (N p (.tail _ hp)).1) hlt
  rw [List.mem_singleton.mp hp]; exact Ne.symm ne
theorem set_next {t dx : Addr} {es es' : List DictEntry} {n n' : Nat} {Q : Unit → Shared → Prop} (F : Fr h₀ L s.heap m) (X₀ : K.In h₀) (N : News h₀ L s.heap ((x, exo C (some dx) t) :: (dx, dictOf es n) :: news)) (off : ∀ p ∈ news, p.1 < dx) (hlt : x < dx)
    (hc : clsIn K C = some cd) (hm : cd.mro = .ref C :: bmE b) (hd : cd.hasDict = true) (hf : findIn K (.ref C) name = some none) (hs : findIn K (.ref C) "__setattr__" = some (some (.builtin "object.__setattr__"))) (hl : (getL name es).isSome = true)
    (e : (putL name (PyData.keyHash w.params name) (.str name (s.toks + 1)) v es, putN name es n) = (es', n')) (hz : es'.length ≤ 1000)
    (h : ∀ h', Fr h₀ L h' m → News h₀ L h' ((x, exo C (some dx) t) :: (dx, dictOf es' n') :: news) → Q () { s with heap := h', toks := s.toks + 2 }) :
    wpAny (model prog w) A (setAttr (.ref x) name v) Q E s := by
  have X := X₀.keeps F.keep
  have hx := (N _ (.head _)).1
  have I : InstAt s.heap x (exo C (some dx) t) C (some (dictOf es n)) := ⟨hx, rfl, rfl, (N _ (.tail _ (.head _))).1⟩
  refine set_plain X I hs (osaE (s := { s with toks := s.toks + 1 }) X I hc hm hf ?_)
  refine wpAny_bind (wpAny_pure (wpAny_bind (wpAny_bind (wpAny_loadPart hx (wpAny_bind (Looks.here (s := { s with toks := s.toks + 1 }) (looks_clsIn X hc) ?_))))))
  rw [hd]
  obtain ⟨e1, e2⟩ := Prod.mk.inj e
  refine wpAny_pure (a := some dx) (store_in (s := { s with toks := s.toks + 1 }) (pre := [_]) F N hl (fun p hp => ?_) (fun p hp => Nat.ne_of_lt (off p hp)) (by rw [putName_dict, e1, e2]) rfl hz fun h' F' N' => h h' F' N')
  rw [List.mem_singleton.mp hp]; exact Nat.ne_of_lt hlt
theorem err_init_N {nm q : Str} {N' : Addr} {bs : List Value} {hdct : Bool} {sn : List Str} {sub : List Value} {ab : Bool} {col : Option Bool} {dd : Option Addr} {k0 k1 k2 k3 k5 : Option Value} {rest : List Value} {t : Addr} {Q : Value → Shared → Prop} (F : Fr h₀ L s.heap m) (X₀ : K.In h₀) (N : News h₀ L s.heap ((x, exo C none t) :: news)) (off : ∀ p ∈ news, p.1 ≠ x)
    (hC : K.lookup C = some (excClassObj nm q C N' bs (bmE b) hdct sn sub ab col dd k0 k1 k2 k3 k5 "Exception.__new__")) (hrest : rest.length ≤ sizeLine)
    (h : ∀ t' h', Fr h₀ L h' m → News h₀ L h' ((x, exo C none t') :: news) → Q .none { s with heap := h' }) :
    wpAny (model prog w) A (call (.builtin "Exception.__init__") (.ref x :: rest)) Q E s := by
  have hx := (N _ (.head _)).1
  have hx₁ : (s.heap.push { cls := .type "tuple", data := .seq rest.toArray }).get? x = some (exo C none t) := Heap.get?_push_of_some _ hx
  have other : ∀ a o, a ≠ x → s.heap.get? a = some o → ((s.heap.push { cls := .type "tuple", data := .seq rest.toArray }).update x (Obj.mapFields fun x => x.setIfInBounds 0 (.ref s.heap.objs.size))).get? a = some o := fun a o h q => (Heap.get?_update_other _ _ (Ne.symm h)).trans (Heap.get?_push_of_some _ q)
  refine err_base_init (g := s.gens) (d := s.drawn) (t := s.toks) (os := s.os) (X₀.keeps F.keep _ _ hC) hx hrest (h s.heap.objs.size _ ⟨F.ns.at' fun o e => other _ _ (Ne.symm (N _ (.head _)).2.1) e, fun a o q => other _ _ (fun z => by have := (N _ (.head _)).2.2; rw [← z, q] at this; cases this) (F.keep a o q), F.above⟩ fun p hp => ?_)
  rcases List.mem_cons.mp hp with rfl | hp
  · exact ⟨Heap.get?_update_self _ hx₁ rfl, (N _ (.head _)).2⟩
  · exact ⟨other _ _ (off p hp) (N p (.tail _ hp)).1, (N p (.tail _ hp)).2⟩
end
abbrev errD (w : World) (u1 u2 : Tok) (v1 v2 : Value) : Obj := dictOf [⟨PyData.keyHash w.params (Str.ofString "what"), .str (Str.ofString "what") u1, v1⟩, ⟨PyData.keyHash w.params (Str.ofString "at"), .str (Str.ofString "at") u2, v2⟩] 2
section
variable {w : World} {p : Program} {lo : List Str} {mean : ExcName → Option Value} {mg mb : Str → Option Value} {dp un : Nat} {gd : Option (List Code)} {cn : Str} {cs : Scope} {a : Addr} {ccd : Value} {cl : List (Str × Addr)} {outer : List Env} {A₀ : Around} {base h₀ : Heap} {L : Addr} {m : Str → Option Value} {s : Shared} {Q E : Value → Shared → Prop} {news : List (Addr × Obj)}
  {e t : Addr} {what : Str} {tw ta : Tok} {at' : Value} {args : List Value}
theorem einit (cx : Cx w p lo mean mg mb A₀ base outer h₀ L s.heap m cs) (N : News h₀ L s.heap ((e, exo 52 none t) :: news)) (he : ∀ p ∈ news, p.1 ≠ e) (ha : args = [.ref e, .str what tw, at'] ∨ args = [.ref e, .str what tw] ∧ at' = .none) (hd : dp + 3 < recursionLimit)
  (ret : ∀ t' dx u1 u2 h' tk', Fr h₀ L h' m → News h₀ L h' ((e, exo 52 (some dx) t') :: (dx, errD w u1 u2 (.str what tw) at') :: news) → e < dx → (∀ p ∈ news, p.1 < dx) → Q .none { s with heap := h', toks := tk' }) :
  wpAny (model PySem.Challenge.rw_rg0263_01.row.prog w) (ktrTop dp un gd cn cs L a ccd cl outer) (call (.ref 29) args) Q E s := by
  obtain ⟨B, F, X, T, hk⟩ := cx
  (refine wpAny_call ?_; k_dflt (refine' code_def (binds := [(Str.ofString "self", .ref e), (Str.ofString "what", .str what tw), (Str.ofString "at", at')]) ?qk1 ?qk2 ?qk3 ?qk4 ?qk5 ?qkA ?qkF ?qkK ?qk6 ?qk7 ?qk8 ?qk9 ?qkB ?_ ?qc2 ?qc3 ?qc4 ?qc5; (case qkA => exact rfl); (case qkF => exact rfl); (case qkK => first | assumption | exact rfl); (case qk1 => k_asm); (case qk2 => k_asm); (case qk3 => k_asm); (case qk4 => k_asm); (case qk5 => k_asm); (case qk6 => k_is); (case qk7 => k_is); (case qk8 => exact rm (a := 0) hd (by decide)); (case qk9 => rcases ha with rfl | ⟨rfl, rfl⟩ <;> exact binds_K (by k_in) rfl (by k_is) rfl rfl rfl); (case qc5 => decide); (case qkB => exact locs rfl); (case qc2 => exact rfl); (case qc3 => exact rfl); (case qc4 => exact rfl); k_whole; intro g' L' h' FG' F' N' B' X' T'; (try dsimp only); (try k_fold)))
  k_with_none
  k_with "iop" => (first | exact Iop.add | exact Iop.sub | exact Iop.mod (by first | assumption | decide) | exact Iop.div (by decide) (by decide))
  k_with "idx" => decide
  k_with "item" => rfl
  k_with "nn" => (first | decide | assumption)
  k_with "sevi" => (first | exact Sev.int | exact Sev.loc rfl rfl (by decide) | exact Sev.glo rfl (by k_is) (by decide) | (apply Sev.bin; (k_extra "sevi"); (k_extra "sevi"); (k_extra "iop")) | (apply Sev.item; (k_extra "sevi"); (k_extra "sevi"); k_mem; (k_extra "nn"); (k_extra "idx"); (k_extra "item")) | (apply Sev.fld; (k_extra "sevi"); k_mem; k_mem; constructor; rfl))
  k_with "sargs" => (first | exact Sargs.nil | (apply Sargs.cons; (k_extra "sevi"); (k_extra "sargs")))
  k_with "eval Call" => ((with_reducible show wpAny _ _ (eval (Expr.Call (Expr.Name _ _) _ [] _) _) _ _ _); k_dflt (refine' callS ?qF ?qX ?qT ?qN ?qh0 ?qkp ?qh1 ?_ ?qx1 ?qx2; (case qF => k_asm); (case qX => k_asm); (case qT => k_asm); (case qN => k_asm); (case qx1 => exact rfl); (case qx2 => exact rfl); (case qh0 => exact Sev.glo rfl (by k_is) (by decide)); (case qkp => k_is); (case qh1 => k_extra "sargs"); k_whole); (try dsimp only))
  k_with "isTrue Compare" => ((with_reducible show wpAny _ _ (isTrue (Expr.Compare _ [_] [_] _) _ _) _ _ _); k_dflt (refine' testS ?qF ?qX ?qT ?qN ?qh1 ?qh2 ?qhc ?_ ?qx1 ?qx2; (case qF => k_asm); (case qX => k_asm); (case qT => k_asm); (case qN => k_asm); (case qx1 => exact rfl); (case qx2 => exact rfl); (case qh1 => k_extra "sevi"); (case qh2 => k_extra "sevi"); (case qhc => constructor); k_whole); (try dsimp only))
  k_with "evals" => (k_dflt (refine' evalS ?qF ?qX ?qT ?qN ?qh1 ?_ ?qx1 ?qx2; (case qF => k_asm); (case qX => k_asm); (case qT => k_asm); (case qN => k_asm); (case qx1 => exact rfl); (case qx2 => exact rfl); (case qh1 => k_extra "sevi"); k_whole); (try dsimp only))
  k_with "eval BinOp" => k_extra "evals"
  k_with "eval Subscript" => k_extra "evals"
  k_with "eval Attribute Name" => k_extra "evals"
  k_with "execs cons" => ((with_reducible show wpAny _ _ (execs (Stmt.Assign [Expr.Name _ _] _ _ :: _) _) _ _ _); k_dflt (refine' assignS ?qF ?qX ?qT ?qN ?qh1 ?qhx ?qhs ?_ ?qx1 ?qx2; (case qF => k_asm); (case qX => k_asm); (case qT => k_asm); (case qN => k_asm); (case qx1 => exact rfl); (case qx2 => exact rfl); (case qhx => exact rfl); (case qhs => exact rfl); (case qh1 => k_extra "sevi"); k_whole); intro h' F' N'; (try k_sweep); (try dsimp only))
  k_with "getMethod" => (k_dflt (refine' method_type ?qF ?qX ?qm (by decide +kernel) ?qe ?qh ?_; (case qF => k_asm); (case qX => k_asm); (case qm => kernel_rfl); (case qe => k_is); (case qh => exact rfl)))
  k_with "call builtin:Exception.__init__" => (k_dflt (refine' err_init_N ?qF ?qX ?qN he ?qC ?qr ?_; (case qF => k_asm); (case qX => k_asm); (case qN => k_asm); (case qC => k_is); (case qr => exact Nat.le_of_ble_eq_true rfl)); intro t' h' F' N'; (try k_sweep))
  k_with "setAttr ref" => (k_dflt (first
    | (refine' set_first ?qF ?qX ?qN he ?qc ?qm ?qd ?qf ?qs ?qe ?qz ?_; (case qF => k_asm); (case qX => k_asm); (case qN => k_asm); (case qc => k_is); (case qm => exact rfl); (case qd => exact rfl); (case qf => k_is); (case qs => k_is); (case qe => k_put); (case qz => exact Nat.le_of_ble_eq_true rfl); intro dx h' F' N' l1 l2; (try k_sweep))
    | (refine' set_next ?qF ?qX ?qN l1 l2 ?qc ?qm ?qd ?qf ?qs ?ql ?qe ?qz ?_; (case qF => k_asm); (case qX => k_asm); (case qN => k_asm); (case qc => k_is); (case qm => exact rfl); (case qd => exact rfl); (case qf => k_is); (case qs => k_is); (case ql => k_get); (case qe => k_put); (case qz => exact Nat.le_of_ble_eq_true rfl); intro h' F' N'; (try k_sweep))))
  k_steps
  exact ret _ _ _ _ _ _ (by k_asm) (by k_asm) l2 l1
end
/-- what stands while an exception is on its way: the frames' objects but for their slots, the others as they were -/
structure Kept (fs : List Addr) (hs h : Heap) : Prop where
  keep : ∀ b o, hs.get? b = some o → b ∉ fs → h.get? b = some o
  up : ∀ b o, hs.get? b = some o → ∃ sl, h.get? b = some { o with slots := sl }
/-- the exception with its dict and its newest place -/
def Trc (hs h : Heap) (e dx : Addr) (fl : Value) : Prop :=
  ∃ oe vs T oT ts, h.get? e = some oe ∧ oe.cls = .ref 52 ∧ oe.dict = some dx ∧ oe.data = .fields vs ∧ vs[1]? = some (.ref T) ∧ hs.get? T = none ∧ T ≠ e ∧ h.get? T = some oT ∧ oT.data = .fields ts ∧ ts[3]? = some fl
theorem dict_mapFields (o : Obj) (f : Array Value → Array Value) : (Obj.mapFields f o).dict = o.dict := by
  obtain ⟨_, _, d, _⟩ := o
  cases d <;> rfl
theorem Kept.of_sub {fs : List Addr} {hs h : Heap} (k : ∀ b o, hs.get? b = some o → h.get? b = some o) : Kept fs hs h := ⟨fun b o e _ => k b o e, fun b o e => ⟨o.slots, k b o e⟩⟩
section
variable {M : Model} {A : Around} {E : Value → Shared → Prop} {s : Shared} {hs base : Heap} {env : Env} {outer : List Env} {L e dx : Addr} {fl : Value} {Q : Unit → Shared → Prop}
theorem fly_entry {oe : Obj} {vs : Array Value} {head : Value} {hadNext : Bool} (hfr : A.frames = some (env :: outer)) (hl : s.heap.FunFrames base (env :: outer)) (hf : env.frame = some L) (K : Kept ((env :: outer).filterMap (·.frame)) hs s.heap)
    (he : s.heap.get? e = some oe) (hc : oe.cls = .ref 52) (hx : oe.dict = some dx) (hd : oe.data = .fields vs) (hsz : 1 < vs.size) (hen : hs.get? e = none)
    (h : ∀ h', h'.FunFrames base (env :: outer) → Kept ((env :: outer).filterMap (·.frame)) hs h' → Trc hs h' e dx (rawInt L) → Q () { s with heap := h' }) :
    wpAny M A (do let a ← frameOf env; let pl ← entryPlaceOf L hadNext; let b ← EntryCells.newEntry head a .none (rawInt L) .none pl; setField (.ref e) 1 b) Q E s := by
  have hene : e ∉ (env :: outer).filterMap (·.frame) := fun hm => by
    obtain ⟨_, o, ho, hnf⟩ := hl.mem hm
    rw [he] at ho; injection ho with ho; subst ho; exact hnf vs hd
  refine wpAny_bind (wpAny_frameOf_fun hfr hl hf fun h₁ hs₁ => ?_)
  refine wpAny_bind (wpAny_entryPlaceOf fun pl hpl => ?_)
  unfold EntryCells.newEntry newFields
  refine wpAny_bind (wpAny_newObj_type ?_ (hpl.sizeOk5 _ _ _ _ _))
  have he₁ : h₁.get? e = some oe := (hs₁.2.1 e hene).trans he
  generalize htb : ({ cls := .type "traceback", data := .fields ([head, .ref L, .none, rawInt L, .none] ++ (if pl.isEmpty then List.replicate 6 Value.none else pl)).toArray } : Obj) = tb
  have htd : tb.data = .fields ([head, .ref L, .none, rawInt L, .none] ++ (if pl.isEmpty then List.replicate 6 Value.none else pl)).toArray := by rw [← htb]
  have he₂ : (h₁.push tb).get? e = some oe := Heap.get?_push_of_some _ he₁
  have hTe : h₁.objs.size ≠ e := Nat.ne_of_gt (Heap.lt_size he₁)
  have hd₃ := Obj.data_mapFields hd (·.setIfInBounds 1 (Value.ref h₁.objs.size))
  have keep : ∀ b o, b ≠ e → h₁.get? b = some o → ((h₁.push tb).update e (Obj.mapFields (·.setIfInBounds 1 (Value.ref h₁.objs.size)))).get? b = some o := fun b o hbe hb => by
    rw [Heap.get?_update_other _ _ (Ne.symm hbe)]
    exact Heap.get?_push_of_some _ hb
  have ne : ∀ b o, hs.get? b = some o → b ≠ e := fun b o q z => by rw [z, hen] at q; cases q
  refine wpAny_setField he₂ hd hsz (h _ ?_ ⟨fun b o q hb => ?_, fun b o q => ?_⟩ ?_)
  · refine hl.of_keeps fun b o hb hnf => ?_
    obtain ⟨sl, hs⟩ := hs₁.2.2 b o hb
    exact ⟨_, keep b _ (fun q => by rw [q, he] at hb; injection hb with hb; subst hb; exact hnf vs hd) hs, rfl⟩
  · exact keep b o (ne b o q) ((hs₁.2.1 b hb).trans (K.keep b o q hb))
  · obtain ⟨sl, q1⟩ := K.up b o q
    obtain ⟨sl', q2⟩ := hs₁.2.2 b _ q1
    exact ⟨sl', keep b _ (ne b o q) q2⟩
  · refine ⟨_, _, h₁.objs.size, tb, _, Heap.get?_update_self _ he₂ (Obj.isFreed_of_fields hd₃), (Obj.cls_mapFields _ _).trans hc, (dict_mapFields _ _).trans hx, hd₃, by simp [hsz], ?_, hTe, (Heap.get?_update_other _ _ (Ne.symm hTe)).trans (Heap.get?_push_size _ (Obj.isFreed_of_fields htd)), htd, by first | (simp; done) | (rcases hpl with rfl | ⟨_, _, _, _, _, _, _, rfl⟩ <;> simp)⟩
    cases q : hs.get? h₁.objs.size with
    | none => rfl
    | some o =>
      obtain ⟨sl, q1⟩ := K.up _ o q
      obtain ⟨sl', q2⟩ := hs₁.2.2 _ _ q1
      exact absurd (Heap.lt_size q2) (Nat.lt_irrefl _)
theorem fly_lands {fs : List Addr} {l : List Env} (hl : s.heap.FunFrames base l) (K : Kept fs hs s.heap) (T : Trc hs s.heap e dx fl)
    (h : ∀ h', h'.FunFrames base l → Kept fs hs h' → Trc hs h' e dx .none → Q () { s with heap := h' }) : wpAny M A (setFlight (.ref e) none) Q E s := by
  obtain ⟨oe, vs, T, oT, ts, he, hc, hx, hd, h1, hnT, hTe, hT, hdT, h3⟩ := T
  have hsz3 : 3 < ts.size := (Array.getElem?_eq_some_iff.mp h3).1
  have other : ∀ b o, b ≠ T → s.heap.get? b = some o → (s.heap.update T (Obj.mapFields (·.setIfInBounds 3 ((none : Option Addr).elim Value.none fun f => rawInt f)))).get? b = some o := fun b o hb q => (Heap.get?_update_other _ _ (Ne.symm hb)).trans q
  have ne : ∀ b o, hs.get? b = some o → b ≠ T := fun b o q z => by rw [z, hnT] at q; cases q
  unfold setFlight
  refine wpAny_bind (wpAny_field he hd h1 ?_)
  rw [if_pos (show (Value.ref T != Value.none) = true from by simp)]
  refine wpAny_setField hT hdT hsz3 (h _ (hl.of_keeps fun b o hb hnf => ⟨o, other b o (fun q => by rw [q, hT] at hb; injection hb with hb; subst hb; exact hnf ts hdT) hb, rfl⟩) ⟨fun b o q hb => other b o (ne b o q) (K.keep b o q hb), fun b o q => ?_⟩ ?_)
  · obtain ⟨sl, q1⟩ := K.up b o q
    exact ⟨sl, other b _ (ne b o q) q1⟩
  · exact ⟨oe, vs, T, _, _, other e _ (Ne.symm hTe) he, hc, hx, hd, h1, hnT, hTe, Heap.get?_update_self _ hT (Obj.isFreed_of_fields (Obj.data_mapFields hdT _)), Obj.data_mapFields hdT _, by simp [hsz3]⟩
/-- out of the frame in which it was raised -/
theorem fly_leaves {t : Addr} (hfr : A.frames = some (env :: outer)) (hl : s.heap.FunFrames base (env :: outer)) (hf : env.frame = some L) (sub : ∀ b o, hs.get? b = some o → s.heap.get? b = some o)
    (he : s.heap.get? e = some (exo 52 (some dx) t)) (hen : hs.get? e = none)
    (h : ∀ h', h'.FunFrames base outer → Kept ((env :: outer).filterMap (·.frame)) hs h' → Trc hs h' e dx .none → Q () { s with heap := h' }) : wpAny M A (leaving env (.ref e)) Q E s := by
  unfold leaving noteFrame
  simp only [hf]
  refine wpAny_bind (wpAny_bind (wpAny_field he rfl (x := .none) rfl ?_))
  rw [if_neg (by decide)]
  refine fly_entry hfr hl hf (.of_sub sub) he rfl rfl rfl (Nat.le_of_ble_eq_true rfl) hen fun h' l' K' T' => ?_
  exact fly_lands l' K' T' fun h2 l2 K2 T2 => h h2 l2.2.2 K2 T2
/-- seen by the frame that takes it -/
theorem fly_seen (hfr : A.frames = some (env :: outer)) (hl : s.heap.FunFrames base (env :: outer)) (hf : env.frame = some L) (K : Kept ((env :: outer).filterMap (·.frame)) hs s.heap) (T : Trc hs s.heap e dx .none) (hen : hs.get? e = none)
    (h : ∀ h', h'.FunFrames base (env :: outer) → Kept ((env :: outer).filterMap (·.frame)) hs h' → Trc hs h' e dx (rawInt L) → Q () { s with heap := h' }) : wpAny M A (noteFrame (.ref e) env) Q E s := by
  obtain ⟨oe, vs, T, oT, ts, he, hc, hx, hd, h1, hnT, hTe, hT, hdT, h3⟩ := T
  unfold noteFrame
  simp only [hf]
  refine wpAny_bind (wpAny_field he hd h1 ?_)
  rw [if_pos (show (Value.ref T != Value.none) = true from by simp)]
  refine wpAny_bind (wpAny_field hT hdT h3 ?_)
  rw [if_neg (show ¬ ((Value.none == rawInt L) = true) from by simp [rawInt])]
  refine wpAny_bind (wpAny_setField hT hdT (Array.getElem?_eq_some_iff.mp h3).1 ?_)
  have other : ∀ b o, b ≠ T → s.heap.get? b = some o → (s.heap.update T (Obj.mapFields (·.setIfInBounds 3 Value.none))).get? b = some o := fun b o hb q => (Heap.get?_update_other _ _ (Ne.symm hb)).trans q
  have ne : ∀ b o, hs.get? b = some o → b ≠ T := fun b o q z => by rw [z, hnT] at q; cases q
  refine fly_entry (s := { s with heap := _ }) hfr (hl.of_keeps fun b o hb hnf => ⟨o, other b o (fun q => by rw [q, hT] at hb; injection hb with hb; subst hb; exact hnf ts hdT) hb, rfl⟩) hf ⟨fun b o q hb => other b o (ne b o q) (K.keep b o q hb), fun b o q => ?_⟩ (other e _ (Ne.symm hTe) he) hc hx hd (Array.getElem?_eq_some_iff.mp h1).1 hen h
  obtain ⟨sl, q1⟩ := K.up b o q
  exact ⟨sl, other b _ (ne b o q) q1⟩
end
section
variable {prog : Program} {w : World} {A : Around} {E : Value → Shared → Prop} {s : Shared} {hs base : Heap} {env : Env} {outer : List Env} {L e dx t : Addr} {Q : Flow → Shared → Prop}
abbrev clsE (k0 k1 k2 k3 k5 : Option Value) : Obj := excClassObj (Str.ofString "CodeError") (Str.ofString "CodeError") 52 51 [.ref 39] (bmE 39) true [] [] false none none k0 k1 k2 k3 k5 "Exception.__new__"
def ErrCls (h : Heap) : Prop := ∃ k0 k1 k2 k3 k5, h.get? 52 = some (clsE k0 k1 k2 k3 k5)
def OwnRaise (E : Value → Shared → Prop) (v : Value) (s₁ : Shared) : Prop := ∃ e dx t, v = .ref e ∧ ErrCls s₁.heap ∧ s₁.heap.get? e = some (exo 52 (some dx) t) ∧ E (.ref e) s₁
theorem Raise_own {x : Expr} {pos : Pos} (hh : A.handled = none)
    (h : wpAny (model prog w) A (eval x env) (OwnRaise E) E s) :
    wpAny (model prog w) A (exec (.Raise (some x) none pos) env) Q E s := by
  show wpAny (model prog w) A (do standAt pos; raiseStmt env (some (do let v ← eval x env; standAt pos; pure v)) none) Q E s
  refine wpAny_bind (wpAny_standAt ?_)
  unfold raiseStmt
  dsimp only
  refine wpAny_bind (wpAny_bind (wpAny_mono h (fun v s₁ h₁ => wpAny_bind (wpAny_standAt (wpAny_pure ?_))) fun _ _ x => x))
  obtain ⟨e, dx, t, rfl, ⟨k0, k1, k2, k3, k5, hC⟩, he, hE⟩ := h₁
  have hcB : (Value.ref 52 :: bmE 39).contains (.type "BaseException") = true := rfl
  obtain ⟨hp, g, d, tk, os⟩ := s₁
  repeat (first | with_reducible refine wpAny_loadPart_at he ?_ | with_reducible refine wpAny_loadPart_at hC ?_ | (with_reducible refine wpAny_isSubtype_exc hC ?_; rw [hcB]) | wp_step)
  exact wpAny_raiseNew_none hh hE
/-- taken by a clause of its own class -/
theorem fly_taken {b₀ : Stmt} {suite : List Stmt} {pos : Pos} {x : Expr} {rest : List ExceptHandler}
    (hfr : A.frames = some (env :: outer)) (hl : s.heap.FunFrames base (env :: outer)) (hf : env.frame = some L) (K : Kept ((env :: outer).filterMap (·.frame)) hs s.heap) (T : Trc hs s.heap e dx .none) (hen : hs.get? e = none)
    (ld : ∀ h₁ (Q' : Value → Shared → Prop) (E' : Value → Shared → Prop), Kept ((env :: outer).filterMap (·.frame)) hs h₁ → (ErrCls h₁ → Q' (.ref 52) { s with heap := h₁ }) → wpAny (model prog w) (A.mark (some (.ref e))) (eval x env) Q' E' { s with heap := h₁ })
    (k : ∀ h', h'.FunFrames base (env :: outer) → Kept ((env :: outer).filterMap (·.frame)) hs h' → Trc hs h' e dx .none → wpAny (model prog w) (A.mark (some (.ref e))) (execs (b₀ :: suite) env) Q E { s with heap := h' })
    (hE : PassesOwnAt (model prog w) (A.mark (some (.ref e))) A env E := by passes_own) :
    wpAny (model prog w) A (noteFrame (.ref e) env) (fun _ s₂ => wpAny (model prog w) A (setFlight (.ref e) none) (fun _ s₃ =>
      wpAny (model prog w) A (handleBy (.ref e) env (.ExceptHandler (some x) none (b₀ :: suite) pos :: rest)) Q E s₃) E s₂) E s := by
  refine fly_seen hfr hl hf K T hen fun h1 l1 K1 T1 => fly_lands (s := { s with heap := h1 }) l1 K1 T1 fun h2 l2 K2 T2 => ?_
  refine wpAny_handleBy_cons (codeAny_handlers_test (ld h2 _ _ K2 fun hC => ?_)) (by intro q; cases q)
  obtain ⟨k0, k1, k2, k3, k5, hC⟩ := hC
  obtain ⟨oe, vs, T', oT, ts, he, hc, r⟩ := id T2
  exact wpAny_excMatches_sub_self hC he hc rfl (codeAny_handlers_suite (fly_lands (s := { s with heap := h2 }) l2 K2 T2 fun h3 l3 K3 T3 => wpAny_passesOwnAt hE (k h3 l3 K3 T3)))
end
theorem errCls {w : World} {h : Heap} (X : (hd.heap_39 w.params).In h) : ErrCls h := by
  obtain ⟨k0, k1, k2, k3, k5, hC⟩ : ∃ k0 k1 k2 k3 k5, (hd.heap_39 w.params).lookup 52 = some (clsE k0 k1 k2 k3 k5) := ⟨_, _, _, _, _, by k_is⟩
  exact ⟨k0, k1, k2, k3, k5, X _ _ hC⟩
section
variable {w : World} {p : Program} {lo : List Str} {mean : ExcName → Option Value} {mg mb : Str → Option Value} {dp un : Nat} {gd : Option (List Code)} {cn : Str} {cs : Scope} {a : Addr} {ccd : Value} {cl : List (Str × Addr)} {outer : List Env} {A₀ : Around} {base h₀ : Heap} {L : Addr} {m : Str → Option Value} {s : Shared} {Q E : Value → Shared → Prop} {news : List (Addr × Obj)}
  {what : Str} {tw : Tok} {at' : Value} {rest : List Value}
theorem mkerr (cx : Cx w p lo mean mg mb A₀ base outer h₀ L s.heap m cs) (N : News h₀ L s.heap news) (ha : rest = [.str what tw, at'] ∨ rest = [.str what tw] ∧ at' = .none) (hr : dp + 4 < recursionLimit)
  (ret : ∀ e t' dx u1 u2 h' tk', Fr h₀ L h' m → News h₀ L h' ((e, exo 52 (some dx) t') :: (dx, errD w u1 u2 (.str what tw) at') :: news) → e < dx → (∀ p ∈ news, p.1 ≠ e) → (∀ p ∈ news, p.1 < dx) → Q (.ref e) { s with heap := h', toks := tk' }) :
  wpAny (model PySem.Challenge.rw_rg0263_01.row.prog w) (ktrTop dp un gd cn cs L a ccd cl outer) (call (.ref 52) rest) Q E s := by
  obtain ⟨B, F, X, T, hk⟩ := cx
  have X' := X.keeps F.keep
  obtain ⟨k0, k1, k2, k3, k5, hC⟩ := errCls X'
  have hl : rest.length ≤ sizeLine := by rcases ha with rfl | ⟨rfl, _⟩ <;> exact Nat.le_of_ble_eq_true rfl
  refine err_call (g := s.gens) (d := s.drawn) (t := s.toks) (os := s.os) hC X' (fI := 29) (by k_is) (X' 29 _ (by k_is)) rfl hl fun h' e M => ?_
  obtain ⟨t, e1, e2, e3⟩ := M.there
  have F₁ : Fr h₀ L h' m := F.keeps M.keeps
  have e0 : h₀.get? e = none := fresh_of_stays F.keep M.new
  have Le : e ≠ L := fun q => by have := M.new; rw [q] at this; obtain ⟨o, _, _, q', _⟩ := F.ns; rw [this] at q'; cases q'
  have N₁ : News h₀ L h' ((e, exo 52 none t) :: news) := fun p hp => by
    rcases List.mem_cons.mp hp with rfl | hp
    · exact ⟨e1, Le, e0⟩
    · exact ⟨M.keeps _ _ (N p hp).1, (N p hp).2⟩
  have ne : ∀ p ∈ news, p.1 ≠ e := fun p hp q => by have := (N p hp).1; rw [q, M.new] at this; cases this
  refine einit (s := { s with heap := h' }) ⟨B, F₁, X, T, hk⟩ N₁ ne (ha.imp (congrArg (List.cons _)) (fun z => ⟨congrArg (List.cons _) z.1, z.2⟩)) ?_ ?_
  · exact hr
  · intro t' dx u1 u2 h2 tk' F2 N2 l1 l2
    exact ⟨rfl, ret e t' dx u1 u2 h2 tk' F2 N2 l1 ne l2⟩
end
/-- how an exception of the program's own reaches a caller's frame -/
def Comes (w : World) (base h₀ : Heap) (l : List Env) (L : Addr) (m : Str → Option Value) (news : List (Addr × Obj)) (v1 v2 : Value) (e : Addr) (h' : Heap) : Prop :=
  ∃ hs dx u1 u2, Fr h₀ L hs m ∧ News h₀ L hs ((dx, errD w u1 u2 v1 v2) :: news) ∧ hs.get? e = none ∧ h'.FunFrames base l ∧ Kept (l.filterMap (·.frame)) hs h' ∧ Trc hs h' e dx .none
theorem comes {M : Model} {A₀ : Around} {w : World} {base h₀ g : Heap} {envC : Env} {outer : List Env} {L L' a e dx t : Addr} {m m' : Str → Option Value} {name : Str} {scope : Scope} {cd : Value} {news : List (Addr × Obj)} {u1 u2 : Tok} {v1 v2 : Value} {s : Shared} {E : Value → Shared → Prop} {Q : Unit → Shared → Prop}
    (hk : scope.kind = .function) (B : Below A₀ base (envC :: outer) g) (FG : Fr h₀ L g m) (F : Fr g L' s.heap m') (N : News g L' s.heap ((e, exo 52 (some dx) t) :: (dx, errD w u1 u2 v1 v2) :: news)) (hlt : e < dx) (he : ∀ p ∈ news, p.1 ≠ e)
    (hn : ∀ p ∈ news, p.1 ≠ L ∧ h₀.get? p.1 = none)
    (h : ∀ h', Comes w base h₀ (envC :: outer) L m news v1 v2 e h' → Q () { s with heap := h' }) :
    wpAny M (A₀.deeper (envOf name scope L' a cd)) (leaving (envOf name scope L' a cd) (.ref e)) Q E s := by
  have K' := B.push (name := name) (a := a) (cd := cd) F hk
  have Ne := N _ (.head _)
  have up : ∀ b o, s.heap.get? b = some o → b ≠ e → b ≠ L' → (hideAll s.heap [e, L']).get? b = some o := fun b o q h1 h2 => hideAll_get _ q fun hm => (List.mem_cons.mp hm).elim h1 fun hm => h2 (List.mem_singleton.mp hm)
  have gL : ∃ o, g.get? L = some o := by obtain ⟨o, _, _, q, _⟩ := FG.ns; exact ⟨o, q⟩
  have ne : ∀ b o, g.get? b = some o → b ≠ e ∧ b ≠ L' := fun b o q => ⟨fun z => (by rw [z, Ne.2.2] at q; cases q), fun z => Nat.lt_irrefl _ (Nat.lt_of_lt_of_le (z ▸ Heap.lt_size q) F.above)⟩
  have ug : ∀ b o, g.get? b = some o → (hideAll s.heap [e, L']).get? b = some o := fun b o q => up b o (F.keep b o q) (ne b o q).1 (ne b o q).2
  refine fly_leaves K'.stack K'.frames rfl (hs := hideAll s.heap [e, L']) (fun b o q => of_hideAll _ q) Ne.1 (hideAll_none _ (.head _)) fun h' l1 K1 T1 => h h' ⟨_, dx, u1, u2, ⟨FG.ns.at' fun o q => ug _ _ q, fun b o q => ug b o (FG.keep b o q), FG.above⟩, fun p hp => ?_, hideAll_none _ (.head _), l1, ⟨fun b o q hb => K1.keep b o q fun hm => ?_, K1.up⟩, T1⟩
  · rcases List.mem_cons.mp hp with rfl | hp
    · have Nd := N _ (.tail _ (.head _))
      refine ⟨up _ _ Nd.1 (Nat.ne_of_gt hlt) Nd.2.1, fun z => ?_, fresh_of_stays FG.keep Nd.2.2⟩
      obtain ⟨o, q⟩ := gL
      have := Nd.2.2
      rw [z, q] at this; cases this
    · have Np := N p (.tail _ (.tail _ hp))
      exact ⟨up _ _ Np.1 (he p hp) Np.2.1, hn p hp⟩
  · rcases kts_mem hm with z | z
    · rw [z, hideAll_none _ (.tail _ (.head _))] at q; cases q
    · exact hb z
theorem _root_.PyProof.Rows.News.at0 {h₀ h : Heap} {L e : Addr} {o : Obj} {l : List (Addr × Obj)} (N : News h₀ L h ((e, o) :: l)) : h.get? e = some o := (N _ (.head _)).1
section
variable {w : World} {p : Program} {lo : List Str} {mean : ExcName → Option Value} {mg mb : Str → Option Value} {dp un : Nat} {gd : Option (List Code)} {cn : Str} {cs : Scope} {a : Addr} {ccd : Value} {cl : List (Str × Addr)} {outer : List Env} {A₀ : Around} {base h₀ : Heap} {L : Addr} {m : Str → Option Value} {s : Shared} {Q E : Value → Shared → Prop} {news : List (Addr × Obj)}
  {ks : List Int} {tb ta : Tok} {b : Array UInt8} {at' : Int}
theorem unpackbad (cx : Cx w p lo mean mg mb A₀ base outer h₀ L s.heap m cs) (N : News h₀ L s.heap news) (hb : KBw.bInts b = ks) (hz : ks.length ≤ 64) (h0 : at' < 0 ∨ (ks.length : Int) < at' + 8) (hd : dp + 5 < recursionLimit)
  (ret : ∀ e tw h' tk', Comes w base h₀ (envX cn cs L a ccd cl :: outer) L m news (.str (Str.ofString "half of an order") tw) .none e h' → E (.ref e) { s with heap := h', toks := tk' }) :
  wpAny (model PySem.Challenge.rw_rg0263_01.row.prog w) (ktrTop dp un gd cn cs L a ccd cl outer) (call (.ref 144) [.bytes b tb, .int at' ta]) Q E s := by
  obtain ⟨B, F, X, T, hk⟩ := cx
  (refine wpAny_call ?_; k_dflt (refine' code_def ?qk1 ?qk2 ?qk3 ?qk4 ?qk5 ?qkA ?qkF ?qkK ?qk6 ?qk7 ?qk8 ?qk9 ?qkB ?_ ?qc2 ?qc3 ?qc4 ?qc5; (case qkA => exact rfl); (case qkF => exact rfl); (case qkK => first | assumption | exact rfl); (case qk1 => k_asm); (case qk2 => k_asm); (case qk3 => k_asm); (case qk4 => k_asm); (case qk5 => k_asm); (case qk6 => k_is); (case qk7 => k_is); (case qk8 => exact rm (a := 0) hd (by decide)); (case qk9 => exact binds_K (by k_in) rfl (by k_is) rfl rfl rfl); (case qc5 => decide); (case qkB => exact locs rfl); (case qc2 => exact rfl); (case qc3 => exact rfl); (case qc4 => exact rfl); k_whole; intro g' L' h' FG' F' N' B' X' T'; (try dsimp only); (try k_fold)))
  k_with_none
  k_with "iop" => (first | exact Iop.add | exact Iop.sub | exact Iop.mod (by first | assumption | decide) | exact Iop.div (by decide) (by decide))
  k_with "idx" => decide
  k_with "item" => rfl
  k_with "nn" => (first | decide | assumption)
  k_with "sevi" => (first | exact Sev.int | exact Sev.loc rfl rfl (by decide) | exact Sev.glo rfl (by k_is) (by decide) | (apply Sev.bin; (k_extra "sevi"); (k_extra "sevi"); (k_extra "iop")) | (apply Sev.item; (k_extra "sevi"); (k_extra "sevi"); k_mem; (k_extra "nn"); (k_extra "idx"); (k_extra "item")) | (apply Sev.fld; (k_extra "sevi"); k_mem; k_mem; constructor; rfl))
  k_with "sargs" => (first | exact Sargs.nil | (apply Sargs.cons; (k_extra "sevi"); (k_extra "sargs")))
  k_with "eval Call" => ((with_reducible show wpAny _ _ (eval (Expr.Call (Expr.Name _ _) _ [] _) _) _ _ _); k_dflt (refine' callS ?qF ?qX ?qT ?qN ?qh0 ?qkp ?qh1 ?_ ?qx1 ?qx2; (case qF => k_asm); (case qX => k_asm); (case qT => k_asm); (case qN => k_asm); (case qx1 => exact rfl); (case qx2 => exact rfl); (case qh0 => exact Sev.glo rfl (by k_is) (by decide)); (case qkp => k_is); (case qh1 => k_extra "sargs"); k_whole); (try dsimp only))
  k_with "isTrue Compare" => ((with_reducible show wpAny _ _ (isTrue (Expr.Compare _ [_] [_] _) _ _) _ _ _); k_dflt (refine' testS ?qF ?qX ?qT ?qN ?qh1 ?qh2 ?qhc ?_ ?qx1 ?qx2; (case qF => k_asm); (case qX => k_asm); (case qT => k_asm); (case qN => k_asm); (case qx1 => exact rfl); (case qx2 => exact rfl); (case qh1 => k_extra "sevi"); (case qh2 => k_extra "sevi"); (case qhc => constructor); k_whole); (try dsimp only))
  k_with "evals" => (k_dflt (refine' evalS ?qF ?qX ?qT ?qN ?qh1 ?_ ?qx1 ?qx2; (case qF => k_asm); (case qX => k_asm); (case qT => k_asm); (case qN => k_asm); (case qx1 => exact rfl); (case qx2 => exact rfl); (case qh1 => k_extra "sevi"); k_whole); (try dsimp only))
  k_with "eval BinOp" => k_extra "evals"
  k_with "eval Subscript" => k_extra "evals"
  k_with "eval Attribute Name" => k_extra "evals"
  k_with "execs cons" => ((with_reducible show wpAny _ _ (execs (Stmt.Assign [Expr.Name _ _] _ _ :: _) _) _ _ _); k_dflt (refine' assignS ?qF ?qX ?qT ?qN ?qh1 ?qhx ?qhs ?_ ?qx1 ?qx2; (case qF => k_asm); (case qX => k_asm); (case qT => k_asm); (case qN => k_asm); (case qx1 => exact rfl); (case qx2 => exact rfl); (case qhx => exact rfl); (case qhs => exact rfl); (case qh1 => k_extra "sevi"); k_whole); intro h' F' N'; (try k_sweep); (try dsimp only))
  k_with "exec Raise some none" => (k_dflt (refine' Raise_own ?qh ?_; (case qh => exact rfl); k_whole))
  k_with "call ref" => ((with_reducible show wpAny _ _ (call (Value.ref 52) _) _ _ _); k_dflt (refine' mkerr ⟨?qB, ?qF, ?qX, ?qT, ?qK⟩ ?qN ?qa ?qd ?_ ; (case qB => k_asm); (case qF => k_asm); (case qX => k_asm); (case qT => k_asm); (case qK => first | assumption | exact rfl); (case qN => k_asm); (case qa => exact .inr ⟨rfl, rfl⟩); (case qd => exact rm (a := 5) hd (by decide)); k_whole); intro e t' dx u1 u2 h' tk' F' N' l1 l2 l3; (try k_sweep); (try dsimp only); (try k_fold))
  k_steps
  all_goals exact ⟨e, dx, t', rfl, errCls (X'.keeps (Fr.keep (by k_asm))), (News.at0 (by k_asm)), comes rfl B' FG' (by k_asm) (by k_asm) l1 l2 (fun p hp => (N p hp).2) fun h' c => ret e _ h' _ c⟩
end
section
variable {prog : Program} {w : World} {A₀ A : Around} {s : Shared} {base h₀ : Heap} {outer : List Env} {env : Env} {L : Addr} {m : Str → Option Value} {news : List (Addr × Obj)} {K : Frag} {p : Program} {loose : List Str} {mean : ExcName → Option Value} {mg mb : Str → Option Value}
    {R : Result → Shared → Prop} {name qual : Str} {params : Arguments} {body : List Stmt} {scope : Scope} {dV kV doc pm cdv ct oc : Value} {an od : Option Addr} {osl : Array (Option Value)} {f : Addr} {args : Args} {binds : List (Str × Value)}
/-- into a def; its end is told as it is -/
theorem code_raw (B : Below A₀ base outer h₀) (F : Fr h₀ L s.heap m) (X₀ : K.In h₀) (N : News h₀ L s.heap news) (T : Top p loose mean mg mb h₀) (hA : A.frames = some (env :: outer)) (hf : env.frame = some L) (hke : env.scope.kind = .function)
    (ho : K.lookup f = some ⟨oc, od, .func (fnOf name qual params body scope dV kV doc pm an cdv ct), osl⟩) (hcd : codeIn K cdv qual = true) (hroom : A.depth < recursionLimit)
    (hbind : BindsTo s (fnOf name qual params body scope dV kV doc pm an cdv ct) args binds) (hloc : ∀ y ∈ binds, scope.names.lookup y.1 = some .local)
    (h : ∀ g L' h₁, Fr h₀ L g m → Fr g L' h₁ (fun y => binds.reverse.lookup y) → News g L' h₁ news → Below A base (env :: outer) g → K.In g → Top p loose mean mg mb g →
      wpAny (model prog w) (A.deeper (envOf qual scope L' f cdv)) (execs body (envOf qual scope L' f cdv))
        (fun fl s' => R (.ok (.ret (match fl with | .ret v => v | _ => .none))) s')
        (fun e s' => wpAny (model prog w) (A.deeper (envOf qual scope L' f cdv)) (leaving (envOf qual scope L' f cdv) e) (fun _ s'' => R (.error e) s'') (fun e' s'' => R (.error e') s'') s')
        { s with heap := h₁, toks := s.toks + binds.length })
    (hco : scope.isCoroutine = false) (hgen : scope.isGenerator = false) (hk : scope.kind = .function)
    (hcell : ∀ x ∈ scope.names, x.2 ≠ .cell) : codeAny (model prog w) A (.call (.ref f) args) R s := by
  obtain ⟨FG, BG, st, _⟩ := groundX (R := R) B F N hA hf hke
  refine codeAny_call_def (fd := fnOf name qual params body scope dV kV doc pm an cdv ct) (body := body) (binds := binds) hroom ((X₀.keeps F.keep) _ _ ho) rfl (T.nolimit.keeps F.keep) (codeRec_of (X₀.keeps F.keep) hcd) rfl hbind hcell hloc (fun h₁ hns hk₁ => ?_) hco hgen hk
  exact h _ s.heap.objs.size h₁ FG ⟨hns, fun b o e => hk₁ b o (of_hideAll _ e), Nat.le_of_eq (hideAll_size _ _)⟩
    (fun p hp => ⟨hk₁ _ _ (N p hp).1, Nat.ne_of_lt (Heap.lt_size (N p hp).1), hideAll_none _ (List.mem_map_of_mem hp)⟩) BG (X₀.keeps st) (T.keeps st)
end
/-- behind the clause that took it: the caller's frame, its ground and its ledger -/
theorem fly_back {hs h₀ g h : Heap} {L L' : Addr} {m m' : Str → Option Value} {news : List (Addr × Obj)} {d : Addr × Obj} (FG : Fr h₀ L g m) (F : Fr g L' hs m') (N : News g L' hs (d :: news)) (hn : ∀ p ∈ news, p.1 ≠ L ∧ h₀.get? p.1 = none) (K : Kept [L', L] hs h) :
    Fr h₀ L h m ∧ News h₀ L h news := by
  have gL' : g.get? L' = none := kts_self F
  have hL : h₀.get? L = none := kts_self FG
  refine ⟨⟨?_, fun b o q => K.keep b o (F.keep b o (FG.keep b o q)) fun hm => ?_, FG.above⟩, fun p hp => ⟨K.keep _ _ (N p (.tail _ hp)).1 fun hm => ?_, hn p hp⟩⟩
  · obtain ⟨o, es, ep, q, r⟩ := FG.ns
    obtain ⟨sl, q'⟩ := K.up _ _ (F.keep _ _ q)
    exact ⟨_, es, ep, q', r⟩
  · rcases List.mem_cons.mp hm with rfl | hm
    · rw [FG.keep b o q] at gL'; cases gL'
    · rw [List.mem_singleton.mp hm, hL] at q; cases q
  · rcases List.mem_cons.mp hm with z | hm
    · exact (N p (.tail _ hp)).2.1 z
    · exact (hn p hp).1 (List.mem_singleton.mp hm)
theorem kept_ground {hs h₀ g h : Heap} {L L' : Addr} {m m' : Str → Option Value} (FG : Fr h₀ L g m) (F : Fr g L' hs m') (K : Kept [L', L] hs h) : ∀ b o, h₀.get? b = some o → h.get? b = some o := fun b o q =>
  K.keep b o (F.keep b o (FG.keep b o q)) fun hm => by
    rcases List.mem_cons.mp hm with z | hm
    · have := kts_self F; rw [← z, FG.keep b o q] at this; cases this
    · rw [List.mem_singleton.mp hm, kts_self FG] at q; cases q
section
variable {w : World} {p : Program} {lo : List Str} {mean : ExcName → Option Value} {mg mb : Str → Option Value} {dp un : Nat} {gd : Option (List Code)} {cn : Str} {cs : Scope} {a : Addr} {ccd : Value} {cl : List (Str × Addr)} {outer : List Env} {A₀ : Around} {base h₀ : Heap} {L : Addr} {m : Str → Option Value} {s : Shared} {Q E : Value → Shared → Prop} {news : List (Addr × Obj)}
  {ks : List Int} {tb ta : Tok} {b : Array UInt8} {at' : Int}
theorem heardbad (cx : Cx w p lo mean mg mb A₀ base [] h₀ L s.heap m cs) (N : News h₀ L s.heap news) (hb : KBw.bInts b = ks) (hz : ks.length ≤ 64) (h0 : at' < 0 ∨ (ks.length : Int) < at' + 8) (hd : dp + 6 < recursionLimit)
  (ret : ∀ h' tk', Fr h₀ L h' m → News h₀ L h' news → Q .none { s with heap := h', toks := tk' }) :
  wpAny (model PySem.Challenge.rw_rg0263_01.row.prog w) (ktrTop dp un gd cn cs L a ccd cl []) (call (.ref 284) [.bytes b tb, .int at' ta]) Q E s := by
  obtain ⟨B, F, X, T, hk⟩ := cx
  (refine wpAny_call ?_; k_dflt (refine' code_raw ?qk1 ?qk2 ?qk3 ?qk4 ?qk5 ?qkA ?qkF ?qkK ?qk6 ?qk7 ?qk8 ?qk9 ?qkB ?_ ?qc2 ?qc3 ?qc4 ?qc5; (case qkA => exact rfl); (case qkF => exact rfl); (case qkK => first | assumption | exact rfl); (case qk1 => k_asm); (case qk2 => k_asm); (case qk3 => k_asm); (case qk4 => k_asm); (case qk5 => k_asm); (case qk6 => k_is); (case qk7 => k_is); (case qk8 => exact rm (a := 0) hd (by decide)); (case qk9 => exact BindsTo.of_eq rfl); (case qc5 => decide); (case qkB => exact locs rfl); (case qc2 => exact rfl); (case qc3 => exact rfl); (case qc4 => exact rfl); k_whole; intro g' L' h' FG' F' N' B' X' T'; (try dsimp only); (try k_fold)))
  k_with_none
  k_with "iop" => (first | exact Iop.add | exact Iop.sub | exact Iop.mod (by first | assumption | decide) | exact Iop.div (by decide) (by decide))
  k_with "idx" => decide
  k_with "item" => rfl
  k_with "nn" => (first | decide | assumption)
  k_with "sevi" => (first | exact Sev.int | exact Sev.loc rfl rfl (by decide) | exact Sev.glo rfl (by k_is) (by decide) | (apply Sev.bin; (k_extra "sevi"); (k_extra "sevi"); (k_extra "iop")) | (apply Sev.item; (k_extra "sevi"); (k_extra "sevi"); k_mem; (k_extra "nn"); (k_extra "idx"); (k_extra "item")) | (apply Sev.fld; (k_extra "sevi"); k_mem; k_mem; constructor; rfl))
  k_with "sargs" => (first | exact Sargs.nil | (apply Sargs.cons; (k_extra "sevi"); (k_extra "sargs")))
  k_with "eval Call" => ((with_reducible show wpAny _ _ (eval (Expr.Call (Expr.Name _ _) _ [] _) _) _ _ _); k_dflt (refine' callS ?qF ?qX ?qT ?qN ?qh0 ?qkp ?qh1 ?_ ?qx1 ?qx2; (case qF => k_asm); (case qX => k_asm); (case qT => k_asm); (case qN => k_asm); (case qx1 => exact rfl); (case qx2 => exact rfl); (case qh0 => exact Sev.glo rfl (by k_is) (by decide)); (case qkp => k_is); (case qh1 => k_extra "sargs"); k_whole); (try dsimp only))
  k_with "isTrue Compare" => ((with_reducible show wpAny _ _ (isTrue (Expr.Compare _ [_] [_] _) _ _) _ _ _); k_dflt (refine' testS ?qF ?qX ?qT ?qN ?qh1 ?qh2 ?qhc ?_ ?qx1 ?qx2; (case qF => k_asm); (case qX => k_asm); (case qT => k_asm); (case qN => k_asm); (case qx1 => exact rfl); (case qx2 => exact rfl); (case qh1 => k_extra "sevi"); (case qh2 => k_extra "sevi"); (case qhc => constructor); k_whole); (try dsimp only))
  k_with "evals" => (k_dflt (refine' evalS ?qF ?qX ?qT ?qN ?qh1 ?_ ?qx1 ?qx2; (case qF => k_asm); (case qX => k_asm); (case qT => k_asm); (case qN => k_asm); (case qx1 => exact rfl); (case qx2 => exact rfl); (case qh1 => k_extra "sevi"); k_whole); (try dsimp only))
  k_with "eval BinOp" => k_extra "evals"
  k_with "eval Subscript" => k_extra "evals"
  k_with "eval Attribute Name" => k_extra "evals"
  k_with "execs cons" => ((with_reducible show wpAny _ _ (execs (Stmt.Assign [Expr.Name _ _] _ _ :: _) _) _ _ _); k_dflt (refine' assignS ?qF ?qX ?qT ?qN ?qh1 ?qhx ?qhs ?_ ?qx1 ?qx2; (case qF => k_asm); (case qX => k_asm); (case qT => k_asm); (case qN => k_asm); (case qx1 => exact rfl); (case qx2 => exact rfl); (case qhx => exact rfl); (case qhs => exact rfl); (case qh1 => k_extra "sevi"); k_whole); intro h' F' N'; (try k_sweep); (try dsimp only))
  k_with "call ref" => ((with_reducible show wpAny _ _ (call (Value.ref 144) _) _ _ _); k_dflt (refine' unpackbad ⟨?qB, ?qF, ?qX, ?qT, ?qK⟩ ?qN ?qb ?qz ?q0 ?qd ?_ ; (case qB => k_asm); (case qF => k_asm); (case qX => k_asm); (case qT => k_asm); (case qK => first | assumption | exact rfl); (case qN => k_asm); (case qb => assumption); (case qz => assumption); (case q0 => assumption); (case qd => exact rm (a := 6) hd (by decide)); k_whole); intro e tw h' tk' C'; (try k_sweep); (try dsimp only); (try k_fold))
  k_steps
  obtain ⟨hs, dx, u1, u2, Fs, Ns, en, l1, K1, T1⟩ := C'
  refine fly_taken (hs := hs) (base := base) rfl l1 rfl K1 T1 en (fun h1 Q' E' K2 q => ?_) (fun h3 l3 K3 T3 => ?_)
  · have kk := kept_ground FG' Fs K2
    exact PySem.Calls.Name_function_global rfl rfl (PySem.Calls.loadGlobal_global ((T.keeps kk).g) (mg_of X T.g (by k_is)) (q (errCls (X.keeps kk)))) (by decide)
  · k_steps
    obtain ⟨F3, N3⟩ := fly_back FG' Fs Ns (fun p hp => (N p hp).2) K3
    exact ret _ _ F3 N3
end
theorem drop2 {h₀ h : Heap} {L : Addr} {p q r : Addr × Obj} {l : List (Addr × Obj)} (N : News h₀ L h (p :: q :: r :: l)) : News h₀ L h (p :: l) := fun z hz => N z (by
  rcases List.mem_cons.mp hz with h | hz
  · exact h ▸ .head _
  · exact .tail _ (.tail _ (.tail _ hz)))
section
variable {w : World} {p : Program} {lo : List Str} {mean : ExcName → Option Value} {mg mb : Str → Option Value} {dp un : Nat} {gd : Option (List Code)} {cn : Str} {cs : Scope} {a : Addr} {ccd : Value} {cl : List (Str × Addr)} {outer : List Env} {A₀ : Around} {base h₀ : Heap} {L : Addr} {m : Str → Option Value} {s : Shared} {Q E : Value → Shared → Prop} {news : List (Addr × Obj)}
  {ks : List Int} {tb ta : Tok} {b : Array UInt8} {at' : Int}
theorem heardok (cx : Cx w p lo mean mg mb A₀ base outer h₀ L s.heap m cs) (N : News h₀ L s.heap news) (hb : KBw.bInts b = ks) (hz : ks.length ≤ 64) (h0 : 0 ≤ at') (h1 : at' + 8 ≤ (ks.length : Int)) (hd : dp + 5 < recursionLimit)
  (ret : ∀ x t1 t2 t3 t4 h' tk', Fr h₀ L h' m → News h₀ L h' ((x, tupO [.int (fromL ((ks.drop at'.toNat).take 2)) t1, .int (ks.getD (at' + 2).toNat 0) t2, .int (ks.getD (at' + 3).toNat 0) t3, .int (fromL ((ks.drop (at'.toNat + 4)).take 4)) t4]) :: news) → Q (.ref x) { s with heap := h', toks := tk' }) :
  wpAny (model PySem.Challenge.rw_rg0263_01.row.prog w) (ktrTop dp un gd cn cs L a ccd cl outer) (call (.ref 284) [.bytes b tb, .int at' ta]) Q E s := by
  obtain ⟨B, F, X, T, hk⟩ := cx
  (refine wpAny_call ?_; k_dflt (refine' code_def ?qk1 ?qk2 ?qk3 ?qk4 ?qk5 ?qkA ?qkF ?qkK ?qk6 ?qk7 ?qk8 ?qk9 ?qkB ?_ ?qc2 ?qc3 ?qc4 ?qc5; (case qkA => exact rfl); (case qkF => exact rfl); (case qkK => first | assumption | exact rfl); (case qk1 => k_asm); (case qk2 => k_asm); (case qk3 => k_asm); (case qk4 => k_asm); (case qk5 => k_asm); (case qk6 => k_is); (case qk7 => k_is); (case qk8 => exact rm (a := 0) hd (by decide)); (case qk9 => exact BindsTo.of_eq rfl); (case qc5 => decide); (case qkB => exact locs rfl); (case qc2 => exact rfl); (case qc3 => exact rfl); (case qc4 => exact rfl); k_whole; intro g' L' h' FG' F' N' B' X' T'; (try dsimp only); (try k_fold)))
  k_with_none
  k_with "iop" => (first | exact Iop.add | exact Iop.sub | exact Iop.mod (by first | assumption | decide) | exact Iop.div (by decide) (by decide))
  k_with "idx" => decide
  k_with "item" => rfl
  k_with "nn" => (first | decide | assumption)
  k_with "sevi" => (first | exact Sev.int | exact Sev.loc rfl rfl (by decide) | exact Sev.glo rfl (by k_is) (by decide) | (apply Sev.bin; (k_extra "sevi"); (k_extra "sevi"); (k_extra "iop")) | (apply Sev.item; (k_extra "sevi"); (k_extra "sevi"); k_mem; (k_extra "nn"); (k_extra "idx"); (k_extra "item")) | (apply Sev.fld; (k_extra "sevi"); k_mem; k_mem; constructor; rfl))
  k_with "sargs" => (first | exact Sargs.nil | (apply Sargs.cons; (k_extra "sevi"); (k_extra "sargs")))
  k_with "eval Call" => ((with_reducible show wpAny _ _ (eval (Expr.Call (Expr.Name _ _) _ [] _) _) _ _ _); k_dflt (refine' callS ?qF ?qX ?qT ?qN ?qh0 ?qkp ?qh1 ?_ ?qx1 ?qx2; (case qF => k_asm); (case qX => k_asm); (case qT => k_asm); (case qN => k_asm); (case qx1 => exact rfl); (case qx2 => exact rfl); (case qh0 => exact Sev.glo rfl (by k_is) (by decide)); (case qkp => k_is); (case qh1 => k_extra "sargs"); k_whole); (try dsimp only))
  k_with "isTrue Compare" => ((with_reducible show wpAny _ _ (isTrue (Expr.Compare _ [_] [_] _) _ _) _ _ _); k_dflt (refine' testS ?qF ?qX ?qT ?qN ?qh1 ?qh2 ?qhc ?_ ?qx1 ?qx2; (case qF => k_asm); (case qX => k_asm); (case qT => k_asm); (case qN => k_asm); (case qx1 => exact rfl); (case qx2 => exact rfl); (case qh1 => k_extra "sevi"); (case qh2 => k_extra "sevi"); (case qhc => constructor); k_whole); (try dsimp only))
  k_with "evals" => (k_dflt (refine' evalS ?qF ?qX ?qT ?qN ?qh1 ?_ ?qx1 ?qx2; (case qF => k_asm); (case qX => k_asm); (case qT => k_asm); (case qN => k_asm); (case qx1 => exact rfl); (case qx2 => exact rfl); (case qh1 => k_extra "sevi"); k_whole); (try dsimp only))
  k_with "eval BinOp" => k_extra "evals"
  k_with "eval Subscript" => k_extra "evals"
  k_with "eval Attribute Name" => k_extra "evals"
  k_with "execs cons" => ((with_reducible show wpAny _ _ (execs (Stmt.Assign [Expr.Name _ _] _ _ :: _) _) _ _ _); k_dflt (refine' assignS ?qF ?qX ?qT ?qN ?qh1 ?qhx ?qhs ?_ ?qx1 ?qx2; (case qF => k_asm); (case qX => k_asm); (case qT => k_asm); (case qN => k_asm); (case qx1 => exact rfl); (case qx2 => exact rfl); (case qhx => exact rfl); (case qhs => exact rfl); (case qh1 => k_extra "sevi"); k_whole); intro h' F' N'; (try k_sweep); (try dsimp only))
  k_with "call ref" => ((with_reducible show wpAny _ _ (call (Value.ref 144) _) _ _ _); k_dflt (refine' unpackc ⟨?qB, ?qF, ?qX, ?qT, ?qK⟩ ?qN ?qb ?qz ?q0 ?q1 ?qd ?_ ; (case qB => k_asm); (case qF => k_asm); (case qX => k_asm); (case qT => k_asm); (case qK => first | assumption | exact rfl); (case qN => k_asm); (case qb => assumption); (case qz => assumption); (case q0 => assumption); (case q1 => assumption); (case qd => exact rm (a := 4) hd (by decide)); k_whole); intro x dx t1 t2 t3 t4 v1 v2 v3 v4 h' tk' F' N' l1 l2; (try k_sweep); (try dsimp only); (try k_fold))
  k_with "call ref" => ((with_reducible show wpAny _ _ (call (Value.ref 87) _) _ _ _); k_dflt (refine' told ⟨?qB, ?qF, ?qX, ?qT, ?qK⟩ ?qN ?q1 ?q2 ?qd ?_ ; (case qB => k_asm); (case qF => k_asm); (case qX => k_asm); (case qT => k_asm); (case qK => first | assumption | exact rfl); (case qN => k_asm); (case q1 => exact .head _); (case q2 => exact .tail _ (.head _)); (case qd => exact rm (a := 2) hd (by decide)); k_whole); intro tt h' tk' F' N' l3; (try k_sweep); (try dsimp only); (try k_fold))
  k_steps
  exact ret _ _ _ _ _ _ _ (by k_asm) (drop2 (by k_asm))
theorem readbad (cx : Cx w p lo mean mg mb A₀ base outer h₀ L s.heap m cs) (N : News h₀ L s.heap news) (hb : KBw.bInts b = ks) (hz : ks.length ≤ 64) (h0 : at' < 0 ∨ (ks.length : Int) < at' + 8) (hd : dp + 3 < recursionLimit)
  (ret : ∀ h' tk', Fr h₀ L h' m → News h₀ L h' news → Q .none { s with heap := h', toks := tk' }) :
  wpAny (model PySem.Challenge.rw_rg0263_01.row.prog w) (ktrTop dp un gd cn cs L a ccd cl outer) (call (.ref 277) [.bytes b tb, .int at' ta]) Q E s := by
  obtain ⟨B, F, X, T, hk⟩ := cx
  (refine wpAny_call ?_; k_dflt (refine' code_defC ?qk1 ?qk2 ?qk3 ?qk4 ?qk5 ?qkA ?qkF ?qkK ?qk6 ?qk7 ?qk8 ?qk9 ?qkB ?qkD ?_ ?qc2 ?qc3 ?qc4; (case qkA => exact rfl); (case qkF => exact rfl); (case qkK => first | assumption | exact rfl); (case qk1 => k_asm); (case qk2 => k_asm); (case qk3 => k_asm); (case qk4 => k_asm); (case qk5 => k_asm); (case qk6 => k_is); (case qk7 => k_is); (case qk8 => exact rm (a := 0) hd (by decide)); (case qk9 => exact BindsTo.of_eq rfl); (case qkB => exact rfl); (case qkD => decide +kernel); (case qc2 => exact rfl); (case qc3 => exact rfl); (case qc4 => exact rfl); k_whole; intro g' L' h' tk' cells' FG' F' N' Y' B' X' T' l1; k_cells Y'; (try simp only [List.cons_append, List.nil_append] at N'); (try dsimp only); (try k_fold)))
  k_with_none
  k_with "iop" => (first | exact Iop.add | exact Iop.sub | exact Iop.mod (by first | assumption | decide) | exact Iop.div (by decide) (by decide))
  k_with "idx" => decide
  k_with "item" => rfl
  k_with "nn" => (first | decide | assumption)
  k_with "sevi" => (first | exact Sev.int | exact Sev.loc rfl rfl (by decide) | exact Sev.glo rfl (by k_is) (by decide) | (apply Sev.bin; (k_extra "sevi"); (k_extra "sevi"); (k_extra "iop")) | (apply Sev.item; (k_extra "sevi"); (k_extra "sevi"); k_mem; (k_extra "nn"); (k_extra "idx"); (k_extra "item")) | (apply Sev.fld; (k_extra "sevi"); k_mem; k_mem; constructor; rfl))
  k_with "sargs" => (first | exact Sargs.nil | (apply Sargs.cons; (k_extra "sevi"); (k_extra "sargs")))
  k_with "eval Call" => ((with_reducible show wpAny _ _ (eval (Expr.Call (Expr.Name _ _) _ [] _) _) _ _ _); k_dflt (refine' callS ?qF ?qX ?qT ?qN ?qh0 ?qkp ?qh1 ?_ ?qx1 ?qx2; (case qF => k_asm); (case qX => k_asm); (case qT => k_asm); (case qN => k_asm); (case qx1 => exact rfl); (case qx2 => exact rfl); (case qh0 => exact Sev.glo rfl (by k_is) (by decide)); (case qkp => k_is); (case qh1 => k_extra "sargs"); k_whole); (try dsimp only))
  k_with "isTrue Compare" => ((with_reducible show wpAny _ _ (isTrue (Expr.Compare _ [_] [_] _) _ _) _ _ _); k_dflt (refine' testS ?qF ?qX ?qT ?qN ?qh1 ?qh2 ?qhc ?_ ?qx1 ?qx2; (case qF => k_asm); (case qX => k_asm); (case qT => k_asm); (case qN => k_asm); (case qx1 => exact rfl); (case qx2 => exact rfl); (case qh1 => k_extra "sevi"); (case qh2 => k_extra "sevi"); (case qhc => constructor); k_whole); (try dsimp only))
  k_with "evals" => (k_dflt (refine' evalS ?qF ?qX ?qT ?qN ?qh1 ?_ ?qx1 ?qx2; (case qF => k_asm); (case qX => k_asm); (case qT => k_asm); (case qN => k_asm); (case qx1 => exact rfl); (case qx2 => exact rfl); (case qh1 => k_extra "sevi"); k_whole); (try dsimp only))
  k_with "eval BinOp" => k_extra "evals"
  k_with "eval Subscript" => k_extra "evals"
  k_with "eval Attribute Name" => k_extra "evals"
  k_with "execs cons" => ((with_reducible show wpAny _ _ (execs (Stmt.Assign [Expr.Name _ _] _ _ :: _) _) _ _ _); k_dflt (refine' assignS ?qF ?qX ?qT ?qN ?qh1 ?qhx ?qhs ?_ ?qx1 ?qx2; (case qF => k_asm); (case qX => k_asm); (case qT => k_asm); (case qN => k_asm); (case qx1 => exact rfl); (case qx2 => exact rfl); (case qhx => exact rfl); (case qhs => exact rfl); (case qh1 => k_extra "sevi"); k_whole); intro h' F' N'; (try k_sweep); (try dsimp only))
  k_steps
  all_goals exact ret _ _ (by k_asm) (newsTail (by k_asm))
end
theorem ne_of_all {l : List (Addr × Obj)} {d : Addr} (h : ∀ p ∈ l, p.1 < d) : ∀ p ∈ l, p.1 ≠ d := fun p hp => Nat.ne_of_lt (h p hp)
theorem len63 {vs : List Value} {ks : List Int} {i q : Nat} (hv : vs.length = i) (hi : i ≤ q) (hq : ks.length / 8 = q) (hz : ks.length ≤ 64) : ((vs.toArray.size : Nat) : Int) < 2 ^ 63 := by
  rw [List.size_toArray]; omega
theorem eight0 {i : Nat} : 0 ≤ (0 : Int) + (i : Int) * 8 := by omega
theorem eight1 {i l : Nat} (h : ¬ (l : Int) - (0 + (i : Int) * 8) < 8) : (0 : Int) + (i : Int) * 8 + 8 ≤ (l : Int) := by omega
theorem full8 {vs : List Value} {ks : List Int} {n q : Nat} (hv : vs.length = n) (hi : n ≤ q) (hq : ks.length / 8 = q) (hn : (ks.length + 7) / 8 = n) : ks.length % 8 = 0 ∧ n = q := by omega
theorem cut8q {vs : List Value} {ks : List Int} {i n q : Nat} (hv : vs.length = i) (hi : i < n) (hiq : i ≤ q) (hq : ks.length / 8 = q) (hn : (ks.length + 7) / 8 = n) (h : (ks.length : Int) - (0 + (i : Int) * 8) < 8) : vs.toArray.size = q ∧ ks.length % 8 ≠ 0 := by
  rw [List.size_toArray]; omega
theorem lt8q {ks : List Int} {i n q : Nat} (hi : i < n) (hq : ks.length / 8 = q) (hn : (ks.length + 7) / 8 = n) (h : ¬ (ks.length : Int) - (0 + (i : Int) * 8) < 8) : i + 1 ≤ q := by omega
theorem at8 {i : Nat} : ((0 : Int) + (i : Int) * 8).toNat = 8 * i := by omega
theorem at82 {i : Nat} : ((0 : Int) + (i : Int) * 8 + 2).toNat = 8 * i + 2 := by omega
theorem at83 {i : Nat} : ((0 : Int) + (i : Int) * 8 + 3).toNat = 8 * i + 3 := by omega
section
variable {h₀ h : Heap} {L I D x dx : Addr} {p q r d : Addr × Obj} {l k : List (Addr × Obj)}
theorem pickNews (N : News h₀ L h (p :: q :: r :: d :: l)) (hs : ∀ z ∈ k, z ∈ l) : News h₀ L h (p :: q :: k) := fun z hz => N z (by
  rcases List.mem_cons.mp hz with h | hz
  · exact h ▸ .head _
  · rcases List.mem_cons.mp hz with h | hz
    · exact h ▸ .tail _ (.head _)
    · exact .tail _ (.tail _ (.tail _ (.tail _ (hs z hz)))))
theorem swapNews (N : News h₀ L h (p :: q :: r :: d :: l)) : News h₀ L h (r :: d :: p :: q :: l) := fun z hz => N z (by
  rcases List.mem_cons.mp hz with h | hz
  · exact h ▸ .tail _ (.tail _ (.head _))
  · rcases List.mem_cons.mp hz with h | hz
    · exact h ▸ .tail _ (.tail _ (.tail _ (.head _)))
    · rcases List.mem_cons.mp hz with h | hz
      · exact h ▸ .head _
      · rcases List.mem_cons.mp hz with h | hz
        · exact h ▸ .tail _ (.head _)
        · exact .tail _ (.tail _ (.tail _ (.tail _ hz))))
theorem off2 (hq : q.1 ≠ I) (hr : r.1 ≠ I) (hl : ∀ z ∈ l, z.1 ≠ I) : ∀ z ∈ q :: r :: l, z.1 ≠ I := List.forall_mem_cons.mpr ⟨hq, List.forall_mem_cons.mpr ⟨hr, hl⟩⟩
theorem off4 (hp : p.1 ≠ I) (hr : r.1 ≠ I) (hq : q.1 ≠ I) (hl : ∀ z ∈ l, z.1 ≠ I) : ∀ z ∈ p :: q :: r :: l, z.1 ≠ I := List.forall_mem_cons.mpr ⟨hp, off2 hq hr hl⟩
end
theorem small8 {ks : List Int} (h : ks.length ≤ 64) : Builtin.Range.small 0 (ks.length : Int) 8 = true := by
  have : ∀ n : Nat, n ≤ 64 → Builtin.Range.small 0 (n : Int) 8 = true := by decide +kernel
  exact this _ h
theorem size8 {ks : List Int} {n : Nat} (hn : (ks.length + 7) / 8 = n) : Builtin.Range.rangeSize 0 (ks.length : Int) 8 = ((n : Nat) : Int) := by
  unfold Builtin.Range.rangeSize
  rw [if_pos (by decide)]
  split <;> omega
section
variable {w : World} {p : Program} {lo : List Str} {mean : ExcName → Option Value} {mg mb : Str → Option Value} {dp un : Nat} {gd : Option (List Code)} {cn : Str} {cs : Scope} {a : Addr} {ccd : Value} {cl : List (Str × Addr)} {outer : List Env} {A₀ : Around} {base h₀ : Heap} {L : Addr} {m : Str → Option Value} {s : Shared} {Q E : Value → Shared → Prop} {news : List (Addr × Obj)}
  {ks : List Int} {tb ta : Tok} {b : Array UInt8} {q n : Nat}
theorem ufilter (cx : Cx w p lo mean mg mb A₀ base outer h₀ L s.heap m cs) (N : News h₀ L s.heap news) (hb : KBw.bInts b = ks) (hz : ks.length ≤ 64) (hq : ks.length / 8 = q) (hn : (ks.length + 7) / 8 = n) (hd : dp + 6 < recursionLimit)
  (ret : ks.length % 8 = 0 → ∀ D vs nn nw h' tk', Fr h₀ L h' m → News h₀ L h' ((D, listOf (List.toArray vs) nn) :: nw) → (∀ p ∈ news, p ∈ nw) → Ords w nw vs (flds ks q) → Q (.ref D) { s with heap := h', toks := tk' })
  (bad : ks.length % 8 ≠ 0 → ∀ e tw ta h' tk', Comes w base h₀ (envX cn cs L a ccd cl :: outer) L m news (.str (Str.ofString "half of an order") tw) (.int q ta) e h' → E (.ref e) { s with heap := h', toks := tk' }) :
  wpAny (model PySem.Challenge.rw_rg0263_01.row.prog w) (ktrTop dp un gd cn cs L a ccd cl outer) (call (.ref 156) [.bytes b tb]) Q E s := by
  obtain ⟨B, F, X, T, hk⟩ := cx
  (refine wpAny_call ?_; k_dflt (refine' code_def ?qk1 ?qk2 ?qk3 ?qk4 ?qk5 ?qkA ?qkF ?qkK ?qk6 ?qk7 ?qk8 ?qk9 ?qkB ?_ ?qc2 ?qc3 ?qc4 ?qc5; (case qkA => exact rfl); (case qkF => exact rfl); (case qkK => first | assumption | exact rfl); (case qk1 => k_asm); (case qk2 => k_asm); (case qk3 => k_asm); (case qk4 => k_asm); (case qk5 => k_asm); (case qk6 => k_is); (case qk7 => k_is); (case qk8 => exact rm (a := 0) hd (by decide)); (case qk9 => exact BindsTo.of_eq rfl); (case qc5 => decide); (case qkB => exact locs rfl); (case qc2 => exact rfl); (case qc3 => exact rfl); (case qc4 => exact rfl); k_whole; intro g' L' h' FG' F' N' B' X' T'; (try dsimp only); (try k_fold)))
  k_with_none
  k_with "iop" => (first | exact Iop.add | exact Iop.sub | exact Iop.mod (by first | assumption | decide) | exact Iop.div (by decide) (by decide))
  k_with "idx" => decide
  k_with "item" => rfl
  k_with "nn" => (first | decide | assumption)
  k_with "sevi" => (first | exact Sev.int | exact Sev.loc rfl rfl (by decide) | exact Sev.glo rfl (by k_is) (by decide) | (apply Sev.bin; (k_extra "sevi"); (k_extra "sevi"); (k_extra "iop")) | (apply Sev.item; (k_extra "sevi"); (k_extra "sevi"); k_mem; (k_extra "nn"); (k_extra "idx"); (k_extra "item")) | (apply Sev.fld; (k_extra "sevi"); k_mem; k_mem; constructor; rfl))
  k_with "sargs" => (first | exact Sargs.nil | (apply Sargs.cons; (k_extra "sevi"); (k_extra "sargs")))
  k_with "eval Call" => ((with_reducible show wpAny _ _ (eval (Expr.Call (Expr.Name _ _) _ [] _) _) _ _ _); k_dflt (refine' callS ?qF ?qX ?qT ?qN ?qh0 ?qkp ?qh1 ?_ ?qx1 ?qx2; (case qF => k_asm); (case qX => k_asm); (case qT => k_asm); (case qN => k_asm); (case qx1 => exact rfl); (case qx2 => exact rfl); (case qh0 => exact Sev.glo rfl (by k_is) (by decide)); (case qkp => k_is); (case qh1 => k_extra "sargs"); k_whole); (try dsimp only))
  k_with "isTrue Compare" => ((with_reducible show wpAny _ _ (isTrue (Expr.Compare _ [_] [_] _) _ _) _ _ _); k_dflt (refine' testS ?qF ?qX ?qT ?qN ?qh1 ?qh2 ?qhc ?_ ?qx1 ?qx2; (case qF => k_asm); (case qX => k_asm); (case qT => k_asm); (case qN => k_asm); (case qx1 => exact rfl); (case qx2 => exact rfl); (case qh1 => k_extra "sevi"); (case qh2 => k_extra "sevi"); (case qhc => constructor); k_whole); (try dsimp only))
  k_with "evals" => (k_dflt (refine' evalS ?qF ?qX ?qT ?qN ?qh1 ?_ ?qx1 ?qx2; (case qF => k_asm); (case qX => k_asm); (case qT => k_asm); (case qN => k_asm); (case qx1 => exact rfl); (case qx2 => exact rfl); (case qh1 => k_extra "sevi"); k_whole); (try dsimp only))
  k_with "eval BinOp" => k_extra "evals"
  k_with "eval Subscript" => k_extra "evals"
  k_with "eval Attribute Name" => k_extra "evals"
  k_with "execs cons" => ((with_reducible show wpAny _ _ (execs (Stmt.Assign [Expr.Name _ _] _ _ :: _) _) _ _ _); k_dflt (refine' assignS ?qF ?qX ?qT ?qN ?qh1 ?qhx ?qhs ?_ ?qx1 ?qx2; (case qF => k_asm); (case qX => k_asm); (case qT => k_asm); (case qN => k_asm); (case qx1 => exact rfl); (case qx2 => exact rfl); (case qhx => exact rfl); (case qhs => exact rfl); (case qh1 => k_extra "sevi"); k_whole); intro h' F' N'; (try k_sweep); (try dsimp only))
  k_with "pyIter ref" => (k_dflt (refine' iter_range1 (n := n) (y := Str.ofString "found") (fun i v nw => ∃ D vs nn nw', v = .ref D ∧ nw = (D, listOf (List.toArray vs) nn) :: nw' ∧ (∀ p ∈ nw', p.1 ≠ D) ∧ (∀ p ∈ news, p ∈ nw') ∧ vs.length = i ∧ i ≤ q ∧ Ords w nw' vs (flds ks i)) ?qh ?qF ?qN ?qr ?qs ?qn ?qy ?q0 ?qt ?qe; (case qh => first | assumption | exact rfl); (case qF => k_asm); (case qN => k_asm); (case qr => assumption); (case qs => exact small8 hz); (case qn => exact size8 hn); (case qy => exact rfl); (case q0 => exact ⟨_, [], _, _, rfl, rfl, ne_of_all (by assumption), (fun p hp => hp), rfl, Nat.zero_le _, All2.nil⟩); k_whole); (case' qt => (intro i t v news₁ I oI h tk hi hK F' N' o'; (obtain ⟨D, vs, nn, nw', rfl, rfl, hD, hsub, hv, hiq, hO⟩ := hK); (have ho := o' _ (.head _)))); (case' qe => (intro u v news₁ h tk hK F' N'; (obtain ⟨D, vs, nn, nw', rfl, rfl, hD, hsub, hv, hiq, hO⟩ := hK))))
  k_with "call builtin:len" => ((with_reducible show wpAny _ _ (call (Value.builtin "len") [Value.ref _]) _ _ _); k_dflt (refine' len_list (News.isList (by k_asm) (.tail _ (.head _))) ?qz ?_; (case qz => exact len63 hv hiq hq hz)))
  k_with "exec Raise some none" => (k_dflt (refine' Raise_own ?qh ?_; (case qh => exact rfl); k_whole))
  k_with "call ref" => ((with_reducible show wpAny _ _ (call (Value.ref 52) _) _ _ _); k_dflt (refine' mkerr ⟨?qB, ?qF, ?qX, ?qT, ?qK⟩ ?qN ?qa ?qd ?_ ; (case qB => k_asm); (case qF => k_asm); (case qX => k_asm); (case qT => k_asm); (case qK => first | assumption | exact rfl); (case qN => k_asm); (case qa => exact .inl rfl); (case qd => exact rm (a := 5) hd (by decide)); k_whole); intro e t' dx u1 u2 h' tk' F' N' l1 l2 l3; (try k_sweep); (try dsimp only); (try k_fold))
  k_with "call ref" => ((with_reducible show wpAny _ _ (call (Value.ref 144) _) _ _ _); k_dflt (refine' unpackc ⟨?qB, ?qF, ?qX, ?qT, ?qK⟩ ?qN ?qb ?qz ?q0 ?q1 ?qd ?_ ; (case qB => k_asm); (case qF => k_asm); (case qX => k_asm); (case qT => k_asm); (case qK => first | assumption | exact rfl); (case qN => k_asm); (case qb => assumption); (case qz => assumption); (case q0 => exact eight0); (case q1 => exact eight1 (by assumption)); (case qd => exact rm (a := 4) hd (by decide)); k_whole); intro x dx t1 t2 t3 t4 v1 v2 v3 v4 h' tk' F' N' l1 l2; (try k_sweep); (try dsimp only); (try k_fold))
  k_with "call builtin:list.append" => (k_dflt (refine' append_K ?qF ?qN (.tail (p := (x, _)) (Nat.ne_of_gt (Nat.lt_trans (l1 _ (.tail _ (.head _))) l2)) (.tail (p := (dx, _)) (Nat.ne_of_gt (l1 _ (.tail _ (.head _)))) (.tail (p := (I, _)) (Ne.symm ho) (.head hD)))) ?_ ?qz; (case qF => k_asm); (case qN => k_asm); (case qz => exact Nat.le_trans (Nat.le_of_eq hv) (Nat.le_trans hiq (by rw [← hq, sizeLine_eq]; omega))); k_whole); intro h' F' N'; (try k_sweep))
  k_steps
  · have hnq := full8 hv hiq hq hn
    exact ret hnq.1 D vs nn nw' _ _ (by k_asm) (by k_asm) hsub (hnq.2 ▸ hO)
  · have hq' := cut8q hv hi hiq hq hn (by assumption)
    rw [hq'.1] at N'
    exact ⟨e, dx, t', rfl, errCls (X'.keeps (Fr.keep (by k_asm))), News.at0 (by k_asm), comes rfl B' FG' (by k_asm) (pickNews N' hsub) l1 (fun p hp => l2 p (.tail _ (.tail _ (hsub p hp)))) (fun p hp => (N p hp).2) fun h' c => bad hq'.2 e _ _ h' _ c⟩
  · rw [at8, at82, at83, List.push_toArray] at N'
    refine' TurnP.intro ?qF (oI := oI) (swapNews N') (off4 ho (fun z => by have := l1 _ (.head _); exact Nat.ne_of_gt this z) (fun z => by have := l1 _ (.head _); exact Nat.ne_of_gt (Nat.lt_trans this l2) z) (fun p hp => o' p (.tail _ hp))) ?qJ
    case qF => k_asm
    case qJ => exact ⟨⟨_, rfl, D, vs ++ [.ref x], nn + 1, _, rfl, rfl, off2 (Nat.ne_of_gt (Nat.lt_trans (l1 _ (.tail _ (.head _))) l2)) (Nat.ne_of_gt (l1 _ (.tail _ (.head _)))) hD, (fun p hp => .tail _ (.tail _ (hsub p hp))), by rw [List.length_append, hv]; rfl, lt8q hi hq hn (by assumption), flds_succ ▸ All2.snoc (Ord.mk (.head _) (.tail _ (.head _))) (Ords.sub (fun p hp => .tail _ (.tail _ hp)) hO)⟩, fun z h1 h2 => by simp only [if_neg h1, if_neg h2]⟩
end
theorem size8f {P : Value → Fld → Prop} {vs : List Value} {ks : List Int} {q : Nat} (h : All2 P vs (flds ks q)) (hz : ks.length ≤ 64) (hq : ks.length / 8 = q) : vs.toArray.size ≤ sizeLine := by
  rw [List.size_toArray, h.1, sizeLine_eq]; unfold flds; rw [List.length_map, List.length_range]; omega
section
variable {w : World} {p : Program} {lo : List Str} {mean : ExcName → Option Value} {mg mb : Str → Option Value} {dp un : Nat} {gd : Option (List Code)} {cn : Str} {cs : Scope} {a : Addr} {ccd : Value} {cl : List (Str × Addr)} {outer : List Env} {A₀ : Around} {base h₀ : Heap} {L : Addr} {m : Str → Option Value} {s : Shared} {Q E : Value → Shared → Prop} {news : List (Addr × Obj)}
  {ks : List Int} {tb ta : Tok} {b : Array UInt8} {q n : Nat}
theorem allok (cx : Cx w p lo mean mg mb A₀ base outer h₀ L s.heap m cs) (N : News h₀ L s.heap news) (hb : KBw.bInts b = ks) (hz : ks.length ≤ 64) (hq : ks.length / 8 = q) (h8 : ks.length % 8 = 0) (hd : dp + 8 < recursionLimit)
  (ret : ∀ D vs nn nw h' tk', Fr h₀ L h' m → News h₀ L h' ((D, listOf (List.toArray vs) nn) :: nw) → (∀ p ∈ news, p ∈ nw) → Tups nw vs (flds ks q) → Q (.ref D) { s with heap := h', toks := tk' }) :
  wpAny (model PySem.Challenge.rw_rg0263_01.row.prog w) (ktrTop dp un gd cn cs L a ccd cl outer) (call (.ref 289) [.bytes b tb]) Q E s := by
  obtain ⟨B, F, X, T, hk⟩ := cx
  (refine wpAny_call ?_; k_dflt (refine' code_def ?qk1 ?qk2 ?qk3 ?qk4 ?qk5 ?qkA ?qkF ?qkK ?qk6 ?qk7 ?qk8 ?qk9 ?qkB ?_ ?qc2 ?qc3 ?qc4 ?qc5; (case qkA => exact rfl); (case qkF => exact rfl); (case qkK => first | assumption | exact rfl); (case qk1 => k_asm); (case qk2 => k_asm); (case qk3 => k_asm); (case qk4 => k_asm); (case qk5 => k_asm); (case qk6 => k_is); (case qk7 => k_is); (case qk8 => exact rm (a := 0) hd (by decide)); (case qk9 => exact BindsTo.of_eq rfl); (case qc5 => decide); (case qkB => exact locs rfl); (case qc2 => exact rfl); (case qc3 => exact rfl); (case qc4 => exact rfl); k_whole; intro g' L' h' FG' F' N' B' X' T'; (try dsimp only); (try k_fold)))
  k_with_none
  k_with "iop" => (first | exact Iop.add | exact Iop.sub | exact Iop.mod (by first | assumption | decide) | exact Iop.div (by decide) (by decide))
  k_with "idx" => decide
  k_with "item" => rfl
  k_with "nn" => (first | decide | assumption)
  k_with "sevi" => (first | exact Sev.int | exact Sev.loc rfl rfl (by decide) | exact Sev.glo rfl (by k_is) (by decide) | (apply Sev.bin; (k_extra "sevi"); (k_extra "sevi"); (k_extra "iop")) | (apply Sev.item; (k_extra "sevi"); (k_extra "sevi"); k_mem; (k_extra "nn"); (k_extra "idx"); (k_extra "item")) | (apply Sev.fld; (k_extra "sevi"); k_mem; k_mem; constructor; rfl))
  k_with "sargs" => (first | exact Sargs.nil | (apply Sargs.cons; (k_extra "sevi"); (k_extra "sargs")))
  k_with "eval Call" => ((with_reducible show wpAny _ _ (eval (Expr.Call (Expr.Name _ _) _ [] _) _) _ _ _); k_dflt (refine' callS ?qF ?qX ?qT ?qN ?qh0 ?qkp ?qh1 ?_ ?qx1 ?qx2; (case qF => k_asm); (case qX => k_asm); (case qT => k_asm); (case qN => k_asm); (case qx1 => exact rfl); (case qx2 => exact rfl); (case qh0 => exact Sev.glo rfl (by k_is) (by decide)); (case qkp => k_is); (case qh1 => k_extra "sargs"); k_whole); (try dsimp only))
  k_with "isTrue Compare" => ((with_reducible show wpAny _ _ (isTrue (Expr.Compare _ [_] [_] _) _ _) _ _ _); k_dflt (refine' testS ?qF ?qX ?qT ?qN ?qh1 ?qh2 ?qhc ?_ ?qx1 ?qx2; (case qF => k_asm); (case qX => k_asm); (case qT => k_asm); (case qN => k_asm); (case qx1 => exact rfl); (case qx2 => exact rfl); (case qh1 => k_extra "sevi"); (case qh2 => k_extra "sevi"); (case qhc => constructor); k_whole); (try dsimp only))
  k_with "evals" => (k_dflt (refine' evalS ?qF ?qX ?qT ?qN ?qh1 ?_ ?qx1 ?qx2; (case qF => k_asm); (case qX => k_asm); (case qT => k_asm); (case qN => k_asm); (case qx1 => exact rfl); (case qx2 => exact rfl); (case qh1 => k_extra "sevi"); k_whole); (try dsimp only))
  k_with "eval BinOp" => k_extra "evals"
  k_with "eval Subscript" => k_extra "evals"
  k_with "eval Attribute Name" => k_extra "evals"
  k_with "execs cons" => ((with_reducible show wpAny _ _ (execs (Stmt.Assign [Expr.Name _ _] _ _ :: _) _) _ _ _); k_dflt (refine' assignS ?qF ?qX ?qT ?qN ?qh1 ?qhx ?qhs ?_ ?qx1 ?qx2; (case qF => k_asm); (case qX => k_asm); (case qT => k_asm); (case qN => k_asm); (case qx1 => exact rfl); (case qx2 => exact rfl); (case qhx => exact rfl); (case qhs => exact rfl); (case qh1 => k_extra "sevi"); k_whole); intro h' F' N'; (try k_sweep); (try dsimp only))
  k_with "call ref" => ((with_reducible show wpAny _ _ (call (Value.ref 156) _) _ _ _); k_dflt (refine' ufilter ⟨?qB, ?qF, ?qX, ?qT, ?qK⟩ ?qN ?qb ?qz ?qq ?qn ?qd ?_ (fun z => absurd h8 z); (case qB => k_asm); (case qF => k_asm); (case qX => k_asm); (case qT => k_asm); (case qK => first | assumption | exact rfl); (case qN => k_asm); (case qb => assumption); (case qz => assumption); (case qq => assumption); (case qn => exact rfl); (case qd => exact rm (a := 7) hd (by decide)); k_whole); intro h8' D' vs' nn' nw' h' tk' F' N' hs hO; (try k_sweep); (try dsimp only); (try k_fold))
  k_with "eval ListComp" => (k_dflt (refine LCg.ListComp_U (F₀ := by k_asm) (by with_unfolding_all rfl) (by decide) (by rfl) (by decide) (by rfl) ?_))
  k_with "CompSrc" => (k_dflt (refine' LCg.CompSrc.ledger ?qh ?qF ?qN (.head _) ?qz ?_; (case qh => first | assumption | exact rfl); (case qF => k_asm); (case qN => k_asm); (case qz => exact size8f hO hz hq); intro g'; refine' comp_map (Pin := Ord w) (Pout := Tup) Ord.sub Tup.sub (.head _) (Ords.sub (fun p hp => .tail _ hp) hO) ?qe ?qt); (case' qe => intro ys nw hs2 hT); (case' qt => intro v f ys nw I oI C oC D m₂ h tk E' hP hs2 hf hC hx F' N' off' ne'; obtain ⟨x, dx, t, rfl, i1, i2⟩ := hP))
  k_with "getMethod ref" => (k_dflt (refine' method_inst ?k1 ?k2 (InstAt.of_news (by k_asm) (.tail _ (.tail _ (.tail _ i1))) (.tail _ (.tail _ (.tail _ i2)))) ?k4 ?k5 ?k6 ?k7 ?_; (case k1 => k_asm); (case k2 => k_asm); (case k4 => k_is); (case k5 => k_is); (case k6 => k_is); (case k7 => k_get); k_whole))
  k_with "call ref" => ((with_reducible show wpAny _ _ (call (Value.ref 87) _) _ _ _); k_dflt (refine' told ⟨?qB, ?qF, ?qX, ?qT, ?qK⟩ ?qN ?q1 ?q2 ?qd ?_ ; (case qB => k_asm); (case qF => k_asm); (case qX => k_asm); (case qT => k_asm); (case qK => first | assumption | exact rfl); (case qN => k_asm); (case q1 => exact .tail _ (.tail _ (.tail _ i1))); (case q2 => exact .tail _ (.tail _ (.tail _ i2))); (case qd => exact rm (a := 2) hd (by decide)); k_whole); intro tt h' tk' F' N' l3; (try k_sweep); (try dsimp only); (try k_fold))
  k_steps
  · exact comp_end1 (by k_asm) (by k_asm) l3 off' trivial ⟨⟨tt, (t <| · + 4), rfl, .head _⟩, fun p hp => .tail _ hp⟩
  · exact ret _ _ _ nw _ _ (by k_asm) (by k_asm) (fun p hp => hs2 _ (.tail _ (hs p hp))) hT
end
section
open PySem.Builtin PySem.Builtin.ObjectAttr
variable {prog : Program} {w : World} {A : Around} {E : Value → Shared → Prop} {s : Shared} {K : Frag} {C x b : Addr} {ox : Obj} {od : Option Obj} {name : Str} {v : Value} {cd : ClassData} {expr : Bool} {Q : Value → Shared → Prop}
/-- a field of an exception of the program's own -/
theorem get_exc (X : K.In s.heap) (I : InstAt s.heap x ox C od) (hc : clsIn K C = some cd) (hm : cd.mro = .ref C :: bmE b) (hga : findIn K (.ref C) "__getattribute__" = some (some (.builtin "BaseException.__getattribute__"))) (hk : findIn K (.ref C) "__getattr__" = some none)
    (hf : findObj K C od name = some (.value v)) (hh : handedIn v = true) (h : Q v { s with toks := s.toks + 1 }) : wpAny (model prog w) A (getAttr (.ref x) name expr) Q E s := by
  obtain ⟨hp, g, d, t, os⟩ := s
  have L0 := I.type (M := model prog w)
  have L1 := looks_findIn (M := model prog w) X hga
  have L2 := looks_findIn (M := model prog w) X hk
  have L3 := looks_find (M := model prog w) X I hf
  have FB := PySem.F.attrBase_Exception
  have ne : cd.mro.isEmpty = false := by rw [hm]; rfl
  have sub : Looks (model prog w) hp (isInstance (.ref x) (.type "BaseException")) true := I.type.andThen (looks_mroIn X (by unfold mroIn; rw [hc, Option.bind_some, if_neg (by rw [ne]; decide), hm]; rfl))
  unfold getAttr getAttrBy
  refine wpAny_bind (wpAny_mkText (wpAny_holding (wpAny_bind (L0.at (wpAny_bind (L1.at ?_))))))
  show wpAny _ _ (if (onTheHeap (.ref C) && Value.builtin "BaseException.__getattribute__" == .builtin "object.__getattribute__") = true then _ else getAttrByItsOwn _ _ _ _ _ _) _ _ _
  rw [show (Value.builtin "BaseException.__getattribute__" == Value.builtin "object.__getattribute__") = false by decide +kernel, Bool.and_false, if_neg (by decide)]
  unfold getAttrByItsOwn hookBefore
  refine wpAny_bind (L2.at (wpAny_bind (wpAny_attempt (wpAny_holding ?_))))
  show wpAny _ _ (if (expr && onTheHeap (.builtin "BaseException.__getattribute__")) = true then _ else boundAndCalled _ _ _) _ _ _
  rw [if_neg (by cases expr <;> decide)]
  unfold boundAndCalled
  rw [FB.ga.bind]
  refine wpAny_bind (wpAny_pure (wpAny_call (codeAny_call_builtin FB.ga.plain PySem.F.entry_bexc_ga (@check_slot (model prog w) _ _ _ "BaseException.__getattribute__" "BaseException" "__getattribute__" (.ref x) [.str name t] [] _ (by decide +kernel) (by decide +kernel) sub (PySem.F.args_bexc_ga _ _) ?_))))
  refine wpAny_bind (wpAny_pure (wpAny_bind (wpAny_pure (wpAny_bind (L0.at (wpAny_bind (L3.at (wpAny_pure ?_))))))))
  show wpAny _ _ (handedOut v) _ _ _
  rw [handedOut_of hh]
  exact wpAny_pure h
end
section
variable {prog : Program} {w : World} {A : Around} {E : Value → Shared → Prop} {s : Shared} {hs base : Heap} {env : Env} {outer : List Env} {L e dx : Addr} {Q : Flow → Shared → Prop}
/-- taken by a clause of its own class, with a name -/
theorem fly_taken_as {b₀ : Stmt} {suite : List Stmt} {pos : Pos} {x : Expr} {n : Str} {rest : List ExceptHandler}
    (hfr : A.frames = some (env :: outer)) (hl : s.heap.FunFrames base (env :: outer)) (hf : env.frame = some L) (K : Kept ((env :: outer).filterMap (·.frame)) hs s.heap) (T : Trc hs s.heap e dx .none) (hen : hs.get? e = none)
    (ld : ∀ h₁ (Q' : Value → Shared → Prop) (E' : Value → Shared → Prop), Kept ((env :: outer).filterMap (·.frame)) hs h₁ → (ErrCls h₁ → Q' (.ref 52) { s with heap := h₁ }) → wpAny (model prog w) (A.mark (some (.ref e))) (eval x env) Q' E' { s with heap := h₁ })
    (k : ∀ h', Kept ((env :: outer).filterMap (·.frame)) hs h' → Trc hs h' e dx .none → wpAny (model prog w) (A.mark (some (.ref e))) (storeName env n (.ref e)) (fun _ s₃ => wpAny (model prog w) (A.mark (some (.ref e))) (execs (b₀ :: suite) env)
        (fun f s₄ => wpAny (model prog w) A (do bindName env n .none; unbindBehindTheSuite env n pos) (fun _ s₅ => Q f s₅) E s₄)
        (AsSuiteRaised (model prog w) (A.mark (some (.ref e))) env n pos (notedBy (model prog w) (A.mark (some (.ref e))) env (cameBackBy (model prog w) A env E))) s₃) (notedBy (model prog w) (A.mark (some (.ref e))) env (cameBackBy (model prog w) A env E)) { s with heap := h' }) :
    wpAny (model prog w) A (noteFrame (.ref e) env) (fun _ s₂ => wpAny (model prog w) A (setFlight (.ref e) none) (fun _ s₃ =>
      wpAny (model prog w) A (handleBy (.ref e) env (.ExceptHandler (some x) (some n) (b₀ :: suite) pos :: rest)) Q E s₃) E s₂) E s := by
  refine fly_seen hfr hl hf K T hen fun h1 l1 K1 T1 => fly_lands (s := { s with heap := h1 }) l1 K1 T1 fun h2 l2 K2 T2 => ?_
  refine wpAny_handleBy_cons (codeAny_handlers_test (ld h2 _ _ K2 fun hC => ?_)) (by intro q; cases q)
  obtain ⟨k0, k1, k2, k3, k5, hC⟩ := hC
  obtain ⟨oe, vs, T', oT, ts, he, hc, r⟩ := id T2
  exact wpAny_excMatches_sub_self hC he hc rfl (codeAny_handlers_suite_as (fly_lands (s := { s with heap := h2 }) l2 K2 T2 fun h3 l3 K3 T3 => k h3 K3 T3))
end
/-- the frame that takes it, on its caller's ground -/
theorem fly_ground {hs h₀ g h : Heap} {L L' e dx : Addr} {m m' : Str → Option Value} {news : List (Addr × Obj)} {o : Obj} (FG : Fr h₀ L g m) (F : Fr g L' hs m') (N : News g L' hs ((dx, o) :: news)) (K : Kept [L', L] hs h) (T : Trc hs h e dx .none) (en : hs.get? e = none) :
    ∃ oe vs oL, oe.cls = .ref 52 ∧ oe.dict = some dx ∧ oe.data = .fields vs ∧ (∀ h' : Heap, h'.get? L = some oL → h'.Ns L m) ∧ Fr h₀ L' h m' ∧ News h₀ L' h ((e, oe) :: (dx, o) :: (L, oL) :: news) := by
  obtain ⟨oe, vs, _, _, _, he, hc, hx, hd, _⟩ := T
  have kk := kept_ground FG F K
  obtain ⟨oL, es, ep, qL, rL⟩ := FG.ns
  have gL : ∃ o, g.get? L = some o := ⟨_, qL⟩
  obtain ⟨sl, qL'⟩ := K.up _ _ (F.keep _ _ qL)
  have kp : ∀ p ∈ (dx, o) :: news, h.get? p.1 = some p.2 ∧ p.1 ≠ L' ∧ h₀.get? p.1 = none := fun p hp => by
    have Np := N p hp
    refine ⟨K.keep _ _ Np.1 fun hm => ?_, Np.2.1, fresh_of_stays FG.keep Np.2.2⟩
    rcases List.mem_cons.mp hm with z | hm
    · exact Np.2.1 z
    · obtain ⟨o, q⟩ := gL
      have := Np.2.2
      rw [List.mem_singleton.mp hm, q] at this; cases this
  refine ⟨oe, vs, { oL with slots := sl }, hc, hx, hd, fun h' q => ⟨_, es, ep, q, rL⟩, ⟨?_, kk, ?_⟩, fun p hp => ?_⟩
  · obtain ⟨o, es, ep, q, r⟩ := F.ns
    obtain ⟨sl, q'⟩ := K.up _ _ q
    exact ⟨_, es, ep, q', r⟩
  · obtain ⟨o, q⟩ := gL
    exact Nat.le_trans FG.above (Nat.le_trans (Nat.le_of_lt (Heap.lt_size q)) F.above)
  · rcases List.mem_cons.mp hp with rfl | hp
    · refine ⟨he, fun z => ?_, ?_⟩
      · obtain ⟨o, _, _, q, _⟩ := F.ns
        rw [← z, en] at q; cases q
      · exact fresh_of_stays (fun b o q => F.keep b o (FG.keep b o q)) en
    · rcases List.mem_cons.mp hp with rfl | hp
      · exact kp _ (.head _)
      · rcases List.mem_cons.mp hp with rfl | hp
        · exact ⟨qL', fun z => Nat.lt_irrefl _ (Nat.lt_of_lt_of_le (Heap.lt_size qL) (Nat.le_trans F.above (Nat.le_of_eq (Eq.symm z)))), kts_self FG⟩
        · exact kp p (.tail _ hp)
section
variable {w : World} {p : Program} {lo : List Str} {mean : ExcName → Option Value} {mg mb : Str → Option Value} {dp un : Nat} {gd : Option (List Code)} {cn : Str} {cs : Scope} {a : Addr} {ccd : Value} {cl : List (Str × Addr)} {outer : List Env} {A₀ : Around} {base h₀ : Heap} {L : Addr} {m : Str → Option Value} {s : Shared} {Q E : Value → Shared → Prop} {news : List (Addr × Obj)}
  {ks : List Int} {tb ta : Tok} {b : Array UInt8} {q n : Nat}
theorem instExc {h₀ h : Heap} {L e dx : Addr} {oe od : Obj} {vs : Array Value} {l : List (Addr × Obj)} (N : News h₀ L h ((e, oe) :: (dx, od) :: l)) (ec : oe.cls = .ref 52) (ex : oe.dict = some dx) (ed : oe.data = .fields vs) : InstAt h e oe 52 (some od) :=
  ⟨(N _ (.head _)).1, ec, by obtain ⟨_, _, _, _⟩ := oe; cases ed; rfl, by rw [ex]; exact (N _ (.tail _ (.head _))).1⟩
theorem allbad (cx : Cx w p lo mean mg mb A₀ base [] h₀ L s.heap m cs) (N : News h₀ L s.heap news) (hb : KBw.bInts b = ks) (hz : ks.length ≤ 64) (hq : ks.length / 8 = q) (h8 : ks.length % 8 ≠ 0) (hd : dp + 8 < recursionLimit)
  (ret : ∀ t h' tk', Fr h₀ L h' m → News h₀ L h' news → Q (.int q t) { s with heap := h', toks := tk' }) :
  wpAny (model PySem.Challenge.rw_rg0263_01.row.prog w) (ktrTop dp un gd cn cs L a ccd cl []) (call (.ref 289) [.bytes b tb]) Q E s := by
  obtain ⟨B, F, X, T, hk⟩ := cx
  (refine wpAny_call ?_; k_dflt (refine' code_raw ?qk1 ?qk2 ?qk3 ?qk4 ?qk5 ?qkA ?qkF ?qkK ?qk6 ?qk7 ?qk8 ?qk9 ?qkB ?_ ?qc2 ?qc3 ?qc4 ?qc5; (case qkA => exact rfl); (case qkF => exact rfl); (case qkK => first | assumption | exact rfl); (case qk1 => k_asm); (case qk2 => k_asm); (case qk3 => k_asm); (case qk4 => k_asm); (case qk5 => k_asm); (case qk6 => k_is); (case qk7 => k_is); (case qk8 => exact rm (a := 0) hd (by decide)); (case qk9 => exact BindsTo.of_eq rfl); (case qc5 => decide); (case qkB => exact locs rfl); (case qc2 => exact rfl); (case qc3 => exact rfl); (case qc4 => exact rfl); k_whole; intro g' L' h' FG' F' N' B' X' T'; (try dsimp only); (try k_fold)))
  k_with_none
  k_with "iop" => (first | exact Iop.add | exact Iop.sub | exact Iop.mod (by first | assumption | decide) | exact Iop.div (by decide) (by decide))
  k_with "idx" => decide
  k_with "item" => rfl
  k_with "nn" => (first | decide | assumption)
  k_with "sevi" => (first | exact Sev.int | exact Sev.loc rfl rfl (by decide) | exact Sev.glo rfl (by k_is) (by decide) | (apply Sev.bin; (k_extra "sevi"); (k_extra "sevi"); (k_extra "iop")) | (apply Sev.item; (k_extra "sevi"); (k_extra "sevi"); k_mem; (k_extra "nn"); (k_extra "idx"); (k_extra "item")) | (apply Sev.fld; (k_extra "sevi"); k_mem; k_mem; constructor; rfl))
  k_with "sargs" => (first | exact Sargs.nil | (apply Sargs.cons; (k_extra "sevi"); (k_extra "sargs")))
  k_with "eval Call" => ((with_reducible show wpAny _ _ (eval (Expr.Call (Expr.Name _ _) _ [] _) _) _ _ _); k_dflt (refine' callS ?qF ?qX ?qT ?qN ?qh0 ?qkp ?qh1 ?_ ?qx1 ?qx2; (case qF => k_asm); (case qX => k_asm); (case qT => k_asm); (case qN => k_asm); (case qx1 => exact rfl); (case qx2 => exact rfl); (case qh0 => exact Sev.glo rfl (by k_is) (by decide)); (case qkp => k_is); (case qh1 => k_extra "sargs"); k_whole); (try dsimp only))
  k_with "isTrue Compare" => ((with_reducible show wpAny _ _ (isTrue (Expr.Compare _ [_] [_] _) _ _) _ _ _); k_dflt (refine' testS ?qF ?qX ?qT ?qN ?qh1 ?qh2 ?qhc ?_ ?qx1 ?qx2; (case qF => k_asm); (case qX => k_asm); (case qT => k_asm); (case qN => k_asm); (case qx1 => exact rfl); (case qx2 => exact rfl); (case qh1 => k_extra "sevi"); (case qh2 => k_extra "sevi"); (case qhc => constructor); k_whole); (try dsimp only))
  k_with "evals" => (k_dflt (refine' evalS ?qF ?qX ?qT ?qN ?qh1 ?_ ?qx1 ?qx2; (case qF => k_asm); (case qX => k_asm); (case qT => k_asm); (case qN => k_asm); (case qx1 => exact rfl); (case qx2 => exact rfl); (case qh1 => k_extra "sevi"); k_whole); (try dsimp only))
  k_with "eval BinOp" => k_extra "evals"
  k_with "eval Subscript" => k_extra "evals"
  k_with "eval Attribute Name" => k_extra "evals"
  k_with "execs cons" => ((with_reducible show wpAny _ _ (execs (Stmt.Assign [Expr.Name _ _] _ _ :: _) _) _ _ _); k_dflt (refine' assignS ?qF ?qX ?qT ?qN ?qh1 ?qhx ?qhs ?_ ?qx1 ?qx2; (case qF => k_asm); (case qX => k_asm); (case qT => k_asm); (case qN => k_asm); (case qx1 => exact rfl); (case qx2 => exact rfl); (case qhx => exact rfl); (case qhs => exact rfl); (case qh1 => k_extra "sevi"); k_whole); intro h' F' N'; (try k_sweep); (try dsimp only))
  k_with "call ref" => ((with_reducible show wpAny _ _ (call (Value.ref 156) _) _ _ _); k_dflt (refine' ufilter ⟨?qB, ?qF, ?qX, ?qT, ?qK⟩ ?qN ?qb ?qz ?qq ?qn ?qd (fun z => absurd z h8) ?_ ; (case qB => k_asm); (case qF => k_asm); (case qX => k_asm); (case qT => k_asm); (case qK => first | assumption | exact rfl); (case qN => k_asm); (case qb => assumption); (case qz => assumption); (case qq => assumption); (case qn => exact rfl); (case qd => exact rm (a := 7) hd (by decide)); k_whole); intro _ e tw ta h' tk' C'; (try k_sweep); (try dsimp only); (try k_fold))
  k_with "eval ListComp" => (k_dflt (refine LCg.ListComp_U (F₀ := by k_asm) (by with_unfolding_all rfl) (by decide) (by rfl) (by decide) (by rfl) ?_))
  k_steps
  obtain ⟨hs, dx, u1, u2, Fs, Ns, en, l1, K1, T1⟩ := C'
  refine fly_taken_as (hs := hs) (base := base) rfl l1 rfl K1 T1 en (fun h1 Q' E' K2 q => ?_) (fun h3 K3 T3 => ?_)
  · have kk := kept_ground FG' Fs K2
    exact PySem.Calls.Name_function_global rfl rfl (PySem.Calls.loadGlobal_global ((T.keeps kk).g) (mg_of X T.g (by k_is)) (q (errCls (X.keeps kk)))) (by decide)
  · obtain ⟨oe, vs, oL, ec, ex, ed, nsL, F3, N3⟩ := fly_ground FG' Fs Ns K3 T3 en
    clear FG' F' N' X' T' B'
    k_with "getAttr ref" => (k_dflt (refine' get_exc ?qX (instExc (by k_asm) ec ex ed) ?qc ?qm ?qg ?qk (findObj_own ?q1 ?q2 ?q3 ?q4) ?qh ?_; (case qX => k_in); (case qc => k_is); (case qm => exact rfl); (case qg => k_is); (case qk => k_is); (case q1 => k_is); (case q2 => k_is); (case q3 => k_is); (case q4 => (rw [lookIn_dict]; k_get)); (case qh => exact rfl); k_whole))
    k_steps
    rename News _ _ _ (_ :: _ :: (L, _) :: _) => NN
    rename Fr h₀ L' _ _ => FF
    exact ret _ _ _ ⟨nsL _ (NN _ (.tail _ (.tail _ (.head _)))).1, FF.keep, F.above⟩ fun p hp => ⟨(NN p (.tail _ (.tail _ (.tail _ hp)))).1, (N p hp).2⟩
end
section
open PySem.Builtin
set_option maxRecDepth 100000
theorem slot_bytes_join : Slot "bytes" "join" "bytes.join" :=
  .of (owner := "bytes") (n := "join") (by rw [typeLookup_type, builtinLookup_eq_fast]; kernel_rfl) (by decide +kernel) (by decide +kernel) (by decide +kernel)
    (by first | exact .inl (by decide +kernel) | exact .inr (by decide +kernel)) (by rw [isSubtype_type]; kernel_rfl)
theorem type_bytes_join : typeOf (.builtin "bytes.join") = pure (.type "method_descriptor") := by show builtinType _ = _; rw [builtinType_eq_fast]; kernel_rfl
theorem entry_bytes_join : entryFor table "bytes.join" = some Builtin.«bytes.join» := entryFor_of_tree (by kernel_rfl)
theorem args_bytes_join (a b : Value) : argsOk "bytes.join" ⟨[a, b], []⟩ := by unfold argsOk; kernel_rfl
theorem take_eq {id : String} {b : Array UInt8} {t : Tok} : Bytes.takeBufferQuiet? id (.bytes b t) 0 = pure (some (b, none)) := by
  unfold Bytes.takeBufferQuiet? Bytes.takeBuffer?
  rw [KBy.special_eq KBy.look_buffer, KBy.own_buffer]
  show Sem.attempt (Bytes.buffer? id (.bytes b t) >>= fun r => pure (r.map (·, none))) >>= _ = _
  rw [KBy.buffer_eq]
  rfl
theorem method_join {M : Model} {A : Around} {E : Value → Shared → Prop} {s : Shared} {b : Array UInt8} {t : Tok} {pl : Sem Bool} {Q : Value × List Value → Shared → Prop} (h : Q (.builtin "bytes.join", [.bytes b t]) s) : wpAny M A (getMethod (.bytes b t) "join" pl) Q E s :=
  KBd.method_of (.bytes b t) (typeIs_bytes _ _ _) slot_bytes_join type_bytes_join KBd.noRef h
theorem join_let {M : Model} {A : Around} {E : Value → Shared → Prop} {s : Shared} {keep : List Value} {Q : Unit → Shared → Prop} (h : Q () s) : ∀ {tk : List (Value × Option Value)}, (∀ p ∈ tk, ∃ b t, p = (.bytes b t, none)) → wpAny M A (Bytes.joinLetGo tk keep) Q E s
  | [], _ => wpAny_pure h
  | p :: r, hp => by
    obtain ⟨b, t, rfl⟩ := hp p (.head _)
    unfold Bytes.joinLetGo
    refine wpAny_bind (wpAny_letGo ?_)
    exact join_let h fun q hq => hp q (.tail _ hq)
end
section
open PySem.Builtin PySem.Spec
set_option maxRecDepth 100000
theorem meets_join {l : Addr} {t0 : Tok} {items : List Value} {bs : List (Array UInt8)} (he : ∀ (i : Nat) (v : Value), items[i]? = some v → ∃ b t, v = .bytes b t ∧ bs[i]? = some b) (hlen : items.length = bs.length) (hne : 0 < items.length) (hz : Bytes.tooLong (bs.toArray.foldl (fun (n : Nat) (b : Array UInt8) => n + b.size) (0 * (bs.length - 1))) = false) (hs : (Bytes.joined #[] bs).size ≤ sizeLine) :
    Meets («bytes.join» ⟨[.bytes #[] t0, .ref l], []⟩) (fun _ R s => s.heap.IsList l items.toArray ∧ ∀ t' k, R (.ok (.ret (.bytes (Bytes.joined #[] bs) t'))) { s with toks := k }) := by
  refine .of_wp fun prog w A R s hS => ?_
  obtain ⟨hl, h⟩ := hS
  obtain ⟨o, ho, hc, n, hd⟩ := id hl
  show wpAny _ _ (Bytes.joinM .bytes ⟨[.bytes #[] t0, .ref l], []⟩) _ _ s
  unfold Bytes.joinM
  refine wpAny_bind (wpAny_pure ?_)
  refine wpAny_bind ?_
  show wpAny _ _ (Bytes.joinItems (.ref l)) _ _ s
  unfold Bytes.joinItems
  refine wpAny_bind (wpAny_typeOf (T := "list") ⟨o, ho, hc⟩ ?_)
  rw [if_pos (by decide)]
  refine wpAny_pure (wpAny_bind (wpAny_seqItems ho hd ?_))
  show wpAny _ _ (if (Bytes.Kind.bytes == Bytes.Kind.bytes) = true then _ else _) _ _ s
  rw [if_pos (by decide)]
  have it : ∀ {k : Nat}, k < items.length → ∃ b t, items.toArray.getD k Value.none = .bytes b t ∧ bs[k]? = some b ∧ items[k]? = some (.bytes b t) := fun {k} hk => by
    obtain ⟨b, t, e, e'⟩ := he k items[k] (List.getElem?_eq_getElem hk)
    exact ⟨b, t, by simp [Array.getD, hk, e], e', (List.getElem?_eq_getElem hk).trans (congrArg some e)⟩
  have nh : ∀ j, ((items.take j).map fun x => (x, (none : Option Value))).any (fun x => x.1.onHeap) = false := fun j => by
    rw [List.any_map, List.any_eq_false]
    intro x hx
    obtain ⟨k, hk⟩ := List.mem_iff_getElem?.mp (List.mem_of_mem_take hx)
    obtain ⟨b, t, rfl, _⟩ := he k x hk
    exact Bool.false_ne_true
  rcases hI : items with _ | ⟨x, _ | ⟨y, r⟩⟩
  · rw [hI] at hne; exact absurd hne (Nat.lt_irrefl _)
  · obtain ⟨b, t, rfl, eb⟩ := he 0 x (by rw [hI]; rfl)
    have hb : bs = [b] := by
      rw [hI] at hlen
      match bs, hlen, eb with
      | [c], _, e => exact congrArg (fun z => [z]) (Option.some.inj e)
    refine wpAny_bind (wpAny_typeOf (typeIs_bytes s b t) ?_)
    rw [if_pos (by decide)]
    refine wpAny_bind (wpAny_rule (wpAny_pure ⟨_, rfl, ?_⟩))
    have := h t s.toks
    rw [hb, show Bytes.joined #[] [b] = b from Array.empty_append] at this
    exact this
  · show wpAny _ _ (forIn [:(x :: y :: r).toArray.size] (#[], []) _ >>= _) _ _ s
    rw [← hI]
    refine wpAny_bind ?_
    rw [Std.Legacy.Range.forIn_eq_forIn_range']
    refine wpAny_forIn_list _ (fun is st s' => s' = s ∧ ∃ j, is = List.range' j (items.length - j) ∧ j ≤ items.length ∧ st = ((bs.take j).toArray, (items.take j).map fun x => (x, (none : Option Value)))) _ ?_ ?_ _ _ ⟨rfl, 0, by simp [Std.Legacy.Range.size], Nat.zero_le _, rfl⟩
    · rintro k rest st s' ⟨rfl, j, hr, hj, rfl⟩
      have hk : k = j ∧ j < items.length ∧ rest = List.range' (j + 1) (items.length - (j + 1)) := by
        cases q : items.length - j with
        | zero => rw [q] at hr; cases hr
        | succ z =>
          rw [q, List.range'_succ] at hr
          obtain ⟨a1, a2⟩ := List.cons.inj hr
          exact ⟨a1, by omega, by rw [a2]; congr 1; omega⟩
      obtain ⟨rfl, hlt, rfl⟩ := hk
      obtain ⟨b, t, e, eb, ei⟩ := it hlt
      refine wpAny_bind (wpAny_seqItems ho hd ?_)
      show wpAny _ _ (if (false || _) = true then _ else _) _ _ _
      rw [nh k, if_neg (by decide)]
      dsimp only
      rw [e, take_eq]
      refine wpAny_bind (wpAny_holding (wpAny_pure ?_))
      refine wpAny_bind (wpAny_seqItems ho hd ?_)
      show wpAny _ _ (if (items.toArray.size != items.toArray.size) = true then _ else _) _ _ _
      rw [if_neg (by simp)]
      refine wpAny_pure ⟨rfl, k + 1, rfl, hlt, ?_⟩
      rw [List.take_add_one, List.take_add_one, eb, ei, List.map_append]
      exact Prod.ext (List.push_toArray _ _) rfl
    · rintro st s' ⟨rfl, j, hr, hj, rfl⟩
      have hj' : j = items.length := by
        cases q : items.length - j with
        | zero => omega
        | succ z => rw [q, List.range'_succ] at hr; cases hr
      subst hj'
      rw [List.take_length, hlen, List.take_length]
      show wpAny _ _ (Bytes.payload (.bytes #[] t0) >>= _) _ _ _
      refine wpAny_bind (wpAny_of_eq (a := (#[] : Array UInt8)) rfl ?_)
      show wpAny _ _ (if Bytes.tooLong (Array.foldl (fun (n : Nat) (b : Array UInt8) => n + b.size) ((#[] : Array UInt8).size * (bs.toArray.size - 1)) bs.toArray) = true then _ else _) _ _ _
      rw [show (#[] : Array UInt8).size * (bs.toArray.size - 1) = 0 * (bs.length - 1) from rfl, hz, if_neg Bool.false_ne_true]
      refine wpAny_bind (wpAny_mkBytes ?_ ?_)
      · refine wpAny_bind (wpAny_holding (wpAny_point (wpAny_bind (join_let (wpAny_pure ⟨_, rfl, h _ _⟩) fun p hp => ?_))))
        obtain ⟨v, hv, rfl⟩ := List.mem_map.mp hp
        obtain ⟨k, hk⟩ := List.mem_iff_getElem?.mp hv
        obtain ⟨b, t, rfl, _⟩ := he k v hk
        exact ⟨b, t, rfl⟩
      · exact hs
theorem joined_list : ∀ (ls : List (List Int)), Bytes.joined #[] (ls.map byteArr) = byteArr ls.flatten := by
  have go : ∀ (ls : List (List Int)) (k : Nat) (acc : List Int), ((ls.map byteArr).zipIdx k).foldl (fun out (q : Array UInt8 × Nat) => (if q.2 > 0 then out ++ #[] else out) ++ q.1) (byteArr acc) = byteArr (acc ++ ls.flatten) := by
    intro ls
    induction ls with
    | nil => intro k acc; rw [List.flatten_nil, List.append_nil]; rfl
    | cons x r ih =>
      intro k acc
      rw [List.map_cons, List.zipIdx_cons, List.foldl_cons, List.flatten_cons, ← List.append_assoc, ← ih (k + 1) (acc ++ x)]
      congr 1
      have e : (if (byteArr x, k).2 > 0 then byteArr acc ++ #[] else byteArr acc) = byteArr acc := by split <;> simp
      rw [e]
      simp [byteArr]
  exact fun ls => go ls 0 []
/-- the octets of a list of texts of octets, one behind the other -/
theorem join_bytes {prog : Program} {w : World} {A : Around} {E : Value → Shared → Prop} {s : Shared} {l : Addr} {t0 : Tok} {items : List Value} {ls : List (List Int)} {Q : Value → Shared → Prop} (hl : s.heap.IsList l items.toArray) (he : ∀ (i : Nat) (v : Value), items[i]? = some v → ∃ b t, v = .bytes (byteArr b) t ∧ ls[i]? = some b) (hlen : items.length = ls.length) (hne : 0 < items.length) (hz : ls.flatten.length ≤ 1000)
    (h : ∀ t k, Q (.bytes (byteArr ls.flatten) t) { s with toks := k }) : wpAny (model prog w) A (call (.builtin "bytes.join") [.bytes #[] t0, .ref l]) Q E s := by
  have hs : (Bytes.joined #[] (ls.map byteArr)).size ≤ sizeLine := by rw [joined_list, byteArr_size, sizeLine_eq]; omega
  refine call_meets slot_bytes_join (typeIs_bytes _ _ _) entry_bytes_join (args_bytes_join _ _) (meets_join (bs := ls.map byteArr) (fun i v e => ?_) (by rw [List.length_map]; exact hlen) hne ?_ hs) ⟨hl, fun t' k => ?_⟩
  · obtain ⟨b, t, rfl, e'⟩ := he i v e
    exact ⟨_, t, rfl, by rw [List.getElem?_map, e']; rfl⟩
  · refine KBy.tooLong_not ?_
    have go : ∀ (ls : List (List Int)) (n : Nat), (ls.map byteArr).foldl (fun (n : Nat) (b : Array UInt8) => n + b.size) n = n + ls.flatten.length := by
      intro ls
      induction ls with
      | nil => intro n; rfl
      | cons x r ih => intro n; rw [List.map_cons, List.foldl_cons, ih, byteArr_size, List.flatten_cons, List.length_append, Nat.add_assoc]
    rw [List.foldl_toArray, go]
    omega
  · rw [joined_list]
    exact h t' k
end
def packF (f : Fld) : List Int := packL f.1 f.2.1 f.2.2.1 f.2.2.2
def RngF (f : Fld) : Prop := Rng f.1 f.2.1 f.2.2.1 f.2.2.2
def Oct (_led : List (Addr × Obj)) (v : Value) (f : Fld) : Prop := ∃ t, v = .bytes (byteArr (packF f)) t
theorem packs_len : ∀ (fs : List Fld), (fs.map packF).flatten.length = 8 * fs.length
  | [] => rfl
  | f :: r => by rw [List.map_cons, List.flatten_cons, List.length_append, packs_len r, List.length_cons]; show 8 + _ = _; omega
theorem Oct.sub {led led' : List (Addr × Obj)} {v : Value} {f : Fld} (_ : ∀ p ∈ led, p ∈ led') (h : Oct led v f) : Oct led' v f := h
theorem subNews {h₀ h : Heap} {L : Addr} {l k : List (Addr × Obj)} (N : News h₀ L h l) (hs : ∀ z ∈ k, z ∈ l) : News h₀ L h k := fun z hz => N z (hs z hz)
theorem size7 {P : Value → Fld → Prop} {vs : List Value} {fs : List Fld} (h : All2 P vs fs) (hz : fs.length ≤ 7) : vs.toArray.size ≤ sizeLine := by
  rw [List.size_toArray, h.1, sizeLine_eq]; omega
theorem octs {led : List (Addr × Obj)} {ys : List Value} {fs : List Fld} (h : All2 (Oct led) ys fs) : ∀ (i : Nat) (v : Value), ys[i]? = some v → ∃ b t, v = .bytes (byteArr b) t ∧ (fs.map packF)[i]? = some b := fun i v e => by
  obtain ⟨f, hf, t, rfl⟩ := h.2 i v e
  exact ⟨packF f, t, rfl, by rw [List.getElem?_map, hf]; rfl⟩
section
variable {w : World} {p : Program} {lo : List Str} {mean : ExcName → Option Value} {mg mb : Str → Option Value} {dp un : Nat} {gd : Option (List Code)} {cn : Str} {cs : Scope} {a : Addr} {ccd : Value} {cl : List (Str × Addr)} {outer : List Env} {A₀ : Around} {base h₀ : Heap} {L : Addr} {m : Str → Option Value} {s : Shared} {Q E : Value → Shared → Prop} {news : List (Addr × Obj)}
  {vs : List Value} {fs : List Fld} {l : Addr} {nn : Nat}
theorem pfilter (cx : Cx w p lo mean mg mb A₀ base outer h₀ L s.heap m cs) (N : News h₀ L s.heap news) (i1 : (l, listOf (List.toArray vs) nn) ∈ news) (hO : Ords w news vs fs) (hz : fs.length ≤ 7) (hR : ∀ f ∈ fs, RngF f) (hne : 0 < fs.length) (hd : dp + 4 < recursionLimit)
  (ret : ∀ t h' tk', Fr h₀ L h' m → News h₀ L h' news → Q (.bytes (byteArr (fs.map packF).flatten) t) { s with heap := h', toks := tk' }) :
  wpAny (model PySem.Challenge.rw_rg0263_01.row.prog w) (ktrTop dp un gd cn cs L a ccd cl outer) (call (.ref 149) [.ref l]) Q E s := by
  obtain ⟨B, F, X, T, hk⟩ := cx
  (refine wpAny_call ?_; k_dflt (refine' code_def ?qk1 ?qk2 ?qk3 ?qk4 ?qk5 ?qkA ?qkF ?qkK ?qk6 ?qk7 ?qk8 ?qk9 ?qkB ?_ ?qc2 ?qc3 ?qc4 ?qc5; (case qkA => exact rfl); (case qkF => exact rfl); (case qkK => first | assumption | exact rfl); (case qk1 => k_asm); (case qk2 => k_asm); (case qk3 => k_asm); (case qk4 => k_asm); (case qk5 => k_asm); (case qk6 => k_is); (case qk7 => k_is); (case qk8 => exact rm (a := 0) hd (by decide)); (case qk9 => exact BindsTo.of_eq rfl); (case qc5 => decide); (case qkB => exact locs rfl); (case qc2 => exact rfl); (case qc3 => exact rfl); (case qc4 => exact rfl); k_whole; intro g' L' h' FG' F' N' B' X' T'; (try dsimp only); (try k_fold)))
  k_with_none
  k_with "iop" => (first | exact Iop.add | exact Iop.sub | exact Iop.mod (by first | assumption | decide) | exact Iop.div (by decide) (by decide))
  k_with "idx" => decide
  k_with "item" => rfl
  k_with "nn" => (first | decide | assumption)
  k_with "sevi" => (first | exact Sev.int | exact Sev.loc rfl rfl (by decide) | exact Sev.glo rfl (by k_is) (by decide) | (apply Sev.bin; (k_extra "sevi"); (k_extra "sevi"); (k_extra "iop")) | (apply Sev.item; (k_extra "sevi"); (k_extra "sevi"); k_mem; (k_extra "nn"); (k_extra "idx"); (k_extra "item")) | (apply Sev.fld; (k_extra "sevi"); k_mem; k_mem; constructor; rfl))
  k_with "sargs" => (first | exact Sargs.nil | (apply Sargs.cons; (k_extra "sevi"); (k_extra "sargs")))
  k_with "eval Call" => ((with_reducible show wpAny _ _ (eval (Expr.Call (Expr.Name _ _) _ [] _) _) _ _ _); k_dflt (refine' callS ?qF ?qX ?qT ?qN ?qh0 ?qkp ?qh1 ?_ ?qx1 ?qx2; (case qF => k_asm); (case qX => k_asm); (case qT => k_asm); (case qN => k_asm); (case qx1 => exact rfl); (case qx2 => exact rfl); (case qh0 => exact Sev.glo rfl (by k_is) (by decide)); (case qkp => k_is); (case qh1 => k_extra "sargs"); k_whole); (try dsimp only))
  k_with "isTrue Compare" => ((with_reducible show wpAny _ _ (isTrue (Expr.Compare _ [_] [_] _) _ _) _ _ _); k_dflt (refine' testS ?qF ?qX ?qT ?qN ?qh1 ?qh2 ?qhc ?_ ?qx1 ?qx2; (case qF => k_asm); (case qX => k_asm); (case qT => k_asm); (case qN => k_asm); (case qx1 => exact rfl); (case qx2 => exact rfl); (case qh1 => k_extra "sevi"); (case qh2 => k_extra "sevi"); (case qhc => constructor); k_whole); (try dsimp only))
  k_with "evals" => (k_dflt (refine' evalS ?qF ?qX ?qT ?qN ?qh1 ?_ ?qx1 ?qx2; (case qF => k_asm); (case qX => k_asm); (case qT => k_asm); (case qN => k_asm); (case qx1 => exact rfl); (case qx2 => exact rfl); (case qh1 => k_extra "sevi"); k_whole); (try dsimp only))
  k_with "eval BinOp" => k_extra "evals"
  k_with "eval Subscript" => k_extra "evals"
  k_with "eval Attribute Name" => k_extra "evals"
  k_with "execs cons" => ((with_reducible show wpAny _ _ (execs (Stmt.Assign [Expr.Name _ _] _ _ :: _) _) _ _ _); k_dflt (refine' assignS ?qF ?qX ?qT ?qN ?qh1 ?qhx ?qhs ?_ ?qx1 ?qx2; (case qF => k_asm); (case qX => k_asm); (case qT => k_asm); (case qN => k_asm); (case qx1 => exact rfl); (case qx2 => exact rfl); (case qhx => exact rfl); (case qhs => exact rfl); (case qh1 => k_extra "sevi"); k_whole); intro h' F' N'; (try k_sweep); (try dsimp only))
  k_with "getMethod bytes" => (k_dflt (refine method_join ?_))
  k_with "eval ListComp" => (k_dflt (refine LCg.ListComp_U (F₀ := by k_asm) (by with_unfolding_all rfl) (by decide) (by rfl) (by decide) (by rfl) ?_))
  k_with "CompSrc" => (k_dflt (refine' LCg.CompSrc.ledger ?qh ?qF ?qN i1 ?qz ?_; (case qh => first | assumption | exact rfl); (case qF => k_asm); (case qN => k_asm); (case qz => exact size7 hO hz); intro g'; refine' comp_map (Pin := Ord w) (Pout := Oct) Ord.sub Oct.sub i1 hO ?qe ?qt); (case' qe => intro ys nw hs2 hT); (case' qt => intro v f ys nw I oI C oC D m₂ h tk E' hP hs2 hf hC hx F' N' off' ne'; obtain ⟨x, dx, t, rfl, i1', i2'⟩ := hP))
  k_with "call ref" => ((with_reducible show wpAny _ _ (call (Value.ref 136) _) _ _ _); k_dflt (refine' packc ⟨?qB, ?qF, ?qX, ?qT, ?qK⟩ ?qN ?q1 ?q2 ?qR ?qd ?_ ; (case qB => k_asm); (case qF => k_asm); (case qX => k_asm); (case qT => k_asm); (case qK => first | assumption | exact rfl); (case qN => k_asm); (case q1 => exact .tail _ (.tail _ (.tail _ i1'))); (case q2 => exact .tail _ (.tail _ (.tail _ i2'))); (case qR => exact hR f hf); (case qd => exact rm (a := 3) hd (by decide)); k_whole); intro t' h' tk' F' N'; (try k_sweep); (try dsimp only); (try k_fold))
  k_with "call builtin:bytes.join" => (k_dflt (refine' join_bytes (ls := fs.map packF) (News.isList (by k_asm) (.head _)) (octs hT) ?ql ?qn ?qz ?_; (case ql => (rw [List.length_map]; exact hT.1)); (case qn => (rw [hT.1]; exact hne)); (case qz => (rw [packs_len]; omega)); intro t' k'))
  k_steps
  · exact LCg.CompEnd.intro (by k_asm) (by k_asm) nw (fun p hp => hp) off' trivial ⟨⟨_, rfl⟩, fun p hp => hp⟩
  · exact ret _ _ _ (by k_asm) (subNews (by k_asm) fun p hp => .tail _ (hs2 p hp))
end
theorem band15 {c : Int} : Builtin.bitAnd (c.fdiv (2 ^ Int.toNat 4)) 15 = c / 16 % 16 := by
  rw [bitAnd_m4]
  show c.fdiv 16 % 16 = _
  rw [Int.fdiv_eq_ediv_of_nonneg c (by decide)]
theorem band0 {c : Int} : 0 ≤ Builtin.bitAnd (c.fdiv (2 ^ Int.toNat 4)) 15 := by rw [band15]; exact Int.emod_nonneg _ (by decide)
theorem band63 {c : Int} : Builtin.bitAnd (c.fdiv (2 ^ Int.toNat 4)) 15 < 2 ^ 63 := by rw [band15]; exact Int.lt_trans (Int.emod_lt_of_pos _ (by decide)) (by decide)
theorem noBand {k : Int} (h : ¬ k < 5) : k ≠ 0 := fun q => h (q ▸ by decide)
theorem five {w0 w1 w2 w3 w4 : Tok} {k : Int} (h0 : 0 ≤ k) (h5 : k < 5) : ∃ z t, (#[Value.str { cps := #[106, 97] } w0, Value.str { cps := #[106, 101, 113] } w1, Value.str { cps := #[106, 103, 116] } w2, Value.str { cps := #[106, 103, 101] } w3, Value.str { cps := #[106, 115, 101, 116] } w4])[k.toNat]? = some (.str z t) ∧ (z = Str.ofString "ja" ↔ k = 0) := by
  have : k = 0 ∨ k = 1 ∨ k = 2 ∨ k = 3 ∨ k = 4 := by omega
  rcases this with rfl | rfl | rfl | rfl | rfl <;> exact ⟨_, _, rfl, by decide⟩
section
variable {w : World} {p : Program} {lo : List Str} {mean : ExcName → Option Value} {mg mb : Str → Option Value} {dp un : Nat} {gd : Option (List Code)} {cn : Str} {cs : Scope} {a : Addr} {ccd : Value} {cl : List (Str × Addr)} {outer : List Env} {A₀ : Around} {base h₀ : Heap} {L : Addr} {m : Str → Option Value} {s : Shared} {Q E : Value → Shared → Prop} {news : List (Addr × Obj)}
  {x dx : Addr} {f : Fld} {t : Nat → Tok}
theorem jname (cx : Cx w p lo mean mg mb A₀ base outer h₀ L s.heap m cs) (N : News h₀ L s.heap news) (i : OrdAt w news x dx f t) (hd : dp + 3 < recursionLimit)
  (ret : ∀ z t' h' tk', (z = Str.ofString "ja" ↔ f.1 / 16 % 16 = 0) → Fr h₀ L h' m → News h₀ L h' news → Q (.str z t') { s with heap := h', toks := tk' }) :
  wpAny (model PySem.Challenge.rw_rg0263_01.row.prog w) (ktrTop dp un gd cn cs L a ccd cl outer) (call (.ref 101) [.ref x]) Q E s := by
  obtain ⟨B, F, X, T, hk⟩ := cx
  obtain ⟨i1, i2⟩ := i
  (refine wpAny_call ?_; k_dflt (refine' code_def ?qk1 ?qk2 ?qk3 ?qk4 ?qk5 ?qkA ?qkF ?qkK ?qk6 ?qk7 ?qk8 ?qk9 ?qkB ?_ ?qc2 ?qc3 ?qc4 ?qc5; (case qkA => exact rfl); (case qkF => exact rfl); (case qkK => first | assumption | exact rfl); (case qk1 => k_asm); (case qk2 => k_asm); (case qk3 => k_asm); (case qk4 => k_asm); (case qk5 => k_asm); (case qk6 => k_is); (case qk7 => k_is); (case qk8 => exact rm (a := 0) hd (by decide)); (case qk9 => exact BindsTo.of_eq rfl); (case qc5 => decide); (case qkB => exact locs rfl); (case qc2 => exact rfl); (case qc3 => exact rfl); (case qc4 => exact rfl); k_whole; intro g' L' h' FG' F' N' B' X' T'; (try dsimp only); (try k_fold)))
  k_with_none
  k_with "iop" => (first | exact Iop.add | exact Iop.sub | exact Iop.mod (by first | assumption | decide) | exact Iop.div (by decide) (by decide))
  k_with "idx" => decide
  k_with "item" => rfl
  k_with "nn" => (first | decide | assumption)
  k_with "sevi" => (first | exact Sev.int | exact Sev.loc rfl rfl (by decide) | exact Sev.glo rfl (by k_is) (by decide) | (apply Sev.bin; (k_extra "sevi"); (k_extra "sevi"); (k_extra "iop")) | (apply Sev.item; (k_extra "sevi"); (k_extra "sevi"); k_mem; (k_extra "nn"); (k_extra "idx"); (k_extra "item")) | (apply Sev.fld; (k_extra "sevi"); k_mem; k_mem; constructor; rfl))
  k_with "sargs" => (first | exact Sargs.nil | (apply Sargs.cons; (k_extra "sevi"); (k_extra "sargs")))
  k_with "eval Call" => ((with_reducible show wpAny _ _ (eval (Expr.Call (Expr.Name _ _) _ [] _) _) _ _ _); k_dflt (refine' callS ?qF ?qX ?qT ?qN ?qh0 ?qkp ?qh1 ?_ ?qx1 ?qx2; (case qF => k_asm); (case qX => k_asm); (case qT => k_asm); (case qN => k_asm); (case qx1 => exact rfl); (case qx2 => exact rfl); (case qh0 => exact Sev.glo rfl (by k_is) (by decide)); (case qkp => k_is); (case qh1 => k_extra "sargs"); k_whole); (try dsimp only))
  k_with "isTrue Compare" => ((with_reducible show wpAny _ _ (isTrue (Expr.Compare _ [_] [_] _) _ _) _ _ _); k_dflt (refine' testS ?qF ?qX ?qT ?qN ?qh1 ?qh2 ?qhc ?_ ?qx1 ?qx2; (case qF => k_asm); (case qX => k_asm); (case qT => k_asm); (case qN => k_asm); (case qx1 => exact rfl); (case qx2 => exact rfl); (case qh1 => k_extra "sevi"); (case qh2 => k_extra "sevi"); (case qhc => constructor); k_whole); (try dsimp only))
  k_with "evals" => (k_dflt (refine' evalS ?qF ?qX ?qT ?qN ?qh1 ?_ ?qx1 ?qx2; (case qF => k_asm); (case qX => k_asm); (case qT => k_asm); (case qN => k_asm); (case qx1 => exact rfl); (case qx2 => exact rfl); (case qh1 => k_extra "sevi"); k_whole); (try dsimp only))
  k_with "eval BinOp" => k_extra "evals"
  k_with "eval Subscript" => k_extra "evals"
  k_with "eval Attribute Name" => k_extra "evals"
  k_with "execs cons" => ((with_reducible show wpAny _ _ (execs (Stmt.Assign [Expr.Name _ _] _ _ :: _) _) _ _ _); k_dflt (refine' assignS ?qF ?qX ?qT ?qN ?qh1 ?qhx ?qhs ?_ ?qx1 ?qx2; (case qF => k_asm); (case qX => k_asm); (case qT => k_asm); (case qN => k_asm); (case qx1 => exact rfl); (case qx2 => exact rfl); (case qhx => exact rfl); (case qhs => exact rfl); (case qh1 => k_extra "sevi"); k_whole); intro h' F' N'; (try k_sweep); (try dsimp only))
  k_with "getAttr ref" => (k_dflt (refine' get_own ?k1 ?k2 (InstAt.of_news (by k_asm) (.tail _ i1) (.tail _ i2)) ?k4 ?k5 ?k6 ?k7 ?k8 ?k9 ?_; (case k1 => k_asm); (case k2 => k_asm); (case k4 => k_is); (case k5 => k_is); (case k6 => k_is); (case k7 => k_is); (case k8 => k_get); (case k9 => k_handed); k_whole))
  k_with "subscriptTail" => (obtain ⟨z, tz, hz, hz'⟩ := five band0 (by assumption); k_dflt (refine item_list (News.isList (by k_asm) (.tail _ (.head _))) band0 band63 hz ?_))
  k_steps
  · exact ret z tz _ _ (hz'.trans (by rw [band15])) (by k_asm) (newsTail (newsTail (by k_asm)))
  · exact ret _ _ _ _ ⟨fun q => absurd q (by decide), fun q => absurd (band15.trans q) (noBand (by assumption))⟩ (by k_asm) (newsTail (newsTail (by k_asm)))
end
theorem All2.back {P : Value → Fld → Prop} {as : List Value} {bs : List Fld} (h : All2 P as bs) {i : Nat} {b : Fld} (e : bs[i]? = some b) : ∃ a, as[i]? = some a ∧ P a b := by
  have hi : i < as.length := h.1 ▸ (List.getElem?_eq_some_iff.mp e).1
  obtain ⟨b', e', hp⟩ := h.2 i as[i] (List.getElem?_eq_getElem hi)
  exact ⟨_, List.getElem?_eq_getElem hi, Option.some.inj (e'.symm.trans e) ▸ hp⟩
theorem i63 {i : Nat} (h : i < 64) : (i : Int) < 2 ^ 63 := by omega
section
variable {w : World} {p : Program} {lo : List Str} {mean : ExcName → Option Value} {mg mb : Str → Option Value} {dp un : Nat} {gd : Option (List Code)} {cn : Str} {cs : Scope} {a : Addr} {ccd : Value} {cl : List (Str × Addr)} {outer : List Env} {A₀ : Around} {base h₀ : Heap} {L : Addr} {m : Str → Option Value} {s : Shared} {Q E : Value → Shared → Prop} {news : List (Addr × Obj)}
  {x dx : Addr} {f : Fld} {t : Nat → Tok}
theorem isret (cx : Cx w p lo mean mg mb A₀ base outer h₀ L s.heap m cs) (N : News h₀ L s.heap news) (i : OrdAt w news x dx f t) (hd : dp + 1 < recursionLimit)
  (ret : ∀ h' tk', Fr h₀ L h' m → News h₀ L h' news → Q (.bool (f.1 % 8 == 6)) { s with heap := h', toks := tk' }) :
  wpAny (model PySem.Challenge.rw_rg0263_01.row.prog w) (ktrTop dp un gd cn cs L a ccd cl outer) (call (.ref 108) [.ref x]) Q E s := by
  obtain ⟨B, F, X, T, hk⟩ := cx
  obtain ⟨i1, i2⟩ := i
  (refine wpAny_call ?_; k_dflt (refine' code_def ?qk1 ?qk2 ?qk3 ?qk4 ?qk5 ?qkA ?qkF ?qkK ?qk6 ?qk7 ?qk8 ?qk9 ?qkB ?_ ?qc2 ?qc3 ?qc4 ?qc5; (case qkA => exact rfl); (case qkF => exact rfl); (case qkK => first | assumption | exact rfl); (case qk1 => k_asm); (case qk2 => k_asm); (case qk3 => k_asm); (case qk4 => k_asm); (case qk5 => k_asm); (case qk6 => k_is); (case qk7 => k_is); (case qk8 => exact rm (a := 0) hd (by decide)); (case qk9 => exact BindsTo.of_eq rfl); (case qc5 => decide); (case qkB => exact locs rfl); (case qc2 => exact rfl); (case qc3 => exact rfl); (case qc4 => exact rfl); k_whole; intro g' L' h' FG' F' N' B' X' T'; (try dsimp only); (try k_fold)))
  k_with_none
  k_with "iop" => (first | exact Iop.add | exact Iop.sub | exact Iop.mod (by first | assumption | decide) | exact Iop.div (by decide) (by decide))
  k_with "idx" => decide
  k_with "item" => rfl
  k_with "nn" => (first | decide | assumption)
  k_with "sevi" => (first | exact Sev.int | exact Sev.loc rfl rfl (by decide) | exact Sev.glo rfl (by k_is) (by decide) | (apply Sev.bin; (k_extra "sevi"); (k_extra "sevi"); (k_extra "iop")) | (apply Sev.item; (k_extra "sevi"); (k_extra "sevi"); k_mem; (k_extra "nn"); (k_extra "idx"); (k_extra "item")) | (apply Sev.fld; (k_extra "sevi"); k_mem; k_mem; constructor; rfl))
  k_with "sargs" => (first | exact Sargs.nil | (apply Sargs.cons; (k_extra "sevi"); (k_extra "sargs")))
  k_with "eval Call" => ((with_reducible show wpAny _ _ (eval (Expr.Call (Expr.Name _ _) _ [] _) _) _ _ _); k_dflt (refine' callS ?qF ?qX ?qT ?qN ?qh0 ?qkp ?qh1 ?_ ?qx1 ?qx2; (case qF => k_asm); (case qX => k_asm); (case qT => k_asm); (case qN => k_asm); (case qx1 => exact rfl); (case qx2 => exact rfl); (case qh0 => exact Sev.glo rfl (by k_is) (by decide)); (case qkp => k_is); (case qh1 => k_extra "sargs"); k_whole); (try dsimp only))
  k_with "isTrue Compare" => ((with_reducible show wpAny _ _ (isTrue (Expr.Compare _ [_] [_] _) _ _) _ _ _); k_dflt (refine' testS ?qF ?qX ?qT ?qN ?qh1 ?qh2 ?qhc ?_ ?qx1 ?qx2; (case qF => k_asm); (case qX => k_asm); (case qT => k_asm); (case qN => k_asm); (case qx1 => exact rfl); (case qx2 => exact rfl); (case qh1 => k_extra "sevi"); (case qh2 => k_extra "sevi"); (case qhc => constructor); k_whole); (try dsimp only))
  k_with "evals" => (k_dflt (refine' evalS ?qF ?qX ?qT ?qN ?qh1 ?_ ?qx1 ?qx2; (case qF => k_asm); (case qX => k_asm); (case qT => k_asm); (case qN => k_asm); (case qx1 => exact rfl); (case qx2 => exact rfl); (case qh1 => k_extra "sevi"); k_whole); (try dsimp only))
  k_with "eval BinOp" => k_extra "evals"
  k_with "eval Subscript" => k_extra "evals"
  k_with "eval Attribute Name" => k_extra "evals"
  k_with "execs cons" => ((with_reducible show wpAny _ _ (execs (Stmt.Assign [Expr.Name _ _] _ _ :: _) _) _ _ _); k_dflt (refine' assignS ?qF ?qX ?qT ?qN ?qh1 ?qhx ?qhs ?_ ?qx1 ?qx2; (case qF => k_asm); (case qX => k_asm); (case qT => k_asm); (case qN => k_asm); (case qx1 => exact rfl); (case qx2 => exact rfl); (case qhx => exact rfl); (case qhs => exact rfl); (case qh1 => k_extra "sevi"); k_whole); intro h' F' N'; (try k_sweep); (try dsimp only))
  k_with "getAttr ref" => (k_dflt (refine' get_own ?k1 ?k2 (InstAt.of_news (by k_asm) i1 i2) ?k4 ?k5 ?k6 ?k7 ?k8 ?k9 ?_; (case k1 => k_asm); (case k2 => k_asm); (case k4 => k_is); (case k5 => k_is); (case k6 => k_is); (case k7 => k_is); (case k8 => k_get); (case k9 => k_handed); k_whole))
  k_steps
  rw [bitAnd_m3]
  exact ret _ _ (by k_asm) (by k_asm)
theorem isjump (cx : Cx w p lo mean mg mb A₀ base outer h₀ L s.heap m cs) (N : News h₀ L s.heap news) (i : OrdAt w news x dx f t) (hd : dp + 1 < recursionLimit)
  (ret : ∀ h' tk', Fr h₀ L h' m → News h₀ L h' news → Q (.bool (f.1 % 8 == 5)) { s with heap := h', toks := tk' }) :
  wpAny (model PySem.Challenge.rw_rg0263_01.row.prog w) (ktrTop dp un gd cn cs L a ccd cl outer) (call (.ref 115) [.ref x]) Q E s := by
  obtain ⟨B, F, X, T, hk⟩ := cx
  obtain ⟨i1, i2⟩ := i
  (refine wpAny_call ?_; k_dflt (refine' code_def ?qk1 ?qk2 ?qk3 ?qk4 ?qk5 ?qkA ?qkF ?qkK ?qk6 ?qk7 ?qk8 ?qk9 ?qkB ?_ ?qc2 ?qc3 ?qc4 ?qc5; (case qkA => exact rfl); (case qkF => exact rfl); (case qkK => first | assumption | exact rfl); (case qk1 => k_asm); (case qk2 => k_asm); (case qk3 => k_asm); (case qk4 => k_asm); (case qk5 => k_asm); (case qk6 => k_is); (case qk7 => k_is); (case qk8 => exact rm (a := 0) hd (by decide)); (case qk9 => exact BindsTo.of_eq rfl); (case qc5 => decide); (case qkB => exact locs rfl); (case qc2 => exact rfl); (case qc3 => exact rfl); (case qc4 => exact rfl); k_whole; intro g' L' h' FG' F' N' B' X' T'; (try dsimp only); (try k_fold)))
  k_with_none
  k_with "iop" => (first | exact Iop.add | exact Iop.sub | exact Iop.mod (by first | assumption | decide) | exact Iop.div (by decide) (by decide))
  k_with "idx" => decide
  k_with "item" => rfl
  k_with "nn" => (first | decide | assumption)
  k_with "sevi" => (first | exact Sev.int | exact Sev.loc rfl rfl (by decide) | exact Sev.glo rfl (by k_is) (by decide) | (apply Sev.bin; (k_extra "sevi"); (k_extra "sevi"); (k_extra "iop")) | (apply Sev.item; (k_extra "sevi"); (k_extra "sevi"); k_mem; (k_extra "nn"); (k_extra "idx"); (k_extra "item")) | (apply Sev.fld; (k_extra "sevi"); k_mem; k_mem; constructor; rfl))
  k_with "sargs" => (first | exact Sargs.nil | (apply Sargs.cons; (k_extra "sevi"); (k_extra "sargs")))
  k_with "eval Call" => ((with_reducible show wpAny _ _ (eval (Expr.Call (Expr.Name _ _) _ [] _) _) _ _ _); k_dflt (refine' callS ?qF ?qX ?qT ?qN ?qh0 ?qkp ?qh1 ?_ ?qx1 ?qx2; (case qF => k_asm); (case qX => k_asm); (case qT => k_asm); (case qN => k_asm); (case qx1 => exact rfl); (case qx2 => exact rfl); (case qh0 => exact Sev.glo rfl (by k_is) (by decide)); (case qkp => k_is); (case qh1 => k_extra "sargs"); k_whole); (try dsimp only))
  k_with "isTrue Compare" => ((with_reducible show wpAny _ _ (isTrue (Expr.Compare _ [_] [_] _) _ _) _ _ _); k_dflt (refine' testS ?qF ?qX ?qT ?qN ?qh1 ?qh2 ?qhc ?_ ?qx1 ?qx2; (case qF => k_asm); (case qX => k_asm); (case qT => k_asm); (case qN => k_asm); (case qx1 => exact rfl); (case qx2 => exact rfl); (case qh1 => k_extra "sevi"); (case qh2 => k_extra "sevi"); (case qhc => constructor); k_whole); (try dsimp only))
  k_with "evals" => (k_dflt (refine' evalS ?qF ?qX ?qT ?qN ?qh1 ?_ ?qx1 ?qx2; (case qF => k_asm); (case qX => k_asm); (case qT => k_asm); (case qN => k_asm); (case qx1 => exact rfl); (case qx2 => exact rfl); (case qh1 => k_extra "sevi"); k_whole); (try dsimp only))
  k_with "eval BinOp" => k_extra "evals"
  k_with "eval Subscript" => k_extra "evals"
  k_with "eval Attribute Name" => k_extra "evals"
  k_with "execs cons" => ((with_reducible show wpAny _ _ (execs (Stmt.Assign [Expr.Name _ _] _ _ :: _) _) _ _ _); k_dflt (refine' assignS ?qF ?qX ?qT ?qN ?qh1 ?qhx ?qhs ?_ ?qx1 ?qx2; (case qF => k_asm); (case qX => k_asm); (case qT => k_asm); (case qN => k_asm); (case qx1 => exact rfl); (case qx2 => exact rfl); (case qhx => exact rfl); (case qhs => exact rfl); (case qh1 => k_extra "sevi"); k_whole); intro h' F' N'; (try k_sweep); (try dsimp only))
  k_with "getAttr ref" => (k_dflt (refine' get_own ?k1 ?k2 (InstAt.of_news (by k_asm) i1 i2) ?k4 ?k5 ?k6 ?k7 ?k8 ?k9 ?_; (case k1 => k_asm); (case k2 => k_asm); (case k4 => k_is); (case k5 => k_is); (case k6 => k_is); (case k7 => k_is); (case k8 => k_get); (case k9 => k_handed); k_whole))
  k_steps
  rw [bitAnd_m3]
  exact ret _ _ (by k_asm) (by k_asm)
theorem ints_of {v : List Value} {l k : List Int} (e : l = k) (h : IntsAre v k) : IntsAre v l := e ▸ h
theorem ja_iff {z : Str} : (z == Str.ofString "ja") = true ↔ z = Str.ofString "ja" := beq_iff_eq
def goalsF (f : Fld) (i : Int) : List Int :=
  if f.1 % 8 = 6 then [] else if f.1 % 8 ≠ 5 then [i + 1] else if f.1 / 16 % 16 = 0 then [i + 1 + f.2.2.2] else if f.2.1 = f.2.2.1 then [i + 1 + f.2.1] else [i + 1 + f.2.1, i + 1 + f.2.2.1]
section
variable {f : Fld} {i : Int} {z : Str}
theorem goals6 (h : f.1 % 8 = 6) : goalsF f i = [] := if_pos h
theorem goals1 (h : f.1 % 8 ≠ 6) (h5 : f.1 % 8 ≠ 5) : goalsF f i = [i + 1] := (if_neg h).trans (if_pos h5)
theorem goals5 (h5 : f.1 % 8 = 5) : goalsF f i = if f.1 / 16 % 16 = 0 then [i + 1 + f.2.2.2] else if f.2.1 = f.2.2.1 then [i + 1 + f.2.1] else [i + 1 + f.2.1, i + 1 + f.2.2.1] := (if_neg (fun q => absurd (h5.symm.trans q) (by decide))).trans (if_neg (not_not_intro h5))
theorem goalsJ (h5 : f.1 % 8 = 5) (hz : z = Str.ofString "ja" ↔ f.1 / 16 % 16 = 0) (e : (z == Str.ofString "ja") = true) : goalsF f i = [i + 1 + f.2.2.2] := (goals5 h5).trans (if_pos (hz.mp (ja_iff.mp e)))
theorem goalsE (h5 : f.1 % 8 = 5) (hz : z = Str.ofString "ja" ↔ f.1 / 16 % 16 = 0) (e : (z == Str.ofString "ja") = false) (q : f.2.1 = f.2.2.1) : goalsF f i = [i + 1 + f.2.1] := (goals5 h5).trans ((if_neg fun y => Bool.false_ne_true (e.symm.trans (ja_iff.mpr (hz.mpr y)))).trans (if_pos q))
theorem goalsN (h5 : f.1 % 8 = 5) (hz : z = Str.ofString "ja" ↔ f.1 / 16 % 16 = 0) (e : (z == Str.ofString "ja") = false) (q : f.2.1 ≠ f.2.2.1) : goalsF f i = [i + 1 + f.2.1, i + 1 + f.2.2.1] := (goals5 h5).trans ((if_neg fun y => Bool.false_ne_true (e.symm.trans (ja_iff.mpr (hz.mpr y)))).trans (if_neg q))
end
variable {vs : List Value} {fs : List Fld} {l : Addr} {nn i : Nat} {ti : Tok}
theorem goals (cx : Cx w p lo mean mg mb A₀ base outer h₀ L s.heap m cs) (N : News h₀ L s.heap news) (i1 : (l, listOf (List.toArray vs) nn) ∈ news) (hO : Ords w news vs fs) (hi : fs[i]? = some f) (hz : i < 64) (hd : dp + 5 < recursionLimit)
  (ret : ∀ D ys k h' tk', IntsAre ys (goalsF f i) → Fr h₀ L h' m → News h₀ L h' ((D, listOf (List.toArray ys) k) :: news) → (∀ p ∈ news, p.1 < D) → Q (.ref D) { s with heap := h', toks := tk' }) :
  wpAny (model PySem.Challenge.rw_rg0263_01.row.prog w) (ktrTop dp un gd cn cs L a ccd cl outer) (call (.ref 122) [.ref l, .int i ti]) Q E s := by
  obtain ⟨B, F, X, T, hk⟩ := cx
  obtain ⟨v, hv, x, dx, t, rfl, j⟩ := All2.back hO hi
  obtain ⟨j1, j2⟩ := id j
  (refine wpAny_call ?_; k_dflt (refine' code_def ?qk1 ?qk2 ?qk3 ?qk4 ?qk5 ?qkA ?qkF ?qkK ?qk6 ?qk7 ?qk8 ?qk9 ?qkB ?_ ?qc2 ?qc3 ?qc4 ?qc5; (case qkA => exact rfl); (case qkF => exact rfl); (case qkK => first | assumption | exact rfl); (case qk1 => k_asm); (case qk2 => k_asm); (case qk3 => k_asm); (case qk4 => k_asm); (case qk5 => k_asm); (case qk6 => k_is); (case qk7 => k_is); (case qk8 => exact rm (a := 0) hd (by decide)); (case qk9 => exact BindsTo.of_eq rfl); (case qc5 => decide); (case qkB => exact locs rfl); (case qc2 => exact rfl); (case qc3 => exact rfl); (case qc4 => exact rfl); k_whole; intro g' L' h' FG' F' N' B' X' T'; (try dsimp only); (try k_fold)))
  k_with_none
  k_with "iop" => (first | exact Iop.add | exact Iop.sub | exact Iop.mod (by first | assumption | decide) | exact Iop.div (by decide) (by decide))
  k_with "idx" => decide
  k_with "item" => rfl
  k_with "nn" => (first | decide | assumption)
  k_with "sevi" => (first | exact Sev.int | exact Sev.loc rfl rfl (by decide) | exact Sev.glo rfl (by k_is) (by decide) | (apply Sev.bin; (k_extra "sevi"); (k_extra "sevi"); (k_extra "iop")) | (apply Sev.item; (k_extra "sevi"); (k_extra "sevi"); k_mem; (k_extra "nn"); (k_extra "idx"); (k_extra "item")) | (apply Sev.fld; (k_extra "sevi"); k_mem; k_mem; constructor; rfl))
  k_with "sargs" => (first | exact Sargs.nil | (apply Sargs.cons; (k_extra "sevi"); (k_extra "sargs")))
  k_with "eval Call" => ((with_reducible show wpAny _ _ (eval (Expr.Call (Expr.Name _ _) _ [] _) _) _ _ _); k_dflt (refine' callS ?qF ?qX ?qT ?qN ?qh0 ?qkp ?qh1 ?_ ?qx1 ?qx2; (case qF => k_asm); (case qX => k_asm); (case qT => k_asm); (case qN => k_asm); (case qx1 => exact rfl); (case qx2 => exact rfl); (case qh0 => exact Sev.glo rfl (by k_is) (by decide)); (case qkp => k_is); (case qh1 => k_extra "sargs"); k_whole); (try dsimp only))
  k_with "isTrue Compare" => ((with_reducible show wpAny _ _ (isTrue (Expr.Compare _ [_] [_] _) _ _) _ _ _); k_dflt (refine' testS ?qF ?qX ?qT ?qN ?qh1 ?qh2 ?qhc ?_ ?qx1 ?qx2; (case qF => k_asm); (case qX => k_asm); (case qT => k_asm); (case qN => k_asm); (case qx1 => exact rfl); (case qx2 => exact rfl); (case qh1 => k_extra "sevi"); (case qh2 => k_extra "sevi"); (case qhc => constructor); k_whole); (try dsimp only))
  k_with "evals" => (k_dflt (refine' evalS ?qF ?qX ?qT ?qN ?qh1 ?_ ?qx1 ?qx2; (case qF => k_asm); (case qX => k_asm); (case qT => k_asm); (case qN => k_asm); (case qx1 => exact rfl); (case qx2 => exact rfl); (case qh1 => k_extra "sevi"); k_whole); (try dsimp only))
  k_with "eval BinOp" => k_extra "evals"
  k_with "eval Subscript" => k_extra "evals"
  k_with "eval Attribute Name" => k_extra "evals"
  k_with "execs cons" => ((with_reducible show wpAny _ _ (execs (Stmt.Assign [Expr.Name _ _] _ _ :: _) _) _ _ _); k_dflt (refine' assignS ?qF ?qX ?qT ?qN ?qh1 ?qhx ?qhs ?_ ?qx1 ?qx2; (case qF => k_asm); (case qX => k_asm); (case qT => k_asm); (case qN => k_asm); (case qx1 => exact rfl); (case qx2 => exact rfl); (case qhx => exact rfl); (case qhs => exact rfl); (case qh1 => k_extra "sevi"); k_whole); intro h' F' N'; (try k_sweep); (try dsimp only))
  k_with "subscriptTail" => (k_dflt (refine item_listL (News.isList (by k_asm) i1) (Int.natCast_nonneg _) (i63 hz) (by rw [Int.toNat_natCast]; exact hv) ?_))
  k_with "call ref" => ((with_reducible show wpAny _ _ (call (Value.ref 108) _) _ _ _); k_dflt (refine' isret ⟨?qB, ?qF, ?qX, ?qT, ?qK⟩ ?qN ?qi ?qd ?_ ; (case qB => k_asm); (case qF => k_asm); (case qX => k_asm); (case qT => k_asm); (case qK => first | assumption | exact rfl); (case qN => k_asm); (case qi => exact j); (case qd => exact rm (a := 2) hd (by decide)); k_whole); intro h' tk' F' N'; (try k_sweep); (try dsimp only); (try k_fold))
  k_with "call ref" => ((with_reducible show wpAny _ _ (call (Value.ref 115) _) _ _ _); k_dflt (refine' isjump ⟨?qB, ?qF, ?qX, ?qT, ?qK⟩ ?qN ?qi ?qd ?_ ; (case qB => k_asm); (case qF => k_asm); (case qX => k_asm); (case qT => k_asm); (case qK => first | assumption | exact rfl); (case qN => k_asm); (case qi => exact j); (case qd => exact rm (a := 2) hd (by decide)); k_whole); intro h' tk' F' N'; (try k_sweep); (try dsimp only); (try k_fold))
  k_with "call ref" => ((with_reducible show wpAny _ _ (call (Value.ref 101) _) _ _ _); k_dflt (refine' jname ⟨?qB, ?qF, ?qX, ?qT, ?qK⟩ ?qN ?qi ?qd ?_ ; (case qB => k_asm); (case qF => k_asm); (case qX => k_asm); (case qT => k_asm); (case qK => first | assumption | exact rfl); (case qN => k_asm); (case qi => exact j); (case qd => exact rm (a := 4) hd (by decide)); k_whole); intro z t' h' tk' hz' F' N'; (try k_sweep); (try dsimp only); (try k_fold))
  k_with "getAttr ref" => (k_dflt (refine' get_own ?k1 ?k2 (InstAt.of_news (by k_asm) j1 j2) ?k4 ?k5 ?k6 ?k7 ?k8 ?k9 ?_; (case k1 => k_asm); (case k2 => k_asm); (case k4 => k_is); (case k5 => k_is); (case k6 => k_is); (case k7 => k_is); (case k8 => k_get); (case k9 => k_handed); k_whole))
  k_steps
  · exact ret _ [] _ _ _ (ints_of (goals6 (by assumption)) (.nil)) (by k_asm) (by k_asm) (by assumption)
  · exact ret _ [_] _ _ _ (ints_of (goalsJ (by assumption) hz' (by assumption)) (.cons _ _ .nil)) (by k_asm) (by k_asm) (by assumption)
  · exact ret _ [_] _ _ _ (ints_of (goalsE (by assumption) hz' (by assumption) (by assumption)) (.cons _ _ .nil)) (by k_asm) (by k_asm) (by assumption)
  · exact ret _ [_, _] _ _ _ (ints_of (goalsN (by assumption) hz' (by assumption) (by assumption)) (.cons _ _ (.cons _ _ .nil))) (by k_asm) (by k_asm) (by assumption)
  · exact ret _ [_] _ _ _ (ints_of (goals1 (by assumption) (by assumption)) (.cons _ _ .nil)) (by k_asm) (by k_asm) (by assumption)
end
section
open PyProof.Rows.LCg
variable {prog : Program} {w : World} {A : Around} {h₀ : Heap} {L : Addr} {m : Str → Option Value} {env : Env} {elt ct : Expr} {x : Str} {scope : Scope} {cl : List (Str × Addr)} {s : Shared} {Fin : List Value → List (Addr × Obj) → Prop} {news : List (Addr × Obj)} {a : Int} {n : Nat}
/-- a comprehension over a range whose turns make nothing -/
theorem comp_pure (g : Nat → Value → Prop) (fin : ∀ ys : List Value, ys.length = n → (∀ (i : Nat) (y : Value), ys[i]? = some y → g i y) → Fin ys news)
    (step : ∀ i t ys I oI C oC D m₂ h tk (E' : Value → Shared → Prop), i < n → NsObj oC m₂ → m₂ x = some (.int (a + (i : Int)) t) → Fr h₀ L h m → News h₀ L h ((I, oI) :: (C, oC) :: (D, lst ys) :: news) → Off3 I C D news → ((@Ne Nat I C) ∧ (@Ne Nat I D) ∧ (@Ne Nat C D)) →
      wpAny (model prog w) A (eval elt (compEnvC scope cl C env)) (CompEnd h₀ L m { s with heap := h, toks := tk } I oI C oC D (lst ys) (fun _ => True) (fun y nw' => nw' = news ∧ g i y)) E' { s with heap := h, toks := tk }) :
    CompRest prog w A h₀ L m env elt x scope cl s (fun _ => True) (fun i v => ∃ t, v = .int (a + (i : Int)) t) Fin n 0 [] news := by
  refine comp_inv (fun i ys nw => nw = news ∧ ys.length = i ∧ ∀ (j : Nat) (y : Value), ys[j]? = some y → g j y) ⟨rfl, rfl, fun _ _ e => nomatch e⟩ (fun _ _ _ _ => trivial) (fun ys nw h => h.1 ▸ fin ys h.2.1 h.2.2) ?_
  rintro i v ys nw I oI C oC D m₂ h tk E' hi ⟨t, rfl⟩ ⟨rfl, hl, hg⟩ hC hx F N off ne
  refine wpAny_mono (step i t ys I oI C oC D m₂ h tk E' hi hC hx F N off ne) (fun y s₂ h₂ => ?_) fun _ _ e => e
  obtain ⟨h', tk', nw', e, F', N', off', _, hn, hy⟩ := h₂
  refine ⟨h', tk', nw', e, F', N', off', trivial, hn, by rw [List.length_append, hl]; rfl, fun j y' e' => ?_⟩
  by_cases hj : j < ys.length
  · rw [List.getElem?_append_left hj] at e'; exact hg j y' e'
  · rw [List.getElem?_append_right (Nat.not_lt.mp hj)] at e'
    have : j = i := by
      have := (List.getElem?_eq_some_iff.mp e').1
      rw [List.length_singleton] at this
      omega
    subst this
    rw [hl, Nat.sub_self] at e'
    cases e'; exact hy
/-- a comprehension over a range with a test that tells its places -/
theorem comp_filter (b : Nat → Bool) (fin : ∀ ys : List Value, IntsAre ys (((List.range n).filter b).map fun i : Nat => a + (i : Int)) → Fin ys news)
    (step : ∀ i t ys I oI C oC D m₂ h tk (E' : Value → Shared → Prop), i < n → NsObj oC m₂ → m₂ x = some (.int (a + (i : Int)) t) → Fr h₀ L h m → News h₀ L h ((I, oI) :: (C, oC) :: (D, lst ys) :: news) → Off3 I C D news → ((@Ne Nat I C) ∧ (@Ne Nat I D) ∧ (@Ne Nat C D)) →
      wpAny (model prog w) A (isTrue ct (compEnvC scope cl C env) (eval ct (compEnvC scope cl C env))) (fun ok s' => if ok = true then
        wpAny (model prog w) A (eval elt (compEnvC scope cl C env)) (CompEnd h₀ L m { s with heap := h, toks := tk } I oI C oC D (lst ys) (fun _ => True) (fun y nw' => nw' = news ∧ b i = true ∧ ∃ t, y = .int (a + (i : Int)) t)) E' s'
        else CompEnd h₀ L m { s with heap := h, toks := tk } I oI C oC D (lst ys) (fun _ => True) (fun _ nw' => nw' = news ∧ b i = false) Value.none s') E' { s with heap := h, toks := tk }) :
    LCt.CompRestT prog w A h₀ L m env ct elt x scope cl s (fun _ => True) (fun i v => ∃ t, v = .int (a + (i : Int)) t) Fin n 0 [] news := by
  have main : ∀ k i ys, i + k = n → IntsAre ys (((List.range i).filter b).map fun i : Nat => a + (i : Int)) → LCt.CompRestT prog w A h₀ L m env ct elt x scope cl s (fun _ => True) (fun i v => ∃ t, v = .int (a + (i : Int)) t) Fin k i ys news := by
    intro k
    induction k with
    | zero => intro i ys e hy; have e' : i = n := e; subst e'; exact fin ys hy
    | succ k ih =>
      rintro i ys e hy v I oI C oC D m₂ h tk E' ⟨t, rfl⟩ hC hx F N off ne
      have nx : ((List.range (i + 1)).filter b).map (fun i : Nat => a + (i : Int)) = ((List.range i).filter b).map (fun i : Nat => a + (i : Int)) ++ if b i = true then [a + (i : Int)] else [] := by
        rw [List.range_succ, List.filter_append, List.map_append]
        congr 1
        cases hb : b i <;> simp [hb]
      refine wpAny_mono (step i t ys I oI C oC D m₂ h tk E' (by omega) hC hx F N off ne) (fun ok s₂ h₂ => ?_) fun _ _ e => e
      split
      · rename_i hok
        rw [if_pos hok] at h₂
        refine wpAny_mono h₂ (fun y s₃ h₃ => ?_) fun _ _ e => e
        obtain ⟨h', tk', nw', e2, F', N', off', _, hn, hb, t', rfl⟩ := h₃
        subst hn
        exact ⟨h', tk', _, e2, F', N', off', trivial, ih (i + 1) _ (by omega) (by rw [nx, if_pos hb]; exact hy.append (.cons _ _ .nil))⟩
      · rename_i hok
        rw [if_neg hok] at h₂
        obtain ⟨h', tk', nw', e2, F', N', off', _, hn, hb⟩ := h₂
        subst hn
        exact ⟨h', tk', _, e2, F', N', off', trivial, ih (i + 1) _ (by omega) (by rw [nx, hb, if_neg Bool.false_ne_true, List.append_nil]; exact hy)⟩
  exact main n 0 [] (Nat.zero_add n) .nil
end
section
variable {prog : Program} {w : World} {A : Around} {E : Value → Shared → Prop} {s : Shared} {h₀ : Heap} {env : Env} {x : Str} {body : List Stmt} {Q : Flow → Shared → Prop} {m₀ : Str → Option Value} {news : List (Addr × Obj)}
/-- a loop's own name and one more that its turns store and that is not read ahead of its store; the others as they were -/
def Dirt (x g : Str) (m₀ : Str → Option Value) (K : List (Addr × Obj) → Prop) (m' : Str → Option Value) (nw : List (Addr × Obj)) : Prop := K nw ∧ ∀ z, z ≠ x → z ≠ g → m' z = m₀ z
theorem Dirt.eq {x g : Str} {f : Option Value} {m' : Str → Option Value} (hz : ∀ z, z ≠ x → z ≠ g → m' z = m₀ z) : (fun z => if z = x then f else m' z) = fun z => if z = x then f else if z = g then m' g else m₀ z := by
  funext z
  by_cases h1 : z = x
  · rw [if_pos h1, if_pos h1]
  · rw [if_neg h1, if_neg h1]
    by_cases h3 : z = g
    · rw [if_pos h3, h3]
    · rw [if_neg h3, hz z h1 h3]
theorem Dirt.self {x : Str} {m' : Str → Option Value} : (fun z => if z = x then m' x else m' z) = m' := by
  funext z
  by_cases h : z = x
  · rw [if_pos h, h]
  · rw [if_neg h]
theorem iter_range0 {r : Addr} {a b c : Int} {t u v : Tok} {n : Nat} (g : Str) (K : Nat → List (Addr × Obj) → Prop)
    (hh : A.handled = none) (F : Fr h₀ env.locals s.heap m₀) (N : News h₀ env.locals s.heap news) (hr : IsRange s.heap r a b c t u v) (hsm : Builtin.Range.small a b c = true) (hn : Builtin.Range.rangeSize a b c = ((n : Nat) : Int)) (h0 : K 0 news)
    (turn : ∀ i t u news₁ I oI h tk, i < n → K i news₁ → Fr h₀ env.locals h (fun z => if z = x then some (.int (a + i * c) t) else if z = g then u else m₀ z) → News h₀ env.locals h ((I, oI) :: news₁) → (∀ p ∈ news₁, p.1 ≠ I) →
      wpAny (model prog w) A (execs body env) (TurnP h₀ env.locals I oI (Dirt x g m₀ (K (i + 1))) { s with heap := h, toks := tk } Q) E { s with heap := h, toks := tk })
    (done : ∀ f u news₁ h tk, K n news₁ → Fr h₀ env.locals h (fun z => if z = x then f else if z = g then u else m₀ z) → News h₀ env.locals h news₁ → Q .next { s with heap := h, toks := tk }) :
    wpAny (model prog w) A (pyIter (.ref r)) (fun it s₂ => LoopAtV prog w A h₀ env x body Q E it s₂) E s := by
  refine iter_range (fun i => Dirt x g m₀ (K i)) hh F N hr hsm hn ⟨h0, fun _ _ _ => rfl⟩ ?_ ?_
  · rintro i t m₁ news₁ I oI h tk hi ⟨k, e2⟩ F₁ N₁ o
    exact turn i t _ news₁ I oI h tk hi k (Dirt.eq e2 ▸ F₁) N₁ o
  · rintro m₁ news₁ h tk ⟨k, e2⟩ F₁ N₁
    exact done _ _ news₁ h tk k (Dirt.eq (f := m₁ x) e2 ▸ Dirt.self (x := x) (m' := m₁) ▸ F₁) N₁
theorem iter_list0 {l : Addr} {vs : List Value} {nn : Nat} (g : Str) (K : Nat → List (Addr × Obj) → Prop)
    (hh : A.handled = none) (F : Fr h₀ env.locals s.heap m₀) (N : News h₀ env.locals s.heap news) (hl : ∀ i nw, K i nw → (l, listOf vs.toArray nn) ∈ nw) (h0 : K 0 news)
    (turn : ∀ i v u news₁ I oI h tk, vs[i]? = some v → K i news₁ → Fr h₀ env.locals h (fun z => if z = x then some v else if z = g then u else m₀ z) → News h₀ env.locals h ((I, oI) :: news₁) → (∀ p ∈ news₁, p.1 ≠ I) →
      wpAny (model prog w) A (execs body env) (TurnP h₀ env.locals I oI (Dirt x g m₀ (K (i + 1))) { s with heap := h, toks := tk } Q) E { s with heap := h, toks := tk })
    (done : ∀ f u news₁ h tk, K vs.length news₁ → Fr h₀ env.locals h (fun z => if z = x then f else if z = g then u else m₀ z) → News h₀ env.locals h news₁ → Q .next { s with heap := h, toks := tk }) :
    wpAny (model prog w) A (pyIter (.ref l)) (fun it s₂ => LoopAtV prog w A h₀ env x body Q E it s₂) E s := by
  refine iter_list (fun i => Dirt x g m₀ (K i)) hh F N (fun i m' nw h => hl i nw h.1) ⟨h0, fun _ _ _ => rfl⟩ ?_ ?_
  · rintro i v m₁ news₁ I oI h tk hi ⟨k, e2⟩ F₁ N₁ o
    exact turn i v _ news₁ I oI h tk hi k (Dirt.eq e2 ▸ F₁) N₁ o
  · rintro m₁ news₁ h tk ⟨k, e2⟩ F₁ N₁
    exact done _ _ news₁ h tk k (Dirt.eq (f := m₁ x) e2 ▸ Dirt.self (x := x) (m' := m₁) ▸ F₁) N₁
end
/-- the flags that reached_orders makes, turn by turn -/
def flag0 (n : Nat) : List Bool := (List.range n).map fun i => decide (i = 0)
def setOne (fl : List Bool) (g : Int) : List Bool := if g < (fl.length : Int) then fl.set g.toNat true else fl
def turnF (fs : List Fld) (fl : List Bool) (i : Nat) : List Bool := if fl.getD i false = true then (goalsF (fs.getD i (0, 0, 0, 0)) i).foldl setOne fl else fl
def flAt (fs : List Fld) (i : Nat) : List Bool := (List.range i).foldl (turnF fs) (flag0 fs.length)
theorem setOne_len {fl : List Bool} {g : Int} : (setOne fl g).length = fl.length := by unfold setOne; split <;> simp
theorem fold_len : ∀ (gs : List Int) (fl : List Bool), (gs.foldl setOne fl).length = fl.length
  | [], _ => rfl
  | g :: r, fl => (fold_len r (setOne fl g)).trans setOne_len
theorem turnF_len {fs : List Fld} {fl : List Bool} {i : Nat} : (turnF fs fl i).length = fl.length := by unfold turnF; split; exact fold_len _ _; rfl
theorem flAt_succ {fs : List Fld} {i : Nat} : flAt fs (i + 1) = turnF fs (flAt fs i) i := by
  unfold flAt; rw [List.range_succ, List.foldl_append]; rfl
theorem flAt_len {fs : List Fld} : ∀ {i : Nat}, (flAt fs i).length = fs.length
  | 0 => by unfold flAt flag0; simp
  | i + 1 => by rw [flAt_succ, turnF_len, flAt_len]
theorem setOne_get {fl : List Bool} {g : Int} {j : Nat} (hg : 0 ≤ g) (hj : j < fl.length) : ((setOne fl g).getD j false = true) ↔ (fl.getD j false = true ∨ g = (j : Int)) := by
  unfold setOne
  split
  · rename_i h
    rw [List.getD_eq_getElem?_getD, List.getElem?_set]
    by_cases e : g.toNat = j
    · have : g = (j : Int) := by omega
      simp [e, this, hj]
    · have : ¬ g = (j : Int) := by omega
      simp [e, this]
  · rename_i h
    have : ¬ g = (j : Int) := by omega
    simp [this]
theorem fold_get {j : Nat} : ∀ (gs : List Int) (fl : List Bool), (∀ g ∈ gs, 0 ≤ g) → j < fl.length → (((gs.foldl setOne fl).getD j false = true) ↔ (fl.getD j false = true ∨ (j : Int) ∈ gs))
  | [], fl, _, _ => by simp
  | g :: r, fl, h, hj => by
    rw [List.foldl_cons, fold_get r _ (fun q hq => h q (.tail _ hq)) (by rw [setOne_len]; exact hj), setOne_get (h g (.head _)) hj, List.mem_cons]
    constructor
    · rintro ((a | a) | a)
      · exact .inl a
      · exact .inr (.inl a.symm)
      · exact .inr (.inr a)
    · rintro (a | a | a)
      · exact .inl (.inl a)
      · exact .inl (.inr a.symm)
      · exact .inr a
def FldOk (f : Fld) : Prop := 0 ≤ f.1 ∧ 0 ≤ f.2.1 ∧ 0 ≤ f.2.2.1 ∧ 0 ≤ f.2.2.2
theorem goals_fwd {f : Fld} {i g : Int} (h : FldOk f) (m : g ∈ goalsF f i) : i < g := by
  obtain ⟨_, h2, h3, h4⟩ := h
  unfold goalsF at m
  split at m
  · cases m
  split at m
  · have := List.mem_singleton.mp m; omega
  split at m
  · have := List.mem_singleton.mp m; omega
  split at m
  · have := List.mem_singleton.mp m; omega
  · rcases List.mem_cons.mp m with e | m
    · omega
    · have := List.mem_singleton.mp m; omega
/-- the law's own next -/
def nextF (f : Fld) (i : Int) : List Int := if f.1 % 8 ≠ 5 then (if f.1 % 8 = 6 then [] else [i + 1]) else if f.1 / 16 % 16 = 0 then [i + 1 + f.2.2.2] else [i + 1 + f.2.1, i + 1 + f.2.2.1]
theorem mem_next {f : Fld} {i g : Int} : g ∈ nextF f i ↔ g ∈ goalsF f i := by
  unfold nextF goalsF
  by_cases h6 : f.1 % 8 = 6
  · rw [if_pos (show f.1 % 8 ≠ 5 by omega), if_pos h6, if_pos h6]
  · rw [if_neg h6]
    by_cases h5 : f.1 % 8 = 5
    · rw [if_neg (not_not_intro h5), if_neg (not_not_intro h5)]
      split
      · rfl
      split
      · rename_i e; rw [e]; simp
      · rfl
    · rw [if_pos h5, if_pos h5, if_neg h6]
/-- who is reached -/
def Rch (fs : List Fld) : Nat → Prop
  | j => j = 0 ∨ ∃ i, ∃ _ : i < j, Rch fs i ∧ (j : Int) ∈ goalsF (fs.getD i (0, 0, 0, 0)) i
theorem Rch_iff {fs : List Fld} {j : Nat} : Rch fs j ↔ (j = 0 ∨ ∃ i, i < j ∧ Rch fs i ∧ (j : Int) ∈ goalsF (fs.getD i (0, 0, 0, 0)) i) := by
  rw [Rch]
  exact ⟨fun h => h.imp id fun ⟨i, a, b⟩ => ⟨i, a, b⟩, fun h => h.imp id fun ⟨i, a, b⟩ => ⟨i, a, b⟩⟩
theorem fld_ok {fs : List Fld} (h : ∀ f ∈ fs, FldOk f) (i : Nat) : FldOk (fs.getD i (0, 0, 0, 0)) := by
  rw [List.getD_eq_getElem?_getD]
  cases e : fs[i]? with
  | none => exact ⟨Int.le_refl _, Int.le_refl _, Int.le_refl _, Int.le_refl _⟩
  | some f => exact h f (List.mem_of_getElem? e)
theorem flag0_get {n j : Nat} (hj : j < n) : (flag0 n).getD j false = decide (j = 0) := by
  unfold flag0; rw [List.getD_eq_getElem?_getD, List.getElem?_map, List.getElem?_range hj]; rfl
theorem flAt_get {fs : List Fld} (h : ∀ f ∈ fs, FldOk f) : ∀ (i : Nat), i ≤ fs.length → ∀ j, j < fs.length → ((flAt fs i).getD j false = true ↔ (j = 0 ∨ ∃ k, k < i ∧ Rch fs k ∧ k < j ∧ (j : Int) ∈ goalsF (fs.getD k (0, 0, 0, 0)) k))
  | 0, _, j, hj => by
    show (flag0 fs.length).getD j false = true ↔ _
    rw [flag0_get hj, decide_eq_true_eq]
    exact ⟨.inl, fun q => q.elim id fun ⟨_, a, _⟩ => absurd a (Nat.not_lt_zero _)⟩
  | i + 1, hi, j, hj => by
    have ih := flAt_get h i (by omega)
    have hii : ((flAt fs i).getD i false = true ↔ Rch fs i) := by
      rw [ih i (by omega), Rch_iff]
      exact ⟨fun q => q.imp id fun ⟨k, a, b, _, c⟩ => ⟨k, a, b, c⟩, fun q => q.imp id fun ⟨k, a, b, c⟩ => ⟨k, a, b, a, c⟩⟩
    rw [flAt_succ]
    unfold turnF
    by_cases hR : Rch fs i
    · rw [if_pos (hii.mpr hR), fold_get _ _ (fun g hg => by have := goals_fwd (fld_ok h i) hg; omega) (by rw [flAt_len]; exact hj), ih j hj]
      constructor
      · rintro ((a | ⟨k, a, b⟩) | a)
        · exact .inl a
        · exact .inr ⟨k, by omega, b⟩
        · exact .inr ⟨i, by omega, hR, by have := goals_fwd (fld_ok h i) a; omega, a⟩
      · rintro (a | ⟨k, a, b, c⟩)
        · exact .inl (.inl a)
        · by_cases e : k = i
          · subst e; exact .inr c.2
          · exact .inl (.inr ⟨k, by omega, b, c⟩)
    · rw [if_neg (fun q => hR (hii.mp q)), ih j hj]
      constructor
      · rintro (a | ⟨k, a, b⟩)
        · exact .inl a
        · exact .inr ⟨k, by omega, b⟩
      · rintro (a | ⟨k, a, b, c⟩)
        · exact .inl a
        · by_cases e : k = i
          · subst e; exact absurd b hR
          · exact .inr ⟨k, by omega, b, c⟩
theorem flAt_rch {fs : List Fld} (h : ∀ f ∈ fs, FldOk f) {j : Nat} (hj : j < fs.length) : ((flAt fs fs.length).getD j false = true ↔ Rch fs j) := by
  rw [flAt_get h _ (Nat.le_refl _) j hj, Rch_iff]
  exact ⟨fun q => q.imp id fun ⟨k, _, b, c, d⟩ => ⟨k, c, b, d⟩, fun q => q.imp id fun ⟨k, a, b, c⟩ => ⟨k, by omega, b, a, c⟩⟩
/-- the law's rounds -/
def goalsAll (fs : List Fld) (fl : List Bool) : List Int := (List.range fs.length).flatMap fun i => if fl.getD i false = true then nextF (fs.getD i (0, 0, 0, 0)) i else []
def lapF (fs : List Fld) (fl : List Bool) : List Bool := (List.range fs.length).map fun j => fl.getD j false || (goalsAll fs fl).contains (j : Int)
def lapsF (fs : List Fld) : Nat → List Bool
  | 0 => flag0 fs.length
  | l + 1 => lapF fs (lapsF fs l)
theorem lapF_get {fs : List Fld} {fl : List Bool} {j : Nat} (hj : j < fs.length) : ((lapF fs fl).getD j false = true ↔ (fl.getD j false = true ∨ ∃ i, i < fs.length ∧ fl.getD i false = true ∧ (j : Int) ∈ goalsF (fs.getD i (0, 0, 0, 0)) i)) := by
  unfold lapF
  rw [List.getD_eq_getElem?_getD, List.getElem?_map, List.getElem?_range hj]
  show (_ || _) = true ↔ _
  rw [Bool.or_eq_true, List.contains_iff_mem]
  refine or_congr Iff.rfl ?_
  unfold goalsAll
  rw [List.mem_flatMap]
  constructor
  · rintro ⟨i, hi, m⟩
    split at m
    · rename_i e; exact ⟨i, List.mem_range.mp hi, e, mem_next.mp m⟩
    · cases m
  · rintro ⟨i, hi, e, m⟩
    exact ⟨i, List.mem_range.mpr hi, by rw [if_pos e]; exact mem_next.mpr m⟩
theorem laps_sound {fs : List Fld} (h : ∀ f ∈ fs, FldOk f) : ∀ (l j : Nat), j < fs.length → (lapsF fs l).getD j false = true → Rch fs j
  | 0, j, hj, e => by
    have e : (flag0 fs.length).getD j false = true := e
    rw [flag0_get hj, decide_eq_true_eq] at e
    exact Rch_iff.mpr (.inl e)
  | l + 1, j, hj, e => by
    rcases (lapF_get hj).mp e with a | ⟨i, hi, a, m⟩
    · exact laps_sound h l j hj a
    · exact Rch_iff.mpr (.inr ⟨i, by have := goals_fwd (fld_ok h i) m; omega, laps_sound h l i hi a, m⟩)
theorem laps_full {fs : List Fld} (h : ∀ f ∈ fs, FldOk f) : ∀ (l j : Nat), j ≤ l → j < fs.length → Rch fs j → (lapsF fs l).getD j false = true
  | 0, j, hl, hj, _ => by
    have : j = 0 := by omega
    subst this
    show (flag0 fs.length).getD 0 false = true
    rw [flag0_get hj]; rfl
  | l + 1, j, hl, hj, r => by
    refine (lapF_get hj).mpr ?_
    rcases Rch_iff.mp r with e | ⟨i, hi, b, c⟩
    · exact .inl (laps_full h l j (by omega) hj r)
    · exact .inr ⟨i, by omega, laps_full h l i (by omega) (by omega) b, c⟩
theorem laps_len {fs : List Fld} : ∀ {l : Nat}, (lapsF fs l).length = fs.length
  | 0 => by show (flag0 fs.length).length = _; unfold flag0; simp
  | l + 1 => by show (lapF fs _).length = _; unfold lapF; simp
/-- both come to the same -/
theorem reach_same {fs : List Fld} (h : ∀ f ∈ fs, FldOk f) : (List.range fs.length).filter (fun i => (flAt fs fs.length).getD i false) = (List.range fs.length).filter (fun i => (lapsF fs fs.length).getD i false) := by
  refine List.filter_congr fun j hj => ?_
  have hj := List.mem_range.mp hj
  have a := flAt_rch h hj
  have b : (lapsF fs fs.length).getD j false = true ↔ Rch fs j := ⟨laps_sound h _ j hj, laps_full h _ j (by omega) hj⟩
  have c := a.trans b.symm
  cases h1 : (flAt fs fs.length).getD j false <;> cases h2 : (lapsF fs fs.length).getD j false <;> simp_all
section
open PyProof.Rows.LCg
theorem compTurn_out (elt t1 i1 t2 i2 : Expr) (ifs : List Expr) (scope : Scope) (pos : Pos) (it acc : Value) (env : Env) :
    compTurn (.ListComp elt [⟨t1, i1, ifs, 0⟩, ⟨t2, i2, [], 0⟩] scope pos) 0 it acc env = (do
      standAt i1.pos
      match ← pyNext it with
      | none => pure (.done .next)
      | some v =>
        letOwnedTupleGo t1 it v
        assign t1 env v
        let mut ok := true
        for c in ifs do
          if ok then ok ← isTrue c env (eval c env)
        if ok then
          let x ← eval i2 env
          standAt i2.pos
          let x ← foldedSetIterable i2 env x
          let _ ← runOwn (.compStart (.ListComp elt [⟨t1, i1, ifs, 0⟩, ⟨t2, i2, [], 0⟩] scope pos) 1 (← holding [x] (pyIter x)) acc env) env
          again (.compLoop (.ListComp elt [⟨t1, i1, ifs, 0⟩, ⟨t2, i2, [], 0⟩] scope pos) 0 it acc env)
        else again (.compLoop (.ListComp elt [⟨t1, i1, ifs, 0⟩, ⟨t2, i2, [], 0⟩] scope pos) 0 it acc env)) := by rfl
theorem compTurn_in (elt t1 i1 t2 i2 : Expr) (ifs : List Expr) (scope : Scope) (pos : Pos) (it acc : Value) (env : Env) :
    compTurn (.ListComp elt [⟨t1, i1, ifs, 0⟩, ⟨t2, i2, [], 0⟩] scope pos) 1 it acc env = (do
      standAt i2.pos
      match ← pyNext it with
      | none => pure (.done .next)
      | some v =>
        letOwnedTupleGo t2 it v
        assign t2 env v
        (do let _ ← call (.builtin "list.append") [acc, ← eval elt env])
        again (.compLoop (.ListComp elt [⟨t1, i1, ifs, 0⟩, ⟨t2, i2, [], 0⟩] scope pos) 1 it acc env)) := by rfl
variable {prog : Program} {w : World} {A : Around} {R : Result → Shared → Prop} {s : Shared}
theorem loop_out {elt t1 i1 t2 i2 : Expr} {ifs : List Expr} {scope : Scope} {pos : Pos} {it acc : Value} {env : Env} (I : Nat → Shared → Prop)
    (turn : ∀ n s, I n s → wpAny (model prog w) A (pyNext it) (fun r s₁ => match r with
      | none => R (.ok .next) s₁
      | some v => wpAny (model prog w) A (assign t1 env v) (fun _ s₂ =>
          wpAny (model prog w) A (forIn ifs true fun c r => if r = true then do let ok ← isTrue c env (eval c env); pure (ForInStep.yield ok) else pure (ForInStep.yield r)) (fun ok s₃ =>
            if ok = true then wpAny (model prog w) A (eval i2 env) (fun x s₄ =>
              wpAny (model prog w) A (pyIter x) (fun it₂ s₅ => codeAny (model prog w) A (.compStart (.ListComp elt [⟨t1, i1, ifs, 0⟩, ⟨t2, i2, [], 0⟩] scope pos) 1 it₂ acc env) (fun r s₆ => match r with | .ok _ => ∃ m, m < n ∧ I m s₆ | .error _ => False) s₅) (notedBy (model prog w) A env fun e s' => R (.error e) s') s₄) (notedBy (model prog w) A env fun e s' => R (.error e) s') s₃
            else ∃ m, m < n ∧ I m s₃) (notedBy (model prog w) A env fun e s' => R (.error e) s') s₂) (notedBy (model prog w) A env fun e s' => R (.error e) s') s₁) (notedBy (model prog w) A env fun e s' => R (.error e) s') s)
    (n : Nat) (h : I n s) (ht : ∀ v, letOwnedTupleGo t1 it v = pure () := by intro _; rfl) (hs : ∀ x, foldedSetIterable i2 env x = pure x := by intro _; rfl) :
    codeAny (model prog w) A (.compLoop (.ListComp elt [⟨t1, i1, ifs, 0⟩, ⟨t2, i2, [], 0⟩] scope pos) 0 it acc env) R s := by
  refine codeAny_loop rfl I (fun n s hI => ?_) n h
  show wpAny _ A ((compTurn (.ListComp elt [⟨t1, i1, ifs, 0⟩, ⟨t2, i2, [], 0⟩] scope pos) 0 it acc env).onRaise (fun x => do noteFrame x env; theTreesLotGoes x)) _ _ s
  refine wpAny_noted ?_
  rw [compTurn_out]
  refine wpAny_bind (wpAny_standAt (wpAny_bind (wpAny_mono (turn n s hI) (fun r s₁ h₁ => ?_) fun _ _ h' => h')))
  cases r with
  | none => exact wpAny_pure h₁
  | some v =>
    refine wpAny_bind (wpAny_of_eq (ht v) ?_)
    refine wpAny_bind (wpAny_mono h₁ (fun _ s₂ h₂ => wpAny_bind (wpAny_mono h₂ (fun ok s₃ h₃ => ?_) fun _ _ h' => h')) fun _ _ h' => h')
    cases ok with
    | false => exact wpAny_pure ⟨rfl, h₃⟩
    | true =>
      refine wpAny_bind (wpAny_mono h₃ (fun x s₄ h₄ => wpAny_bind (wpAny_standAt (wpAny_bind (wpAny_of_eq (hs x) (wpAny_bind (wpAny_holding (wpAny_mono h₄ (fun it₂ s₅ h₅ => ?_) fun _ _ h' => h'))))))) fun _ _ h' => h')
      exact wpAny_bind (wpAny_runOwn (codeAny_mono h₅ fun r s₆ h₆ => by
        cases r with
        | ok f => exact wpAny_pure ⟨rfl, h₆⟩
        | error e => exact h₆.elim))
theorem loop_in {elt t1 i1 t2 i2 : Expr} {ifs : List Expr} {scope : Scope} {pos : Pos} {it acc : Value} {env : Env} (I : Nat → Shared → Prop)
    (turn : ∀ n s, I n s → wpAny (model prog w) A (pyNext it) (fun r s₁ => match r with
      | none => R (.ok .next) s₁
      | some v => wpAny (model prog w) A (assign t2 env v) (fun _ s₂ => wpAny (model prog w) A (eval elt env) (fun x s₃ =>
          wpAny (model prog w) A (call (.builtin "list.append") [acc, x]) (fun _ s₄ => ∃ m, m < n ∧ I m s₄) (notedBy (model prog w) A env fun e s' => R (.error e) s') s₃)
          (notedBy (model prog w) A env fun e s' => R (.error e) s') s₂) (notedBy (model prog w) A env fun e s' => R (.error e) s') s₁) (notedBy (model prog w) A env fun e s' => R (.error e) s') s)
    (n : Nat) (h : I n s) (ht : ∀ v, letOwnedTupleGo t2 it v = pure () := by intro _; rfl) :
    codeAny (model prog w) A (.compLoop (.ListComp elt [⟨t1, i1, ifs, 0⟩, ⟨t2, i2, [], 0⟩] scope pos) 1 it acc env) R s := by
  refine codeAny_loop rfl I (fun n s hI => ?_) n h
  show wpAny _ _ ((compTurn (.ListComp elt [⟨t1, i1, ifs, 0⟩, ⟨t2, i2, [], 0⟩] scope pos) 1 it acc env).onRaise (fun x => do noteFrame x env; theTreesLotGoes x)) _ _ s
  refine wpAny_noted ?_
  rw [compTurn_in]
  refine wpAny_bind (wpAny_standAt (wpAny_bind (wpAny_mono (turn n s hI) (fun r s₁ h₁ => ?_) fun _ _ h' => h')))
  cases r with
  | none => exact wpAny_pure h₁
  | some v =>
    refine wpAny_bind (wpAny_of_eq (ht v) ?_)
    exact wpAny_bind (wpAny_mono h₁ (fun _ s₂ h₂ => wpAny_bind (wpAny_bind (wpAny_mono h₂ (fun x s₃ h₃ => wpAny_bind (wpAny_mono h₃
      (fun _ s₄ h₄ => wpAny_pure (wpAny_pure ⟨rfl, h₄⟩)) fun _ _ h' => h')) fun _ _ h' => h'))) fun _ _ h' => h')
theorem start_in {elt t1 i1 t2 i2 : Expr} {ifs : List Expr} {scope : Scope} {pos : Pos} {it acc : Value} {env : Env}
    (h0 : codeAny (model prog w) A (.compLoop (.ListComp elt [⟨t1, i1, ifs, 0⟩, ⟨t2, i2, [], 0⟩] scope pos) 1 it acc env) R s)
    (h : wpAny (model prog w) A (pyIter it) (fun it' s' => codeAny (model prog w) A (.compLoop (.ListComp elt [⟨t1, i1, ifs, 0⟩, ⟨t2, i2, [], 0⟩] scope pos) 1 it' acc env) R s')
      (notedBy (model prog w) A env fun x s' => R (.error x) s') s) :
    codeAny (model prog w) A (.compStart (.ListComp elt [⟨t1, i1, ifs, 0⟩, ⟨t2, i2, [], 0⟩] scope pos) 1 it acc env) R s := by
  refine codeAny_of_tree ?_
  show wpAny _ _ ((compStart (.ListComp elt [⟨t1, i1, ifs, 0⟩, ⟨t2, i2, [], 0⟩] scope pos) 1 it acc env).onRaise (fun x => do noteFrame x env; standAt theWindowsPlace)) _ _ s
  refine wpAny_notedAt ?_
  unfold compStart
  show wpAny _ _ (ask >>= _) _ _ s
  refine wpAny_bind (wpAny_askSetting (wpAny_ite ?_))
  split
  · first
      | exact wpAny_bind (wpAny_pure (wpAny_pure (And.intro rfl h0)))
      | exact wpAny_pure (And.intro rfl h0)
  · first
      | exact wpAny_bind (wpAny_rule (wpAny_bind (wpAny_standAt (wpAny_bind (wpAny_mono h (fun it' s' h' => wpAny_pure (And.intro rfl h')) fun _ _ x => x)))))
      | (refine wpAny_bind (wpAny_rule ?_); show wpAny _ _ (standAt i2.pos >>= _) _ _ s; exact wpAny_bind (wpAny_standAt (wpAny_bind (wpAny_mono h (fun it' s' h' => wpAny_pure (And.intro rfl h')) fun _ _ x => x))))
end
/-- how a name is read -/
def Rd (env : Env) (h : Heap) (x : Str) (v : Value) : Prop := (x == ("__debug__" : Str)) = false ∧ env.scope.kind = .function ∧
  ((env.kindOf x = some .local ∧ ∃ m, h.Ns env.locals m ∧ m x = some v) ∨ (∃ c, env.kindOf x = some .cell ∧ env.cells.lookup x = some c ∧ h.IsCell c (some v)) ∨
   (∃ c, env.kindOf x = some .free ∧ (x == ("__classdict__" : Str)) = false ∧ env.cells.lookup x = some c ∧ h.IsCell c (some v)) ∨
   (env.kindOf x = some .globalImplicit ∧ ∃ mg, h.Ns env.globals mg ∧ mg x = some v) ∨ (env.kindOf x = some .globalImplicit ∧ ∃ mg mb, h.Ns env.globals mg ∧ mg x = none ∧ h.Ns env.builtins mb ∧ mb x = some v))
theorem Rd.ns {env : Env} {h : Heap} {x : Str} {v : Value} {m : Str → Option Value} (hk : env.scope.kind = .function) (hx : env.kindOf x = some .local) (n : h.Ns env.locals m) (hm : m x = some v) (hd : (x == ("__debug__" : Str)) = false) : Rd env h x v := ⟨hd, hk, .inl ⟨hx, m, n, hm⟩⟩
section
variable {prog : Program} {w : World} {A : Around} {E : Value → Shared → Prop} {s : Shared} {env : Env} {x : Str} {v : Value}
theorem Rd.ok {px : Pos} {Q : Value → Shared → Prop} (r : Rd env s.heap x v) (h : Q v s) : wpAny (model prog w) A (eval (.Name x px) env) Q E s := by
  obtain ⟨hd, hk, ⟨hx, m, hn, hm⟩ | ⟨c, hx, hc, hv⟩ | ⟨c, hx, hcd, hc, hv⟩ | ⟨hx, mg, hg, hm⟩ | ⟨hx, mg, mb, hg, h0, hb, hm⟩⟩ := r
  · exact wpAny_Name (wpAny_loadName_local hk hx hn hm h) hd
  · exact wpAny_Name (wpAny_loadName_cell hk hx hc hv h) hd
  · exact wpAny_Name (wpAny_loadName_free hk hx hc hv h hcd) hd
  · exact PySem.Calls.Name_function_global hk hx (PySem.Calls.loadGlobal_global hg hm h) hd
  · exact PySem.Calls.Name_function_global hk hx (PySem.Calls.loadGlobal_builtin hg h0 hb hm h) hd
theorem Rd.keeps {h h' : Heap} (r : Rd env h x v) (k : ∀ b o, h.get? b = some o → h'.get? b = some o) : Rd env h' x v := by
  obtain ⟨hd, hk, r⟩ := r
  refine ⟨hd, hk, ?_⟩
  rcases r with ⟨hx, m, hn, hm⟩ | ⟨c, hx, hc, hv⟩ | ⟨c, hx, hcd, hc, hv⟩ | ⟨hx, mg, hg, hm⟩ | ⟨hx, mg, mb, hg, h0, hb, hm⟩
  · exact .inl ⟨hx, m, hn.keeps k, hm⟩
  · exact .inr (.inl ⟨c, hx, hc, hv.keeps k⟩)
  · exact .inr (.inr (.inl ⟨c, hx, hcd, hc, hv.keeps k⟩))
  · exact .inr (.inr (.inr (.inl ⟨hx, mg, hg.keeps k, hm⟩)))
  · exact .inr (.inr (.inr (.inr ⟨hx, mg, mb, hg.keeps k, h0, hb.keeps k, hm⟩)))
theorem Rd.loc {h₀ h : Heap} {m : Str → Option Value} (hk : env.scope.kind = .function) (hx : env.kindOf x = some .local) (F : Fr h₀ env.locals h m) (hm : m x = some v) (hd : (x == ("__debug__" : Str)) = false) : Rd env h x v :=
  ⟨hd, hk, .inl ⟨hx, m, F.ns, hm⟩⟩
theorem Rd.cell {h₀ h : Heap} {L c : Addr} {o : Obj} {led : List (Addr × Obj)} (hk : env.scope.kind = .function) (hx : env.kindOf x = some .cell) (hc : env.cells.lookup x = some c) (N : News h₀ L h led) (i : (c, o) ∈ led) (hv : o.data = .cell (some v)) (hd : (x == ("__debug__" : Str)) = false) : Rd env h x v :=
  ⟨hd, hk, .inr (.inl ⟨c, hx, hc, o, (N _ i).1, hv⟩)⟩
theorem Rd.free {h₀ h : Heap} {L c : Addr} {o : Obj} {led : List (Addr × Obj)} (hk : env.scope.kind = .function) (hx : env.kindOf x = some .free) (hc : env.cells.lookup x = some c) (N : News h₀ L h led) (i : (c, o) ∈ led) (hv : o.data = .cell (some v)) (hd : (x == ("__debug__" : Str)) = false) (hcd : (x == ("__classdict__" : Str)) = false) : Rd env h x v :=
  ⟨hd, hk, .inr (.inr (.inl ⟨c, hx, hcd, hc, o, (N _ i).1, hv⟩))⟩
theorem Rd.bi {h₀ h : Heap} {L : Addr} {m : Str → Option Value} {p : Program} {lo : List Str} {mg mb : Str → Option Value} (hk : env.scope.kind = .function) (hx : env.kindOf x = some .globalImplicit) (hg : env.globals = mainGlobals) (hb : env.builtins = builtinsNs) (F : Fr h₀ L h m) (X : (hd.heap_39 w.params).In h₀) (T : TopRead p lo mg mb h₀) (e : nsIn (hd.heap_39 w.params) mainGlobals x = some none) (hv : bootBuiltins x = some v) (hn : x ≠ "__name__") (hd : (x == ("__debug__" : Str)) = false) : Rd env h x v :=
  ⟨hd, hk, .inr (.inr (.inr (.inr ⟨hx, mg, mb, hg ▸ T.g.keeps F.keep, mg_none_of X T.g e, hb ▸ T.b.keeps F.keep, (T.builtins x hn).trans hv⟩)))⟩
theorem Rd.glo {h₀ h : Heap} {L : Addr} {m : Str → Option Value} {p : Program} {lo : List Str} {mg mb : Str → Option Value} (hk : env.scope.kind = .function) (hx : env.kindOf x = some .globalImplicit) (hg : env.globals = mainGlobals) (F : Fr h₀ L h m) (X : (hd.heap_39 w.params).In h₀) (T : TopRead p lo mg mb h₀) (e : nsIn (hd.heap_39 w.params) mainGlobals x = some (some v)) (hd : (x == ("__debug__" : Str)) = false) : Rd env h x v :=
  ⟨hd, hk, .inr (.inr (.inr (.inl ⟨hx, mg, hg ▸ T.g.keeps F.keep, mg_of X T.g e⟩)))⟩
/-- range(len(x)) -/
theorem range_len {h₀ : Heap} {L l : Addr} {m : Str → Option Value} {news : List (Addr × Obj)} {items : Array Value} {p1 p2 p3 p4 p5 : Pos} {Q : Value → Shared → Prop} (F : Fr h₀ L s.heap m) (N : News h₀ L s.heap news)
    (r1 : Rd env s.heap (Str.ofString "range") (.type "range")) (r2 : Rd env s.heap (Str.ofString "len") (.builtin "len")) (r3 : Rd env s.heap x (.ref l)) (hl : s.heap.IsList l items) (hz : items.size ≤ 64)
    (h : ∀ h' tk t₁ u₁ v₁, IsRange h' s.heap.objs.size 0 items.size 1 t₁ u₁ v₁ → Fr h₀ L h' m → News h₀ L h' news → (∀ b o, s.heap.get? b = some o → h'.get? b = some o) → Q (.ref s.heap.objs.size) { s with heap := h', toks := tk }) :
    wpAny (model prog w) A (eval (.Call (.Name (Str.ofString "range") p1) [.Call (.Name (Str.ofString "len") p2) [.Name x p3] [] p4] [] p5) env) Q E s := by
  refine PyProof.Rows.Call_ (r1.ok ?_)
  refine PyProof.Rows.callWith_type1 (PySem.Calls.spliced_cons ?_)
  refine PyProof.Rows.Call_ (r2.ok ?_)
  refine PyProof.Rows.callWith_builtin1 (PySem.Calls.spliced_cons (r3.ok (PySem.Calls.spliced_nil ?_)))
  refine PyProof.Rows.len_list hl (by omega) ?_
  refine PySem.Calls.spliced_nil ?_
  exact range1_rows (s := { s with toks := s.toks + 1 + 1 }) F N h
end
inductive RdArgs (env : Env) (h : Heap) : List Expr → List Value → Prop
  | nil : RdArgs env h [] []
  | cons {x px v r vs} : Rd env h x v → RdArgs env h r vs → RdArgs env h (.Name x px :: r) (v :: vs)
section
variable {prog : Program} {w : World} {A : Around} {E : Value → Shared → Prop} {s : Shared} {env : Env} {x : Str} {v : Value}
theorem RdArgs.ok {pos : Pos} {es : List Expr} {vs : List Value} (h : RdArgs env s.heap es vs) : ∀ {Q : List Value → Shared → Prop}, Q vs s → wpAny (model prog w) A (spliced (backTo pos (starEach es env))) Q E s ∧ (backTo pos (starEach es env)).any (·.1) = false := by
  induction h with
  | nil => intro Q hq; exact ⟨PySem.Calls.spliced_nil hq, rfl⟩
  | cons h1 _ ih => intro Q hq; exact ⟨PySem.Calls.spliced_cons (h1.ok (ih (Q := fun vs s' => Q (_ :: vs) s') hq).1), (ih (Q := fun _ _ => True) trivial).2⟩
theorem callR {fx : Str} {pf pos : Pos} {es : List Expr} {fa : Addr} {vs : List Value} {Q : Value → Shared → Prop} (X : (hd.heap_39 w.params).In s.heap)
    (h0 : Rd env s.heap fx (.ref fa)) (hkeep : keepIn (hd.heap_39 w.params) (.ref fa) = true) (h1 : RdArgs env s.heap es vs) (h : wpAny (model prog w) A (call (.ref fa) vs) Q E s) :
    wpAny (model prog w) A (eval (.Call (.Name fx pf) es [] pos) env) Q E s := by
  refine PyProof.Rows.Call_ (h0.ok ?_)
  cases h1 with
  | nil => exact callWith_K0 X hkeep h
  | @cons x px v r vs h1 h2 =>
    have z := RdArgs.ok (prog := prog) (w := w) (A := A) (E := E) (pos := pos) (.cons (px := px) h1 h2) (Q := fun vs s₁ => (hd.heap_39 w.params).In s₁.heap ∧ wpAny (model prog w) A (call (.ref fa) ([] ++ vs)) Q E s₁) ⟨X, h⟩
    have hany := z.2
    rw [show starEach (Expr.Name x px :: r) env = (false, eval (Expr.Name x px) env) :: starEach r env from rfl] at hany
    exact callWith_K (h₀ := s.heap) X hkeep z.1 rfl (by simpa [backTo] using hany)
/-- len(x) -/
theorem len_name {p2 p3 p4 : Pos} {l : Addr} {items : Array Value} {Q : Value → Shared → Prop} (r2 : Rd env s.heap (Str.ofString "len") (.builtin "len")) (r3 : Rd env s.heap x (.ref l)) (hl : s.heap.IsList l items) (hz : items.size ≤ 64)
    (h : Q (.int items.size (s.toks + 1)) { s with toks := s.toks + 1 + 1 }) : wpAny (model prog w) A (eval (.Call (.Name (Str.ofString "len") p2) [.Name x p3] [] p4) env) Q E s := by
  refine PyProof.Rows.Call_ (r2.ok ?_)
  refine PyProof.Rows.callWith_builtin1 (PySem.Calls.spliced_cons (r3.ok (PySem.Calls.spliced_nil ?_)))
  exact PyProof.Rows.len_list hl (by omega) h
/-- y < len(x) -/
theorem lt_len {y : Str} {k : Int} {tk : Tok} {p1 p2 p3 p4 p5 : Pos} {l : Addr} {items : Array Value} {whole : Sem Value} {Q : Bool → Shared → Prop} (r1 : Rd env s.heap y (.int k tk)) (r2 : Rd env s.heap (Str.ofString "len") (.builtin "len")) (r3 : Rd env s.heap x (.ref l)) (hl : s.heap.IsList l items) (hz : items.size ≤ 64)
    (h : ∀ tk', Q (decide (k < (items.size : Int))) { s with toks := tk' }) : wpAny (model prog w) A (isTrue (.Compare (.Name y p1) [.Lt] [.Call (.Name (Str.ofString "len") p2) [.Name x p3] [] p4] p5) env whole) Q E s :=
  wpAny_isTrue_Compare1 (r1.ok (len_name r2 r3 hl hz (PyProof.Rows.lt_int (wpAny_truthy_bool (h _))))) rfl
/-- an item of a list at hand -/
theorem item_name {y : Str} {k : Int} {tk : Tok} {p1 p2 p3 : Pos} {l : Addr} {items : Array Value} {Q : Value → Shared → Prop} (r1 : Rd env s.heap x (.ref l)) (r2 : Rd env s.heap y (.int k tk)) (hl : s.heap.IsList l items) (h0 : 0 ≤ k) (h63 : k < 2 ^ 63) (hx : items[k.toNat]? = some v) (h : Q v s) :
    wpAny (model prog w) A (eval (.Subscript (.Name x p1) (.Name y p2) p3) env) Q E s := by
  refine Subscript_ (r1.ok (r2.ok ?_))
  exact tail_any (Heap.IsList.typeIs hl) slot_list_getitem.lookup (wpAny_getItem_list hl h0 h63 hx h) (by with_unfolding_all rfl)
variable {h₀ : Heap} {body : List Stmt} {Q : Flow → Shared → Prop} {m₀ : Str → Option Value} {news : List (Addr × Obj)}
/-- for x in range(len(y)) -/
theorem for_range_len {y : Str} {l : Addr} {items : Array Value} {px p1 p2 p3 p4 p5 pos : Pos} (g : Str) (K : Nat → List (Addr × Obj) → Prop) (hh : A.handled = none) (hx : env.kindOf x = some .local) (hp : (env.scope.kind == .class || (env.scope.kind == .module && env.locals != env.globals)) = false)
    (F : Fr h₀ env.locals s.heap m₀) (N : News h₀ env.locals s.heap news)
    (r1 : Rd env s.heap (Str.ofString "range") (.type "range")) (r2 : Rd env s.heap (Str.ofString "len") (.builtin "len")) (r3 : Rd env s.heap y (.ref l)) (hl : s.heap.IsList l items) (hz : items.size ≤ 64) (h0 : K 0 news)
    (turn : ∀ i t u news₁ I oI h tk, i < items.size → K i news₁ → Fr h₀ env.locals h (fun z => if z = x then some (.int i t) else if z = g then u else m₀ z) → News h₀ env.locals h ((I, oI) :: news₁) → (∀ p ∈ news₁, p.1 ≠ I) →
      wpAny (model prog w) A (execs body env) (TurnP h₀ env.locals I oI (Dirt x g m₀ (K (i + 1))) { s with heap := h, toks := tk } Q) E { s with heap := h, toks := tk })
    (done : ∀ f u news₁ h tk, K items.size news₁ → Fr h₀ env.locals h (fun z => if z = x then f else if z = g then u else m₀ z) → News h₀ env.locals h news₁ → Q .next { s with heap := h, toks := tk })
    (hE : PassesOwn (model prog w) A env E := by passes_own) :
    wpAny (model prog w) A (exec (.For (.Name x px) (.Call (.Name (Str.ofString "range") p1) [.Call (.Name (Str.ofString "len") p2) [.Name y p3] [] p4] [] p5) body [] pos) env) Q E s := by
  refine For_invVF F hx hp ?_ (fun _ => rfl) hE
  refine range_len F N r1 r2 r3 hl hz fun h' tk t₁ u₁ v₁ hr F' N' k' => ?_
  refine iter_range0 (s := { s with heap := h', toks := tk }) (n := items.size) g K hh F' N' hr (small_one (by decide) (by decide) (by omega) (by omega)) (by rw [rangeSize_nat]; omega) h0 ?_ done
  intro i t u news₁ I oI h tk hi hK F₁ N₁ o
  rw [Int.mul_one, Int.zero_add] at F₁
  exact turn i t u news₁ I oI h tk hi hK F₁ N₁ o
end
theorem Off1.all {D : Addr} : ∀ {l : List (Addr × Obj)}, LCg.Off1 D l → ∀ p ∈ l, p.1 ≠ D
  | [], _, _, h => nomatch h
  | q :: r, x, p, h => (List.mem_cons.mp h).elim (fun e => e ▸ x.1) (Off1.all x.2 p)
theorem small64 {n : Nat} (h : n ≤ 64) : Builtin.Range.small 0 (n : Int) 1 = true := small_one (by decide) (by decide) (by omega) (by omega)
theorem sizeN {n : Nat} : Builtin.Range.rangeSize 0 (n : Int) 1 = ((n : Nat) : Int) := by rw [rangeSize_nat]; omega
theorem flags_eq {n : Nat} {ys : List Value} (hl : ys.length = n) (h : ∀ (i : Nat) (y : Value), ys[i]? = some y → y = .bool (decide (i = 0))) : ys = (flag0 n).map .bool := by
  refine List.ext_getElem? fun i => ?_
  unfold flag0
  rw [List.map_map, List.getElem?_map]
  by_cases hi : i < n
  · rw [List.getElem?_range hi]
    have := h i ys[i] (List.getElem?_eq_getElem (hl ▸ hi))
    rw [List.getElem?_eq_getElem (hl ▸ hi), this]; rfl
  · rw [List.getElem?_eq_none (by omega), List.getElem?_eq_none (by simp; omega)]; rfl
abbrev boolsO (fl : List Bool) (k : Nat) : Obj := listOf (fl.map Value.bool).toArray k
theorem isListOf {h : Heap} {l : Addr} {its : Array Value} {k : Nat} (e : h.get? l = some (listOf its k)) : h.IsList l its := ⟨_, e, rfl, k, rfl⟩
theorem news_set1 {h₀ h h' : Heap} {L D : Addr} {o o' : Obj} {r : List (Addr × Obj)} (N : News h₀ L h ((D, o) :: r)) (hs : Heap.SameBut D h h') (e : h'.get? D = some o') (off : ∀ p ∈ r, p.1 ≠ D) : News h₀ L h' ((D, o') :: r) := fun p hp => by
  rcases List.mem_cons.mp hp with rfl | hp
  · exact ⟨e, (N (D, o) (.head _)).2⟩
  · exact ⟨hs.extBut _ _ (off p hp) (N p (.tail _ hp)).1, (N p (.tail _ hp)).2⟩
section
variable {prog : Program} {w : World} {A : Around} {E : Value → Shared → Prop} {s : Shared} {env : Env} {h₀ : Heap} {m : Str → Option Value}
theorem flags_set {D : Addr} {fl : List Bool} {k : Nat} {g : Int} {tk : Tok} {Q : Unit → Shared → Prop} (ho : s.heap.get? D = some (boolsO fl k)) (h0 : 0 ≤ g) (hn : g < (fl.length : Int)) (hz : fl.length ≤ 64)
    (h : ∀ h', Heap.SameBut D s.heap h' → h'.get? D = some (boolsO (setOne fl g) k) → Q () { s with heap := h' }) :
    wpAny (model prog w) A (setItem (.ref D) (.int g tk) (.bool true)) Q E s := by
  refine ki_setAt ho h0 (by omega) (by simpa using hn) (h _ (Heap.SameBut.update ..) ?_)
  have q := PySem.IsL.update ho (·.setIfInBounds g.toNat (.bool true))
  rw [q]
  unfold setOne
  rw [if_pos hn]
  simp [List.map_set]
theorem inner_body {l D : Addr} {items : Array Value} {fl : List Bool} {k kk : Nat} {g : Int} {tk : Tok} {q1 q2 q3 q4 q5 q6 q7 q8 q9 q10 q11 : Pos} {Q : Flow → Shared → Prop}
    (rg : Rd env s.heap (Str.ofString "goal") (.int g tk)) (rl : Rd env s.heap (Str.ofString "len") (.builtin "len")) (ro : Rd env s.heap (Str.ofString "orders") (.ref l)) (rf : Rd env s.heap (Str.ofString "flags") (.ref D))
    (hl : s.heap.IsList l items) (hz : items.size ≤ 64) (ho : s.heap.get? D = some (boolsO fl k)) (hfl : fl.length = items.size) (h0 : 0 ≤ g)
    (ret : ∀ h' tk, Heap.SameBut D s.heap h' → h'.get? D = some (boolsO (setOne fl g) k) → Q .next { s with heap := h', toks := tk }) :
    wpAny (model prog w) A (execs [.If (.Compare (.Name (Str.ofString "goal") q1) [.Lt] [.Call (.Name (Str.ofString "len") q2) [.Name (Str.ofString "orders") q3] [] q4] q5) [.Assign [.Subscript (.Name (Str.ofString "flags") q6) (.Name (Str.ofString "goal") q7) q8] (.Constant (.bool true) kk q9) q10] [] q11] env) Q E s := by
  refine wpAny_execs_cons (wpAny_If (lt_len rg rl ro hl hz fun tk' => ?_))
  by_cases hlt : g < (items.size : Int)
  · rw [decide_eq_true hlt, if_pos rfl]
    refine wpAny_execs_cons (wpAny_Assign_Subscript (wpAny_Constant_bool (Rd.ok (s := { s with toks := tk' }) rf (Rd.ok (s := { s with toks := tk' }) rg (flags_set (s := { s with toks := tk' }) ho h0 (by rw [hfl]; exact hlt) (by omega) fun h' hs e => ?_)))))
    exact wpAny_execs_nil (wpAny_execs_nil (ret h' tk' hs e))
  · rw [decide_eq_false hlt, if_neg Bool.false_ne_true]
    refine wpAny_execs_nil (wpAny_execs_nil (ret s.heap tk' (.refl ..) ?_))
    unfold setOne
    rw [if_neg (by rw [hfl]; exact hlt)]
    exact ho
end
theorem ints_get : ∀ {vs : List Value} {ns : List Int} {j : Nat} {v : Value}, IntsAre vs ns → vs[j]? = some v → ∃ g t, v = .int g t ∧ ns[j]? = some g
  | _, _, _, _, .nil, h => nomatch h
  | _, _, 0, _, .cons n t _, h => ⟨n, t, (Option.some.inj h).symm, rfl⟩
  | _, _, j + 1, _, .cons n t r, h => ints_get (j := j) r h
theorem Fr.of_map {h₀ h : Heap} {L : Addr} {m m' : Str → Option Value} (F : Fr h₀ L h m) (e : ∀ z, m z = m' z) : Fr h₀ L h m' := (funext e : m = m') ▸ F
section
variable {prog : Program} {w : World} {A : Around} {E : Value → Shared → Prop} {s : Shared} {env : Env} {h₀ : Heap} {m : Str → Option Value}
/-- between the turns of reached_orders' loop: the flags, all else at hand as it was -/
def FlJ (fs : List Fld) (D : Addr) (base : List (Addr × Obj)) (fl : List Bool) (nw : List (Addr × Obj)) : Prop := ∃ k nw', nw = (D, boolsO fl k) :: nw' ∧ (∀ p ∈ nw', p.1 ≠ D) ∧ fl.length = fs.length ∧ ∀ p ∈ base, p ∈ nw'
theorem outer_body {l D I : Addr} {oI : Obj} {vs : List Value} {fs : List Fld} {nn i : Nat} {t : Tok} {base nw : List (Addr × Obj)} {fl : List Bool} {f : Fld} {q1 q2 q3 q4 q5 q6 q7 q8 q9 q10 q11 q12 q13 q14 q15 q16 q17 q18 q19 q20 : Pos} {kk : Nat} {Q : Flow → Shared → Prop}
    (hh : A.handled = none) (hk : env.scope.kind = .function) (hxg : env.kindOf (Str.ofString "goal") = some .local) (hp : (env.scope.kind == .class || (env.scope.kind == .module && env.locals != env.globals)) = false)
    (F : Fr h₀ env.locals s.heap m) (N : News h₀ env.locals s.heap ((I, oI) :: nw)) (hI : ∀ p ∈ nw, p.1 ≠ I) (J : FlJ fs D base fl nw)
    (rl : ∀ {h m'}, Fr h₀ env.locals h m' → Rd env h (Str.ofString "len") (.builtin "len")) (hro : env.kindOf (Str.ofString "orders") = some .local) (hmo : m (Str.ofString "orders") = some (.ref l))
    (hrf : ∀ h, News h₀ env.locals h base → Rd env h (Str.ofString "flags") (.ref D)) (hra : env.kindOf (Str.ofString "at") = some .local) (hma : m (Str.ofString "at") = some (.int i t))
    (rg : Rd env s.heap (Str.ofString "goals_of_classic") (.ref 122)) (X : (hd.heap_39 w.params).In h₀)
    (i1 : (l, listOf vs.toArray nn) ∈ base) (hv : vs.length = fs.length) (hz : fs.length ≤ 64) (hf : fs[i]? = some f) (hok : FldOk f)
    (hcall : ∀ (news : List (Addr × Obj)) {Q : Value → Shared → Prop}, News h₀ env.locals s.heap news → (∀ p ∈ base, p ∈ news) →
      (∀ Dg ys k h' tk', IntsAre ys (goalsF f i) → Fr h₀ env.locals h' m → News h₀ env.locals h' ((Dg, listOf (List.toArray ys) k) :: news) → (∀ p ∈ news, p.1 < Dg) → Q (.ref Dg) { s with heap := h', toks := tk' }) → wpAny (model prog w) A (call (.ref 122) [.ref l, .int i t]) Q E s)
    (hE : PassesOwn (model prog w) A env E)
    (ret : ∀ g h' tk nw', Fr h₀ env.locals h' (fun z => if z = Str.ofString "goal" then g else m z) → News h₀ env.locals h' ((I, oI) :: nw') → (∀ p ∈ nw', p.1 ≠ I) → FlJ fs D base (if fl.getD i false = true then (goalsF f i).foldl setOne fl else fl) nw' → Q .next { s with heap := h', toks := tk }) :
    wpAny (model prog w) A (execs [.If (.Subscript (.Name (Str.ofString "flags") q1) (.Name (Str.ofString "at") q2) q3)
      [.For (.Name (Str.ofString "goal") q4) (.Call (.Name (Str.ofString "goals_of_classic") q5) [.Name (Str.ofString "orders") q6, .Name (Str.ofString "at") q7] [] q8)
        [.If (.Compare (.Name (Str.ofString "goal") q9) [.Lt] [.Call (.Name (Str.ofString "len") q10) [.Name (Str.ofString "orders") q11] [] q12] q13) [.Assign [.Subscript (.Name (Str.ofString "flags") q14) (.Name (Str.ofString "goal") q15) q16] (.Constant (.bool true) kk q17) q18] [] q19] [] q20] [] q3] env) Q E s := by
  obtain ⟨k, nw', rfl, hD, hfl, hs⟩ := J
  have hi : i < fs.length := (List.getElem?_eq_some_iff.mp hf).1
  have Nb : ∀ {h : Heap} {r : List (Addr × Obj)}, News h₀ env.locals h r → (∀ p ∈ base, p ∈ r) → News h₀ env.locals h base := fun N sub p hp => N p (sub p hp)
  have sub0 : ∀ p ∈ base, p ∈ (I, oI) :: (D, boolsO fl k) :: nw' := fun p hp => .tail _ (.tail _ (hs p hp))
  have hDg : s.heap.get? D = some (boolsO fl k) := (N (D, boolsO fl k) (.tail _ (.head _))).1
  have hx : (fl.map Value.bool).toArray[(i : Int).toNat]? = some (.bool (fl.getD i false)) := by
    simp only [Int.toNat_natCast, List.getElem?_toArray, List.getElem?_map, List.getD_eq_getElem?_getD]
    rw [List.getElem?_eq_getElem (by omega)]; rfl
  refine wpAny_execs_cons (wpAny_If (wpAny_isTrue_value (item_name (hrf _ (Nb N sub0)) (Rd.loc hk hra F hma rfl) (isListOf hDg) (by omega) (by omega) hx (wpAny_truthy_bool ?_))))
  by_cases hb : fl.getD i false = true
  · rw [if_pos hb]
    refine wpAny_execs_cons (For_invVF F hxg hp (callR (X.keeps F.keep) rg (by k_is) (.cons (Rd.loc hk hro F hmo rfl) (.cons (Rd.loc hk hra F hma rfl) .nil)) (hcall _ N sub0 fun Dg ys kg h' tk' hys F' N' lg => ?_)) (fun _ => rfl) hE)
    refine iter_list0 (s := { s with heap := h', toks := tk' }) (vs := ys) (nn := kg) (Str.ofString "goal") (fun j nw₁ => ∃ k₁ nw₂, nw₁ = (D, boolsO (((goalsF f i).take j).foldl setOne fl) k₁) :: nw₂ ∧ (∀ p ∈ nw₂, p.1 ≠ D) ∧ ∀ p ∈ (Dg, listOf ys.toArray kg) :: (I, oI) :: nw', p ∈ nw₂)
      hh F' (news := (D, boolsO fl k) :: (Dg, listOf ys.toArray kg) :: (I, oI) :: nw') ?_ ?_ ?_ ?_ ?_
    · intro p hp
      refine N' p ?_
      rcases List.mem_cons.mp hp with rfl | hp
      · exact .tail _ (.tail _ (.head _))
      · rcases List.mem_cons.mp hp with rfl | hp
        · exact .head _
        · rcases List.mem_cons.mp hp with rfl | hp
          · exact .tail _ (.head _)
          · exact .tail _ (.tail _ (.tail _ hp))
    · rintro j nw₁ ⟨k₁, nw₂, rfl, _, h2⟩; exact .tail _ (h2 _ (.head _))
    · refine ⟨k, _, rfl, fun p hp => ?_, fun p hp => hp⟩
      rcases List.mem_cons.mp hp with rfl | hp
      · exact Nat.ne_of_gt (lg (D, boolsO fl k) (.tail _ (.head _)))
      · rcases List.mem_cons.mp hp with rfl | hp
        · exact Ne.symm (hI (D, boolsO fl k) (.head _))
        · exact hD p hp
    · rintro j v u nw₁ I₂ oI₂ h tk hj ⟨k₁, nw₂, rfl, h1, h2⟩ F₁ N₁ o₁
      obtain ⟨g, tg, rfl, hg⟩ := ints_get hys hj
      have hg0 : 0 ≤ g := by have := goals_fwd hok (List.mem_of_getElem? hg); omega
      have F₂ : Fr h₀ env.locals h (fun z => if z = Str.ofString "goal" then some (.int g tg) else m z) := by
        refine Fr.of_map F₁ (fun z => ?_)
        by_cases e : z = Str.ofString "goal" <;> simp [e]
      have e3 : h.get? D = some (boolsO (((goalsF f i).take j).foldl setOne fl) k₁) := (N₁ (D, _) (.tail _ (.head _))).1
      have subb : ∀ p ∈ base, p ∈ (I₂, oI₂) :: (D, boolsO (((goalsF f i).take j).foldl setOne fl) k₁) :: nw₂ := fun p hp => .tail _ (.tail _ (h2 _ (.tail _ (.tail _ (hs p hp)))))
      refine inner_body (s := { s with heap := h, toks := tk }) (l := l) (D := D) (items := vs.toArray) (fl := ((goalsF f i).take j).foldl setOne fl) (k := k₁) (g := g) (tk := tg) (Rd.loc hk hxg F₂ (by simp) rfl)
        (rl F₁) (Rd.loc hk hro F₂ ((if_neg (by decide)).trans hmo) rfl) (hrf _ (Nb N₁ subb)) (isListOf (N₁ _ (subb _ i1)).1) (by simp; omega) e3 (by rw [fold_len]; simp; omega) hg0 ?_
      intro h' tk' hsb e
      have zD := N₁ (D, _) (.tail _ (.head _))
      refine TurnP.intro (s := { s with heap := h, toks := tk }) (news' := (D, boolsO (setOne (((goalsF f i).take j).foldl setOne fl) g) k₁) :: nw₂) (F₂.change hsb zD.2.1 zD.2.2) (fun p hp => ?_) (fun p hp => ?_) ⟨⟨k₁, nw₂, ?_, h1, h2⟩, fun z a _ => if_neg a⟩
      · rcases List.mem_cons.mp hp with rfl | hp
        · exact ⟨hsb.extBut _ _ (Ne.symm (o₁ (D, _) (.head _))) (N₁ _ (.head _)).1, (N₁ _ (.head _)).2⟩
        · rcases List.mem_cons.mp hp with rfl | hp
          · exact ⟨e, zD.2⟩
          · exact ⟨hsb.extBut _ _ (h1 p hp) (N₁ p (.tail _ (.tail _ hp))).1, (N₁ p (.tail _ (.tail _ hp))).2⟩
      · rcases List.mem_cons.mp hp with rfl | hp
        · exact o₁ (D, boolsO (((goalsF f i).take j).foldl setOne fl) k₁) (.head _)
        · exact o₁ p (.tail _ hp)
      · rw [List.take_add_one, hg, List.foldl_append]; rfl
    · rintro g u nw₁ h tk ⟨k₁, nw₂, rfl, h1, h2⟩ F₁ N₁
      rw [hys.length, List.take_length] at N₁
      refine wpAny_execs_nil (wpAny_execs_nil (ret g h tk ((D, boolsO ((goalsF f i).foldl setOne fl) k₁) :: nw') ?_ (fun p hp => ?_) (fun p hp => ?_) ?_))
      · refine Fr.of_map F₁ (fun z => ?_)
        by_cases e : z = Str.ofString "goal" <;> simp [e]
      · rcases List.mem_cons.mp hp with rfl | hp
        · exact N₁ _ (.tail _ (h2 _ (.tail _ (.head _))))
        · rcases List.mem_cons.mp hp with rfl | hp
          · exact N₁ _ (.head _)
          · exact N₁ _ (.tail _ (h2 _ (.tail _ (.tail _ hp))))
      · rcases List.mem_cons.mp hp with rfl | hp
        · exact hI (D, boolsO fl k) (.head _)
        · exact hI p (.tail _ hp)
      · rw [if_pos hb]
        exact ⟨k₁, nw', rfl, hD, by rw [fold_len, hfl], hs⟩
  · rw [if_neg hb]
    refine wpAny_execs_nil (wpAny_execs_nil (ret (m (Str.ofString "goal")) s.heap s.toks ((D, boolsO fl k) :: nw') ?_ N hI ?_))
    · refine Fr.of_map F (fun z => ?_)
      by_cases e : z = Str.ofString "goal" <;> simp [e]
    · rw [if_neg hb]
      exact ⟨k, nw', rfl, hD, hfl, hs⟩
end
section
open PyProof.Rows.LCg
variable {prog : Program} {w : World} {A : Around} {E : Value → Shared → Prop} {s : Shared} {h₀ : Heap} {L : Addr} {m : Str → Option Value} {env : Env}
/-- the end of a turn that makes nothing -/
theorem comp_end0 {s₁ : Shared} {h : Heap} {tk : Nat} {I C D : Addr} {oI oC oD : Obj} {rest : Value → List (Addr × Obj) → Prop} {y : Value} {nw : List (Addr × Obj)} (F : Fr h₀ L h m) (N : News h₀ L h ((I, oI) :: (C, oC) :: (D, oD) :: nw)) (off : Off3 I C D nw) (r : rest y nw) :
    CompEnd h₀ L m s₁ I oI C oC D oD (fun _ => True) rest y { s₁ with heap := h, toks := tk } := CompEnd.intro F N nw (fun _ h => h) off trivial r
/-- [x for x in range(len(y)) if z[x]] over a list of flags -/
theorem comp_flags {x y z : Str} {p1 p2 p3 p4 p5 p6 p7 p8 p9 px pos : Pos} {scope : Scope} {cl : List (Str × Addr)} {l D : Addr} {items : Array Value} {fl : List Bool} {k : Nat} {news : List (Addr × Obj)} {Q : Value → Shared → Prop}
    (hh : A.handled = none) (F : Fr h₀ L s.heap m) (N : News h₀ L s.heap news)
    (hclos : closureFor scope env = pure cl) (hcell : ∀ y ∈ scope.names, y.2 ≠ .cell) (hkind : scope.kind = .function) (hnames : ∀ y ∈ scope.names, y.2 = .local → scope.names.lookup y.1 = some .local) (hx : scope.names.lookup x = some .local)
    (r1 : Rd env s.heap (Str.ofString "range") (.type "range")) (r2 : Rd env s.heap (Str.ofString "len") (.builtin "len")) (r3 : Rd env s.heap y (.ref l)) (hl : s.heap.IsList l items) (hz : items.size ≤ 64) (hfl : fl.length = items.size)
    (iD : (D, boolsO fl k) ∈ news) (hxl : ∀ C, (compEnvC scope cl C env).kindOf x = some .local) (hck : ∀ C, (compEnvC scope cl C env).scope.kind = .function) (hxd : (x == ("__debug__" : Str)) = false)
    (rz : ∀ C h, News h₀ L h news → Rd (compEnvC scope cl C env) h z (.ref D))
    (fin : ∀ ys D' h tk, IntsAre ys (((List.range items.size).filter fun i => fl.getD i false).map fun i : Nat => (0 : Int) + (i : Int)) → Fr h₀ L h m → News h₀ L h ((D', lst ys) :: news) → Off1 D' news → Q (.ref D') { s with heap := h, toks := tk }) :
    wpAny (model prog w) A (eval (.ListComp (.Name x p9) [⟨.Name x px, .Call (.Name (Str.ofString "range") p1) [.Call (.Name (Str.ofString "len") p2) [.Name y p3] [] p4] [] p5, [.Subscript (.Name z p6) (.Name x p7) p8], 0⟩] scope pos) env) Q E s := by
  refine LCt.ListComp_T F hclos hcell hkind hnames hx (range_len F N r1 r2 r3 hl hz fun h' tk t₁ u₁ v₁ hr F' N' k' => ?_)
  refine LCt.CompSrcT.range hh F' N' hr (small_one (by decide) (by decide) (by omega) (by omega)) sizeN (by exact Nat.le_trans hz (by decide)) fun g => ?_
  refine comp_filter (fun i => fl.getD i false) (fun ys hys D' h tk F₁ N₁ o₁ => fin ys D' h tk hys F₁ N₁ o₁) ?_
  intro i t ys I oI C oC D₂ m₂ h tk E' hi hC hxm F₁ N₁ off ne
  have nC : h.Ns C m₂ := hC.ns (N₁ (C, oC) (.tail _ (.head _))).1
  have N₂ : News h₀ L h news := fun p hp => N₁ p (.tail _ (.tail _ (.tail _ hp)))
  have rx : Rd (compEnvC scope cl C env) h x (.int (0 + (i : Int)) t) := Rd.ns (hck C) (hxl C) nC hxm hxd
  have hb : (fl.map Value.bool).toArray[((0 : Int) + (i : Int)).toNat]? = some (.bool (fl.getD i false)) := by
    rw [show ((0 : Int) + (i : Int)).toNat = i by omega]
    simp only [List.getElem?_toArray, List.getElem?_map, List.getD_eq_getElem?_getD]
    rw [List.getElem?_eq_getElem (by omega)]; rfl
  refine wpAny_isTrue_value (item_name (s := { s with heap := h, toks := tk }) (rz C h N₂) rx (isListOf (N₂ _ iD).1) (by omega) (by omega) hb (wpAny_truthy_bool ?_))
  by_cases e : fl.getD i false = true
  · rw [if_pos e]
    exact rx.ok (s := { s with heap := h, toks := tk }) (comp_end0 F₁ N₁ off ⟨rfl, e, t, rfl⟩)
  · rw [if_neg e]
    exact comp_end0 F₁ N₁ off ⟨rfl, Bool.eq_false_iff.mpr e⟩
end
theorem flag_at {i : Nat} : ((0 : Int) + (i : Int) == 0) = decide (i = 0) := by
  rw [Int.zero_add]
  exact decide_eq_decide.mpr (by omega)
/-- where the walk is to halt -/
def Stop (p : Prop) : Prop := p
theorem stop_of {p : Prop} (h : Stop p) : p := h
section
variable {w : World} {p : Program} {lo : List Str} {mean : ExcName → Option Value} {mg mb : Str → Option Value} {dp un : Nat} {gd : Option (List Code)} {cn : Str} {cs : Scope} {a : Addr} {ccd : Value} {cl : List (Str × Addr)} {outer : List Env} {A₀ : Around} {base h₀ : Heap} {L : Addr} {m : Str → Option Value} {s : Shared} {Q E : Value → Shared → Prop} {news : List (Addr × Obj)}
  {vs : List Value} {fs : List Fld} {l : Addr} {nn : Nat}
theorem reached (cx : Cx w p lo mean mg mb A₀ base outer h₀ L s.heap m cs) (N : News h₀ L s.heap news) (i1 : (l, listOf (List.toArray vs) nn) ∈ news) (hO : Ords w news vs fs) (hz : fs.length ≤ 7) (hR : ∀ f ∈ fs, FldOk f) (hd : dp + 7 < recursionLimit)
  (ret : ∀ D ys k nw h' tk', IntsAre ys (((List.range fs.length).filter fun i => (flAt fs fs.length).getD i false).map fun i : Nat => (0 : Int) + (i : Int)) → Fr h₀ L h' m → News h₀ L h' ((D, listOf (List.toArray ys) k) :: nw) → (∀ p ∈ news, p ∈ nw) → Q (.ref D) { s with heap := h', toks := tk' }) :
  wpAny (model PySem.Challenge.rw_rg0263_01.row.prog w) (ktrTop dp un gd cn cs L a ccd cl outer) (call (.ref 238) [.ref l]) Q E s := by
  obtain ⟨B, F, X, T, hk⟩ := cx
  have hv : vs.toArray.size = fs.length := hO.1
  (refine wpAny_call ?_; k_dflt (refine' code_defC ?qk1 ?qk2 ?qk3 ?qk4 ?qk5 ?qkA ?qkF ?qkK ?qk6 ?qk7 ?qk8 ?qk9 ?qkB ?qkD ?_ ?qc2 ?qc3 ?qc4; (case qkA => exact rfl); (case qkF => exact rfl); (case qkK => first | assumption | exact rfl); (case qk1 => k_asm); (case qk2 => k_asm); (case qk3 => k_asm); (case qk4 => k_asm); (case qk5 => k_asm); (case qk6 => k_is); (case qk7 => k_is); (case qk8 => exact rm (a := 0) hd (by decide)); (case qk9 => exact BindsTo.of_eq rfl); (case qkB => exact rfl); (case qkD => decide +kernel); (case qc2 => exact rfl); (case qc3 => exact rfl); (case qc4 => exact rfl); k_whole; intro g' L' h' tk' cells' FG' F' N' Y' B' X' T' l1; k_cells Y'; (try simp only [List.cons_append, List.nil_append] at N'); (try dsimp only); (try k_fold)))
  k_with_none
  k_with "iop" => (first | exact Iop.add | exact Iop.sub | exact Iop.mod (by first | assumption | decide) | exact Iop.div (by decide) (by decide))
  k_with "idx" => decide
  k_with "item" => rfl
  k_with "nn" => (first | decide | assumption)
  k_with "sevi" => (first | exact Sev.int | exact Sev.loc rfl rfl (by decide) | exact Sev.glo rfl (by k_is) (by decide) | (apply Sev.bin; (k_extra "sevi"); (k_extra "sevi"); (k_extra "iop")) | (apply Sev.item; (k_extra "sevi"); (k_extra "sevi"); k_mem; (k_extra "nn"); (k_extra "idx"); (k_extra "item")) | (apply Sev.fld; (k_extra "sevi"); k_mem; k_mem; constructor; rfl))
  k_with "sargs" => (first | exact Sargs.nil | (apply Sargs.cons; (k_extra "sevi"); (k_extra "sargs")))
  k_with "eval Call" => ((with_reducible show wpAny _ _ (eval (Expr.Call (Expr.Name _ _) _ [] _) _) _ _ _); k_dflt (refine' callS ?qF ?qX ?qT ?qN ?qh0 ?qkp ?qh1 ?_ ?qx1 ?qx2; (case qF => k_asm); (case qX => k_asm); (case qT => k_asm); (case qN => k_asm); (case qx1 => exact rfl); (case qx2 => exact rfl); (case qh0 => exact Sev.glo rfl (by k_is) (by decide)); (case qkp => k_is); (case qh1 => k_extra "sargs"); k_whole); (try dsimp only))
  k_with "isTrue Compare" => ((with_reducible show wpAny _ _ (isTrue (Expr.Compare _ [_] [_] _) _ _) _ _ _); k_dflt (refine' testS ?qF ?qX ?qT ?qN ?qh1 ?qh2 ?qhc ?_ ?qx1 ?qx2; (case qF => k_asm); (case qX => k_asm); (case qT => k_asm); (case qN => k_asm); (case qx1 => exact rfl); (case qx2 => exact rfl); (case qh1 => k_extra "sevi"); (case qh2 => k_extra "sevi"); (case qhc => constructor); k_whole); (try dsimp only))
  k_with "evals" => (k_dflt (refine' evalS ?qF ?qX ?qT ?qN ?qh1 ?_ ?qx1 ?qx2; (case qF => k_asm); (case qX => k_asm); (case qT => k_asm); (case qN => k_asm); (case qx1 => exact rfl); (case qx2 => exact rfl); (case qh1 => k_extra "sevi"); k_whole); (try dsimp only))
  k_with "eval BinOp" => k_extra "evals"
  k_with "eval Subscript" => k_extra "evals"
  k_with "eval Attribute Name" => k_extra "evals"
  k_with "execs cons" => ((with_reducible show wpAny _ _ (execs (Stmt.Assign [Expr.Name _ _] _ _ :: _) _) _ _ _); k_dflt (refine' assignS ?qF ?qX ?qT ?qN ?qh1 ?qhx ?qhs ?_ ?qx1 ?qx2; (case qF => k_asm); (case qX => k_asm); (case qT => k_asm); (case qN => k_asm); (case qx1 => exact rfl); (case qx2 => exact rfl); (case qhx => exact rfl); (case qhs => exact rfl); (case qh1 => k_extra "sevi"); k_whole); intro h' F' N'; (try k_sweep); (try dsimp only))
  k_with "call builtin:len" => ((with_reducible show wpAny _ _ (call (Value.builtin "len") [Value.ref _]) _ _ _); k_dflt (refine' len_list (News.isList (by k_asm) (by first | exact i1 | exact .tail _ i1 | exact .tail _ (.tail _ i1))) ?qz ?_; (case qz => (rw [hv]; omega))); rw [hv])
  k_with "eval ListComp" => (k_dflt (first | refine LCg.ListComp_U (F₀ := by k_asm) (by with_unfolding_all rfl) (by decide) (by rfl) (by decide) (by rfl) ?_ | refine LCt.ListComp_T (F₀ := by k_asm) (by with_unfolding_all rfl) (by decide) (by rfl) (by decide) (by rfl) ?_))
  k_with "exec Assign cons ListComp" => (k_dflt (refine LCg.Assign_ListComp_U (F₀ := by k_asm) (by rfl) (by with_unfolding_all rfl) (by with_unfolding_all rfl) (by decide) (by rfl) (by decide) (by rfl) (by rfl) (by rfl) ?_))
  k_with "CompSrc" => (k_dflt (refine' LCg.CompSrc.range (n := fs.length) ?qh ?qF ?qN ?qr ?qs ?qn ?qz ?_; (case qh => first | assumption | exact rfl); (case qF => k_asm); (case qN => k_asm); (case qr => assumption); (case qs => exact small64 (Nat.le_trans hz (by decide))); (case qn => exact sizeN); (case qz => exact Nat.le_trans hz (by decide)); intro g'; refine' comp_pure (fun i y => y = .bool (decide (i = 0))) ?qe ?qt); (case' qe => intro ys hyl hys; obtain rfl := flags_eq hyl hys); (case' qt => intro i t ys I oI C oC D m₂ h tk E' hi hC hx F' N' off' ne'))
  k_with "FinE" => ((unfold LCg.FinE); intro D9 h9 tk9 F9 N9 o9; (try dsimp only))
  k_with "storeName" => (k_dflt (refine' storeX_C F9 N9 ?qc (UpdF.tail (Ne.symm o9.1) (UpdF.head (fun p hp => Nat.ne_of_lt (Nat.lt_succ_of_lt (l1 p hp))))) ?qd ?_ ?qa ?qb; (case qc => exact rfl); (case qd => assumption); (case qa => exact rfl); (case qb => exact rfl)); intro h' o8 F' N' d8; (try dsimp only at N'))
  k_with "execs cons" => ((with_reducible show wpAny _ _ (execs (Stmt.For _ _ _ _ _ :: _) _) _ _ _); (rename Fr _ _ _ _ => lF'); (rename News _ _ _ _ => lN'); (rename Top _ _ _ _ _ _ => lT'); (rename Frag.In _ _ => lX'); (refine stop_of ?_))
  k_steps
  · exact comp_end0 (by assumption) (by assumption) (by assumption) ⟨rfl, congrArg Value.bool flag_at⟩
  · unfold Stop
    refine wpAny_execs_cons ?_
    refine' for_range_len (Str.ofString "goal") (fun i nw => FlJ fs D9 ((L' + 1, o8) :: news) (flAt fs i) nw) rfl rfl rfl lF' lN' (Rd.bi rfl rfl rfl rfl lF' lX' (topRead_of lT') (by k_is) boot_range (by decide) rfl) (Rd.bi rfl rfl rfl rfl lF' lX' (topRead_of lT') (by k_is) boot_len (by decide) rfl) (Rd.loc rfl rfl lF' rfl rfl) (News.isList lN' (.tail _ (.tail _ i1))) ?yz ?y0 ?yt ?ye
    case yz => omega
    case y0 => exact ⟨_, _, rfl, Off1.all o9, by unfold flAt flag0; simp, fun p hp => hp⟩
    case yt =>
      intro i t u nw I oI h tk hi J F₁ N₁ o₁
      rw [hv] at hi
      have hf : fs[i]? = some fs[i] := List.getElem?_eq_getElem hi
      refine outer_body (fs := fs) (vs := vs) (i := i) (t := t) (nn := nn) (base := (L' + 1, o8) :: news) (fl := flAt fs i) (f := fs[i]) rfl rfl rfl rfl F₁ N₁ o₁ J (fun F => Rd.bi rfl rfl rfl rfl F lX' (topRead_of lT') (by k_is) boot_len (by decide) rfl) rfl rfl
        (fun h N => Rd.cell rfl rfl rfl N (.head _) d8 rfl) rfl rfl (Rd.glo rfl rfl rfl F₁ lX' (topRead_of lT') (by k_is) rfl) lX' (.tail _ i1) hO.1 (by omega) hf (hR _ (List.getElem_mem hi)) ?yc (by passes_own) ?yr
      case yc =>
        intro nw2 Q2 N2 sub2 k2
        exact goals ⟨B', F₁, lX', lT', rfl⟩ N2 (sub2 _ (.tail _ i1)) (Ords.sub (fun p hp => sub2 p (.tail _ hp)) hO) hf (by omega) (rm (a := 6) hd (by decide)) k2
      case yr =>
        intro g h2 tk2 nw2 F2 N2 o2 J2
        refine TurnP.intro F2 N2 o2 ⟨?_, fun z a b => by simp [a, b]⟩
        rw [flAt_succ]
        unfold turnF
        rw [show fs.getD i (0, 0, 0, 0) = fs[i] from by rw [List.getD_eq_getElem?_getD, hf]; rfl]
        exact J2
    case ye =>
      intro f u nw h tk J F₁ N₁
      rw [hv] at J
      obtain ⟨k, nw', rfl, hD, hfl, hs⟩ := J
      refine wpAny_execs_cons (wpAny_Return_some ?_)
      refine comp_flags (D := D9) (fl := flAt fs fs.length) (k := k) rfl F₁ N₁ (by with_unfolding_all rfl) (by decide) (by rfl) (by decide) (by rfl) (Rd.bi rfl rfl rfl rfl F₁ lX' (topRead_of lT') (by k_is) boot_range (by decide) rfl) (Rd.bi rfl rfl rfl rfl F₁ lX' (topRead_of lT') (by k_is) boot_len (by decide) rfl)
        (Rd.loc rfl rfl F₁ rfl rfl) (News.isList N₁ (.tail _ (hs _ (.tail _ i1)))) (by omega) (by rw [flAt_len, hv]) (.head _) (fun _ => rfl) (fun _ => rfl) rfl (fun C h N => Rd.cell rfl rfl rfl N (.tail _ (hs _ (.head _))) d8 rfl) ?_
      intro ys D2 h2 tk2 hys F2 N2 o2
      rw [hv] at hys
      k_steps
      exact ret D2 ys ys.length _ _ _ hys (by k_asm) (by k_asm) (fun p hp => .tail _ (hs p (.tail _ hp)))
end
theorem fm8 {c : Int} : c.fmod 8 = c % 8 := Int.fmod_eq_emod_of_nonneg _ (by decide)
theorem fd16 {c : Int} : (c.fdiv 16).fmod 16 = c / 16 % 16 := by rw [Int.fdiv_eq_ediv_of_nonneg _ (by decide), Int.fmod_eq_emod_of_nonneg _ (by decide)]
section
variable {f : Fld} {i : Int}
theorem next6 (h5 : f.1.fmod 8 ≠ 5) (h6 : f.1.fmod 8 = 6) : nextF f i = [] := (if_pos (fm8 ▸ h5)).trans (if_pos (fm8 ▸ h6))
theorem next1 (h5 : f.1.fmod 8 ≠ 5) (h6 : f.1.fmod 8 ≠ 6) : nextF f i = [i + 1] := (if_pos (fm8 ▸ h5)).trans (if_neg (fm8 ▸ h6))
theorem nextJ (h5 : f.1.fmod 8 = 5) (h0 : (f.1.fdiv 16).fmod 16 = 0) : nextF f i = [i + 1 + f.2.2.2] := (if_neg (not_not_intro (fm8 ▸ h5))).trans (if_pos (fd16 ▸ h0))
theorem nextN (h5 : f.1.fmod 8 = 5) (h0 : (f.1.fdiv 16).fmod 16 ≠ 0) : nextF f i = [i + 1 + f.2.1, i + 1 + f.2.2.1] := (if_neg (not_not_intro (fm8 ▸ h5))).trans (if_neg (fd16 ▸ h0))
end
section
variable {w : World} {p : Program} {lo : List Str} {mean : ExcName → Option Value} {mg mb : Str → Option Value} {dp un : Nat} {gd : Option (List Code)} {cn : Str} {cs : Scope} {a : Addr} {ccd : Value} {cl : List (Str × Addr)} {outer : List Env} {A₀ : Around} {base h₀ : Heap} {L : Addr} {m : Str → Option Value} {s : Shared} {Q E : Value → Shared → Prop} {news : List (Addr × Obj)}
  {f : Fld} {vs : List Value} {fs : List Fld} {l : Addr} {nn i : Nat} {ti : Tok}
theorem lnext (cx : Cx w p lo mean mg mb A₀ base outer h₀ L s.heap m cs) (N : News h₀ L s.heap news) (i1 : (l, listOf (List.toArray vs) nn) ∈ news) (hO : Tups news vs fs) (hi : fs[i]? = some f) (hz : i < 64) (hd : dp + 2 < recursionLimit)
  (ret : ∀ D ys k h' tk', IntsAre ys (nextF f i) → Fr h₀ L h' m → News h₀ L h' ((D, listOf (List.toArray ys) k) :: news) → (∀ p ∈ news, p.1 < D) → Q (.ref D) { s with heap := h', toks := tk' }) :
  wpAny (model PySem.Challenge.rw_rg0263_01.row.prog w) (ktrTop dp un gd cn cs L a ccd cl outer) (call (.ref 296) [.ref l, .int i ti]) Q E s := by
  obtain ⟨B, F, X, T, hk⟩ := cx
  obtain ⟨v, hv, x, t, rfl, j⟩ := All2.back hO hi
  (refine wpAny_call ?_; k_dflt (refine' code_def ?qk1 ?qk2 ?qk3 ?qk4 ?qk5 ?qkA ?qkF ?qkK ?qk6 ?qk7 ?qk8 ?qk9 ?qkB ?_ ?qc2 ?qc3 ?qc4 ?qc5; (case qkA => exact rfl); (case qkF => exact rfl); (case qkK => first | assumption | exact rfl); (case qk1 => k_asm); (case qk2 => k_asm); (case qk3 => k_asm); (case qk4 => k_asm); (case qk5 => k_asm); (case qk6 => k_is); (case qk7 => k_is); (case qk8 => exact rm (a := 0) hd (by decide)); (case qk9 => exact BindsTo.of_eq rfl); (case qc5 => decide); (case qkB => exact locs rfl); (case qc2 => exact rfl); (case qc3 => exact rfl); (case qc4 => exact rfl); k_whole; intro g' L' h' FG' F' N' B' X' T'; (try dsimp only); (try k_fold)))
  k_with_none
  k_with "iop" => (first | exact Iop.add | exact Iop.sub | exact Iop.mod (by first | assumption | decide) | exact Iop.div (by decide) (by decide))
  k_with "idx" => decide
  k_with "item" => rfl
  k_with "nn" => (first | decide | assumption)
  k_with "sevi" => (first | exact Sev.int | exact Sev.loc rfl rfl (by decide) | exact Sev.glo rfl (by k_is) (by decide) | (apply Sev.bin; (k_extra "sevi"); (k_extra "sevi"); (k_extra "iop")) | (apply Sev.item; (k_extra "sevi"); (k_extra "sevi"); k_mem; (k_extra "nn"); (k_extra "idx"); (k_extra "item")) | (apply Sev.fld; (k_extra "sevi"); k_mem; k_mem; constructor; rfl))
  k_with "sargs" => (first | exact Sargs.nil | (apply Sargs.cons; (k_extra "sevi"); (k_extra "sargs")))
  k_with "eval Call" => ((with_reducible show wpAny _ _ (eval (Expr.Call (Expr.Name _ _) _ [] _) _) _ _ _); k_dflt (refine' callS ?qF ?qX ?qT ?qN ?qh0 ?qkp ?qh1 ?_ ?qx1 ?qx2; (case qF => k_asm); (case qX => k_asm); (case qT => k_asm); (case qN => k_asm); (case qx1 => exact rfl); (case qx2 => exact rfl); (case qh0 => exact Sev.glo rfl (by k_is) (by decide)); (case qkp => k_is); (case qh1 => k_extra "sargs"); k_whole); (try dsimp only))
  k_with "isTrue Compare" => ((with_reducible show wpAny _ _ (isTrue (Expr.Compare _ [_] [_] _) _ _) _ _ _); k_dflt (refine' testS ?qF ?qX ?qT ?qN ?qh1 ?qh2 ?qhc ?_ ?qx1 ?qx2; (case qF => k_asm); (case qX => k_asm); (case qT => k_asm); (case qN => k_asm); (case qx1 => exact rfl); (case qx2 => exact rfl); (case qh1 => k_extra "sevi"); (case qh2 => k_extra "sevi"); (case qhc => constructor); k_whole); (try dsimp only))
  k_with "evals" => (k_dflt (refine' evalS ?qF ?qX ?qT ?qN ?qh1 ?_ ?qx1 ?qx2; (case qF => k_asm); (case qX => k_asm); (case qT => k_asm); (case qN => k_asm); (case qx1 => exact rfl); (case qx2 => exact rfl); (case qh1 => k_extra "sevi"); k_whole); (try dsimp only))
  k_with "eval BinOp" => k_extra "evals"
  k_with "eval Subscript" => k_extra "evals"
  k_with "eval Attribute Name" => k_extra "evals"
  k_with "execs cons" => ((with_reducible show wpAny _ _ (execs (Stmt.Assign [Expr.Name _ _] _ _ :: _) _) _ _ _); k_dflt (refine' assignS ?qF ?qX ?qT ?qN ?qh1 ?qhx ?qhs ?_ ?qx1 ?qx2; (case qF => k_asm); (case qX => k_asm); (case qT => k_asm); (case qN => k_asm); (case qx1 => exact rfl); (case qx2 => exact rfl); (case qhx => exact rfl); (case qhs => exact rfl); (case qh1 => k_extra "sevi"); k_whole); intro h' F' N'; (try k_sweep); (try dsimp only))
  k_with "subscriptTail" => (k_dflt (refine item_listL (News.isList (by k_asm) i1) (Int.natCast_nonneg _) (i63 hz) (by rw [Int.toNat_natCast]; exact hv) ?_))
  k_steps
  · exact ret _ [] _ _ _ (ints_of (next6 (by assumption) (by assumption)) .nil) (by k_asm) (by k_asm) (by assumption)
  · exact ret _ [_] _ _ _ (ints_of (next1 (by assumption) (by assumption)) (.cons _ _ .nil)) (by k_asm) (by k_asm) (by assumption)
  · exact ret _ [_] _ _ _ (ints_of (nextJ (by assumption) (by assumption)) (.cons _ _ .nil)) (by k_asm) (by k_asm) (by assumption)
  · exact ret _ [_, _] _ _ _ (ints_of (nextN (by assumption) (by assumption)) (.cons _ _ (.cons _ _ .nil))) (by k_asm) (by k_asm) (by assumption)
end
theorem sizeN0 {n : Nat} : Builtin.Range.rangeSize 0 (n : Int) 1 = ((n : Nat) : Int) := by rw [rangeSize_nat]; omega
section
open PyProof.Rows.LCg
variable {prog : Program} {w : World} {A : Around} {E : Value → Shared → Prop} {s : Shared} {h₀ : Heap} {L : Addr} {m : Str → Option Value} {env : Env}
/-- what the inner clause's source leaves: a list at hand -/
def NestEnd (h₀ : Heap) (L : Addr) (m : Str → Option Value) (s : Shared) (I : Addr) (oI : Obj) (C : Addr) (oC : Obj) (D : Addr) (ys : List Value) (J : List Value → List (Addr × Obj) → Prop) (v : Value) (s' : Shared) : Prop :=
  ∃ l vs k nw h tk, v = .ref l ∧ s' = { s with heap := h, toks := tk } ∧ Fr h₀ L h m ∧ News h₀ L h ((I, oI) :: (C, oC) :: (D, lst ys) :: nw) ∧ Off3 I C D nw ∧ (l, listOf (List.toArray vs) k) ∈ nw ∧ J (ys ++ vs) nw
theorem block_N {x g : Str} {px pg pg' pos : Pos} {iter ct i2 : Expr} {scope : Scope} {cl : List (Str × Addr)} {s₂ : Shared} {I : Addr} {n : Nat} {news : List (Addr × Obj)} {RR : Value → Addr → Result → Shared → Prop}
    (J : Nat → List Value → List (Addr × Obj) → Prop) (hh : A.handled = none) (hz : n ≤ 64)
    (hcell : ∀ y ∈ scope.names, y.2 ≠ .cell) (hkind : scope.kind = .function) (hx : scope.names.lookup x = some .local) (hg : scope.names.lookup g = some .local) (hgd : (g == ("__debug__" : Str)) = false)
    (hst : IsRangeIter s₂.heap I 0 (n : Int) 1) (hIlt : I < s₂.heap.objs.size)
    (F : Fr h₀ L s₂.heap m) (N : News h₀ L s₂.heap news) (hIL : L ≠ I) (hI₀ : h₀.get? I = none) (off : ∀ p ∈ news, p.1 ≠ I)
    (hJ : ∀ i ys nw, J i ys nw → ys.length ≤ 4096) (h0 : J 0 [] news)
    (step : ∀ i t ys nw I oI C oC D m₂ h tk (E' : Value → Shared → Prop), i < n → J i ys nw → NsObj oC m₂ → m₂ x = some (.int (i : Int) t) → Fr h₀ L h m → News h₀ L h ((I, oI) :: (C, oC) :: (D, lst ys) :: nw) → Off3 I C D nw → ((@Ne Nat I C) ∧ (@Ne Nat I D) ∧ (@Ne Nat C D)) →
      wpAny (model prog w) A (isTrue ct (compEnvC scope cl C env) (eval ct (compEnvC scope cl C env))) (fun ok s' => if ok = true then
        wpAny (model prog w) A (eval i2 (compEnvC scope cl C env)) (NestEnd h₀ L m s₂ I oI C oC D ys (J (i + 1))) E' s'
        else CompEnd h₀ L m { s₂ with heap := h, toks := tk } I oI C oC D (lst ys) (fun _ => True) (fun _ nw' => J (i + 1) ys nw') Value.none s') E' { s₂ with heap := h, toks := tk })
    (hs2 : ∀ C x, foldedSetIterable i2 (compEnvC scope cl C env) x = pure x)
    (hRR : ∀ D C h tk m' ys nw, Fr h₀ L h m → News h₀ L h ((D, lst ys) :: nw) → Off1 D nw → h.Ns C m' → h₀.get? C = none → h₀.get? D = none → C ≠ L → D ≠ L → C ≠ D → (∀ p ∈ nw, p.1 ≠ C) → J n ys nw → RR (.ref D) C (.ok .next) { s₂ with heap := h, toks := tk }) :
    wpAny (model prog w) A (newList []) (fun acc s₃ => wpAny (model prog w) A (newFunctionEnv scope env.globals cl [] env.qual none .none (some env)) (fun cenv s₄ =>
      codeAny (model prog w) A (.compStart (.ListComp (.Name g pg) [⟨.Name x px, iter, [ct], 0⟩, ⟨.Name g pg', i2, [], 0⟩] scope pos) 0 (.ref I) acc { cenv with scope := relabel scope env }) (RR acc cenv.locals) s₄) E s₃) E s₂ := by
  refine wpAny_newObj_type (wpAny_newFunctionEnv hcell (by intro y hy; simp at hy) (fun h₁ hns₁ hsb₁ => ?_) hkind)
  dsimp only at hns₁ hsb₁ ⊢
  generalize hH2 : s₂.heap.push { cls := .type "list", dict := none, data := .seq ([] : List Value).toArray } = H2 at hns₁ hsb₁ ⊢
  have hC : H2.objs.size = s₂.heap.objs.size + 1 := by rw [← hH2, Heap.size_push]
  have hDC : s₂.heap.objs.size ≠ H2.objs.size := by rw [hC]; exact Nat.ne_of_lt (Nat.lt_succ_self _)
  have below : ∀ b, b < s₂.heap.objs.size → b ≠ H2.objs.size ∧ b ≠ s₂.heap.objs.size := fun b hb => ⟨by rw [hC]; exact Nat.ne_of_lt (Nat.lt_succ_of_lt hb), Nat.ne_of_lt hb⟩
  have old : ∀ b o, s₂.heap.get? b = some o → h₁.get? b = some o := fun b o e => hsb₁.extBut b o (below b (Heap.lt_size e)).1 (Heap.get?_push_of_some _ (hH2 ▸ Heap.get?_push_of_some _ e))
  have hacc : h₁.get? s₂.heap.objs.size = some (lst []) := hsb₁.extBut _ _ hDC (Heap.get?_push_of_some _ (hH2 ▸ Heap.get?_push_size _ rfl))
  have fresh₀ : ∀ a, s₂.heap.objs.size ≤ a → h₀.get? a = none := fun a ha => by
    cases e : h₀.get? a with
    | none => rfl
    | some o' => exact absurd (Heap.lt_size (F.keep a o' e)) (Nat.not_lt.mpr ha)
  have hD₀ : h₀.get? s₂.heap.objs.size = none := fresh₀ _ (Nat.le_refl _)
  have hC₀ : h₀.get? H2.objs.size = none := fresh₀ _ (by rw [hC]; exact Nat.le_succ _)
  have hLlt : L < s₂.heap.objs.size := F.ns.lt
  have hDL : s₂.heap.objs.size ≠ L := Ne.symm (below L hLlt).2
  have hCL : H2.objs.size ≠ L := Ne.symm (below L hLlt).1
  have hCI : I ≠ H2.objs.size := (below I hIlt).1
  have hDI : I ≠ s₂.heap.objs.size := (below I hIlt).2
  have off₀ : Off3 I H2.objs.size s₂.heap.objs.size news := Off3.of fun p hp => ⟨off p hp, (below _ (Heap.lt_size (N p hp).1)).1, (below _ (Heap.lt_size (N p hp).1)).2⟩
  generalize hCe : H2.objs.size = C at *
  generalize hDe : s₂.heap.objs.size = D at *
  have W := range_walks (prog := prog) (w := w) (I := I) hh 0 n
  have hst₁ : IsRangeIter h₁ I ((0 : Int) + (0 : Nat) * 1) ((n : Int) - (0 : Nat)) 1 := by
    have z : h₁.get? I = some _ := old _ _ hst
    show h₁.get? I = some _
    simpa using z
  have loop : ∀ s₃ : Shared, s₃ = { s₂ with heap := h₁, toks := s₂.toks + ([] : List (Str × Value)).length } →
      codeAny (model prog w) A (.compLoop (.ListComp (.Name g pg) [⟨.Name x px, iter, [ct], 0⟩, ⟨.Name g pg', i2, [], 0⟩] scope pos) 0 (.ref I) (.ref D) (compEnvC scope cl C env)) (RR (.ref D) C) s₃ := by
    rintro s₃ rfl
    refine loop_out (fun k s' => ∃ h' tk i ys m' news', s' = { s₂ with heap := h', toks := tk } ∧ i ≤ n ∧ k = n + 1 - i ∧ IsRangeIter h' I ((0 : Int) + (i : Nat) * 1) ((n : Int) - (i : Nat)) 1 ∧ Fr h₀ L h' m ∧ h'.Ns C m' ∧ News h₀ L h' ((D, lst ys) :: news') ∧
        Off3 I C D news' ∧ J i ys news') ?_ (n + 1)
      ⟨h₁, _, 0, [], _, news, rfl, Nat.zero_le _, rfl, hst₁, F.keeps old, hns₁, fun p hp => ?_, off₀, h0⟩ (fun _ => rfl) (hs2 C)
    · rintro k s' ⟨h', tk, i, ys, m', news', rfl, hi, rfl, hst', F', hn', N', off', hj⟩
      by_cases hlt : i < n
      · refine W.item i _ _ _ hlt hst' fun v h₂ tk₂ hPv hst₂ hk₂ => ?_
        obtain ⟨t, rfl⟩ := hPv
        refine wpAny_assign_Name (wpAny_storeName_local (lookup_relabel_local hx) (hn'.at' fun o e => hk₂ _ o (by simpa using Ne.symm hCI) e) (fun h₃ hn₃ hs₃ => ?_) (by simp [compEnvC, relabel, hkind]))
        refine wpAny_tests_one ?_
        have hst₃ : IsRangeIter h₃ I ((0 : Int) + ((i + 1 : Nat) : Int) * 1) ((n : Int) - ((i + 1 : Nat) : Int)) 1 := W.frame _ _ _ hst₂ fun b hb o e => hs₃.extBut b o (fun q => hCI (by have q' : b = C := q; rw [← q']; exact (List.mem_singleton.mp hb).symm)) e
        obtain ⟨oC, heC, hoC⟩ := ns_obj hn₃
        have F₃ : Fr h₀ L h₃ m := (fr_but F' hk₂ hIL hI₀).change hs₃ hCL hC₀
        have off3 := off'.mem
        have N₂ : News h₀ L h₂ ((D, lst ys) :: news') := news_but N' hk₂ fun p hp => by
          rcases List.mem_cons.mp hp with rfl | hp
          · exact Ne.symm hDI
          · exact (off3 p hp).1
        generalize heI : ({ cls := .type "range_iterator", data := .fields #[rawInt ((0 : Int) + ((i + 1 : Nat) : Int) * 1), rawInt ((n : Int) - ((i + 1 : Nat) : Int)), rawInt 1] } : Obj) = oI
        have heI' : h₃.get? I = some oI := by rw [← heI]; exact hst₃
        have N₃ : News h₀ L h₃ ((I, oI) :: (C, oC) :: (D, lst ys) :: news') := fun p hp => by
          rcases List.mem_cons.mp hp with rfl | hp
          · exact ⟨heI', Ne.symm hIL, hI₀⟩
          · rcases List.mem_cons.mp hp with rfl | hp
            · exact ⟨heC, hCL, hC₀⟩
            · have z := N₂ p hp
              refine ⟨hs₃.extBut _ _ ?_ z.1, z.2⟩
              rcases List.mem_cons.mp hp with rfl | hp
              · exact hDC
              · exact (off3 p hp).2.1
        have back : ∀ h₄ : Heap, h₄.get? I = some oI → IsRangeIter h₄ I ((0 : Int) + ((i + 1 : Nat) : Int) * 1) ((n : Int) - ((i + 1 : Nat) : Int)) 1 := fun h₄ e => by
          show h₄.get? I = some _
          rw [e, ← heI]
        refine wpAny_mono (step i t ys news' I oI C oC D _ h₃ _ _ hlt hj hoC (by simp) F₃ N₃ off' ⟨hCI, hDI, Ne.symm hDC⟩) (fun ok s₄ h₄ => ?_) fun _ _ e => e
        cases ok with
        | true =>
          simp only [if_true] at h₄ ⊢
          refine wpAny_mono h₄ (fun y s₅ h₅ => ?_) fun _ _ e => e
          obtain ⟨l₂, vs, k₂, nw, h₄, tk₄, rfl, rfl, F₄, N₄, off₄, hm, hj'⟩ := h₅
          have zI := (N₄ (I, oI) (.head _)).1
          have zC := (N₄ (C, oC) (.tail _ (.head _))).1
          have zD := (N₄ (D, lst ys) (.tail _ (.tail _ (.head _)))).1
          have zl := (N₄ _ (.tail _ (.tail _ (.tail _ hm)))).1
          have hl₂ : h₄.IsList l₂ vs.toArray := ⟨_, zl, rfl, _, rfl⟩
          have off4 := off₄.mem
          have hvl := hJ _ _ _ hj'
          rw [List.length_append] at hvl
          refine wpAny_pyIter_list (s := { s₂ with heap := h₄, toks := tk₄ }) hl₂ ?_
          generalize hI2 : h₄.objs.size = I₂
          have lt4 : ∀ {a o}, h₄.get? a = some o → a ≠ I₂ := fun e q => Nat.lt_irrefl _ (Nat.lt_of_lt_of_eq (Heap.lt_size e) (hI2.trans q.symm))
          have hLI : L ≠ I₂ := fun q => Nat.lt_irrefl _ (Nat.lt_of_lt_of_eq F₄.ns.lt (hI2.trans q.symm))
          have hI₂₀ : h₀.get? I₂ = none := by
            cases e : h₀.get? I₂ with
            | none => rfl
            | some o' => exact absurd rfl (lt4 (F₄.keep I₂ o' e))
          have W₂ := Walks.list (prog := prog) (w := w) hh I₂ l₂ (fun q => lt4 zl q) vs.toArray
          have up : ∀ b o, h₄.get? b = some o → (h₄.push { cls := .type "list_iterator", data := .fields #[.ref l₂, .int 0 0] }).get? b = some o := fun b o e => Heap.get?_push_of_some _ e
          have st₅ : (h₄.push { cls := .type "list_iterator", data := .fields #[.ref l₂, .int 0 0] }).IsListIter I₂ l₂ 0 ∧ (h₄.push { cls := .type "list_iterator", data := .fields #[.ref l₂, .int 0 0] }).IsList l₂ vs.toArray := by
            rw [← hI2]; exact ⟨⟨_, Heap.get?_push_size _ rfl, rfl, rfl⟩, hl₂.push _⟩
          have inn : codeAny (model prog w) A (.compLoop (.ListComp (.Name g pg) [⟨.Name x px, iter, [ct], 0⟩, ⟨.Name g pg', i2, [], 0⟩] scope pos) 1 (.ref I₂) (.ref D) (compEnvC scope cl C env))
              (fun r s₆ => match r with | .ok _ => ∃ m₉, m₉ < n + 1 - i ∧ ∃ h' tk i ys m' news', s₆ = { s₂ with heap := h', toks := tk } ∧ i ≤ n ∧ m₉ = n + 1 - i ∧ IsRangeIter h' I ((0 : Int) + (i : Nat) * 1) ((n : Int) - (i : Nat)) 1 ∧ Fr h₀ L h' m ∧ h'.Ns C m' ∧ News h₀ L h' ((D, lst ys) :: news') ∧ Off3 I C D news' ∧ J i ys news' | .error _ => False)
              { s₂ with heap := h₄.push { cls := .type "list_iterator", data := .fields #[.ref l₂, .int 0 0] }, toks := tk₄ } := by
            refine loop_in (fun k s' => ∃ h tk j m₂, s' = { s₂ with heap := h, toks := tk } ∧ j ≤ vs.length ∧ k = vs.length + 1 - j ∧ (h.IsListIter I₂ l₂ j ∧ h.IsList l₂ vs.toArray) ∧ Fr h₀ L h m ∧ h.Ns C m₂ ∧ News h₀ L h ((I, oI) :: (D, lst (ys ++ vs.take j)) :: nw)) ?_ (vs.length + 1)
              ⟨_, _, 0, _, rfl, Nat.zero_le _, rfl, st₅, F₄.keeps up, (hoC.ns (up _ _ zC)), fun p hp => ?_⟩ (fun _ => rfl)
            · rintro k s' ⟨h, tk, j, m₂, rfl, hjl, rfl, st, F₅, hn₅, N₅⟩
              have hCI₂ : C ≠ I₂ := lt4 zC
              have hDI₂ : D ≠ I₂ := lt4 zD
              have offI : ∀ p ∈ (I, oI) :: (D, lst (ys ++ vs.take j)) :: nw, p.1 ≠ I₂ := fun p hp => by
                rcases List.mem_cons.mp hp with rfl | hp
                · exact lt4 zI
                · rcases List.mem_cons.mp hp with rfl | hp
                  · exact hDI₂
                  · exact lt4 (N₄ p (.tail _ (.tail _ (.tail _ hp)))).1
              by_cases hjt : j < vs.length
              · refine W₂.item j _ _ _ (by simpa using hjt) st fun v h₆ tk₆ hP st₆ hk₆ => ?_
                have hP : vs[j]? = some v := by simpa using hP
                refine wpAny_assign_Name (wpAny_storeName_local (lookup_relabel_local hg) (hn₅.at' fun o e => hk₆ _ o (by simpa using hCI₂) e) (fun h₇ hn₇ hs₇ => ?_) (by simp [compEnvC, relabel, hkind]))
                have F₇ : Fr h₀ L h₇ m := (fr_but F₅ hk₆ hLI hI₂₀).change hs₇ hCL hC₀
                have N₆ := news_but N₅ hk₆ offI
                have N₇ : News h₀ L h₇ ((I, oI) :: (D, lst (ys ++ vs.take j)) :: nw) := fun p hp => by
                  refine ⟨hs₇.extBut _ _ ?_ (N₆ p hp).1, (N₆ p hp).2⟩
                  rcases List.mem_cons.mp hp with rfl | hp
                  · exact hCI
                  · rcases List.mem_cons.mp hp with rfl | hp
                    · exact hDC
                    · exact (off4 p hp).2.1
                have st₇ := W₂.frame _ _ _ st₆ fun b hb o e => hs₇.extBut b o (fun q => by
                  have q' : b = C := q
                  rcases List.mem_cons.mp hb with hb | hb
                  · exact hCI₂ (q' ▸ hb)
                  · exact (off4 _ hm).2.1 ((List.mem_singleton.mp hb).symm.trans q')) e
                refine Rd.ok (v := v) (s := { s₂ with heap := h₇, toks := _ }) (Rd.ns (by simp [compEnvC, relabel, hkind]) (lookup_relabel_local hg) hn₇ (by simp) hgd) ?_
                refine append_at (s := { s₂ with heap := h₇, toks := _ }) (hsz := by
                  show (ys ++ vs.take j).toArray.size ≤ sizeLine
                  rw [List.size_toArray, List.length_append, List.length_take]
                  exact Nat.le_trans (show _ ≤ 4096 by omega) (by decide)) (N₇ (D, lst (ys ++ vs.take j)) (.tail _ (.head _))).1 fun h₈ hs₈ hD₈ => ?_
                refine ⟨vs.length + 1 - (j + 1), by omega, h₈, _, j + 1, _, rfl, hjt, rfl, W₂.frame _ _ _ st₇ fun b hb o e => hs₈.extBut b o (fun q => ?_) e, F₇.change hs₈ hDL hD₀, hn₇.sameBut hs₈ (Ne.symm hDC), fun p hp => ?_⟩
                · have q' : b = D := q
                  rcases List.mem_cons.mp hb with hb | hb
                  · exact hDI₂ (q' ▸ hb)
                  · exact (off4 _ hm).2.2 ((List.mem_singleton.mp hb).symm.trans q')
                · rcases List.mem_cons.mp hp with rfl | hp
                  · exact ⟨hs₈.extBut _ _ hDI (N₇ _ (.head _)).1, (N₇ _ (.head _)).2⟩
                  · rcases List.mem_cons.mp hp with rfl | hp
                    · refine ⟨hD₈.trans (congrArg some ?_), hDL, hD₀⟩
                      rw [List.take_add_one, hP, ← List.append_assoc]
                      exact lst_snoc _ _
                    · exact ⟨hs₈.extBut _ _ (off4 p hp).2.2 (N₇ p (.tail _ (.tail _ hp))).1, (N₇ p (.tail _ (.tail _ hp))).2⟩
              · obtain rfl : j = vs.length := Nat.le_antisymm hjl (Nat.not_lt.mp hjt)
                refine W₂.done _ _ _ (by simpa using st) fun h₆ tk₆ hk₆ => ?_
                have N₆ := news_but N₅ hk₆ offI
                rw [List.take_length] at N₆
                exact ⟨n + 1 - (i + 1), by omega, h₆, tk₆, i + 1, ys ++ vs, _, nw, rfl, hlt, rfl, back _ (N₆ _ (.head _)).1, fr_but F₅ hk₆ hLI hI₂₀, hn₅.at' (fun o e => hk₆ _ o (by simpa using hCI₂) e), fun p hp => N₆ p (.tail _ hp), off₄, hj'⟩
            · rw [List.take_zero, List.append_nil] at hp
              have N₅ := News.grown N₄ up
              rcases List.mem_cons.mp hp with rfl | hp
              · exact N₅ _ (.head _)
              · exact N₅ p (.tail _ (.tail _ hp))
          exact start_in inn (W₂.self 0 _ _ _ st₅ inn)
        | false =>
          simp only [Bool.false_eq_true, if_false] at h₄ ⊢
          obtain ⟨h₅, tk₄, nw, rfl, F₄, N₄, off₄, _, hj'⟩ := h₄
          have zI := (N₄ (I, oI) List.mem_cons_self).1
          have zC := (N₄ (C, oC) (List.mem_cons_of_mem _ List.mem_cons_self)).1
          have N₄' : News h₀ L h₅ nw := fun p hp => N₄ p (List.mem_cons_of_mem _ (List.mem_cons_of_mem _ (List.mem_cons_of_mem _ hp)))
          refine ⟨n + 1 - (i + 1), by omega, h₅, tk₄, i + 1, ys, _, nw, rfl, hlt, rfl, back _ zI, F₄, hoC.ns zC, fun p hp => ?_, off₄, hj'⟩
          rcases List.mem_cons.mp hp with rfl | hp
          · exact N₄ _ (List.mem_cons_of_mem _ (List.mem_cons_of_mem _ List.mem_cons_self))
          · exact N₄' p hp
      · obtain rfl : i = n := Nat.le_antisymm hi (Nat.not_lt.mp hlt)
        refine W.done _ _ _ hst' fun h₂ tk₂ hk₂ => ?_
        have off3 := off'.mem
        exact hRR _ _ h₂ tk₂ _ ys news' (fr_but F' hk₂ hIL hI₀) (news_but N' hk₂ fun p hp => by
          rcases List.mem_cons.mp hp with rfl | hp
          · exact Ne.symm hDI
          · exact (off3 p hp).1) off'.one (hn'.at' fun o e => hk₂ _ o (by simpa using Ne.symm hCI) e) hC₀ hD₀ hCL hDL (Ne.symm hDC) (fun p hp => (off3 p hp).2.1) hj
    · rcases List.mem_cons.mp hp with rfl | hp
      · exact ⟨hacc, hDL, hD₀⟩
      · exact ⟨old _ _ (N p hp).1, (N p hp).2⟩
  exact codeAny_compStart_list (loop _ rfl) (W.self 0 _ _ _ hst₁ (loop _ rfl))
theorem comp_nest {x g y : Str} {px pg pg' p1 p2 p3 p4 p5 pos : Pos} {ct i2 : Expr} {scope : Scope} {cl : List (Str × Addr)} {l : Addr} {items : Array Value} {news : List (Addr × Obj)} {Q : Value → Shared → Prop}
    (J : Nat → List Value → List (Addr × Obj) → Prop) (hh : A.handled = none) (F : Fr h₀ L s.heap m) (N : News h₀ L s.heap news)
    (hclos : closureFor scope env = pure cl) (hcell : ∀ y ∈ scope.names, y.2 ≠ .cell) (hkind : scope.kind = .function) (hnames : ∀ y ∈ scope.names, y.2 = .local → scope.names.lookup y.1 = some .local) (hx : scope.names.lookup x = some .local) (hg : scope.names.lookup g = some .local) (hgd : (g == ("__debug__" : Str)) = false)
    (r1 : Rd env s.heap (Str.ofString "range") (.type "range")) (r2 : Rd env s.heap (Str.ofString "len") (.builtin "len")) (r3 : Rd env s.heap y (.ref l)) (hl : s.heap.IsList l items) (hz : items.size ≤ 64)
    (hJ : ∀ i ys nw, J i ys nw → ys.length ≤ 4096) (h0 : J 0 [] news)
    (step : ∀ i t ys nw I oI C oC D m₂ h tk (E' : Value → Shared → Prop), i < items.size → J i ys nw → NsObj oC m₂ → m₂ x = some (.int (i : Int) t) → Fr h₀ L h m → News h₀ L h ((I, oI) :: (C, oC) :: (D, lst ys) :: nw) → Off3 I C D nw → ((@Ne Nat I C) ∧ (@Ne Nat I D) ∧ (@Ne Nat C D)) →
      wpAny (model prog w) A (isTrue ct (compEnvC scope cl C env) (eval ct (compEnvC scope cl C env))) (fun ok s' => if ok = true then
        wpAny (model prog w) A (eval i2 (compEnvC scope cl C env)) (NestEnd h₀ L m s I oI C oC D ys (J (i + 1))) E' s'
        else CompEnd h₀ L m { s with heap := h, toks := tk } I oI C oC D (lst ys) (fun _ => True) (fun _ nw' => J (i + 1) ys nw') Value.none s') E' { s with heap := h, toks := tk })
    (fin : ∀ ys nw D h tk, J items.size ys nw → Fr h₀ L h m → News h₀ L h ((D, lst ys) :: nw) → Off1 D nw → Q (.ref D) { s with heap := h, toks := tk })
    (hs2 : ∀ C x, foldedSetIterable i2 (compEnvC scope cl C env) x = pure x) :
    wpAny (model prog w) A (eval (.ListComp (.Name g pg) [⟨.Name x px, .Call (.Name (Str.ofString "range") p1) [.Call (.Name (Str.ofString "len") p2) [.Name y p3] [] p4] [] p5, [ct], 0⟩, ⟨.Name g pg', i2, [], 0⟩] scope pos) env) Q E s := by
  rw [eval_ListComp]
  refine wpAny_comprehension_free (use := none) rfl (fun _ => rfl) hclos hkind hnames (range_len F N r1 r2 r3 hl hz fun h₁ tk₁ t₁ u₁ v₁ hr F' N' k' => ?_)
  refine wpAny_pyIter_range hr (small_one (by decide) (by decide) (by omega) (by omega)) ?_
  refine block_N (s₂ := { s with heap := _, toks := tk₁ }) (I := h₁.objs.size) (n := items.size) (news := news) J hh hz hcell hkind hx hg hgd ?_ ?_ (F'.keeps fun _ _ e => Heap.get?_push_of_some _ e) (N'.grown fun _ _ e => Heap.get?_push_of_some _ e) (Nat.ne_of_lt F'.ns.lt) (next_is_new F') (fun p hp => Nat.ne_of_lt (Heap.lt_size (N' p hp).1)) hJ h0 step hs2 ?_
  · show IsRangeIter _ _ _ _ _
    rw [sizeN0]; exact Heap.get?_push_size _ rfl
  · show h₁.objs.size < (h₁.push _).objs.size
    rw [Heap.size_push]; exact Nat.lt_succ_self _
  · intro D C h tk m' ys news' F₁ N₁ o1 hn hC₀ hD₀ hCL hDL hCD offC fin'
    refine ⟨m', hn, fun h'' hs'' => fin ys news' D h'' tk fin' (F₁.change hs'' hCL hC₀) (fun p hp => ?_) o1⟩
    refine ⟨hs''.extBut _ _ ?_ (N₁ p hp).1, (N₁ p hp).2⟩
    rcases List.mem_cons.mp hp with rfl | hp
    · exact Ne.symm hCD
    · exact offC p hp
end
def flI (fl : List Bool) : List Int := fl.map fun b => if b = true then 1 else 0
def goalsTo (fs : List Fld) (fl : List Bool) (n : Nat) : List Int := (List.range n).flatMap fun i => if fl.getD i false = true then nextF (fs.getD i (0, 0, 0, 0)) i else []
theorem goalsTo_succ {fs : List Fld} {fl : List Bool} {n : Nat} : goalsTo fs fl (n + 1) = goalsTo fs fl n ++ if fl.getD n false = true then nextF (fs.getD n (0, 0, 0, 0)) n else [] := by
  unfold goalsTo; rw [List.range_succ, List.flatMap_append]; simp
theorem next_len {f : Fld} {i : Int} : (nextF f i).length ≤ 2 := by
  unfold nextF
  split
  · split <;> simp
  · split <;> simp
theorem goalsTo_len {fs : List Fld} {fl : List Bool} : ∀ {n : Nat}, (goalsTo fs fl n).length ≤ 2 * n
  | 0 => by simp [goalsTo]
  | n + 1 => by
    rw [goalsTo_succ, List.length_append]
    have := goalsTo_len (fs := fs) (fl := fl) (n := n)
    split
    · have := next_len (f := fs.getD n (0, 0, 0, 0)) (i := n); omega
    · simp; omega
theorem ints_mk : ∀ {ys : List Value} {ks : List Int}, ys.length = ks.length → (∀ (i : Nat) (y : Value) (k : Int), ys[i]? = some y → ks[i]? = some k → ∃ t, y = .int k t) → IntsAre ys ks
  | [], [], _, _ => .nil
  | y :: ys, k :: ks, hl, h => by
    obtain ⟨t, rfl⟩ := h 0 y k rfl rfl
    exact .cons k t (ints_mk (Nat.succ.inj hl) fun i y' k' a b => h (i + 1) y' k' a b)
  | [], _ :: _, hl, _ => by cases hl
  | _ :: _, [], hl, _ => by cases hl
theorem off3_lt {I C D Dg : Addr} {oI oC oD o : Obj} {nw : List (Addr × Obj)} (off : LCg.Off3 I C D nw) (l : ∀ p ∈ (I, oI) :: (C, oC) :: (D, oD) :: nw, p.1 < Dg) : LCg.Off3 I C D ((Dg, o) :: nw) :=
  ⟨⟨Nat.ne_of_gt (l _ (.head _)), Nat.ne_of_gt (l _ (.tail _ (.head _))), Nat.ne_of_gt (l _ (.tail _ (.tail _ (.head _))))⟩, off⟩
theorem news_perm4 {h₀ h : Heap} {L : Addr} {a b c d : Addr × Obj} {r : List (Addr × Obj)} (N : News h₀ L h (d :: a :: b :: c :: r)) : News h₀ L h (a :: b :: c :: d :: r) := fun p hp => by
  refine N p ?_
  rcases List.mem_cons.mp hp with rfl | hp
  · exact .tail _ (.head _)
  · rcases List.mem_cons.mp hp with rfl | hp
    · exact .tail _ (.tail _ (.head _))
    · rcases List.mem_cons.mp hp with rfl | hp
      · exact .tail _ (.tail _ (.tail _ (.head _)))
      · rcases List.mem_cons.mp hp with rfl | hp
        · exact .head _
        · exact .tail _ (.tail _ (.tail _ (.tail _ hp)))
section
open PyProof.Rows.LCg
variable {prog : Program} {w : World} {A : Around} {E : Value → Shared → Prop} {s : Shared} {h₀ : Heap} {L : Addr} {m : Str → Option Value} {env : Env}
/-- z[x] == 1 -/
theorem eq_item {x z : Str} {kk i : Nat} {p1 p2 p3 p4 p5 : Pos} {D : Addr} {ys : List Value} {fl : List Bool} {t : Tok} {k : Int} {whole : Sem Value} {Q : Bool → Shared → Prop}
    (rz : Rd env s.heap z (.ref D)) (rx : Rd env s.heap x (.int k t)) (hl : s.heap.IsList D ys.toArray) (hys : IntsAre ys (flI fl)) (hk : k = (i : Int)) (hi : i < fl.length) (hz : fl.length ≤ 64) (h : ∀ tk, Q (fl.getD i false) { s with toks := tk }) :
    wpAny (model prog w) A (isTrue (.Compare (.Subscript (.Name z p1) (.Name x p2) p3) [.Eq] [.Constant (.int 1) kk p4] p5) env whole) Q E s := by
  subst hk
  have hlen : ys.length = fl.length := by rw [hys.length]; simp [flI]
  obtain ⟨g, tg, hg, hg2⟩ := ints_get hys (List.getElem?_eq_getElem (hlen ▸ hi))
  have hb : g = if fl.getD i false = true then 1 else 0 := by
    unfold flI at hg2
    rw [List.getElem?_map, List.getElem?_eq_getElem hi] at hg2
    rw [List.getD_eq_getElem?_getD, List.getElem?_eq_getElem hi]
    exact (Option.some.inj hg2).symm
  refine wpAny_isTrue_Compare1 (item_name rz rx hl (by omega) (by omega) (v := .int g tg) ?_ (wpAny_Constant_int (PyProof.Rows.eq_int (wpAny_truthy_bool ?_)))) rfl
  · rw [Int.toNat_natCast, List.getElem?_toArray, List.getElem?_eq_getElem (hlen ▸ hi), hg]
  · rw [show (g == 1) = fl.getD i false by rw [hb]; cases fl.getD i false <;> rfl]
    exact h _
/-- [g for x in range(len(row)) if flags[x] == 1 for g in _law_next(row, x)] -/
theorem goals_comp {x g : Str} {px pg pg' p1 p2 p3 p4 p5 q1 q2 q3 q4 q5 q6 q7 q8 q9 pos : Pos} {kk : Nat} {scope : Scope} {cl : List (Str × Addr)} {l D : Addr} {items : Array Value} {news : List (Addr × Obj)} {Q : Value → Shared → Prop} {fs : List Fld} {fl : List Bool} {ys : List Value} {kD : Nat}
    (hh : A.handled = none) (F : Fr h₀ L s.heap m) (N : News h₀ L s.heap news) (X : (hd.heap_39 w.params).In h₀)
    (hclos : closureFor scope env = pure cl) (hcell : ∀ y ∈ scope.names, y.2 ≠ .cell) (hkind : scope.kind = .function) (hnames : ∀ y ∈ scope.names, y.2 = .local → scope.names.lookup y.1 = some .local) (hx : scope.names.lookup x = some .local) (hg : scope.names.lookup g = some .local) (hgd : (g == ("__debug__" : Str)) = false) (hxd : (x == ("__debug__" : Str)) = false)
    (r1 : Rd env s.heap (Str.ofString "range") (.type "range")) (r2 : Rd env s.heap (Str.ofString "len") (.builtin "len")) (r3 : Rd env s.heap (Str.ofString "row") (.ref l)) (hl : s.heap.IsList l items) (hz : items.size ≤ 64) (hfs : fs.length = items.size) (hfl : fl.length = items.size)
    (iD : (D, listOf (List.toArray ys) kD) ∈ news) (hys : IntsAre ys (flI fl))
    (hck : ∀ C, (compEnvC scope cl C env).scope.kind = .function) (hxl : ∀ C, (compEnvC scope cl C env).kindOf x = some .local)
    (rz : ∀ C h, News h₀ L h news → Rd (compEnvC scope cl C env) h (Str.ofString "flags") (.ref D)) (rr : ∀ C h, News h₀ L h news → Rd (compEnvC scope cl C env) h (Str.ofString "row") (.ref l)) (rn : ∀ C h, Fr h₀ L h m → Rd (compEnvC scope cl C env) h (Str.ofString "_law_next") (.ref 296))
    (hcall : ∀ (h : Heap) (tk : Nat) (nw : List (Addr × Obj)) (i : Nat) (t : Tok) (f : Fld) {Q E : Value → Shared → Prop}, Fr h₀ L h m → News h₀ L h nw → (∀ p ∈ news, p ∈ nw) → fs[i]? = some f →
      (∀ Dg ys k h' tk', IntsAre ys (nextF f i) → Fr h₀ L h' m → News h₀ L h' ((Dg, listOf (List.toArray ys) k) :: nw) → (∀ p ∈ nw, p.1 < Dg) → Q (.ref Dg) { s with heap := h', toks := tk' }) → wpAny (model prog w) A (call (.ref 296) [.ref l, .int i t]) Q E { s with heap := h, toks := tk })
    (fin : ∀ gs nw D' h tk, IntsAre gs (goalsAll fs fl) → (∀ p ∈ news, p ∈ nw) → Fr h₀ L h m → News h₀ L h ((D', lst gs) :: nw) → Off1 D' nw → Q (.ref D') { s with heap := h, toks := tk }) :
    wpAny (model prog w) A (eval (.ListComp (.Name g pg) [⟨.Name x px, .Call (.Name (Str.ofString "range") p1) [.Call (.Name (Str.ofString "len") p2) [.Name (Str.ofString "row") p3] [] p4] [] p5, [.Compare (.Subscript (.Name (Str.ofString "flags") q1) (.Name x q2) q3) [.Eq] [.Constant (.int 1) kk q4] q5], 0⟩,
      ⟨.Name g pg', .Call (.Name (Str.ofString "_law_next") q6) [.Name (Str.ofString "row") q7, .Name x q8] [] q9, [], 0⟩] scope pos) env) Q E s := by
  refine comp_nest (fun i ys nw => i ≤ items.size ∧ (∀ p ∈ news, p ∈ nw) ∧ IntsAre ys (goalsTo fs fl i)) hh F N hclos hcell hkind hnames hx hg hgd r1 r2 r3 hl hz ?_ ⟨Nat.zero_le _, fun _ h => h, .nil⟩ ?_ ?_ (fun _ _ => rfl)
  · rintro i ys nw ⟨h1, _, h3⟩
    rw [h3.length]
    have := goalsTo_len (fs := fs) (fl := fl) (n := i)
    omega
  · rintro i t zs nw I oI C oC D₂ m₂ h tk E' hi ⟨h1, h2, h3⟩ hC hxm F₁ N₁ off ne
    have nC : h.Ns C m₂ := hC.ns (N₁ (C, oC) (.tail _ (.head _))).1
    have sub : ∀ p ∈ news, p ∈ (I, oI) :: (C, oC) :: (D₂, lst zs) :: nw := fun p hp => .tail _ (.tail _ (.tail _ (h2 p hp)))
    have N₂ : News h₀ L h news := fun p hp => N₁ p (sub p hp)
    have rx : Rd (compEnvC scope cl C env) h x (.int (i : Int) t) := Rd.ns (hck C) (hxl C) nC hxm hxd
    have hfi : fs[i]? = some (fs[i]'(by omega)) := List.getElem?_eq_getElem (by omega)
    refine eq_item (s := { s with heap := h, toks := tk }) (rz C h N₂) rx (isListOf (N₂ _ iD).1) hys rfl (by omega) (by omega) fun tk' => ?_
    by_cases e : fl.getD i false = true
    · rw [if_pos e]
      refine callR (s := { s with heap := h, toks := tk' }) (X.keeps F₁.keep) (rn C h F₁) (by k_is) (.cons (rr C h N₂) (.cons rx .nil)) (hcall h tk' _ i t _ F₁ N₁ sub hfi fun Dg gs k h' tk₂ hgs F₃ N₃ lt => ?_)
      refine ⟨Dg, gs, k, (Dg, listOf gs.toArray k) :: nw, h', tk₂, rfl, rfl, F₃, news_perm4 N₃, off3_lt off lt, .head _, by omega, fun p hp => .tail _ (h2 p hp), ?_⟩
      rw [goalsTo_succ, if_pos e, List.getD_eq_getElem?_getD, hfi]
      exact h3.append hgs
    · rw [if_neg e]
      refine comp_end0 F₁ N₁ off ⟨by omega, h2, ?_⟩
      rw [goalsTo_succ, if_neg e, List.append_nil]
      exact h3
  · rintro zs nw D' h tk ⟨_, h2, h3⟩ F₁ N₁ o₁
    exact fin zs nw D' h tk (by rw [← hfs] at h3; exact h3) h2 F₁ N₁ o₁
end
section
open PyProof.Rows.LCg
variable {prog : Program} {w : World} {A : Around} {E : Value → Shared → Prop} {s : Shared} {h₀ : Heap} {L : Addr} {m : Str → Option Value} {env : Env}
/-- [1 if flags[x] == 1 or x in goals else 0 for x in range(len(row))] -/
theorem lap_comp {x : Str} {px p1 p2 p3 p4 p5 q1 q2 q3 q4 q5 q6 q7 q8 q9 q10 q11 q12 pos : Pos} {kk k1 k2 : Nat} {scope : Scope} {cl : List (Str × Addr)} {l D Dg : Addr} {items : Array Value} {news : List (Addr × Obj)} {Q : Value → Shared → Prop} {fs : List Fld} {fl : List Bool} {ys gs : List Value} {kD kg : Nat}
    (hh : A.handled = none) (F : Fr h₀ L s.heap m) (N : News h₀ L s.heap news)
    (hclos : closureFor scope env = pure cl) (hcell : ∀ y ∈ scope.names, y.2 ≠ .cell) (hkind : scope.kind = .function) (hnames : ∀ y ∈ scope.names, y.2 = .local → scope.names.lookup y.1 = some .local) (hx : scope.names.lookup x = some .local) (hxd : (x == ("__debug__" : Str)) = false)
    (r1 : Rd env s.heap (Str.ofString "range") (.type "range")) (r2 : Rd env s.heap (Str.ofString "len") (.builtin "len")) (r3 : Rd env s.heap (Str.ofString "row") (.ref l)) (hl : s.heap.IsList l items) (hz : items.size ≤ 64) (hfs : fs.length = items.size) (hfl : fl.length = items.size)
    (iD : (D, listOf (List.toArray ys) kD) ∈ news) (hys : IntsAre ys (flI fl)) (ig : (Dg, listOf (List.toArray gs) kg) ∈ news) (hgs : IntsAre gs (goalsAll fs fl))
    (hck : ∀ C, (compEnvC scope cl C env).scope.kind = .function) (hxl : ∀ C, (compEnvC scope cl C env).kindOf x = some .local)
    (rz : ∀ C h, News h₀ L h news → Rd (compEnvC scope cl C env) h (Str.ofString "flags") (.ref D)) (rg : ∀ C h, News h₀ L h news → Rd (compEnvC scope cl C env) h (Str.ofString "goals") (.ref Dg))
    (fin : ∀ zs D' h tk, IntsAre zs (flI (lapF fs fl)) → Fr h₀ L h m → News h₀ L h ((D', lst zs) :: news) → Off1 D' news → Q (.ref D') { s with heap := h, toks := tk }) :
    wpAny (model prog w) A (eval (.ListComp (.IfExp (.BoolOp .Or [.Compare (.Subscript (.Name (Str.ofString "flags") q1) (.Name x q2) q3) [.Eq] [.Constant (.int 1) kk q4] q5, .Compare (.Name x q6) [.In] [.Name (Str.ofString "goals") q7] q8] q9) (.Constant (.int 1) k1 q10) (.Constant (.int 0) k2 q11) q12)
      [⟨.Name x px, .Call (.Name (Str.ofString "range") p1) [.Call (.Name (Str.ofString "len") p2) [.Name (Str.ofString "row") p3] [] p4] [] p5, [], 0⟩] scope pos) env) Q E s := by
  refine LCg.ListComp_U F hclos hcell hkind hnames hx (range_len F N r1 r2 r3 hl hz fun h' tk t₁ u₁ v₁ hr F' N' k' => ?_)
  refine LCg.CompSrc.range hh F' N' hr (small_one (by decide) (by decide) (by omega) (by omega)) sizeN (by exact Nat.le_trans hz (by decide)) fun g => ?_
  refine comp_pure (fun i y => ∃ t, y = .int (if (fl.getD i false || (goalsAll fs fl).contains (i : Int)) = true then 1 else 0) t) (fun zs hlen hzs D' h tk F₁ N₁ o₁ => fin zs D' h tk ?_ F₁ N₁ o₁) ?_
  · refine ints_mk (by rw [hlen]; unfold flI lapF; simp [hfs]) fun i y k hy hk => ?_
    obtain ⟨t, rfl⟩ := hzs i y hy
    have hi : i < items.size := hlen ▸ (List.getElem?_eq_some_iff.mp hy).1
    unfold flI lapF at hk
    rw [List.getElem?_map, List.getElem?_map, List.getElem?_range (by omega)] at hk
    exact ⟨t, by rw [← Option.some.inj hk]⟩
  · intro i t zs I oI C oC D₂ m₂ h tk E' hi hC hxm F₁ N₁ off ne
    have nC : h.Ns C m₂ := hC.ns (N₁ (C, oC) (.tail _ (.head _))).1
    have N₂ : News h₀ L h news := fun p hp => N₁ p (.tail _ (.tail _ (.tail _ hp)))
    have rx : Rd (compEnvC scope cl C env) h x (.int (0 + (i : Int)) t) := Rd.ns (hck C) (hxl C) nC hxm hxd
    have e1 : ∀ b : Bool, (fl.getD i false || (goalsAll fs fl).contains (i : Int)) = b → ∀ tk', wpAny (model prog w) A (if b = true then eval (.Constant (.int 1) k1 q10) (compEnvC scope cl C env) else eval (.Constant (.int 0) k2 q11) (compEnvC scope cl C env))
        (CompEnd h₀ L m { s with heap := h, toks := tk } I oI C oC D₂ (lst zs) (fun _ => True) (fun y nw' => nw' = news ∧ ∃ t, y = .int (if (fl.getD i false || (goalsAll fs fl).contains (i : Int)) = true then 1 else 0) t)) E' { s with heap := h, toks := tk' } := by
      intro b hb tk'
      rw [hb]
      cases b with
      | true => rw [if_pos rfl, if_pos rfl]; exact wpAny_Constant_int (comp_end0 F₁ N₁ off ⟨rfl, _, rfl⟩)
      | false => rw [if_neg Bool.false_ne_true, if_neg Bool.false_ne_true]; exact wpAny_Constant_int (comp_end0 F₁ N₁ off ⟨rfl, _, rfl⟩)
    refine wpAny_IfExp (wpAny_isTrue_BoolOp (wpAny_allTrue_Or_cons (eq_item (s := { s with heap := h, toks := tk }) (rz C h N₂) rx (isListOf (N₂ _ iD).1) hys (Int.zero_add _) (by omega) (by omega) fun tk' => ?_)))
    by_cases e : fl.getD i false = true
    · rw [if_pos e]
      have z := e1 true (by rw [e]; rfl) tk'
      rw [if_pos rfl] at z ⊢
      exact z
    · rw [if_neg e]
      refine wpAny_allTrue_Or_cons (wpAny_isTrue_Compare1 (rx.ok (s := { s with heap := h, toks := tk' }) ((rg C h N₂).ok (s := { s with heap := h, toks := tk' }) (in_list_ints (isListOf (N₂ _ ig).1) hgs (wpAny_truthy_bool ?_)))) rfl)
      have hc : (goalsAll fs fl).any (fun y => y == (0 + (i : Int))) = (goalsAll fs fl).contains (i : Int) := by
        rw [Int.zero_add]
        rw [List.contains_eq_any_beq]
        congr 1; funext y; exact Bool.beq_comm
      rw [hc]
      have e' : fl.getD i false = false := Bool.eq_false_iff.mpr e
      by_cases hb : (goalsAll fs fl).contains (i : Int) = true
      · have z := e1 true (by rw [e', hb]; rfl) tk'
        rw [if_pos rfl] at z
        rw [if_pos hb, if_pos rfl]
        exact z
      · have z := e1 false (by rw [e', Bool.eq_false_iff.mpr hb]; rfl) tk'
        rw [if_neg Bool.false_ne_true] at z
        rw [if_neg hb]
        refine wpAny_allTrue_Or_nil ?_
        rw [if_neg Bool.false_ne_true]
        exact z
/-- [x for x in range(len(row)) if flags[x] == 1] -/
theorem last_comp {x : Str} {px p1 p2 p3 p4 p5 p9 q1 q2 q3 q4 q5 pos : Pos} {kk : Nat} {scope : Scope} {cl : List (Str × Addr)} {l D : Addr} {items : Array Value} {news : List (Addr × Obj)} {Q : Value → Shared → Prop} {fl : List Bool} {ys : List Value} {kD : Nat}
    (hh : A.handled = none) (F : Fr h₀ L s.heap m) (N : News h₀ L s.heap news)
    (hclos : closureFor scope env = pure cl) (hcell : ∀ y ∈ scope.names, y.2 ≠ .cell) (hkind : scope.kind = .function) (hnames : ∀ y ∈ scope.names, y.2 = .local → scope.names.lookup y.1 = some .local) (hx : scope.names.lookup x = some .local) (hxd : (x == ("__debug__" : Str)) = false)
    (r1 : Rd env s.heap (Str.ofString "range") (.type "range")) (r2 : Rd env s.heap (Str.ofString "len") (.builtin "len")) (r3 : Rd env s.heap (Str.ofString "row") (.ref l)) (hl : s.heap.IsList l items) (hz : items.size ≤ 64) (hfl : fl.length = items.size)
    (iD : (D, listOf (List.toArray ys) kD) ∈ news) (hys : IntsAre ys (flI fl))
    (hck : ∀ C, (compEnvC scope cl C env).scope.kind = .function) (hxl : ∀ C, (compEnvC scope cl C env).kindOf x = some .local)
    (rz : ∀ C h, News h₀ L h news → Rd (compEnvC scope cl C env) h (Str.ofString "flags") (.ref D))
    (fin : ∀ zs D' h tk, IntsAre zs (((List.range items.size).filter fun i => fl.getD i false).map fun i : Nat => (0 : Int) + (i : Int)) → Fr h₀ L h m → News h₀ L h ((D', lst zs) :: news) → Off1 D' news → Q (.ref D') { s with heap := h, toks := tk }) :
    wpAny (model prog w) A (eval (.ListComp (.Name x p9) [⟨.Name x px, .Call (.Name (Str.ofString "range") p1) [.Call (.Name (Str.ofString "len") p2) [.Name (Str.ofString "row") p3] [] p4] [] p5, [.Compare (.Subscript (.Name (Str.ofString "flags") q1) (.Name x q2) q3) [.Eq] [.Constant (.int 1) kk q4] q5], 0⟩] scope pos) env) Q E s := by
  refine LCt.ListComp_T F hclos hcell hkind hnames hx (range_len F N r1 r2 r3 hl hz fun h' tk t₁ u₁ v₁ hr F' N' k' => ?_)
  refine LCt.CompSrcT.range hh F' N' hr (small_one (by decide) (by decide) (by omega) (by omega)) sizeN (by exact Nat.le_trans hz (by decide)) fun g => ?_
  refine comp_filter (fun i => fl.getD i false) (fun zs hzs D' h tk F₁ N₁ o₁ => fin zs D' h tk hzs F₁ N₁ o₁) ?_
  intro i t zs I oI C oC D₂ m₂ h tk E' hi hC hxm F₁ N₁ off ne
  have nC : h.Ns C m₂ := hC.ns (N₁ (C, oC) (.tail _ (.head _))).1
  have N₂ : News h₀ L h news := fun p hp => N₁ p (.tail _ (.tail _ (.tail _ hp)))
  have rx : Rd (compEnvC scope cl C env) h x (.int (0 + (i : Int)) t) := Rd.ns (hck C) (hxl C) nC hxm hxd
  refine eq_item (s := { s with heap := h, toks := tk }) (rz C h N₂) rx (isListOf (N₂ _ iD).1) hys (Int.zero_add _) (by omega) (by omega) fun tk' => ?_
  by_cases e : fl.getD i false = true
  · rw [if_pos e]
    exact rx.ok (s := { s with heap := h, toks := tk' }) (comp_end0 F₁ N₁ off ⟨rfl, e, t, rfl⟩)
  · rw [if_neg e]
    exact comp_end0 F₁ N₁ off ⟨rfl, Bool.eq_false_iff.mpr e⟩
end
section
variable {prog : Program} {w : World} {A : Around} {E : Value → Shared → Prop} {s : Shared} {h₀ : Heap} {L : Addr} {m : Str → Option Value} {env : Env}
theorem store_cell {x : Str} {c : Addr} {o : Obj} {v : Value} {v₀ : Option Value} {r : List (Addr × Obj)} {Q : Unit → Shared → Prop} (hk : env.scope.kind = .function) (hx : env.kindOf x = some .cell) (hc : env.cells.lookup x = some c)
    (F : Fr h₀ L s.heap m) (N : News h₀ L s.heap ((c, o) :: r)) (off : ∀ p ∈ r, p.1 ≠ c) (hd : o.data = .cell v₀)
    (h : ∀ h' o', Fr h₀ L h' m → News h₀ L h' ((c, o') :: r) → o'.data = .cell (some v) → Q () { s with heap := h' }) : wpAny (model prog w) A (storeName env x v) Q E s := by
  have hm := N (c, o) (.head _)
  refine wpAny_storeName_cell hk hx hc ⟨o, hm.1, hd⟩ fun h' hv hs => ?_
  obtain ⟨o', ho', hd'⟩ := hv
  exact h h' o' (F.change hs hm.2.1 hm.2.2) (news_set1 N hs ho' off) hd'
end
/-- between the law's rounds -/
def LapJ (fl : List Bool) (cf cg : Addr) (base : List (Addr × Obj)) (nw : List (Addr × Obj)) : Prop :=
  ∃ D ys kD of og v r, nw = (cf, of) :: (cg, og) :: r ∧ (∀ p ∈ r, p.1 ≠ cf ∧ p.1 ≠ cg) ∧ of.data = .cell (some (.ref D)) ∧ og.data = .cell v ∧ (D, listOf (List.toArray ys) kD) ∈ r ∧ IntsAre ys (flI fl) ∧ ∀ p ∈ base, p ∈ r
section
variable {w : World} {p : Program} {lo : List Str} {mean : ExcName → Option Value} {mg mb : Str → Option Value} {dp un : Nat} {gd : Option (List Code)} {cn : Str} {cs : Scope} {a : Addr} {ccd : Value} {cl : List (Str × Addr)} {outer : List Env} {A₀ : Around} {base h₀ : Heap} {L : Addr} {m : Str → Option Value} {s : Shared} {Q E : Value → Shared → Prop} {news : List (Addr × Obj)}
  {vs : List Value} {fs : List Fld} {l : Addr} {nn : Nat}
theorem lreached (cx : Cx w p lo mean mg mb A₀ base outer h₀ L s.heap m cs) (N : News h₀ L s.heap news) (i1 : (l, listOf (List.toArray vs) nn) ∈ news) (hO : Tups news vs fs) (hz : fs.length ≤ 7) (h1 : 1 ≤ fs.length) (hd : dp + 4 < recursionLimit)
  (ret : ∀ D ys k nw h' tk', IntsAre ys (((List.range fs.length).filter fun i => (lapsF fs fs.length).getD i false).map fun i : Nat => (0 : Int) + (i : Int)) → Fr h₀ L h' m → News h₀ L h' ((D, listOf (List.toArray ys) k) :: nw) → (∀ p ∈ news, p ∈ nw) → Q (.ref D) { s with heap := h', toks := tk' }) :
  wpAny (model PySem.Challenge.rw_rg0263_01.row.prog w) (ktrTop dp un gd cn cs L a ccd cl outer) (call (.ref 301) [.ref l]) Q E s := by
  obtain ⟨B, F, X, T, hk⟩ := cx
  have hv : vs.toArray.size = fs.length := hO.1
  (refine wpAny_call ?_; k_dflt (refine' code_defC ?qk1 ?qk2 ?qk3 ?qk4 ?qk5 ?qkA ?qkF ?qkK ?qk6 ?qk7 ?qk8 ?qk9 ?qkB ?qkD ?_ ?qc2 ?qc3 ?qc4; (case qkA => exact rfl); (case qkF => exact rfl); (case qkK => first | assumption | exact rfl); (case qk1 => k_asm); (case qk2 => k_asm); (case qk3 => k_asm); (case qk4 => k_asm); (case qk5 => k_asm); (case qk6 => k_is); (case qk7 => k_is); (case qk8 => exact rm (a := 0) hd (by decide)); (case qk9 => exact BindsTo.of_eq rfl); (case qkB => exact rfl); (case qkD => decide +kernel); (case qc2 => exact rfl); (case qc3 => exact rfl); (case qc4 => exact rfl); k_whole; intro g' L' h' tk' cells' FG' F' N' Y' B' X' T' l1; k_cells Y'; (try simp only [List.cons_append, List.nil_append] at N'); (try dsimp only); (try k_fold)))
  k_with_none
  k_with "iop" => (first | exact Iop.add | exact Iop.sub | exact Iop.mod (by first | assumption | decide) | exact Iop.div (by decide) (by decide))
  k_with "idx" => decide
  k_with "item" => rfl
  k_with "nn" => (first | decide | assumption)
  k_with "sevi" => (first | exact Sev.int | exact Sev.loc rfl rfl (by decide) | exact Sev.glo rfl (by k_is) (by decide) | (apply Sev.bin; (k_extra "sevi"); (k_extra "sevi"); (k_extra "iop")) | (apply Sev.item; (k_extra "sevi"); (k_extra "sevi"); k_mem; (k_extra "nn"); (k_extra "idx"); (k_extra "item")) | (apply Sev.fld; (k_extra "sevi"); k_mem; k_mem; constructor; rfl))
  k_with "sargs" => (first | exact Sargs.nil | (apply Sargs.cons; (k_extra "sevi"); (k_extra "sargs")))
  k_with "eval Call" => ((with_reducible show wpAny _ _ (eval (Expr.Call (Expr.Name _ _) _ [] _) _) _ _ _); k_dflt (refine' callS ?qF ?qX ?qT ?qN ?qh0 ?qkp ?qh1 ?_ ?qx1 ?qx2; (case qF => k_asm); (case qX => k_asm); (case qT => k_asm); (case qN => k_asm); (case qx1 => exact rfl); (case qx2 => exact rfl); (case qh0 => exact Sev.glo rfl (by k_is) (by decide)); (case qkp => k_is); (case qh1 => k_extra "sargs"); k_whole); (try dsimp only))
  k_with "isTrue Compare" => ((with_reducible show wpAny _ _ (isTrue (Expr.Compare _ [_] [_] _) _ _) _ _ _); k_dflt (refine' testS ?qF ?qX ?qT ?qN ?qh1 ?qh2 ?qhc ?_ ?qx1 ?qx2; (case qF => k_asm); (case qX => k_asm); (case qT => k_asm); (case qN => k_asm); (case qx1 => exact rfl); (case qx2 => exact rfl); (case qh1 => k_extra "sevi"); (case qh2 => k_extra "sevi"); (case qhc => constructor); k_whole); (try dsimp only))
  k_with "evals" => (k_dflt (refine' evalS ?qF ?qX ?qT ?qN ?qh1 ?_ ?qx1 ?qx2; (case qF => k_asm); (case qX => k_asm); (case qT => k_asm); (case qN => k_asm); (case qx1 => exact rfl); (case qx2 => exact rfl); (case qh1 => k_extra "sevi"); k_whole); (try dsimp only))
  k_with "eval BinOp" => k_extra "evals"
  k_with "eval Subscript" => k_extra "evals"
  k_with "eval Attribute Name" => k_extra "evals"
  k_with "execs cons" => ((with_reducible show wpAny _ _ (execs (Stmt.Assign [Expr.Name _ _] _ _ :: _) _) _ _ _); k_dflt (refine' assignS ?qF ?qX ?qT ?qN ?qh1 ?qhx ?qhs ?_ ?qx1 ?qx2; (case qF => k_asm); (case qX => k_asm); (case qT => k_asm); (case qN => k_asm); (case qx1 => exact rfl); (case qx2 => exact rfl); (case qhx => exact rfl); (case qhs => exact rfl); (case qh1 => k_extra "sevi"); k_whole); intro h' F' N'; (try k_sweep); (try dsimp only))
  k_with "call builtin:len" => ((with_reducible show wpAny _ _ (call (Value.builtin "len") [Value.ref _]) _ _ _); k_dflt (refine' len_list (News.isList (by k_asm) (by first | exact i1 | exact .tail _ i1 | exact .tail _ (.tail _ i1) | exact .tail _ (.tail _ (.tail _ i1)) | exact .tail _ (.tail _ (.tail _ (.tail _ i1)))| exact .tail _ (.tail _ (.tail _ (.tail _ (.tail _ i1)))))) ?qz ?_; (case qz => (rw [hv]; omega))); rw [hv])
  k_with "storeName" => ((rename Fr _ _ _ _ => lF'); (rename News _ _ _ _ => lN'); (rename IntsAre _ _ => lI'); (rename Top _ _ _ _ _ _ => lT'); (rename Frag.In _ _ => lX'); (refine stop_of ?_))
  k_steps
  rename_i o1 o2 o3 d1 d2 d3 la ha ll1 lb hb ll2 Dm hm im nm sm em1 em2 em3 ll3 D5 ws h5 ll4
  unfold Stop
  have hc1 : (envOfC (Str.ofString "_law_reached") Mine.hd.s301.val L' 301 (Value.ref 300)).cells.lookup (Str.ofString "flags") = some (L' + 1 + 1) := rfl
  have hc2 : (envOfC (Str.ofString "_law_reached") Mine.hd.s301.val L' 301 (Value.ref 300)).cells.lookup (Str.ofString "goals") = some (L' + 1 + 1 + 1) := rfl
  have hc3 : (envOfC (Str.ofString "_law_reached") Mine.hd.s301.val L' 301 (Value.ref 300)).cells.lookup (Str.ofString "row") = some (L' + 1) := rfl
  have e3 : o3.data = .cell (some (.ref l)) := d3
  have e1 : o1.data = .cell none := d1
  have e2 : o2.data = .cell none := d2
  have hI : IntsAre ws (flI (flag0 fs.length)) := by
    have q : flI (flag0 fs.length) = [1] ++ (List.replicate (↑fs.length - 1 : Int).toNat [0]).flatten := by
      obtain ⟨n, hn⟩ : ∃ n, fs.length = n + 1 := ⟨fs.length - 1, by omega⟩
      rw [hn, show ((↑(n + 1) : Int) - 1).toNat = n by omega]
      unfold flI flag0
      rw [List.range_succ_eq_map, List.map_cons, List.map_cons, List.map_map, List.map_map]
      refine List.cons_eq_cons.mpr ⟨rfl, List.ext_getElem? fun j => ?_⟩
      by_cases hj : j < n
      · rw [List.getElem?_map, List.getElem?_range hj]
        rw [show (List.replicate n [(0 : Int)]).flatten = List.replicate n 0 by simp]
        rw [show ([] : List Int).append (List.replicate n 0) = List.replicate n 0 from rfl, List.getElem?_replicate, if_pos hj]; rfl
      · rw [List.getElem?_eq_none (by simp; omega), List.getElem?_eq_none (by show ([].append _).length ≤ _; simp; omega)]
    rw [q]; exact lI'
  have hlt : ∀ p ∈ (D5, listOf ws.toArray 0) :: (L' + 1, o3) :: news, p.1 ≠ L' + 1 + 1 ∧ p.1 ≠ L' + 1 + 1 + 1 := by
    intro p hp
    rcases List.mem_cons.mp hp with rfl | hp
    · exact ⟨Nat.ne_of_gt ll4.2.2.2.2.1, Nat.ne_of_gt ll4.2.2.2.1⟩
    · rcases List.mem_cons.mp hp with rfl | hp
      · exact ⟨Nat.ne_of_lt (Nat.lt_succ_self _), Nat.ne_of_lt (Nat.lt_succ_of_lt (Nat.lt_succ_self _))⟩
      · have := l1 p hp
        exact ⟨Nat.ne_of_lt (Nat.lt_succ_of_lt (Nat.lt_succ_of_lt this)), Nat.ne_of_lt (Nat.lt_succ_of_lt (Nat.lt_succ_of_lt (Nat.lt_succ_of_lt this)))⟩
  refine store_cell rfl rfl hc1 lF' (r := (L' + 1 + 1 + 1, o1) :: (D5, listOf ws.toArray 0) :: (L' + 1, o3) :: news) ?_ ?_ e2 ?_
  · intro p hp
    refine lN' p ?_
    simp only [List.mem_cons] at hp ⊢
    rcases hp with h | h | h | h | h <;> simp [h]
  · intro p hp
    rcases List.mem_cons.mp hp with rfl | hp
    · exact Nat.ne_of_gt (Nat.lt_succ_self _)
    · exact (hlt p hp).1
  · intro h6 of F6 N6 df
    have rr1 : ∀ {h : Heap} {m' : Str → Option Value}, Fr g' L' h m' → Rd (envOfC (Str.ofString "_law_reached") Mine.hd.s301.val L' 301 (Value.ref 300)) h (Str.ofString "range") (.type "range") := fun F => Rd.bi rfl rfl rfl rfl F lX' (topRead_of lT') (by k_is) boot_range (by decide) rfl
    have rr2 : ∀ {h : Heap} {m' : Str → Option Value}, Fr g' L' h m' → Rd (envOfC (Str.ofString "_law_reached") Mine.hd.s301.val L' 301 (Value.ref 300)) h (Str.ofString "len") (.builtin "len") := fun F => Rd.bi rfl rfl rfl rfl F lX' (topRead_of lT') (by k_is) boot_len (by decide) rfl
    have rr3 : ∀ {h : Heap} {led : List (Addr × Obj)}, News g' L' h led → (L' + 1, o3) ∈ led → Rd (envOfC (Str.ofString "_law_reached") Mine.hd.s301.val L' 301 (Value.ref 300)) h (Str.ofString "row") (.ref l) := fun N i => Rd.cell rfl rfl hc3 N i e3 rfl
    refine wpAny_execs_cons ?_
    refine for_range_len (Str.ofString "lap") (fun i nw => LapJ (lapsF fs i) (L' + 1 + 1) (L' + 1 + 1 + 1) ((L' + 1, o3) :: news) nw) rfl rfl rfl F6 N6 (rr1 F6) (rr2 F6) (rr3 N6 (by simp)) (News.isList N6 (.tail _ (.tail _ (.tail _ (.tail _ i1))))) (by rw [hv]; omega) ⟨D5, ws, 0, of, o1, none, _, rfl, hlt, df, e1, .head _, hI, fun p hp => .tail _ hp⟩ ?yt ?ye
    case yt =>
      rintro i t u nw I oI h tk hi ⟨D, ys, kD, of', og, v, r, rfl, ho, hdf, hdg, iD, hys, hs⟩ F₁ N₁ o₁
      rw [hv] at hi
      have hb3 : (L' + 1, o3) ∈ r := hs _ (.head _)
      have hbl : (l, listOf vs.toArray nn) ∈ r := hs _ (.tail _ i1)
      have inr : ∀ {p}, p ∈ r → p ∈ (I, oI) :: (L' + 1 + 1, of') :: (L' + 1 + 1 + 1, og) :: r := fun h => .tail _ (.tail _ (.tail _ h))
      refine wpAny_execs_cons (wpAny_Assign_Name (goals_comp (fs := fs) (fl := lapsF fs i) (ys := ys) (kD := kD) (D := D) rfl F₁ N₁ lX' (by with_unfolding_all rfl) (by decide) rfl (by decide) rfl rfl rfl rfl (rr1 F₁) (rr2 F₁) (rr3 N₁ (inr hb3)) (News.isList N₁ (inr hbl)) (by rw [hv]; omega) hv.symm (by rw [laps_len, hv]) (inr iD) hys
        (fun _ => rfl) (fun _ => rfl) (fun C h N => Rd.cell rfl rfl rfl N (.tail _ (.head _)) hdf rfl) (fun C h N => Rd.cell rfl rfl rfl N (inr hb3) e3 rfl) (fun C h F => Rd.glo rfl rfl rfl F lX' (topRead_of lT') (by k_is) rfl) ?yc ?yf) (by with_unfolding_all rfl))
      case yc =>
        intro h2 tk2 nw2 i2 t2 f2 Q2 E2 F2 N2 sub2 hf2 k2
        exact lnext ⟨B', F2, lX', lT', rfl⟩ N2 (sub2 _ (inr hbl)) (Tups.sub (fun p hp => sub2 p (inr (hs p (.tail _ hp)))) hO) hf2 (by have := (List.getElem?_eq_some_iff.mp hf2).1; omega) (rm (a := 3) hd (by decide)) k2
      case yf =>
        intro gs nw1 Dg h2 tk2 hgs sub1 F2 N2 of2
        have off2 := Off1.all of2
        have m1 : ∀ {p}, p ∈ (I, oI) :: (L' + 1 + 1, of') :: (L' + 1 + 1 + 1, og) :: r → p ∈ nw1 := fun h => sub1 _ h
        have hIf : I ≠ L' + 1 + 1 := fun q => o₁ _ (.head _) q.symm
        have hIg : I ≠ L' + 1 + 1 + 1 := fun q => o₁ _ (.tail _ (.head _)) q.symm
        have hDf : Dg ≠ L' + 1 + 1 := fun q => off2 _ (m1 (.tail _ (.head _))) q.symm
        have hDg : Dg ≠ L' + 1 + 1 + 1 := fun q => off2 _ (m1 (.tail _ (.tail _ (.head _)))) q.symm
        have hfg : L' + 1 + 1 ≠ L' + 1 + 1 + 1 := Nat.ne_of_lt (Nat.lt_succ_self _)
        refine store_cell rfl rfl hc2 F2 (o := og) (r := (L' + 1 + 1, of') :: (I, oI) :: (Dg, LCg.lst gs) :: r) ?_ ?_ hdg ?_
        · intro p hp
          refine N2 p ?_
          rcases List.mem_cons.mp hp with rfl | hp
          · exact .tail _ (m1 (.tail _ (.tail _ (.head _))))
          · rcases List.mem_cons.mp hp with rfl | hp
            · exact .tail _ (m1 (.tail _ (.head _)))
            · rcases List.mem_cons.mp hp with rfl | hp
              · exact .tail _ (m1 (.head _))
              · rcases List.mem_cons.mp hp with rfl | hp
                · exact .head _
                · exact .tail _ (m1 (inr hp))
        · intro p hp
          rcases List.mem_cons.mp hp with rfl | hp
          · exact hfg
          · rcases List.mem_cons.mp hp with rfl | hp
            · exact hIg
            · rcases List.mem_cons.mp hp with rfl | hp
              · exact hDg
              · exact (ho p hp).2
        · intro h7 og' F7 N7 dg7
          have in7 : ∀ {p}, p ∈ r → p ∈ (L' + 1 + 1 + 1, og') :: (L' + 1 + 1, of') :: (I, oI) :: (Dg, LCg.lst gs) :: r := fun h => .tail _ (.tail _ (.tail _ (.tail _ h)))
          refine wpAny_execs_cons (wpAny_Assign_Name (lap_comp (fs := fs) (fl := lapsF fs i) (ys := ys) (kD := kD) (D := D) (gs := gs) (Dg := Dg) (kg := gs.length) rfl F7 N7 (by with_unfolding_all rfl) (by decide) rfl (by decide) rfl rfl (rr1 F7) (rr2 F7) (rr3 N7 (in7 hb3)) (News.isList N7 (in7 hbl)) (by rw [hv]; omega) hv.symm (by rw [laps_len, hv]) (in7 iD) hys
            (.tail _ (.tail _ (.tail _ (.head _)))) hgs (fun _ => rfl) (fun _ => rfl) (fun C h N => Rd.cell rfl rfl rfl N (.tail _ (.head _)) hdf rfl) (fun C h N => Rd.cell rfl rfl rfl N (.head _) dg7 rfl) ?yg) (by with_unfolding_all rfl))
          case yg =>
            intro zs D8 h8 tk8 hzs F8 N8 o8
            have off8 := Off1.all o8
            refine store_cell rfl rfl hc1 F8 (o := of') (r := (L' + 1 + 1 + 1, og') :: (I, oI) :: (D8, LCg.lst zs) :: r) ?_ ?_ hdf ?_
            · intro p hp
              refine N8 p ?_
              rcases List.mem_cons.mp hp with rfl | hp
              · exact .tail _ (.tail _ (.head _))
              · rcases List.mem_cons.mp hp with rfl | hp
                · exact .tail _ (.head _)
                · rcases List.mem_cons.mp hp with rfl | hp
                  · exact .tail _ (.tail _ (.tail _ (.head _)))
                  · rcases List.mem_cons.mp hp with rfl | hp
                    · exact .head _
                    · exact .tail _ (in7 hp)
            · intro p hp
              rcases List.mem_cons.mp hp with rfl | hp
              · exact Ne.symm hfg
              · rcases List.mem_cons.mp hp with rfl | hp
                · exact hIf
                · rcases List.mem_cons.mp hp with rfl | hp
                  · exact fun q => off8 _ (.tail _ (.head _)) q.symm
                  · exact (ho p hp).1
            · intro h9 of9 F9 N9 df9
              refine wpAny_execs_nil (TurnP.intro (news' := (L' + 1 + 1, of9) :: (L' + 1 + 1 + 1, og') :: (D8, LCg.lst zs) :: r) F9 ?_ ?_ ⟨⟨D8, zs, zs.length, of9, og', _, (D8, LCg.lst zs) :: r, rfl, ?_, df9, dg7, .head _, hzs, fun p hp => .tail _ (hs p hp)⟩, fun z a b => by simp [a]⟩)
              · intro p hp
                refine N9 p ?_
                rcases List.mem_cons.mp hp with rfl | hp
                · exact .tail _ (.tail _ (.head _))
                · rcases List.mem_cons.mp hp with rfl | hp
                  · exact .head _
                  · rcases List.mem_cons.mp hp with rfl | hp
                    · exact .tail _ (.head _)
                    · rcases List.mem_cons.mp hp with rfl | hp
                      · exact .tail _ (.tail _ (.tail _ (.head _)))
                      · exact .tail _ (.tail _ (.tail _ (.tail _ hp)))
              · intro p hp
                rcases List.mem_cons.mp hp with rfl | hp
                · exact fun q => hIf q.symm
                · rcases List.mem_cons.mp hp with rfl | hp
                  · exact fun q => hIg q.symm
                  · rcases List.mem_cons.mp hp with rfl | hp
                    · exact fun q => off8 _ (.tail _ (.tail _ (.head _))) q.symm
                    · exact o₁ p (.tail _ (.tail _ hp))
              · intro p hp
                rcases List.mem_cons.mp hp with rfl | hp
                · exact ⟨fun q => off8 _ (.tail _ (.head _)) q.symm, fun q => off8 _ (.head _) q.symm⟩
                · exact ho p hp
    case ye =>
      rintro f u nw h tk ⟨D, ys, kD, of', og, v, r, rfl, ho, hdf, hdg, iD, hys, hs⟩ F₁ N₁
      rw [hv] at hys
      have hb3 : (L' + 1, o3) ∈ r := hs _ (.head _)
      have hbl : (l, listOf vs.toArray nn) ∈ r := hs _ (.tail _ i1)
      have inr : ∀ {p}, p ∈ r → p ∈ (L' + 1 + 1, of') :: (L' + 1 + 1 + 1, og) :: r := fun h => .tail _ (.tail _ h)
      refine wpAny_execs_cons (wpAny_Return_some ?_)
      refine last_comp (fl := lapsF fs fs.length) (ys := ys) (kD := kD) (D := D) rfl F₁ N₁ (by with_unfolding_all rfl) (by decide) rfl (by decide) rfl rfl (rr1 F₁) (rr2 F₁) (rr3 N₁ (inr hb3)) (News.isList N₁ (inr hbl)) (by rw [hv]; omega) (by rw [laps_len, hv]) (inr iD) hys (fun _ => rfl) (fun _ => rfl) (fun C h N => Rd.cell rfl rfl rfl N (.head _) hdf rfl) ?_
      intro zs D2 h2 tk2 hzs F2 N2 o2
      rw [hv] at hzs
      k_steps
      exact ret D2 zs zs.length _ _ _ hzs (by k_asm) (by k_asm) (fun p hp => inr (hs p (.tail _ hp)))
end
theorem chest_bits {n : Int} {i : Nat} (h0 : 0 ≤ n) (h1 : n < 10 ^ (38 * i)) (hi : i ≤ 24) : Builtin.Int.intBits n ≤ 2 ^ 20 := by
  unfold Builtin.Int.intBits
  split
  · exact Nat.zero_le _
  · rename_i hz
    have hne : n.natAbs ≠ 0 := by
      intro q
      exact hz (by rw [Int.natAbs_eq_zero.mp q]; rfl)
    have h2 : n.natAbs < 10 ^ (38 * i) := by
      have : ((n.natAbs : Nat) : Int) < ((10 ^ (38 * i) : Nat) : Int) := by
        rw [Int.natAbs_of_nonneg h0]; push_cast; exact h1
      exact Int.ofNat_lt.mp this
    have h3 : 10 ^ (38 * i) ≤ 10 ^ 912 := Nat.pow_le_pow_right (by decide) (by omega)
    have h4 : 10 ^ 912 ≤ 2 ^ 4000 := by decide +kernel
    have h5 := (Nat.log2_lt hne (k := 4000)).mpr (Nat.lt_of_lt_of_le h2 (Nat.le_trans h3 h4))
    have h6 : (2 : Nat) ^ 20 = 1048576 := by decide
    omega
theorem chest_next {n k : Int} {i : Nat} (h0 : 0 ≤ n) (h1 : n < 10 ^ (38 * i)) : 0 ≤ n * 10 ^ (38 : Int).toNat + k.fmod (10 ^ (38 : Int).toNat) ∧ n * 10 ^ (38 : Int).toNat + k.fmod (10 ^ (38 : Int).toNat) < 10 ^ (38 * (i + 1)) := by
  have e : (38 : Int).toNat = 38 := rfl
  rw [e]
  have hp : (0 : Int) < 10 ^ 38 := Int.pow_pos (by decide)
  obtain ⟨a, b⟩ := fmod_rng (a := k) hp
  generalize hP : (10 : Int) ^ 38 = P at *
  generalize k.fmod P = r at *
  rw [Nat.mul_succ, Int.pow_add, hP]
  generalize (10 : Int) ^ (38 * i) = M at *
  constructor
  · exact Int.add_nonneg (Int.mul_nonneg h0 (Int.le_of_lt hp)) a
  · have h2 : (n + 1) * P ≤ M * P := Int.mul_le_mul_of_nonneg_right (by omega) (Int.le_of_lt hp)
    rw [Int.add_mul, Int.one_mul] at h2
    omega
theorem news_skip {h₀ h : Heap} {L : Addr} {a b : Addr × Obj} {r : List (Addr × Obj)} (N : News h₀ L h (a :: b :: r)) : News h₀ L h (a :: r) := fun p hp => by
  rcases List.mem_cons.mp hp with rfl | hp
  · exact N _ (.head _)
  · exact N p (.tail _ (.tail _ hp))
section
variable {w : World} {p : Program} {lo : List Str} {mean : ExcName → Option Value} {mg mb : Str → Option Value} {dp un : Nat} {gd : Option (List Code)} {cn : Str} {cs : Scope} {a : Addr} {ccd : Value} {cl : List (Str × Addr)} {outer : List Env} {A₀ : Around} {base h₀ : Heap} {L : Addr} {m : Str → Option Value} {s : Shared} {Q E : Value → Shared → Prop} {news : List (Addr × Obj)}
  {vs : List Value} {ns : List Int} {l : Addr}
theorem chest (cx : Cx w p lo mean mg mb A₀ base outer h₀ L s.heap m cs) (N : News h₀ L s.heap news) (i1 : h₀.IsList l vs.toArray) (hI : IntsAre vs ns) (hz : vs.length ≤ 63) (hd : dp + 2 < recursionLimit)
  (ret : ∀ c n t0 t1 nn h' tk', Fr h₀ L h' m → News h₀ L h' ((c, chestObj n t0 0 t1 nn) :: news) → Q (.ref c) { s with heap := h', toks := tk' }) :
  wpAny (model PySem.Challenge.rw_rg0263_01.row.prog w) (ktrTop dp un gd cn cs L a ccd cl outer) (call (.ref 246) [.ref l]) Q E s := by
  obtain ⟨B, F, X, T, hk⟩ := cx
  (refine wpAny_call ?_; k_dflt (refine' code_def ?qk1 ?qk2 ?qk3 ?qk4 ?qk5 ?qkA ?qkF ?qkK ?qk6 ?qk7 ?qk8 ?qk9 ?qkB ?_ ?qc2 ?qc3 ?qc4 ?qc5; (case qkA => exact rfl); (case qkF => exact rfl); (case qkK => first | assumption | exact rfl); (case qk1 => k_asm); (case qk2 => k_asm); (case qk3 => k_asm); (case qk4 => k_asm); (case qk5 => k_asm); (case qk6 => k_is); (case qk7 => k_is); (case qk8 => exact rm (a := 0) hd (by decide)); (case qk9 => exact BindsTo.of_eq rfl); (case qc5 => decide); (case qkB => exact locs rfl); (case qc2 => exact rfl); (case qc3 => exact rfl); (case qc4 => exact rfl); k_whole; intro g' L' h' FG' F' N' B' X' T'; (try dsimp only); (try k_fold)))
  k_with_none
  k_with "iop" => (first | exact Iop.add | exact Iop.sub | exact Iop.mod (by first | assumption | decide) | exact Iop.div (by decide) (by decide))
  k_with "idx" => decide
  k_with "item" => rfl
  k_with "nn" => (first | decide | assumption)
  k_with "sevi" => (first | exact Sev.int | exact Sev.loc rfl rfl (by decide) | exact Sev.glo rfl (by k_is) (by decide) | (apply Sev.bin; (k_extra "sevi"); (k_extra "sevi"); (k_extra "iop")) | (apply Sev.item; (k_extra "sevi"); (k_extra "sevi"); k_mem; (k_extra "nn"); (k_extra "idx"); (k_extra "item")) | (apply Sev.fld; (k_extra "sevi"); k_mem; k_mem; constructor; rfl))
  k_with "sargs" => (first | exact Sargs.nil | (apply Sargs.cons; (k_extra "sevi"); (k_extra "sargs")))
  k_with "eval Call" => ((with_reducible show wpAny _ _ (eval (Expr.Call (Expr.Name _ _) _ [] _) _) _ _ _); k_dflt (refine' callS ?qF ?qX ?qT ?qN ?qh0 ?qkp ?qh1 ?_ ?qx1 ?qx2; (case qF => k_asm); (case qX => k_asm); (case qT => k_asm); (case qN => k_asm); (case qx1 => exact rfl); (case qx2 => exact rfl); (case qh0 => exact Sev.glo rfl (by k_is) (by decide)); (case qkp => k_is); (case qh1 => k_extra "sargs"); k_whole); (try dsimp only))
  k_with "isTrue Compare" => ((with_reducible show wpAny _ _ (isTrue (Expr.Compare _ [_] [_] _) _ _) _ _ _); k_dflt (refine' testS ?qF ?qX ?qT ?qN ?qh1 ?qh2 ?qhc ?_ ?qx1 ?qx2; (case qF => k_asm); (case qX => k_asm); (case qT => k_asm); (case qN => k_asm); (case qx1 => exact rfl); (case qx2 => exact rfl); (case qh1 => k_extra "sevi"); (case qh2 => k_extra "sevi"); (case qhc => constructor); k_whole); (try dsimp only))
  k_with "evals" => (k_dflt (refine' evalS ?qF ?qX ?qT ?qN ?qh1 ?_ ?qx1 ?qx2; (case qF => k_asm); (case qX => k_asm); (case qT => k_asm); (case qN => k_asm); (case qx1 => exact rfl); (case qx2 => exact rfl); (case qh1 => k_extra "sevi"); k_whole); (try dsimp only))
  k_with "eval BinOp" => k_extra "evals"
  k_with "eval Subscript" => k_extra "evals"
  k_with "eval Attribute Name" => k_extra "evals"
  k_with "execs cons" => ((with_reducible show wpAny _ _ (execs (Stmt.Assign [Expr.Name _ _] _ _ :: _) _) _ _ _); k_dflt (refine' assignS ?qF ?qX ?qT ?qN ?qh1 ?qhx ?qhs ?_ ?qx1 ?qx2; (case qF => k_asm); (case qX => k_asm); (case qT => k_asm); (case qN => k_asm); (case qx1 => exact rfl); (case qx2 => exact rfl); (case qhx => exact rfl); (case qhs => exact rfl); (case qh1 => k_extra "sevi"); k_whole); intro h' F' N'; (try k_sweep); (try dsimp only))
  k_with "subscriptTail" => (k_dflt (refine' kmk_slice_ints ?F ?N (Fr.lst (by k_asm) (Fr.lst FG' i1)) IsPart.none (IsPart.int _ _) hI (kmk_upto hI (by decide)) rfl ?_ (by with_unfolding_all rfl) (by intro _; with_unfolding_all rfl) (by rw [List.size_toArray]; exact Nat.le_trans hz (by decide)); (case F => k_asm); (case N => k_asm)); intro D' ws' h' F' N' l1 hI' hC' hL')
  k_with "pyIter ref" => (k_dflt (refine' iter_list1 (vs := ws') (nn := 0) (y := Str.ofString "number") (fun i v nw => nw = (D', listOf (List.toArray ws') 0) :: news ∧ ∃ n t, v = .int n t ∧ 0 ≤ n ∧ n < 10 ^ (38 * i)) ?qh ?qF ?qN ?ql ?qy ?q0 ?qt ?qe; (case qh => first | assumption | exact rfl); (case qF => k_asm); (case qN => k_asm); (case ql => (rintro i v nw ⟨rfl, _⟩; exact .head _)); (case qy => exact rfl); (case q0 => exact ⟨rfl, _, _, rfl, by decide, by decide⟩); k_whole); (case' qt => (intro i u v news₁ I oI h tk hu hK F' N' o'; (obtain ⟨rfl, n, tn, rfl, hn0, hn1⟩ := hK); (obtain ⟨ck, ct, rfl, hck⟩ := ints_get hI' hu))); (case' qe => (intro u v news₁ h tk hK F' N'; (obtain ⟨rfl, n, tn, rfl, hn0, hn1⟩ := hK))))
  k_with "binaryOp Mult int int" => (first | (refine PySem.PureInt.mul_int ?_ (IntMulOk.of_left (by decide))) | (refine PyProof.Rows.mul_int ?_ (IntMulOk.of_left (by decide))) | (refine PyProof.Rows.mul_int ?_ (IntMulOk.of_bits (chest_bits hn0 hn1 (by have := (List.getElem?_eq_some_iff.mp hck).1; rw [List.length_take] at this; omega)) (by decide))))
  k_with "binaryOp Pow int int" => (refine PyProof.Rows.pow_int_small (by decide) (by decide) (by decide) ?_)
  k_with "binaryOp Mod int int" => (refine PyProof.Rows.mod_int' (by decide) ?_)
  k_steps
  · exact ret _ _ _ _ _ _ _ (by k_asm) (news_skip (by k_asm))
  all_goals
    refine' TurnP.intro ?qF ?qN o' ?qJ
    case qF => k_asm
    case qN => k_asm
    case qJ => exact ⟨⟨_, rfl, rfl, _, _, rfl, (chest_next hn0 hn1).1, (chest_next hn0 hn1).2⟩, fun z h1 h2 => by simp only [if_neg h1, if_neg h2]⟩
end
section
open PySem.Builtin
set_option maxRecDepth 100000
theorem slot_bytes_ne : Slot "bytes" "__ne__" "bytes.__ne__" :=
  .of (owner := "bytes") (n := "__ne__") (by rw [typeLookup_type, builtinLookup_eq_fast]; kernel_rfl) (by decide +kernel) (by decide +kernel) (by decide +kernel)
    (by first | exact .inl (by decide +kernel) | exact .inr (by decide +kernel)) (by rw [isSubtype_type]; kernel_rfl)
theorem entry_bytes_ne : entryFor table "bytes.__ne__" = some Builtin.«bytes.__ne__» := entryFor_of_tree (by kernel_rfl)
theorem args_bytes_ne (a b : Value) : argsOk "bytes.__ne__" ⟨[a, b], []⟩ := by unfold argsOk; kernel_rfl
theorem gives_bytes_ne (x y : Array UInt8) (t u : Tok) : PySem.Gives (Builtin.«bytes.__ne__» ⟨[.bytes x t, .bytes y u], []⟩) (.val (.bool (Bytes.holds "__ne__" (Bytes.order x.toList y.toList)))) := .of_eq rfl
theorem order_same : ∀ l : List UInt8, Bytes.order l l = .eq
  | [] => rfl
  | x :: r => by
    have h : ¬ x < x := UInt8.lt_irrefl x
    unfold Bytes.order
    rw [if_neg h, if_neg h]
    exact order_same r
variable {prog : Program} {w : World} {A : Around} {E : Value → Shared → Prop} {s : Shared}
theorem ne_bytes_same {b : Array UInt8} {t u : Tok} {Q : Value → Shared → Prop} (h : Q (.bool false) s) : wpAny (model prog w) A (compareOp .NotEq (.bytes b t) (.bytes b u)) Q E s :=
  compareOp_gives (op := .NotEq) (typeIs_bytes _ _ _) (typeIs_bytes _ _ _) slot_bytes_ne entry_bytes_ne (args_bytes_ne _ _) (gives_bytes_ne b b t u) (fun x => nomatch x) (by
    show Q (.bool (Bytes.holds "__ne__" (Bytes.order b.toList b.toList))) s
    rw [order_same]; exact h)
theorem isTuple_of {h₀ h : Heap} {L x : Addr} {its : List Value} {led : List (Addr × Obj)} (N : News h₀ L h led) (i : (x, tupO its) ∈ led) : h.IsTuple x its.toArray := ⟨_, (N _ i).1, rfl, _, rfl⟩
theorem tups_each {s : Shared} {A : Around} {f : Fld} {t u : Nat → Tok} : ∀ j (h1 : j < ([.int f.1 (t 0), .int f.2.1 (t 1), .int f.2.2.1 (t 2), .int f.2.2.2 (t 3)] : List Value).toArray.size) (h2 : j < ([.int f.1 (u 0), .int f.2.1 (u 1), .int f.2.2.1 (u 2), .int f.2.2.2 (u 3)] : List Value).toArray.size),
    PySem.SeqAt.EqAt A s ([.int f.1 (t 0), .int f.2.1 (t 1), .int f.2.2.1 (t 2), .int f.2.2.2 (t 3)] : List Value).toArray[j] ([.int f.1 (u 0), .int f.2.1 (u 1), .int f.2.2.1 (u 2), .int f.2.2.2 (u 3)] : List Value).toArray[j] true := by
  have e : ∀ (a : Int) (x y : Tok), PySem.SeqAt.EqAt A s (.int a x) (.int a y) true := fun a x y => by
    have := (PySem.MeetsSeq.EqGives.int a a x y).at A s
    rwa [show (a == a) = true from beq_self_eq_true a] at this
  intro j h1 h2
  match j, h1 with
  | 0, _ => exact e _ _ _
  | 1, _ => exact e _ _ _
  | 2, _ => exact e _ _ _
  | 3, _ => exact e _ _ _
  | n + 4, h => exact absurd h (by simp)
theorem tup_eq {h₀ : Heap} {L : Addr} {led : List (Addr × Obj)} {a b : Value} {f : Fld} (N : News h₀ L s.heap led) (ha : Tup led a f) (hb : Tup led b f) (hu : A.units < cLine) : PySem.SeqAt.EqAt A s a b true := by
  obtain ⟨x, t, rfl, ia⟩ := ha
  obtain ⟨y, u, rfl, ib⟩ := hb
  by_cases e : x = y
  · subst e; exact PySem.SeqAt.EqAt.same _
  · refine PySem.SeqAt.EqAt.of_refs e ?_
    have z := PySem.SeqAt.RcAt.tuples (A := A) (e := fun _ => true) (isTuple_of N ia) (isTuple_of N ib) hu tups_each
    exact z
theorem ne_tups {h₀ : Heap} {L : Addr} {led : List (Addr × Obj)} {a b : Value} {f : Fld} {Q : Value → Shared → Prop} (N : News h₀ L s.heap led) (ha : Tup led a f) (hb : Tup led b f) (hu : A.units < cLine) (h : Q (.bool false) s) : wpAny (model prog w) A (compareOp .NotEq a b) Q E s := by
  obtain ⟨x, t, rfl, ia⟩ := ha
  obtain ⟨y, u, rfl, ib⟩ := hb
  exact (PySem.SeqAt.RcNeAt.tuples (A := A) (e := fun _ => true) (isTuple_of N ia) (isTuple_of N ib) hu tups_each) prog w E Q h
theorem ne_lists {h₀ : Heap} {L l1 l2 : Addr} {led : List (Addr × Obj)} {as bs : List Value} {k1 k2 : Nat} {fs : List Fld} {Q : Value → Shared → Prop} (N : News h₀ L s.heap led) (i1 : (l1, listOf (List.toArray as) k1) ∈ led) (i2 : (l2, listOf (List.toArray bs) k2) ∈ led) (h1 : Tups led as fs) (h2 : Tups led bs fs) (hu : A.units + 1 < cLine)
    (h : Q (.bool false) s) : wpAny (model prog w) A (compareOp .NotEq (.ref l1) (.ref l2)) Q E s := by
  have z := PySem.SeqAt.RcNeAt.lists (A := A) (s := s) (e := fun _ => true) (isListOf (N _ i1).1) (isListOf (N _ i2).1) (by simp [h1.1, h2.1]) (by omega) (fun j a b => by
    have ja : as[j]? = some as[j] := List.getElem?_eq_getElem (by simpa using a)
    have jb : bs[j]? = some bs[j] := List.getElem?_eq_getElem (by simpa using b)
    obtain ⟨f, hf, pa⟩ := h1.2 j _ ja
    obtain ⟨f', hf', pb⟩ := h2.2 j _ jb
    rw [hf] at hf'
    cases hf'
    exact tup_eq (A := A.in1) N pa pb hu)
  refine z prog w E Q ?_
  rw [show (List.range (as.toArray.size)).all (fun _ => true) = true by simp]
  exact h
theorem eq_ints {h₀ : Heap} {L l1 l2 : Addr} {led : List (Addr × Obj)} {as bs : List Value} {k1 k2 : Nat} {ks : List Int} {Q : Value → Shared → Prop} (N : News h₀ L s.heap led) (i1 : (l1, listOf (List.toArray as) k1) ∈ led) (i2 : (l2, listOf (List.toArray bs) k2) ∈ led) (h1 : IntsAre as ks) (h2 : IntsAre bs ks) (hu : A.units < cLine)
    (h : Q (.bool true) s) : wpAny (model prog w) A (compareOp .Eq (.ref l1) (.ref l2)) Q E s := by
  refine PySem.SeqAt.eq_listAt (e := fun _ => true) (isListOf (N _ i1).1) (isListOf (N _ i2).1) (by simp [h1.length, h2.length]) hu (fun j a b => ?_) ?_
  · obtain ⟨g, t, e1, e2⟩ := ints_get h1 (List.getElem?_eq_getElem (by simpa using a))
    obtain ⟨g', t', e3, e4⟩ := ints_get h2 (List.getElem?_eq_getElem (by simpa using b))
    rw [e2] at e4
    cases e4
    show PySem.SeqAt.EqAt _ _ as[j] bs[j] true
    rw [e1, e3]
    have := PySem.SeqAt.EqAt.int_int (A := A.in1) (s := s) g t g t'
    rwa [show (g == g) = true from beq_self_eq_true g] at this
  · rw [show (List.range (as.toArray.size)).all (fun _ => true) = true by simp]
    exact h
end
theorem fromL_little2 {c : Int} (h0 : 0 ≤ c) (h1 : c < 65536) : fromL (littleL c 2) = c := by
  show fromL [c / 256 ^ 0 % 256, c / 256 ^ 1 % 256] = c
  simp only [fromL]
  omega
theorem fromL_little4 {c : Int} (h0 : 0 ≤ c) (h1 : c < 4294967296) : fromL (littleL c 4) = c := by
  show fromL [c / 256 ^ 0 % 256, c / 256 ^ 1 % 256, c / 256 ^ 2 % 256, c / 256 ^ 3 % 256] = c
  simp only [fromL]
  omega
theorem pack_parts {f : Fld} (R : RngF f) (t : List Int) : fldAt (packF f ++ t) 0 = f := by
  obtain ⟨c, a, b, k⟩ := f
  show (fromL ([c / 256 ^ 0 % 256, c / 256 ^ 1 % 256]), a, b, fromL [k / 256 ^ 0 % 256, k / 256 ^ 1 % 256, k / 256 ^ 2 % 256, k / 256 ^ 3 % 256]) = (c, a, b, k)
  have h1 : fromL [c / 256 ^ 0 % 256, c / 256 ^ 1 % 256] = c := fromL_little2 R.c0 R.c1
  have h2 : fromL [k / 256 ^ 0 % 256, k / 256 ^ 1 % 256, k / 256 ^ 2 % 256, k / 256 ^ 3 % 256] = k := fromL_little4 R.k0 R.k1
  rw [h1, h2]
theorem fldAt_drop {ks : List Int} {i : Nat} : fldAt ks i = fldAt (ks.drop i) 0 := by
  unfold fldAt
  simp [List.getD_eq_getElem?_getD, List.getElem?_drop, List.drop_drop]
theorem flds_cons {f : Fld} (R : RngF f) {t : List Int} {q : Nat} : flds (packF f ++ t) (q + 1) = f :: flds t q := by
  unfold flds
  rw [List.range_succ_eq_map, List.map_cons, List.map_map]
  refine List.cons_eq_cons.mpr ⟨pack_parts R t, List.map_congr_left fun i _ => ?_⟩
  show fldAt (packF f ++ t) (8 * (i + 1)) = fldAt t (8 * i)
  rw [fldAt_drop, fldAt_drop (ks := t)]
  congr 1
theorem flds_take : ∀ (fs : List Fld) (q : Nat), (∀ f ∈ fs, RngF f) → q ≤ fs.length → flds (((fs.map packF).flatten).take (8 * q)) q = fs.take q
  | _, 0, _, _ => by simp [flds]
  | f :: r, q + 1, h, hq => by
    rw [List.map_cons, List.flatten_cons, List.take_append]
    have e : (packF f).length = 8 := rfl
    rw [e, List.take_of_length_le (by rw [e]; omega), flds_cons (h f (.head _)), List.take_succ_cons, show 8 * (q + 1) - 8 = 8 * q by omega]
    rw [flds_take r q (fun f hf => h f (.tail _ hf)) (Nat.le_of_succ_le_succ hq)]
theorem flds_all {fs : List Fld} {n q : Nat} {ks : List Int} (h : ∀ f ∈ fs, RngF f) (hk : ks = ((fs.map packF).flatten).take n) (h8 : ks.length % 8 = 0) (hq : ks.length / 8 = q) : flds ks q = fs.take q := by
  have hl := packs_len fs
  have hlen : ks.length = min n (8 * fs.length) := by rw [hk, List.length_take, hl]
  have e : ks = ((fs.map packF).flatten).take (8 * q) := by
    by_cases hn : n ≤ 8 * fs.length
    · rw [hk, show n = 8 * q by omega]
    · rw [hk, List.take_of_length_le (by rw [hl]; omega), List.take_of_length_le (by rw [hl]; omega)]
  rw [e]
  exact flds_take fs q h (by omega)
noncomputable abbrev lawE (L a : Addr) (ccd : Value) : Env := envX (Str.ofString "law") hd.s306.1 L a ccd [(Str.ofString "chest", L + 1)]
noncomputable abbrev lawA (dp un : Nat) (gd : Option (List Code)) (L a : Addr) (ccd : Value) : Around := ktrTop dp un gd (Str.ofString "law") hd.s306.1 L a ccd [(Str.ofString "chest", L + 1)] []
section
variable {w : World} {p : Program} {lo : List Str} {mean : ExcName → Option Value} {mg mb : Str → Option Value} {dp un : Nat} {gd : Option (List Code)} {a : Addr} {ccd : Value} {A₀ : Around} {base h₀ : Heap} {L : Addr} {m : Str → Option Value} {s : Shared} {Q : Flow → Shared → Prop} {E : Value → Shared → Prop} {vs : List Value} {ns : List Int} {l : Addr} {oc : Obj}
/-- what the rest of the law's body is to do from a state on -/
abbrev LawGo (w : World) (dp un : Nat) (gd : Option (List Code)) (L a : Addr) (ccd : Value) (i : Nat) (Q : Flow → Shared → Prop) (E : Value → Shared → Prop) (s : Shared) : Prop :=
  wpAny (model PySem.Challenge.rw_rg0263_01.row.prog w) (lawA dp un gd L a ccd) (execs (hd.b306.1.drop i) (lawE L a ccd)) Q E s
theorem stA (B : Below A₀ base [] h₀) (F : Fr h₀ L s.heap m) (X : (hd.heap_39 w.params).In h₀) (T : Top p lo mean mg mb h₀) (hm : m (Str.ofString "script") = some (.ref l)) (N : News h₀ L s.heap [(L + 1, oc)]) (hoc : oc.data = .cell none) (hl : h₀.IsList l vs.toArray) (hI : IntsAre vs ns) (hz : vs.length ≤ 63)
  (hd : dp + 12 < recursionLimit)
  (next : ∀ c n t0 k t1 nn oc2 cut tcut cnt tcnt h' tk' m', c ≠ L + 1 → oc2.data = .cell (some (.ref c)) → 0 ≤ cut → cut < 10 → 0 ≤ cnt → cnt < 7 → Fuel k 998 → m' (Str.ofString "cut") = some (.int cut tcut) → m' (Str.ofString "count") = some (.int (1 + cnt) tcnt) → Fr h₀ L h' m' → News h₀ L h' [(L + 1, oc2), (c, chestObj n t0 k t1 nn)] →
    LawGo w dp un gd L a ccd 2 Q E { s with heap := h', toks := tk' }) :
  LawGo w dp un gd L a ccd 0 Q E s := by
  refine wpAny_execs_cons (wpAny_Assign_Name (callR (X.keeps F.keep) (Rd.glo rfl rfl rfl F X (topRead_of T) (by k_is) rfl) (by k_is) (.cons (Rd.loc rfl rfl F hm rfl) .nil) (chest ⟨B, F, X, T, rfl⟩ N hl hI hz (rm (a := 2) hd (by decide)) ?_)) (by with_unfolding_all rfl))
  intro c n t0 t1 nn h1 tk1 F1 N1
  have hcc : c ≠ L + 1 := fun q => by
    have e1 := (N1 (c, chestObj n t0 0 t1 nn) (.head _)).1
    have e2 := (N1 (L + 1, oc) (.tail _ (.head _))).1
    rw [q] at e1
    have e3 : chestObj n t0 0 t1 nn = oc := Option.some.inj (e1.symm.trans e2)
    rw [← e3] at hoc
    cases hoc
  refine store_cell (o := oc) (c := L + 1) (r := [(c, chestObj n t0 0 t1 nn)]) rfl rfl rfl F1 (fun p hp => N1 p (by simp only [List.mem_cons] at hp ⊢; rcases hp with h | h | h <;> simp_all)) (fun p hp => by rw [List.mem_singleton.mp hp]; exact hcc) hoc ?_
  intro h2 oc2 F2 N2 d2
  refine wpAny_execs_cons ?_
  have fu0 : Fuel 0 1000 := ⟨by decide, by decide⟩
  k_with_none
  k_with "updf" => first | exact UpdF.tail (Ne.symm hcc) (UpdF.head (by intro p hp; cases hp))
  k_with "call ref" => ((with_reducible show wpAny _ _ (call (Value.ref 253) _) _ _ _); k_dflt (refine' penny ⟨?qB, ?qF, ?qX, ?qT, ?qK⟩ ?qN ?qU ?qf ?qm0 ?qm1 ?qhd ?_ ; (case qB => k_asm); (case qF => k_asm); (case qX => k_asm); (case qT => k_asm); (case qK => first | assumption | exact rfl); (case qN => k_asm); (case qU => k_extra "updf"); (case qf => assumption); (case qm0 => first | decide | assumption); (case qm1 => first | decide | assumption); (case qhd => exact rm (a := 1) hd (by decide)); k_whole); intro d' td' n' t0' k' t1' nn' h' tk' e1 e2 e3 F' N'; (try k_sweep); (try dsimp only); (try k_fold))
  k_with "execs cons" => (refine stop_of ?_)
  k_steps
  unfold Stop
  refine next _ _ _ _ _ _ _ _ _ _ _ _ _ _ hcc d2 ?_ ?_ ?_ ?_ (by assumption) rfl rfl (by k_asm) (newsTail (by k_asm)) <;> first | assumption | skip
end
section
open PyProof.Rows.LCg
variable {w : World} {p : Program} {lo : List Str} {mean : ExcName → Option Value} {mg mb : Str → Option Value} {dp un : Nat} {gd : Option (List Code)} {a : Addr} {ccd : Value} {A₀ : Around} {base h₀ : Heap} {L : Addr} {m : Str → Option Value} {s : Shared} {Q : Flow → Shared → Prop} {E : Value → Shared → Prop}
/-- while the orders are made -/
def OrdJ (w : World) (L c : Addr) (oc : Obj) (i : Nat) (ys : List Value) (nw : List (Addr × Obj)) : Prop :=
  ∃ n t0 k t1 nn fs r, nw = (c, chestObj n t0 k t1 nn) :: r ∧ (∀ p ∈ r, p.1 ≠ c) ∧ (L + 1, oc) ∈ r ∧ Ords w r ys fs ∧ fs.length = i ∧ (∀ f ∈ fs, RngF f) ∧ Fuel k ((7 - i) * 16)
theorem stB {c : Addr} {n k cnt : Int} {t0 t1 tc : Tok} {nn : Nat} {oc : Obj} (B : Below A₀ base [] h₀) (F : Fr h₀ L s.heap m) (X : (hd.heap_39 w.params).In h₀) (T : Top p lo mean mg mb h₀) (hm : m (Str.ofString "count") = some (.int (1 + cnt) tc))
  (N : News h₀ L s.heap [(L + 1, oc), (c, chestObj n t0 k t1 nn)]) (hcc : c ≠ L + 1) (hoc : oc.data = .cell (some (.ref c))) (h0 : 0 ≤ cnt) (h7 : cnt < 7) (fu : Fuel k 998) (hd : dp + 12 < recursionLimit)
  (next : ∀ O ys kO fs r h' tk', fs.length = (1 + cnt).toNat → Ords w r ys fs → (∀ f ∈ fs, RngF f) → (O, listOf (List.toArray ys) kO) ∈ r → Fr h₀ L h' (fun z => if z = Str.ofString "orders" then some (.ref O) else m z) → News h₀ L h' r → LawGo w dp un gd L a ccd 3 Q E { s with heap := h', toks := tk' }) :
  LawGo w dp un gd L a ccd 2 Q E s := by
  have Np : News h₀ L s.heap [(c, chestObj n t0 k t1 nn), (L + 1, oc)] := fun p hp => N p (by
    simp only [List.mem_cons] at hp ⊢
    rcases hp with h | h | h <;> simp_all)
  refine wpAny_execs_cons (LCg.Assign_ListComp_U F rfl (by with_unfolding_all rfl) (by with_unfolding_all rfl) (by decide) rfl (by decide) rfl rfl rfl (PyProof.Rows.Call_ (Rd.ok (Rd.bi rfl rfl rfl rfl F X (topRead_of T) (by k_is) boot_range (by decide) rfl) (PyProof.Rows.callWith_type1 (PySem.Calls.spliced_cons (Rd.ok (Rd.loc rfl rfl F hm rfl) (PySem.Calls.spliced_nil (range1_rows F Np ?_))))))))
  intro h1 tk1 ta ua va hr F1 N1 k1
  refine LCg.CompSrc.range (n := (1 + cnt).toNat) rfl F1 N1 hr (small_one (by decide) (by decide) (by omega) (by omega)) (by rw [rangeSize_nat]; omega) (Nat.le_trans (show (1 + cnt).toNat ≤ 7 by omega) (by decide)) fun g => ?_
  refine comp_inv (OrdJ w L c oc) ?_ (fun _ _ _ _ => trivial) ?_ ?_
  · exact ⟨n, t0, k, t1, nn, [], [(L + 1, oc)], rfl, fun p hp => by rw [List.mem_singleton.mp hp]; exact Ne.symm hcc, .head _, All2.nil, rfl, fun f hf => (nomatch hf), fu.le (by decide)⟩
  · rintro ys nw ⟨n', t0', k', t1', nn', fs, r, rfl, hne, ho, hO, hlen, hR, hfu⟩
    intro O h tk F2 N2 o2
    exact next O ys ys.length fs ((O, lst ys) :: (c, chestObj n' t0' k' t1' nn') :: r) h tk hlen (Ords.sub (fun p hp => .tail _ (.tail _ hp)) hO) hR (.head _) F2 N2
  · rintro i v ys nw I oI C oC D m₂ h tk E' hi ⟨tv, rfl⟩ ⟨n', t0', k', t1', nn', fs, r, rfl, hne, ho, hO, hlen, hR, hfu⟩ hC hxm F2 N2 off ne
    have hcr : ∀ p ∈ (I, oI) :: (C, oC) :: (D, lst ys) :: r, p.1 ≠ c := by
      have offc := off.1
      intro p hp
      rcases List.mem_cons.mp hp with rfl | hp
      · exact Ne.symm offc.1
      · rcases List.mem_cons.mp hp with rfl | hp
        · exact Ne.symm offc.2.1
        · rcases List.mem_cons.mp hp with rfl | hp
          · exact Ne.symm offc.2.2
          · exact hne p hp
    have N3 : News h₀ L h ((c, chestObj n' t0' k' t1' nn') :: (I, oI) :: (C, oC) :: (D, lst ys) :: r) := fun p hp => N2 p (by
      rcases List.mem_cons.mp hp with rfl | hp
      · exact .tail _ (.tail _ (.tail _ (.head _)))
      · rcases List.mem_cons.mp hp with rfl | hp
        · exact .head _
        · rcases List.mem_cons.mp hp with rfl | hp
          · exact .tail _ (.head _)
          · rcases List.mem_cons.mp hp with rfl | hp
            · exact .tail _ (.tail _ (.head _))
            · exact .tail _ (.tail _ (.tail _ (.tail _ hp))))
    refine callR (X.keeps F2.keep) (Rd.glo rfl rfl rfl F2 X (topRead_of T) (by k_is) rfl) (by k_is) (.cons (Rd.cell rfl rfl rfl N3 (.tail _ (.tail _ (.tail _ (.tail _ ho)))) hoc rfl) .nil) (order0 (r := (7 - (i + 1)) * 16) ⟨B, F2, X, T, rfl⟩ N3 hcr (hfu.le (by omega)) (rm (a := 4) hd (by decide)) ?_)
    intro n4 t04 k4 t14 nn4 x dx u1 u2 u3 u4 c1 c2 c3 c4 w1 w2 w3 w4 h4 tk4 fu4 R4 F4 N4 lt4 ltx
    refine CompEnd.intro F4 N4 ((c, chestObj n4 t04 k4 t14 nn4) :: (x, instObj 90 dx) :: (dx, ordD w.params u1 u2 u3 u4 (.int c1 w1) (.int c2 w2) (.int c3 w3) (.int c4 w4)) :: r) ?_ ?_ trivial ?_
    · intro p hp
      rcases List.mem_cons.mp hp with rfl | hp
      · exact .tail _ (.tail _ (.tail _ (.head _)))
      · rcases List.mem_cons.mp hp with rfl | hp
        · exact .tail _ (.tail _ (.tail _ (.tail _ (.head _))))
        · rcases List.mem_cons.mp hp with rfl | hp
          · exact .tail _ (.tail _ (.tail _ (.tail _ (.tail _ (.head _)))))
          · rcases List.mem_cons.mp hp with rfl | hp
            · exact .tail _ (.tail _ (.head _))
            · rcases List.mem_cons.mp hp with rfl | hp
              · exact .head _
              · rcases List.mem_cons.mp hp with rfl | hp
                · exact .tail _ (.head _)
                · exact .tail _ (.tail _ (.tail _ (.tail _ (.tail _ (.tail _ hp)))))
    · have lI := lt4.1 _ (.head _)
      have lC := lt4.1 _ (.tail _ (.head _))
      have lD := lt4.1 _ (.tail _ (.tail _ (.head _)))
      exact ⟨off.1, ⟨Nat.ne_of_gt (Nat.lt_trans lI ltx), Nat.ne_of_gt (Nat.lt_trans lC ltx), Nat.ne_of_gt (Nat.lt_trans lD ltx)⟩, ⟨Nat.ne_of_gt lI, Nat.ne_of_gt lC, Nat.ne_of_gt lD⟩, off.2⟩
    · refine ⟨n4, t04, k4, t14, nn4, fs ++ [(c1, c2, c3, c4)], _, rfl, ?_, .tail _ (.tail _ ho), ?_, by rw [List.length_append, hlen]; rfl, ?_, fu4⟩
      · intro p hp
        rcases List.mem_cons.mp hp with rfl | hp
        · exact Nat.ne_of_gt (Nat.lt_trans lt4.2 ltx)
        · rcases List.mem_cons.mp hp with rfl | hp
          · exact Nat.ne_of_gt lt4.2
          · exact hne p hp
      · exact All2.snoc (Ord.mk (.head _) (.tail _ (.head _))) (Ords.sub (fun p hp => .tail _ (.tail _ hp)) hO)
      · intro f hf
        rcases List.mem_append.mp hf with hf | hf
        · exact hR f hf
        · rw [List.mem_singleton.mp hf]; exact R4
end
section
open PyProof.Rows.LCg
variable {w : World} {p : Program} {lo : List Str} {mean : ExcName → Option Value} {mg mb : Str → Option Value} {dp un : Nat} {gd : Option (List Code)} {a : Addr} {ccd : Value} {A₀ : Around} {base h₀ : Heap} {L : Addr} {m : Str → Option Value} {s : Shared} {Q : Flow → Shared → Prop} {E : Value → Shared → Prop} {O R : Addr} {ys rs : List Value} {kO kR : Nat} {fs : List Fld} {r : List (Addr × Obj)}
theorem stC (B : Below A₀ base [] h₀) (F : Fr h₀ L s.heap m) (X : (hd.heap_39 w.params).In h₀) (T : Top p lo mean mg mb h₀) (hm : m (Str.ofString "orders") = some (.ref O))
  (N : News h₀ L s.heap r) (iO : (O, listOf (List.toArray ys) kO) ∈ r) (hO : Ords w r ys fs) (hz : fs.length ≤ 7) (hd : dp + 12 < recursionLimit)
  (next : ∀ R rs kR r' h' tk', Tups r' rs fs → (R, listOf (List.toArray rs) kR) ∈ r' → (∀ p ∈ r, p ∈ r') → Fr h₀ L h' (fun z => if z = Str.ofString "row" then some (.ref R) else m z) → News h₀ L h' r' → LawGo w dp un gd L a ccd 4 Q E { s with heap := h', toks := tk' }) :
  LawGo w dp un gd L a ccd 3 Q E s := by
  k_with_none
  k_with "getMethod ref" => (k_dflt (refine' method_inst ?k1 ?k2 (InstAt.of_news (by k_asm) (.tail _ (.tail _ (.tail _ i1))) (.tail _ (.tail _ (.tail _ i2)))) ?k4 ?k5 ?k6 ?k7 ?_; (case k1 => k_asm); (case k2 => k_asm); (case k4 => k_is); (case k5 => k_is); (case k6 => k_is); (case k7 => k_get); k_whole))
  k_with "call ref" => ((with_reducible show wpAny _ _ (call (Value.ref 87) _) _ _ _); k_dflt (refine' told ⟨?qB, ?qF, ?qX, ?qT, ?qK⟩ ?qN ?q1 ?q2 ?qd ?_ ; (case qB => k_asm); (case qF => k_asm); (case qX => k_asm); (case qT => k_asm); (case qK => first | assumption | exact rfl); (case qN => k_asm); (case q1 => exact .tail _ (.tail _ (.tail _ i1))); (case q2 => exact .tail _ (.tail _ (.tail _ i2))); (case qd => exact rm (a := 1) hd (by decide)); k_whole); intro tt h' tk' F' N' l3; (try k_sweep); (try dsimp only); (try k_fold))
  refine wpAny_execs_cons (LCg.Assign_ListComp_U F rfl (by with_unfolding_all rfl) (by with_unfolding_all rfl) (by decide) rfl (by decide) rfl rfl rfl (Rd.ok (Rd.loc rfl rfl F hm rfl) ?_))
  refine LCg.CompSrc.ledger rfl F N iO (size7 hO hz) fun g => ?_
  refine comp_map (Pin := Ord w) (Pout := Tup) Ord.sub Tup.sub iO hO ?_ ?_
  · intro zs nw hs hT R h tk F2 N2 o2
    exact next R zs zs.length ((R, lst zs) :: nw) h tk (Tups.sub (fun p hp => .tail _ hp) hT) (.head _) (fun p hp => .tail _ (hs p hp)) F2 N2
  · intro v f zs nw I oI C oC D m₂ h tk E' hP hs2 hf hC hx F' N' off' ne'
    obtain ⟨x, dx, t, rfl, i1, i2⟩ := hP
    k_steps
    exact comp_end1 (by k_asm) (by k_asm) l3 off' trivial ⟨⟨tt, (t <| · + 4), rfl, .head _⟩, fun p hp => .tail _ hp⟩
/-- whole = b"".join([_law_laid(fields) for fields in row]) -/
theorem stD (B : Below A₀ base [] h₀) (F : Fr h₀ L s.heap m) (X : (Mine.hd.heap_39 w.params).In h₀) (T : Top p lo mean mg mb h₀) (hm : m (Str.ofString "row") = some (.ref R))
  (N : News h₀ L s.heap r) (iR : (R, listOf (List.toArray rs) kR) ∈ r) (hT : Tups r rs fs) (hz : fs.length ≤ 7) (hne : 0 < fs.length) (hR : ∀ f ∈ fs, RngF f) (hd : dp + 12 < recursionLimit)
  (next : ∀ t h' tk', Fr h₀ L h' (fun z => if z = Str.ofString "whole" then some (.bytes (byteArr (fs.map packF).flatten) t) else m z) → News h₀ L h' r → LawGo w dp un gd L a ccd 5 Q E { s with heap := h', toks := tk' }) :
  LawGo w dp un gd L a ccd 4 Q E s := by
  refine wpAny_execs_cons ?_
  k_with_none
  k_with "eval Name" => (k_dflt (refine Rd.ok (Rd.loc rfl rfl (by k_asm) hm rfl) ?_))
  k_with "getMethod bytes" => (k_dflt (refine method_join ?_))
  k_with "eval ListComp" => (k_dflt (refine LCg.ListComp_U (F₀ := by k_asm) (by with_unfolding_all rfl) (by decide) (by rfl) (by decide) (by rfl) ?_))
  k_with "CompSrc" => (k_dflt (refine' LCg.CompSrc.ledger ?qh ?qF ?qN iR ?qz ?_; (case qh => first | assumption | exact rfl); (case qF => k_asm); (case qN => k_asm); (case qz => exact size7 hT hz); intro g'; refine' comp_map (Pin := Tup) (Pout := Oct) Tup.sub Oct.sub iR hT ?qe ?qt); (case' qe => intro ys nw hs2 hT2); (case' qt => intro v f ys nw I oI C oC D m₂ h tk E' hP hs2 hf hC hx F' N' off' ne'; obtain ⟨x, t, rfl, i1'⟩ := hP))
  k_with "call ref" => ((with_reducible show wpAny _ _ (call (Value.ref 272) _) _ _ _); k_dflt (refine' laid ⟨?qB, ?qF, ?qX, ?qT, ?qK⟩ ?qN ?q1 ?qR ?qd ?_ ; (case qB => k_asm); (case qF => k_asm); (case qX => k_asm); (case qT => k_asm); (case qK => first | assumption | exact rfl); (case qN => k_asm); (case q1 => exact .tail _ (.tail _ (.tail _ i1'))); (case qR => exact hR f hf); (case qd => exact rm (a := 2) hd (by decide)); k_whole); intro t' h' tk' F' N'; (try k_sweep); (try dsimp only); (try k_fold))
  k_with "call builtin:bytes.join" => (k_dflt (refine' join_bytes (ls := fs.map packF) (News.isList (by k_asm) (.head _)) (octs hT2) ?ql ?qn ?qz ?_; (case ql => (rw [List.length_map]; exact hT2.1)); (case qn => (rw [hT2.1]; exact hne)); (case qz => (rw [packs_len]; omega)); intro t' k'))
  k_with "execs cons" => (refine stop_of ?_)
  k_steps
  · exact LCg.CompEnd.intro (by k_asm) (by k_asm) nw (fun p hp => hp) off' trivial ⟨⟨_, rfl⟩, fun p hp => hp⟩
  · exact next _ _ _ (by k_asm) (subNews (by k_asm) fun p hp => .tail _ (hs2 p hp))
end
theorem packs_in : ∀ (fs : List Fld), (∀ f ∈ fs, RngF f) → ∀ v ∈ (fs.map packF).flatten, 0 ≤ v ∧ v < 256 := by
  intro fs h v hv
  obtain ⟨l, hl, hv⟩ := List.mem_flatten.mp hv
  obtain ⟨f, hf, rfl⟩ := List.mem_map.mp hl
  exact packL_rng (h f hf) v hv
section
variable {w : World} {p : Program} {lo : List Str} {mean : ExcName → Option Value} {mg mb : Str → Option Value} {dp un : Nat} {gd : Option (List Code)} {a : Addr} {ccd : Value} {A₀ : Around} {base h₀ : Heap} {L : Addr} {m : Str → Option Value} {s : Shared} {Q : Flow → Shared → Prop} {E : Value → Shared → Prop} {O R : Addr} {ys rs : List Value} {kO kR : Nat} {fs : List Fld} {r : List (Addr × Obj)} {tw tc : Tok} {cut : Int}
theorem stE (B : Below A₀ base [] h₀) (F : Fr h₀ L s.heap m) (X : (hd.heap_39 w.params).In h₀) (T : Top p lo mean mg mb h₀) (hm : m (Str.ofString "orders") = some (.ref O)) (hw : m (Str.ofString "whole") = some (.bytes (byteArr (fs.map packF).flatten) tw))
  (N : News h₀ L s.heap r) (iO : (O, listOf (List.toArray ys) kO) ∈ r) (hO : Ords w r ys fs) (hz : fs.length ≤ 7) (hne : 0 < fs.length) (hR : ∀ f ∈ fs, RngF f) (hd : dp + 12 < recursionLimit)
  (next : ∀ h' tk', Fr h₀ L h' m → News h₀ L h' r → LawGo w dp un gd L a ccd 6 Q E { s with heap := h', toks := tk' }) :
  LawGo w dp un gd L a ccd 5 Q E s := by
  refine wpAny_execs_cons (wpAny_If (wpAny_isTrue_Compare1 (callR (X.keeps F.keep) (Rd.glo rfl rfl rfl F X (topRead_of T) (by k_is) rfl) (by k_is) (.cons (Rd.loc rfl rfl F hm rfl) .nil) (pfilter ⟨B, F, X, T, rfl⟩ N iO hO hz hR hne (rm (a := 4) hd (by decide)) fun t h' tk' F' N' => ?_)) rfl))
  refine Rd.ok (s := { s with heap := h', toks := tk' }) (Rd.loc rfl rfl F' hw rfl) (ne_bytes_same (wpAny_truthy_bool ?_))
  rw [if_neg Bool.false_ne_true]
  exact wpAny_execs_nil (next h' tk' F' N')
theorem stF (F : Fr h₀ L s.heap m) (X : (Mine.hd.heap_39 w.params).In h₀) (T : Top p lo mean mg mb h₀) (hw : m (Str.ofString "whole") = some (.bytes (byteArr (fs.map packF).flatten) tw)) (hc : m (Str.ofString "cut") = some (.int cut tc))
  (N : News h₀ L s.heap r) (hz : fs.length ≤ 7) (hR : ∀ f ∈ fs, RngF f) (h0 : 0 ≤ cut) (h1 : cut < 10)
  (next : ∀ b t n h' tk', KBw.bInts b = ((fs.map packF).flatten).take n → Fr h₀ L h' (fun z => if z = Str.ofString "octets" then some (.bytes b t) else m z) → News h₀ L h' r → LawGo w dp un gd L a ccd 7 Q E { s with heap := h', toks := tk' }) :
  LawGo w dp un gd L a ccd 6 Q E s := by
  have hk : KBw.bInts (byteArr (fs.map packF).flatten) = (fs.map packF).flatten := KBa.ints_make (packs_in fs hR)
  have hlen := packs_len fs
  refine wpAny_execs_cons ?_
  k_with_none
  k_with "eval Name" => (k_dflt (first | refine Rd.ok (Rd.loc rfl rfl (by k_asm) hw rfl) ?_ | refine Rd.ok (Rd.loc rfl rfl (by k_asm) hc rfl) ?_))
  k_with "call builtin:len" => (refine KBw.len_K hk (by rw [hlen]; omega) ?_)
  k_with "execs cons" => (refine stop_of ?_)
  k_steps
  rename KBw.bInts (KBy.picked _ _ _) = _ => hp
  exact next _ _ _ _ _ hp (by k_asm) (by k_asm)
end
section
variable {w : World} {p : Program} {lo : List Str} {mean : ExcName → Option Value} {mg mb : Str → Option Value} {dp un : Nat} {gd : Option (List Code)} {a : Addr} {ccd : Value} {A₀ : Around} {base h₀ : Heap} {L : Addr} {m : Str → Option Value} {s : Shared} {Q : Flow → Shared → Prop} {E : Value → Shared → Prop} {r : List (Addr × Obj)} {tb : Tok} {b : Array UInt8} {ks : List Int}
theorem loopG (B : Below A₀ base [] h₀) (F : Fr h₀ L s.heap m) (X : (hd.heap_39 w.params).In h₀) (T : Top p lo mean mg mb h₀) (ho : m (Str.ofString "octets") = some (.bytes b tb)) (hb : KBw.bInts b = ks) (hz : ks.length ≤ 64)
  (N : News h₀ L s.heap r) (hd : dp + 12 < recursionLimit) (hu : un + 2 < cLine) {k : Int} {t : Tok} (ha : m (Str.ofString "at") = some (.int k t)) {p1 p2 p3 p4 p5 p6 p7 p8 p9 p10 p11 p12 : Pos} {kk : Nat}
  (next : ∀ nw h' tk', Fr h₀ L h' m → News h₀ L h' nw → (∀ p ∈ r, p ∈ nw) → Q .next { s with heap := h', toks := tk' }) :
  wpAny (model PySem.Challenge.rw_rg0263_01.row.prog w) (lawA dp un gd L a ccd) (execs [.If (.Compare (.Call (.Name (Str.ofString "_law_heard") p1) [.Name (Str.ofString "octets") p2, .Name (Str.ofString "at") p3] [] p4) [.NotEq] [.Call (.Name (Str.ofString "_law_read") p5) [.Name (Str.ofString "octets") p6, .Name (Str.ofString "at") p7] [] p8] p9) [.Return (some (.Constant (.bool false) kk p10)) p12] [] p11] (lawE L a ccd)) Q E s := by
  have gl : ∀ {h : Heap} {m' : Str → Option Value}, Fr h₀ L h m' → Rd (lawE L a ccd) h (Str.ofString "_law_read") (.ref 277) := fun F => Rd.glo rfl rfl rfl F X (topRead_of T) (by k_is) rfl
  refine wpAny_execs_cons (wpAny_If (wpAny_isTrue_Compare1 (callR (X.keeps F.keep) (Rd.glo rfl rfl rfl F X (topRead_of T) (by k_is) rfl) (by k_is) (.cons (Rd.loc rfl rfl F ho rfl) (.cons (Rd.loc rfl rfl F ha rfl) .nil)) ?_) rfl))
  by_cases hin : 0 ≤ k ∧ k + 8 ≤ (ks.length : Int)
  · refine heardok ⟨B, F, X, T, rfl⟩ N hb hz hin.1 hin.2 (rm (a := 5) hd (by decide)) fun x t1 t2 t3 t4 h1 tk1 F1 N1 => ?_
    refine callR (s := { s with heap := h1, toks := tk1 }) (X.keeps F1.keep) (gl F1) (by k_is) (.cons (Rd.loc rfl rfl F1 ho rfl) (.cons (Rd.loc rfl rfl F1 ha rfl) .nil)) ?_
    refine readok (s := { s with heap := h1, toks := tk1 }) ⟨B, F1, X, T, rfl⟩ N1 hb hz hin.1 hin.2 (rm (a := 3) hd (by decide)) fun y u1 u2 u3 u4 h2 tk2 F2 N2 => ?_
    refine ne_tups (s := { s with heap := h2, toks := tk2 }) (led := _) N2 (Tup.mk (.tail _ (.head _))) (Tup.mk (.head _)) (show un < cLine by omega) (wpAny_truthy_bool ?_)
    rw [if_neg Bool.false_ne_true]
    exact wpAny_execs_nil (wpAny_execs_nil (next _ h2 tk2 F2 N2 fun p hp => .tail _ (.tail _ hp)))
  · have hout : k < 0 ∨ (ks.length : Int) < k + 8 := by omega
    refine heardbad ⟨B, F, X, T, rfl⟩ N hb hz hout (rm (a := 6) hd (by decide)) fun h1 tk1 F1 N1 => ?_
    refine callR (s := { s with heap := h1, toks := tk1 }) (X.keeps F1.keep) (gl F1) (by k_is) (.cons (Rd.loc rfl rfl F1 ho rfl) (.cons (Rd.loc rfl rfl F1 ha rfl) .nil)) ?_
    refine readbad (s := { s with heap := h1, toks := tk1 }) ⟨B, F1, X, T, rfl⟩ N1 hb hz hout (rm (a := 3) hd (by decide)) fun h2 tk2 F2 N2 => ?_
    refine PySem.SeqAt.RcNeAt.none_none (A := lawA dp un gd L a ccd) (s := { s with heap := h2, toks := tk2 }) _ w _ _ (wpAny_truthy_bool ?_)
    rw [if_neg Bool.false_ne_true]
    exact wpAny_execs_nil (wpAny_execs_nil (next _ h2 tk2 F2 N2 fun p hp => hp))
theorem stG (B : Below A₀ base [] h₀) (F : Fr h₀ L s.heap m) (X : (Mine.hd.heap_39 w.params).In h₀) (T : Top p lo mean mg mb h₀) (ho : m (Str.ofString "octets") = some (.bytes b tb)) (hb : KBw.bInts b = ks) (hz : ks.length ≤ 64)
  (N : News h₀ L s.heap r) (hd : dp + 12 < recursionLimit) (hu : un + 2 < cLine) (hE : PassesOwn (model PySem.Challenge.rw_rg0263_01.row.prog w) (lawA dp un gd L a ccd) (lawE L a ccd) E)
  (next : ∀ v h' tk', Fr h₀ L h' (fun z => if z = Str.ofString "at" then v else m z) → News h₀ L h' r → LawGo w dp un gd L a ccd 8 Q E { s with heap := h', toks := tk' }) :
  LawGo w dp un gd L a ccd 7 Q E s := by
  refine wpAny_execs_cons (For_invVF F rfl rfl ?_ (fun _ => rfl) hE)
  k_with_none
  k_with "eval Name" => (k_dflt (refine Rd.ok (Rd.loc rfl rfl (by k_asm) ho rfl) ?_))
  k_with "call builtin:len" => (refine KBw.len_K hb (by omega) ?_)
  k_with "pyIter ref" => (refine stop_of ?_)
  k_steps
  unfold Stop
  rename IsRange _ _ _ _ _ _ _ _ => hr
  refine iter_range0 (n := ks.length + 30) (Str.ofString "at") (fun _ nw => ∀ p ∈ r, p ∈ nw) rfl (by k_asm) (by k_asm) hr (small_one (by decide) (by omega) (by omega) (by omega)) (by rw [rangeSize_nat]; omega) (fun p h => h) ?_ ?_
  · intro i t u nw I oI h tk hi hK F1 N1 o1
    have F2 : Fr h₀ L h (fun z => if z = Str.ofString "at" then some (.int (-20 + (i : Int) * 1) t) else m z) := Fr.of_map F1 fun z => by by_cases e : z = Str.ofString "at" <;> simp [e]
    refine loopG (s := _) B F2 X T ((if_neg (by decide)).trans ho) hb hz N1 hd hu (if_pos rfl) fun nw2 h2 tk2 F3 N3 hs3 => ?_
    refine TurnP.intro (news' := nw) F3 (fun p hp => N3 p (hs3 p hp)) o1 ⟨hK, fun z a b => by simp [a]⟩
  · intro f u nw h tk hK F1 N1
    exact next f h tk (Fr.of_map F1 fun z => by by_cases e : z = Str.ofString "at" <;> simp [e]) (fun p hp => N1 p (hK p hp))
end
theorem pick_take {vs : List Value} {y : Int} (h : 0 ≤ y) : slicePick vs.toArray none (some y) none = (vs.take y.toNat).toArray := by
  have e : sliceBounds none (some y) none vs.toArray.size = (((0 : Nat) : Int), ((min y.toNat vs.toArray.size : Nat) : Int), 1) := by
    simp only [sliceBounds, Option.getD_none, show (1 : Int) > 0 by decide, if_true, if_neg (show ¬ (y < 0) by omega)]
    congr 1
    congr 1
    omega
  rw [kmk_pick_nat _ e]
  show ((vs.drop 0).take (min y.toNat vs.toArray.size - 0)).toArray = _
  rw [List.drop_zero, Nat.sub_zero, List.size_toArray, kmk_take_min]
theorem All2.take {P : Value → Fld → Prop} {as : List Value} {bs : List Fld} (h : All2 P as bs) (n : Nat) : All2 P (as.take n) (bs.take n) := by
  refine ⟨by rw [List.length_take, List.length_take, h.1], fun i a e => ?_⟩
  by_cases hi : i < n
  · rw [List.getElem?_take, if_pos hi] at e
    rw [List.getElem?_take, if_pos hi]
    exact h.2 i a e
  · rw [List.getElem?_take, if_neg hi] at e; cases e
theorem fd8 {n : Nat} : (n : Int).fdiv 8 = ((n / 8 : Nat) : Int) := by rw [Int.fdiv_eq_ediv_of_nonneg _ (by decide)]; rfl
theorem fm8n {n : Nat} : (n : Int).fmod 8 = ((n % 8 : Nat) : Int) := by rw [Int.fmod_eq_emod_of_nonneg _ (by decide)]; rfl
section
variable {w : World} {p : Program} {lo : List Str} {mean : ExcName → Option Value} {mg mb : Str → Option Value} {dp un : Nat} {gd : Option (List Code)} {a : Addr} {ccd : Value} {A₀ : Around} {base h₀ : Heap} {L R : Addr} {m : Str → Option Value} {s : Shared} {Q : Flow → Shared → Prop} {E : Value → Shared → Prop} {r : List (Addr × Obj)} {tb : Tok} {b : Array UInt8} {ks : List Int} {rs : List Value} {kR n : Nat} {fs : List Fld}
theorem stH (B : Below A₀ base [] h₀) (F : Fr h₀ L s.heap m) (X : (hd.heap_39 w.params).In h₀) (T : Top p lo mean mg mb h₀) (ho : m (Str.ofString "octets") = some (.bytes b tb)) (hr : m (Str.ofString "row") = some (.ref R)) (hb : KBw.bInts b = ks) (hz : ks.length ≤ 64) (hk : ks = ((fs.map packF).flatten).take n) (hR : ∀ f ∈ fs, RngF f) (hf7 : fs.length ≤ 7)
  (N : News h₀ L s.heap r) (iR : (R, listOf (List.toArray rs) kR) ∈ r) (hT : Tups r rs fs) (hd : dp + 12 < recursionLimit) (hu : un + 2 < cLine)
  (next : ∀ h' tk', Fr h₀ L h' m → News h₀ L h' r → LawGo w dp un gd L a ccd 9 Q E { s with heap := h', toks := tk' }) :
  LawGo w dp un gd L a ccd 8 Q E s := by
  refine wpAny_execs_cons (wpAny_If (wpAny_isTrue_Compare1 (callR (X.keeps F.keep) (Rd.glo rfl rfl rfl F X (topRead_of T) (by k_is) rfl) (by k_is) (.cons (Rd.loc rfl rfl F ho rfl) .nil) ?_) rfl))
  by_cases h8 : ks.length % 8 = 0
  · refine allok ⟨B, F, X, T, rfl⟩ N hb hz rfl h8 (rm (a := 8) hd (by decide)) fun D vs nn nw h1 tk1 F1 N1 hs1 hD => ?_
    have hfl := flds_all hR hk h8 rfl
    k_with_none
    k_with "eval Name" => (k_dflt (first | refine Rd.ok (Rd.loc rfl rfl (by k_asm) ho rfl) ?_ | refine Rd.ok (Rd.loc rfl rfl (by k_asm) hr rfl) ?_))
    k_with "call builtin:len" => (refine KBw.len_K hb (by omega) ?_)
    k_with "subscriptTail" => (k_dflt (refine' kmk_slice ?F ?N (News.isList (by k_asm) (.tail _ (hs1 _ iR))) IsPart.none (IsPart.int _ _) ?_ (by with_unfolding_all rfl) (by intro _; with_unfolding_all rfl) ?z; (case F => k_asm); (case N => k_asm); (case z => (rw [List.size_toArray, hT.1]; exact Nat.le_trans hf7 (by decide)))); intro D' h' F' N' l1)
    k_with "compareOp NotEq" => (refine stop_of ?_)
    k_with "compareOp NotEq ref ref" => (refine stop_of ?_)
    k_steps
    · unfold Stop
      rename News _ _ _ _ => N9
      rename Fr _ _ _ _ => F9
      rw [pick_take (by rw [fd8]; exact Int.natCast_nonneg _), fd8, Int.toNat_natCast] at N9
      rw [hfl] at hD
      refine ne_lists (led := _) N9 (.tail _ (.head _)) (.head _) (Tups.sub (fun p hp => .tail _ (.tail _ hp)) hD) (Tups.sub (fun p hp => .tail _ (.tail _ (hs1 p hp))) (hT.take (ks.length / 8))) (show un + 1 < cLine by omega) (wpAny_truthy_bool ?_)
      rw [if_neg Bool.false_ne_true]
      exact wpAny_execs_nil (next _ _ F9 fun p hp => N9 p (.tail _ (.tail _ (hs1 p hp))))
    · rename (_ : Int).fmod 8 ≠ 0 => hq
      exact absurd (by rw [fm8n, h8]; rfl) hq
  · refine allbad ⟨B, F, X, T, rfl⟩ N hb hz rfl h8 (rm (a := 8) hd (by decide)) fun t h1 tk1 F1 N1 => ?_
    k_with_none
    k_with "eval Name" => (k_dflt (first | refine Rd.ok (Rd.loc rfl rfl (by k_asm) ho rfl) ?_ | refine Rd.ok (Rd.loc rfl rfl (by k_asm) hr rfl) ?_))
    k_with "call builtin:len" => (refine KBw.len_K hb (by omega) ?_)
    k_with "compareOp NotEq int int" => (refine stop_of ?_)
    k_with "compareOp NotEq" => (refine stop_of ?_)
    k_steps
    · rename (_ : Int).fmod 8 = 0 => hq
      rw [fm8n] at hq
      exact absurd (Int.ofNat_inj.mp hq) h8
    · unfold Stop
      refine PyProof.Rows.ne_int (wpAny_truthy_bool ?_)
      rw [fd8, show (((ks.length / 8 : Nat) : Int) != ((ks.length / 8 : Nat) : Int)) = false by simp]
      rw [if_neg Bool.false_ne_true]
      exact wpAny_execs_nil (next _ _ (by k_asm) (by k_asm))
end
section
variable {w : World} {p : Program} {lo : List Str} {mean : ExcName → Option Value} {mg mb : Str → Option Value} {dp un : Nat} {gd : Option (List Code)} {a : Addr} {ccd : Value} {A₀ : Around} {base h₀ : Heap} {L R O : Addr} {m : Str → Option Value} {s : Shared} {Q : Flow → Shared → Prop} {E : Value → Shared → Prop} {r : List (Addr × Obj)} {rs ys : List Value} {kR kO : Nat} {fs : List Fld}
theorem stI (B : Below A₀ base [] h₀) (F : Fr h₀ L s.heap m) (X : (hd.heap_39 w.params).In h₀) (T : Top p lo mean mg mb h₀) (hm : m (Str.ofString "orders") = some (.ref O)) (hr : m (Str.ofString "row") = some (.ref R)) (hR : ∀ f ∈ fs, RngF f) (hz : fs.length ≤ 7) (h1 : 1 ≤ fs.length)
  (N : News h₀ L s.heap r) (iO : (O, listOf (List.toArray ys) kO) ∈ r) (hO : Ords w r ys fs) (iR : (R, listOf (List.toArray rs) kR) ∈ r) (hT : Tups r rs fs) (hd : dp + 12 < recursionLimit) (hu : un + 2 < cLine)
  (ret : ∀ h' tk', Fr h₀ L h' m → Q (.ret (.bool true)) { s with heap := h', toks := tk' }) :
  LawGo w dp un gd L a ccd 9 Q E s := by
  have hok : ∀ f ∈ fs, FldOk f := fun f hf => ⟨(hR f hf).c0, (hR f hf).a0, (hR f hf).b0, (hR f hf).k0⟩
  refine wpAny_execs_cons (wpAny_Return_some (wpAny_Compare1 (callR (X.keeps F.keep) (Rd.glo rfl rfl rfl F X (topRead_of T) (by k_is) rfl) (by k_is) (.cons (Rd.loc rfl rfl F hm rfl) .nil) (reached ⟨B, F, X, T, rfl⟩ N iO hO hz hok (rm (a := 7) hd (by decide)) fun D1 ys1 k1 nw1 h1' tk1 hy1 F1 N1 hs1 => ?_))))
  refine callR (s := { s with heap := h1', toks := tk1 }) (X.keeps F1.keep) (Rd.glo rfl rfl rfl F1 X (topRead_of T) (by k_is) rfl) (by k_is) (.cons (Rd.loc rfl rfl F1 hr rfl) .nil) (lreached (s := { s with heap := h1', toks := tk1 }) ⟨B, F1, X, T, rfl⟩ N1 (.tail _ (hs1 _ iR)) (Tups.sub (fun p hp => .tail _ (hs1 p hp)) hT) hz h1 (rm (a := 4) hd (by decide)) fun D2 ys2 k2 nw2 h2 tk2 hy2 F2 N2 hs2 => ?_)
  rw [← reach_same hok] at hy2
  exact eq_ints (s := { s with heap := h2, toks := tk2 }) N2 (.tail _ (hs2 _ (.head _))) (.head _) hy1 hy2 (show un < cLine by omega) (ret h2 tk2 F2)
end
section
variable {w : World} {p : Program} {lo : List Str} {mean : ExcName → Option Value} {mg mb : Str → Option Value} {dp un : Nat} {gd : Option (List Code)} {a : Addr} {ccd : Value} {A₀ : Around} {base h₀ : Heap} {L l : Addr} {m : Str → Option Value} {s : Shared} {Q : Flow → Shared → Prop} {E : Value → Shared → Prop} {oc : Obj} {vs : List Value} {ns : List Int}
theorem lawbody (B : Below A₀ base [] h₀) (F : Fr h₀ L s.heap m) (X : (hd.heap_39 w.params).In h₀) (T : Top p lo mean mg mb h₀) (hm : m (Str.ofString "script") = some (.ref l)) (N : News h₀ L s.heap [(L + 1, oc)]) (hoc : oc.data = .cell none) (hl : h₀.IsList l vs.toArray) (hI : IntsAre vs ns) (hz : vs.length ≤ 63)
  (hd : dp + 12 < recursionLimit) (hu : un + 2 < cLine) (hE : PassesOwn (model PySem.Challenge.rw_rg0263_01.row.prog w) (lawA dp un gd L a ccd) (lawE L a ccd) E)
  (ret : ∀ h' tk m', Fr h₀ L h' m' → Q (.ret (.bool true)) { s with heap := h', toks := tk }) :
  LawGo w dp un gd L a ccd 0 Q E s := by
  refine stA B F X T hm N hoc hl hI hz hd fun c n t0 k t1 nn oc2 cut tcut cnt tcnt h1 tk1 m1 hcc ho2 c0 c1 n0 n7 fu hcut hcnt F1 N1 => ?_
  refine stB (s := { s with heap := h1, toks := tk1 }) B F1 X T hcnt N1 hcc ho2 n0 n7 fu hd fun O ys kO fs r h2 tk2 hlen hO hR iO F2 N2 => ?_
  have hz7 : fs.length ≤ 7 := by omega
  have hn1 : 1 ≤ fs.length := by omega
  refine stC (s := { s with heap := h2, toks := tk2 }) B F2 X T (if_pos rfl) N2 iO hO hz7 hd fun R rs kR r3 h3 tk3 hT iR sub F3 N3 => ?_
  have iO3 := sub _ iO
  have hO3 := Ords.sub sub hO
  refine stD (s := { s with heap := h3, toks := tk3 }) B F3 X T (if_pos rfl) N3 iR hT hz7 (by omega) hR hd fun tw h4 tk4 F4 N4 => ?_
  refine stE (s := { s with heap := h4, toks := tk4 }) B F4 X T ((if_neg (by decide)).trans ((if_neg (by decide)).trans (if_pos rfl))) (if_pos rfl) N4 iO3 hO3 hz7 (by omega) hR hd fun h5 tk5 F5 N5 => ?_
  refine stF (s := { s with heap := h5, toks := tk5 }) F5 X T (if_pos rfl) ((if_neg (by decide)).trans ((if_neg (by decide)).trans ((if_neg (by decide)).trans hcut))) N5 hz7 hR c0 c1 fun b t n6 h6 tk6 hb F6 N6 => ?_
  have hk6 : (((fs.map packF).flatten).take n6).length ≤ 64 := by
    rw [List.length_take, packs_len]; omega
  refine stG (s := { s with heap := h6, toks := tk6 }) B F6 X T (if_pos rfl) hb hk6 N6 hd hu hE fun v h7 tk7 F7 N7 => ?_
  refine stH (s := { s with heap := h7, toks := tk7 }) B F7 X T ((if_neg (by decide)).trans (if_pos rfl)) ((if_neg (by decide)).trans ((if_neg (by decide)).trans ((if_neg (by decide)).trans (if_pos rfl)))) hb hk6 rfl hR hz7 N7 iR hT hd hu fun h8 tk8 F8 N8 => ?_
  refine stI (s := { s with heap := h8, toks := tk8 }) B F8 X T ((if_neg (by decide)).trans ((if_neg (by decide)).trans ((if_neg (by decide)).trans ((if_neg (by decide)).trans (if_pos rfl))))) ((if_neg (by decide)).trans ((if_neg (by decide)).trans ((if_neg (by decide)).trans (if_pos rfl)))) hR hz7 hn1 N8 iO3 hO3 iR hT hd hu fun h9 tk9 F9 => ?_
  exact ret h9 tk9 _ F9
end
theorem fin : PySem.Challenge.rw_rg0263_01.Holds := by
  k_with_none
  w_on
  refine holds_law said fun said => ?_
  refine holds_open (q := hd.view_39) (loose := loose39) (Xt := fun s => xlAt hd.view_39 [] s && recOk (RowW.records PySem.Challenge.rw_rg0263_01.row.toRowW) s) (XP := XL hd.view_39 []) (Yf := Hook.obs (kHook hd.heap_39 hd.as_39 keysK)) (Ya := Hook.val (kHook hd.heap_39 hd.as_39 keysK)) (YP := Hook.says (kHook hd.heap_39 hd.as_39 keysK)) (N := 3900) left (Hook.of (kHook hd.heap_39 hd.as_39 keysK)) (Hook.keeps (kHook hd.heap_39 hd.as_39 keysK)) (fun s e => xl_of s (Bool.and_eq_true_iff.mp e).1) XL.keeps (by rfl) (by rfl) (by rfl) (fun s e => recFacts_of (Bool.and_eq_true_iff.mp e).2) (by rfl) (by first | assumption | decide +kernel) (by decide +kernel) ⟨rfl, rfl, rfl, rfl, rfl, by decide +kernel⟩ ?hw ?hc
  case hw => w_witness2
  w_strict (k_go0; (all_goals try k_fold))
  rename Below _ _ _ _ => KB
  rename Fr _ _ _ _ => KF
  rename Top _ _ _ _ _ _ => KT
  rename Frag.In _ _ => KX
  rename News _ _ _ _ => KN
  rename Heap.IsList _ _ _ => KL
  rename IntsAre _ _ => KI
  rename Obj.data _ = _ => KO
  refine lawbody KB KF KX KT rfl KN KO KL KI (by have := KI.length; omega) (by decide) (by decide) (by passes_own) ?_
  intro h' tk m' F'
  k_steps
  all_goals w_report
end Mine
theorem PySem.Challenge.cw_rg0263_01_holds : PySem.Challenge.rw_rg0263_01.Holds := by
  exact Mine.fin
