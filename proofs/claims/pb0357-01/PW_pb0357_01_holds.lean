import PyProof.Rows.All
import Wide.All
import OpenK.AllK
import Wide.FinOn
import PySem.Challenge.RW_pb0357_01
open PySem PySem.W PyProof.Rows
set_option Elab.async false
set_option maxRecDepth 100000
set_option maxHeartbeats 4000000
set_option genSizeOf false
set_option linter.unusedSimpArgs false
set_option linter.unusedVariables false
set_option pp.deepTerms false
set_option pp.maxSteps 600
namespace Mine
section
noncomputable section
noncomputable def PP : Program := PySem.Challenge.rw_pb0357_01.row.prog
noncomputable def bodyP : List Stmt := PySem.Challenge.pw_pb0357_01.main.body
def findR (n : Str) : List Stmt → Option (Arguments × List Stmt × Scope)
  | [] => none
  | .FunctionDef name args body _ _ _ scope _ _ _ :: r => if name = n then some (args, body, scope) else findR n r
  | _ :: r => findR n r
def findK (n : Str) : List Stmt → List Stmt
  | [] => []
  | .ClassDef name _ _ body _ _ _ _ _ _ _ :: r => if name = n then body else findK n r
  | _ :: r => findK n r
noncomputable def R_target_of : Arguments × List Stmt × Scope := (⟨_, rfl⟩ : {r // findR "target_of" bodyP = some r}).1
noncomputable def R_falls_through : Arguments × List Stmt × Scope := (⟨_, rfl⟩ : {r // findR "falls_through" bodyP = some r}).1
noncomputable def R_can_jump : Arguments × List Stmt × Scope := (⟨_, rfl⟩ : {r // findR "can_jump" bodyP = some r}).1
noncomputable def R_successors : Arguments × List Stmt × Scope := (⟨_, rfl⟩ : {r // findR "successors" bodyP = some r}).1
noncomputable def R_bit : Arguments × List Stmt × Scope := (⟨_, rfl⟩ : {r // findR "bit" bodyP = some r}).1
noncomputable def R_is_register_form : Arguments × List Stmt × Scope := (⟨_, rfl⟩ : {r // findR "is_register_form" bodyP = some r}).1
noncomputable def R_is_immediate_form : Arguments × List Stmt × Scope := (⟨_, rfl⟩ : {r // findR "is_immediate_form" bodyP = some r}).1
noncomputable def R_is_conditional : Arguments × List Stmt × Scope := (⟨_, rfl⟩ : {r // findR "is_conditional" bodyP = some r}).1
noncomputable def R_sets_flags : Arguments × List Stmt × Scope := (⟨_, rfl⟩ : {r // findR "sets_flags" bodyP = some r}).1
noncomputable def R_memory_reads : Arguments × List Stmt × Scope := (⟨_, rfl⟩ : {r // findR "memory_reads" bodyP = some r}).1
noncomputable def R_branch_reads : Arguments × List Stmt × Scope := (⟨_, rfl⟩ : {r // findR "branch_reads" bodyP = some r}).1
noncomputable def R_reads : Arguments × List Stmt × Scope := (⟨_, rfl⟩ : {r // findR "reads" bodyP = some r}).1
noncomputable def R_call_writes : Arguments × List Stmt × Scope := (⟨_, rfl⟩ : {r // findR "call_writes" bodyP = some r}).1
noncomputable def R_writes : Arguments × List Stmt × Scope := (⟨_, rfl⟩ : {r // findR "writes" bodyP = some r}).1
noncomputable def R_leaves_unknown : Arguments × List Stmt × Scope := (⟨_, rfl⟩ : {r // findR "leaves_unknown" bodyP = some r}).1
noncomputable def R_live_before : Arguments × List Stmt × Scope := (⟨_, rfl⟩ : {r // findR "live_before" bodyP = some r}).1
noncomputable def R_liveness : Arguments × List Stmt × Scope := (⟨_, rfl⟩ : {r // findR "liveness" bodyP = some r}).1
noncomputable def R_is_live : Arguments × List Stmt × Scope := (⟨_, rfl⟩ : {r // findR "is_live" bodyP = some r}).1
noncomputable def R_to_signed : Arguments × List Stmt × Scope := (⟨_, rfl⟩ : {r // findR "to_signed" bodyP = some r}).1
noncomputable def R_flagged : Arguments × List Stmt × Scope := (⟨_, rfl⟩ : {r // findR "flagged" bodyP = some r}).1
noncomputable def R_add : Arguments × List Stmt × Scope := (⟨_, rfl⟩ : {r // findR "add" bodyP = some r}).1
noncomputable def R_sub : Arguments × List Stmt × Scope := (⟨_, rfl⟩ : {r // findR "sub" bodyP = some r}).1
noncomputable def R_mul : Arguments × List Stmt × Scope := (⟨_, rfl⟩ : {r // findR "mul" bodyP = some r}).1
noncomputable def R_div : Arguments × List Stmt × Scope := (⟨_, rfl⟩ : {r // findR "div" bodyP = some r}).1
noncomputable def R_shift_left : Arguments × List Stmt × Scope := (⟨_, rfl⟩ : {r // findR "shift_left" bodyP = some r}).1
noncomputable def R_shift_arith : Arguments × List Stmt × Scope := (⟨_, rfl⟩ : {r // findR "shift_arith" bodyP = some r}).1
noncomputable def R_rotate : Arguments × List Stmt × Scope := (⟨_, rfl⟩ : {r // findR "rotate" bodyP = some r}).1
noncomputable def R_bitwise : Arguments × List Stmt × Scope := (⟨_, rfl⟩ : {r // findR "bitwise" bodyP = some r}).1
noncomputable def R_operate : Arguments × List Stmt × Scope := (⟨_, rfl⟩ : {r // findR "operate" bodyP = some r}).1
noncomputable def R_condition_number : Arguments × List Stmt × Scope := (⟨_, rfl⟩ : {r // findR "condition_number" bodyP = some r}).1
noncomputable def R_holds : Arguments × List Stmt × Scope := (⟨_, rfl⟩ : {r // findR "holds" bodyP = some r}).1
noncomputable def R_TrapError_init : Arguments × List Stmt × Scope := (⟨_, rfl⟩ : {r // findR "__init__" (findK "TrapError" bodyP) = some r}).1
noncomputable def R_BadRow_init : Arguments × List Stmt × Scope := (⟨_, rfl⟩ : {r // findR "__init__" (findK "BadRow" bodyP) = some r}).1
noncomputable def R_Cpu_init : Arguments × List Stmt × Scope := (⟨_, rfl⟩ : {r // findR "__init__" (findK "Cpu" bodyP) = some r}).1
noncomputable def R_Cpu_step : Arguments × List Stmt × Scope := (⟨_, rfl⟩ : {r // findR "step" (findK "Cpu" bodyP) = some r}).1
noncomputable def R_Cpu_transfer : Arguments × List Stmt × Scope := (⟨_, rfl⟩ : {r // findR "transfer" (findK "Cpu" bodyP) = some r}).1
noncomputable def R_Cpu_flags : Arguments × List Stmt × Scope := (⟨_, rfl⟩ : {r // findR "flags" (findK "Cpu" bodyP) = some r}).1
noncomputable def R_Cpu_branch : Arguments × List Stmt × Scope := (⟨_, rfl⟩ : {r // findR "branch" (findK "Cpu" bodyP) = some r}).1
noncomputable def R_Cpu_set_result : Arguments × List Stmt × Scope := (⟨_, rfl⟩ : {r // findR "set_result" (findK "Cpu" bodyP) = some r}).1
noncomputable def R_Cpu_calculate : Arguments × List Stmt × Scope := (⟨_, rfl⟩ : {r // findR "calculate" (findK "Cpu" bodyP) = some r}).1
noncomputable def R_Cpu_run : Arguments × List Stmt × Scope := (⟨_, rfl⟩ : {r // findR "run" (findK "Cpu" bodyP) = some r}).1
noncomputable def R_register_names : Arguments × List Stmt × Scope := (⟨_, rfl⟩ : {r // findR "register_names" bodyP = some r}).1
noncomputable def R_Memory_init : Arguments × List Stmt × Scope := (⟨_, rfl⟩ : {r // findR "__init__" (findK "Memory" bodyP) = some r}).1
noncomputable def R_Memory_place : Arguments × List Stmt × Scope := (⟨_, rfl⟩ : {r // findR "place" (findK "Memory" bodyP) = some r}).1
noncomputable def R_Memory_word : Arguments × List Stmt × Scope := (⟨_, rfl⟩ : {r // findR "word" (findK "Memory" bodyP) = some r}).1
noncomputable def R_Memory_put_word : Arguments × List Stmt × Scope := (⟨_, rfl⟩ : {r // findR "put_word" (findK "Memory" bodyP) = some r}).1
noncomputable def R_Memory_byte : Arguments × List Stmt × Scope := (⟨_, rfl⟩ : {r // findR "byte" (findK "Memory" bodyP) = some r}).1
noncomputable def R_Memory_put_byte : Arguments × List Stmt × Scope := (⟨_, rfl⟩ : {r // findR "put_byte" (findK "Memory" bodyP) = some r}).1
noncomputable def R_law_pods : Arguments × List Stmt × Scope := (⟨_, rfl⟩ : {r // findR "_law_pods" bodyP = some r}).1
noncomputable def R_law_pod : Arguments × List Stmt × Scope := (⟨_, rfl⟩ : {r // findR "_law_pod" bodyP = some r}).1
noncomputable def R_law_planned : Arguments × List Stmt × Scope := (⟨_, rfl⟩ : {r // findR "_law_planned" bodyP = some r}).1
noncomputable def R_law_end : Arguments × List Stmt × Scope := (⟨_, rfl⟩ : {r // findR "_law_end" bodyP = some r}).1
noncomputable def R_law : Arguments × List Stmt × Scope := (⟨_, rfl⟩ : {r // findR "law" bodyP = some r}).1
noncomputable def st_0 : Stmt := (⟨_, rfl⟩ : {s // bodyP[0]? = some s}).1
noncomputable def st_1 : Stmt := (⟨_, rfl⟩ : {s // bodyP[1]? = some s}).1
noncomputable def st_2 : Stmt := (⟨_, rfl⟩ : {s // bodyP[2]? = some s}).1
noncomputable def st_3 : Stmt := (⟨_, rfl⟩ : {s // bodyP[3]? = some s}).1
noncomputable def st_4 : Stmt := (⟨_, rfl⟩ : {s // bodyP[4]? = some s}).1
noncomputable def st_5 : Stmt := (⟨_, rfl⟩ : {s // bodyP[5]? = some s}).1
noncomputable def st_6 : Stmt := (⟨_, rfl⟩ : {s // bodyP[6]? = some s}).1
noncomputable def st_7 : Stmt := (⟨_, rfl⟩ : {s // bodyP[7]? = some s}).1
noncomputable def st_8 : Stmt := (⟨_, rfl⟩ : {s // bodyP[8]? = some s}).1
noncomputable def st_9 : Stmt := (⟨_, rfl⟩ : {s // bodyP[9]? = some s}).1
noncomputable def st_10 : Stmt := (⟨_, rfl⟩ : {s // bodyP[10]? = some s}).1
noncomputable def st_11 : Stmt := (⟨_, rfl⟩ : {s // bodyP[11]? = some s}).1
noncomputable def st_12 : Stmt := (⟨_, rfl⟩ : {s // bodyP[12]? = some s}).1
noncomputable def st_13 : Stmt := (⟨_, rfl⟩ : {s // bodyP[13]? = some s}).1
noncomputable def st_14 : Stmt := (⟨_, rfl⟩ : {s // bodyP[14]? = some s}).1
noncomputable def st_15 : Stmt := (⟨_, rfl⟩ : {s // bodyP[15]? = some s}).1
noncomputable def st_16 : Stmt := (⟨_, rfl⟩ : {s // bodyP[16]? = some s}).1
noncomputable def st_17 : Stmt := (⟨_, rfl⟩ : {s // bodyP[17]? = some s}).1
noncomputable def st_18 : Stmt := (⟨_, rfl⟩ : {s // bodyP[18]? = some s}).1
noncomputable def st_19 : Stmt := (⟨_, rfl⟩ : {s // bodyP[19]? = some s}).1
noncomputable def st_20 : Stmt := (⟨_, rfl⟩ : {s // bodyP[20]? = some s}).1
noncomputable def st_21 : Stmt := (⟨_, rfl⟩ : {s // bodyP[21]? = some s}).1
noncomputable def st_22 : Stmt := (⟨_, rfl⟩ : {s // bodyP[22]? = some s}).1
noncomputable def st_23 : Stmt := (⟨_, rfl⟩ : {s // bodyP[23]? = some s}).1
noncomputable def st_24 : Stmt := (⟨_, rfl⟩ : {s // bodyP[24]? = some s}).1
noncomputable def st_25 : Stmt := (⟨_, rfl⟩ : {s // bodyP[25]? = some s}).1
noncomputable def st_26 : Stmt := (⟨_, rfl⟩ : {s // bodyP[26]? = some s}).1
noncomputable def st_27 : Stmt := (⟨_, rfl⟩ : {s // bodyP[27]? = some s}).1
noncomputable def st_28 : Stmt := (⟨_, rfl⟩ : {s // bodyP[28]? = some s}).1
noncomputable def st_29 : Stmt := (⟨_, rfl⟩ : {s // bodyP[29]? = some s}).1
noncomputable def st_30 : Stmt := (⟨_, rfl⟩ : {s // bodyP[30]? = some s}).1
noncomputable def st_31 : Stmt := (⟨_, rfl⟩ : {s // bodyP[31]? = some s}).1
noncomputable def st_32 : Stmt := (⟨_, rfl⟩ : {s // bodyP[32]? = some s}).1
noncomputable def st_33 : Stmt := (⟨_, rfl⟩ : {s // bodyP[33]? = some s}).1
noncomputable def st_34 : Stmt := (⟨_, rfl⟩ : {s // bodyP[34]? = some s}).1
noncomputable def st_35 : Stmt := (⟨_, rfl⟩ : {s // bodyP[35]? = some s}).1
noncomputable def st_36 : Stmt := (⟨_, rfl⟩ : {s // bodyP[36]? = some s}).1
noncomputable def st_37 : Stmt := (⟨_, rfl⟩ : {s // bodyP[37]? = some s}).1
noncomputable def st_38 : Stmt := (⟨_, rfl⟩ : {s // bodyP[38]? = some s}).1
noncomputable def st_39 : Stmt := (⟨_, rfl⟩ : {s // bodyP[39]? = some s}).1
noncomputable def st_40 : Stmt := (⟨_, rfl⟩ : {s // bodyP[40]? = some s}).1
noncomputable def st_41 : Stmt := (⟨_, rfl⟩ : {s // bodyP[41]? = some s}).1
noncomputable def st_42 : Stmt := (⟨_, rfl⟩ : {s // bodyP[42]? = some s}).1
noncomputable def st_43 : Stmt := (⟨_, rfl⟩ : {s // bodyP[43]? = some s}).1
noncomputable def st_44 : Stmt := (⟨_, rfl⟩ : {s // bodyP[44]? = some s}).1
noncomputable def st_45 : Stmt := (⟨_, rfl⟩ : {s // bodyP[45]? = some s}).1
noncomputable def st_46 : Stmt := (⟨_, rfl⟩ : {s // bodyP[46]? = some s}).1
noncomputable def st_47 : Stmt := (⟨_, rfl⟩ : {s // bodyP[47]? = some s}).1
noncomputable def st_48 : Stmt := (⟨_, rfl⟩ : {s // bodyP[48]? = some s}).1
noncomputable def st_49 : Stmt := (⟨_, rfl⟩ : {s // bodyP[49]? = some s}).1
noncomputable def st_50 : Stmt := (⟨_, rfl⟩ : {s // bodyP[50]? = some s}).1
noncomputable def st_51 : Stmt := (⟨_, rfl⟩ : {s // bodyP[51]? = some s}).1
noncomputable def st_52 : Stmt := (⟨_, rfl⟩ : {s // bodyP[52]? = some s}).1
noncomputable def st_53 : Stmt := (⟨_, rfl⟩ : {s // bodyP[53]? = some s}).1
noncomputable def st_54 : Stmt := (⟨_, rfl⟩ : {s // bodyP[54]? = some s}).1
noncomputable def st_55 : Stmt := (⟨_, rfl⟩ : {s // bodyP[55]? = some s}).1
noncomputable def st_56 : Stmt := (⟨_, rfl⟩ : {s // bodyP[56]? = some s}).1
noncomputable def st_57 : Stmt := (⟨_, rfl⟩ : {s // bodyP[57]? = some s}).1
noncomputable def st_58 : Stmt := (⟨_, rfl⟩ : {s // bodyP[58]? = some s}).1
noncomputable def st_59 : Stmt := (⟨_, rfl⟩ : {s // bodyP[59]? = some s}).1
noncomputable def st_60 : Stmt := (⟨_, rfl⟩ : {s // bodyP[60]? = some s}).1
noncomputable def st_61 : Stmt := (⟨_, rfl⟩ : {s // bodyP[61]? = some s}).1
noncomputable def st_62 : Stmt := (⟨_, rfl⟩ : {s // bodyP[62]? = some s}).1
noncomputable def G1 : List Stmt := st_0 :: st_1 :: st_2 :: st_3 :: st_4 :: st_5 :: st_6 :: st_7 :: st_8 :: st_9 :: st_10 :: st_11 :: st_12 :: st_13 :: st_14 :: st_15 :: st_16 :: st_17 :: st_18 :: st_19 :: st_20 :: st_21 :: st_22 :: st_23 :: st_24 :: st_25 :: st_26 :: st_27 :: st_28 :: st_29 :: st_30 :: st_31 :: st_32 :: st_33 :: st_34 :: st_35 :: st_36 :: st_37 :: st_38 :: st_39 :: st_40 :: st_41 :: st_42 :: st_43 :: st_44 :: st_45 :: []
noncomputable def G2 : List Stmt := st_46 :: st_47 :: st_48 :: st_49 :: st_50 :: st_51 :: st_52 :: []
noncomputable def G3 : List Stmt := st_53 :: st_54 :: st_55 :: st_56 :: st_57 :: st_58 :: st_59 :: st_60 :: st_61 :: st_62 :: []
noncomputable def view : Program := { PP with main := { PP.main with body := st_1 :: st_2 :: st_3 :: st_4 :: st_5 :: st_6 :: st_8 :: st_9 :: st_10 :: st_11 :: st_12 :: st_13 :: st_14 :: st_15 :: st_16 :: st_17 :: st_18 :: st_19 :: st_20 :: st_21 :: st_22 :: st_23 :: st_24 :: st_25 :: st_26 :: st_27 :: st_28 :: st_30 :: st_31 :: st_32 :: st_34 :: st_35 :: st_36 :: st_37 :: st_38 :: st_39 :: st_40 :: st_41 :: st_42 :: st_43 :: st_44 :: st_46 :: st_47 :: st_48 :: st_50 :: st_51 :: st_52 :: st_53 :: st_55 :: st_56 :: st_58 :: st_59 :: st_60 :: st_61 :: st_62 :: [] } }
noncomputable def o_43 (P : Params) : Obj := (.mk (.type "tuple") .none (.seq (.mk []) 0) (.mk []))
noncomputable def o_44 (P : Params) : Obj := (.mk .none .none (.fields (.mk [])) (.mk []))
noncomputable def o_45 (P : Params) : Obj := (.mk (.type "code") .none (.fields (.mk ((.str (.ofString "<module>") 182) :: ((.str (.ofString "<module>") 183) :: ((.str (.ofString "/claim/cut.py") 184) :: ((.int 1 0) :: ((.int 0 0) :: ((.int 0 0) :: ((.int 0 0) :: ((.int 0 0) :: ((.ref 11) :: ((.bool false) :: ((.int 181 0) :: ((.ref 12) :: (.none :: (.none :: (.none :: (.none :: ((.int 185 0) :: ((.int 1 0) :: ((.str (.ofString "/claim/cut.py") 186) :: []))))))))))))))))))))) (.mk []))
noncomputable def o_46 (P : Params) : Obj := (.mk (.type "frame") .none .plain (.mk ((.some (.ref 13)) :: ((.some (.ref 3)) :: ((.some (.ref 3)) :: (.none :: ((.some (.str (.ofString "__main__") 164)) :: (.none :: ((.some (.ref 0)) :: [])))))))))
noncomputable def o_51 (P : Params) : Obj := (.mk (.type "tuple") .none (.seq (.mk []) 0) (.mk []))
noncomputable def o_52 (P : Params) : Obj := (.mk .none .none (.fields (.mk [])) (.mk []))
noncomputable def o_53 (P : Params) : Obj := (.mk (.type "tuple") .none (.seq (.mk ((.str (.ofString "row") 196) :: ((.str (.ofString "index") 197) :: []))) 0) (.mk []))
noncomputable def o_54 (P : Params) : Obj := (.mk (.type "tuple") .none (.seq (.mk []) 0) (.mk []))
noncomputable def o_55 (P : Params) : Obj := (.mk .none .none (.func (.mk (.ofString "target_of") (.ofString "target_of") R_target_of.1 (.stmts R_target_of.2.1) R_target_of.2.2 0 [] .none .none .none .none .none .none .none 0)) (.mk []))
noncomputable def o_56 (P : Params) : Obj := (.mk (.type "code") .none (.fields (.mk ((.str (.ofString "target_of") 193) :: ((.str (.ofString "target_of") 194) :: ((.str (.ofString "/claim/cut.py") 195) :: ((.int 4 0) :: ((.int 2 0) :: ((.int 0 0) :: ((.int 0 0) :: ((.int 3 0) :: ((.ref 15) :: ((.bool true) :: ((.int 181 0) :: ((.ref 16) :: (.none :: ((.ref 17) :: ((.ref 18) :: ((.ref 19) :: ((.int 198 0) :: ((.int 4 0) :: ((.str (.ofString "/claim/cut.py") 199) :: []))))))))))))))))))))) (.mk []))
noncomputable def o_57 (P : Params) : Obj := (.mk (.type "function") .none (.func (.mk (.ofString "target_of") (.ofString "target_of") R_target_of.1 (.stmts R_target_of.2.1) R_target_of.2.2 3 [] .none .none .none (.str (.ofString "moduleyard.flow") 187) .none (.ref 20) .none 0)) (.mk []))
noncomputable def o_58 (P : Params) : Obj := (.mk (.type "tuple") .none (.seq (.mk []) 0) (.mk []))
noncomputable def o_59 (P : Params) : Obj := (.mk .none .none (.fields (.mk [])) (.mk []))
noncomputable def o_60 (P : Params) : Obj := (.mk (.type "tuple") .none (.seq (.mk ((.str (.ofString "row") 204) :: ((.str (.ofString "name") 205) :: []))) 0) (.mk []))
noncomputable def o_61 (P : Params) : Obj := (.mk (.type "tuple") .none (.seq (.mk []) 0) (.mk []))
noncomputable def o_62 (P : Params) : Obj := (.mk .none .none (.func (.mk (.ofString "falls_through") (.ofString "falls_through") R_falls_through.1 (.stmts R_falls_through.2.1) R_falls_through.2.2 0 [] .none .none .none .none .none .none .none 0)) (.mk []))
noncomputable def o_63 (P : Params) : Obj := (.mk (.type "code") .none (.fields (.mk ((.str (.ofString "falls_through") 201) :: ((.str (.ofString "falls_through") 202) :: ((.str (.ofString "/claim/cut.py") 203) :: ((.int 6 0) :: ((.int 1 0) :: ((.int 0 0) :: ((.int 0 0) :: ((.int 3 0) :: ((.ref 22) :: ((.bool true) :: ((.int 181 0) :: ((.ref 23) :: (.none :: ((.ref 24) :: ((.ref 25) :: ((.ref 26) :: ((.int 206 0) :: ((.int 6 0) :: ((.str (.ofString "/claim/cut.py") 207) :: []))))))))))))))))))))) (.mk []))
noncomputable def o_64 (P : Params) : Obj := (.mk (.type "function") .none (.func (.mk (.ofString "falls_through") (.ofString "falls_through") R_falls_through.1 (.stmts R_falls_through.2.1) R_falls_through.2.2 3 [] .none .none .none (.str (.ofString "moduleyard.flow") 187) .none (.ref 27) .none 0)) (.mk []))
noncomputable def o_65 (P : Params) : Obj := (.mk (.type "tuple") .none (.seq (.mk []) 0) (.mk []))
noncomputable def o_66 (P : Params) : Obj := (.mk .none .none (.fields (.mk [])) (.mk []))
noncomputable def o_67 (P : Params) : Obj := (.mk (.type "tuple") .none (.seq (.mk ((.str (.ofString "row") 212) :: [])) 0) (.mk []))
noncomputable def o_68 (P : Params) : Obj := (.mk (.type "tuple") .none (.seq (.mk []) 0) (.mk []))
noncomputable def o_69 (P : Params) : Obj := (.mk .none .none (.func (.mk (.ofString "can_jump") (.ofString "can_jump") R_can_jump.1 (.stmts R_can_jump.2.1) R_can_jump.2.2 0 [] .none .none .none .none .none .none .none 0)) (.mk []))
noncomputable def o_70 (P : Params) : Obj := (.mk (.type "code") .none (.fields (.mk ((.str (.ofString "can_jump") 209) :: ((.str (.ofString "can_jump") 210) :: ((.str (.ofString "/claim/cut.py") 211) :: ((.int 13 0) :: ((.int 1 0) :: ((.int 0 0) :: ((.int 0 0) :: ((.int 3 0) :: ((.ref 29) :: ((.bool true) :: ((.int 181 0) :: ((.ref 30) :: (.none :: ((.ref 31) :: ((.ref 32) :: ((.ref 33) :: ((.int 213 0) :: ((.int 13 0) :: ((.str (.ofString "/claim/cut.py") 214) :: []))))))))))))))))))))) (.mk []))
noncomputable def o_71 (P : Params) : Obj := (.mk (.type "function") .none (.func (.mk (.ofString "can_jump") (.ofString "can_jump") R_can_jump.1 (.stmts R_can_jump.2.1) R_can_jump.2.2 3 [] .none .none .none (.str (.ofString "moduleyard.flow") 187) .none (.ref 34) .none 0)) (.mk []))
noncomputable def o_72 (P : Params) : Obj := (.mk (.type "tuple") .none (.seq (.mk []) 0) (.mk []))
noncomputable def o_73 (P : Params) : Obj := (.mk .none .none (.fields (.mk [])) (.mk []))
noncomputable def o_74 (P : Params) : Obj := (.mk (.type "tuple") .none (.seq (.mk ((.str (.ofString "rows") 219) :: ((.str (.ofString "index") 220) :: ((.str (.ofString "row") 221) :: ((.str (.ofString "found") 222) :: ((.str (.ofString "target") 223) :: [])))))) 0) (.mk []))
noncomputable def o_75 (P : Params) : Obj := (.mk (.type "tuple") .none (.seq (.mk []) 0) (.mk []))
noncomputable def o_76 (P : Params) : Obj := (.mk .none .none (.func (.mk (.ofString "successors") (.ofString "successors") R_successors.1 (.stmts R_successors.2.1) R_successors.2.2 0 [] .none .none .none .none .none .none .none 0)) (.mk []))
noncomputable def o_77 (P : Params) : Obj := (.mk (.type "code") .none (.fields (.mk ((.str (.ofString "successors") 216) :: ((.str (.ofString "successors") 217) :: ((.str (.ofString "/claim/cut.py") 218) :: ((.int 15 0) :: ((.int 2 0) :: ((.int 0 0) :: ((.int 0 0) :: ((.int 3 0) :: ((.ref 36) :: ((.bool true) :: ((.int 181 0) :: ((.ref 37) :: (.none :: ((.ref 38) :: ((.ref 39) :: ((.ref 40) :: ((.int 224 0) :: ((.int 15 0) :: ((.str (.ofString "/claim/cut.py") 225) :: []))))))))))))))))))))) (.mk []))
noncomputable def o_78 (P : Params) : Obj := (.mk (.type "function") .none (.func (.mk (.ofString "successors") (.ofString "successors") R_successors.1 (.stmts R_successors.2.1) R_successors.2.2 3 [] .none .none .none (.str (.ofString "moduleyard.flow") 187) .none (.ref 41) .none 0)) (.mk []))
noncomputable def o_79 (P : Params) : Obj := (.mk (.type "tuple") .none (.seq (.mk []) 0) (.mk []))
noncomputable def o_80 (P : Params) : Obj := (.mk .none .none (.fields (.mk [])) (.mk []))
noncomputable def o_81 (P : Params) : Obj := (.mk (.type "tuple") .none (.seq (.mk ((.str (.ofString "register") 257) :: [])) 0) (.mk []))
noncomputable def o_82 (P : Params) : Obj := (.mk (.type "tuple") .none (.seq (.mk []) 0) (.mk []))
noncomputable def o_83 (P : Params) : Obj := (.mk .none .none (.func (.mk (.ofString "bit") (.ofString "bit") R_bit.1 (.stmts R_bit.2.1) R_bit.2.2 0 [] .none .none .none .none .none .none .none 0)) (.mk []))
noncomputable def o_84 (P : Params) : Obj := (.mk (.type "code") .none (.fields (.mk ((.str (.ofString "bit") 254) :: ((.str (.ofString "bit") 255) :: ((.str (.ofString "/claim/cut.py") 256) :: ((.int 33 0) :: ((.int 1 0) :: ((.int 0 0) :: ((.int 0 0) :: ((.int 3 0) :: ((.ref 43) :: ((.bool true) :: ((.int 181 0) :: ((.ref 44) :: (.none :: ((.ref 45) :: ((.ref 46) :: ((.ref 47) :: ((.int 258 0) :: ((.int 33 0) :: ((.str (.ofString "/claim/cut.py") 259) :: []))))))))))))))))))))) (.mk []))
noncomputable def o_85 (P : Params) : Obj := (.mk (.type "function") .none (.func (.mk (.ofString "bit") (.ofString "bit") R_bit.1 (.stmts R_bit.2.1) R_bit.2.2 3 [] .none .none .none (.str (.ofString "moduleyard.liveness") 227) .none (.ref 48) .none 0)) (.mk []))
noncomputable def o_86 (P : Params) : Obj := (.mk (.type "tuple") .none (.seq (.mk []) 0) (.mk []))
noncomputable def o_87 (P : Params) : Obj := (.mk .none .none (.fields (.mk [])) (.mk []))
noncomputable def o_88 (P : Params) : Obj := (.mk (.type "tuple") .none (.seq (.mk ((.str (.ofString "name") 264) :: [])) 0) (.mk []))
noncomputable def o_89 (P : Params) : Obj := (.mk (.type "tuple") .none (.seq (.mk []) 0) (.mk []))
noncomputable def o_90 (P : Params) : Obj := (.mk .none .none (.func (.mk (.ofString "is_register_form") (.ofString "is_register_form") R_is_register_form.1 (.stmts R_is_register_form.2.1) R_is_register_form.2.2 0 [] .none .none .none .none .none .none .none 0)) (.mk []))
noncomputable def o_91 (P : Params) : Obj := (.mk (.type "code") .none (.fields (.mk ((.str (.ofString "is_register_form") 261) :: ((.str (.ofString "is_register_form") 262) :: ((.str (.ofString "/claim/cut.py") 263) :: ((.int 35 0) :: ((.int 1 0) :: ((.int 0 0) :: ((.int 0 0) :: ((.int 3 0) :: ((.ref 50) :: ((.bool true) :: ((.int 181 0) :: ((.ref 51) :: (.none :: ((.ref 52) :: ((.ref 53) :: ((.ref 54) :: ((.int 265 0) :: ((.int 35 0) :: ((.str (.ofString "/claim/cut.py") 266) :: []))))))))))))))))))))) (.mk []))
noncomputable def o_92 (P : Params) : Obj := (.mk (.type "function") .none (.func (.mk (.ofString "is_register_form") (.ofString "is_register_form") R_is_register_form.1 (.stmts R_is_register_form.2.1) R_is_register_form.2.2 3 [] .none .none .none (.str (.ofString "moduleyard.liveness") 227) .none (.ref 55) .none 0)) (.mk []))
noncomputable def o_93 (P : Params) : Obj := (.mk (.type "tuple") .none (.seq (.mk []) 0) (.mk []))
noncomputable def o_94 (P : Params) : Obj := (.mk .none .none (.fields (.mk [])) (.mk []))
noncomputable def o_95 (P : Params) : Obj := (.mk (.type "tuple") .none (.seq (.mk ((.str (.ofString "name") 271) :: [])) 0) (.mk []))
noncomputable def o_96 (P : Params) : Obj := (.mk (.type "tuple") .none (.seq (.mk []) 0) (.mk []))
noncomputable def o_97 (P : Params) : Obj := (.mk .none .none (.func (.mk (.ofString "is_immediate_form") (.ofString "is_immediate_form") R_is_immediate_form.1 (.stmts R_is_immediate_form.2.1) R_is_immediate_form.2.2 0 [] .none .none .none .none .none .none .none 0)) (.mk []))
noncomputable def o_98 (P : Params) : Obj := (.mk (.type "code") .none (.fields (.mk ((.str (.ofString "is_immediate_form") 268) :: ((.str (.ofString "is_immediate_form") 269) :: ((.str (.ofString "/claim/cut.py") 270) :: ((.int 37 0) :: ((.int 1 0) :: ((.int 0 0) :: ((.int 0 0) :: ((.int 3 0) :: ((.ref 57) :: ((.bool true) :: ((.int 181 0) :: ((.ref 58) :: (.none :: ((.ref 59) :: ((.ref 60) :: ((.ref 61) :: ((.int 272 0) :: ((.int 37 0) :: ((.str (.ofString "/claim/cut.py") 273) :: []))))))))))))))))))))) (.mk []))
noncomputable def o_99 (P : Params) : Obj := (.mk (.type "function") .none (.func (.mk (.ofString "is_immediate_form") (.ofString "is_immediate_form") R_is_immediate_form.1 (.stmts R_is_immediate_form.2.1) R_is_immediate_form.2.2 3 [] .none .none .none (.str (.ofString "moduleyard.liveness") 227) .none (.ref 62) .none 0)) (.mk []))
noncomputable def o_100 (P : Params) : Obj := (.mk (.type "tuple") .none (.seq (.mk []) 0) (.mk []))
noncomputable def o_101 (P : Params) : Obj := (.mk .none .none (.fields (.mk [])) (.mk []))
noncomputable def o_102 (P : Params) : Obj := (.mk (.type "tuple") .none (.seq (.mk ((.str (.ofString "cond") 278) :: [])) 0) (.mk []))
noncomputable def o_103 (P : Params) : Obj := (.mk (.type "tuple") .none (.seq (.mk []) 0) (.mk []))
noncomputable def o_104 (P : Params) : Obj := (.mk .none .none (.func (.mk (.ofString "is_conditional") (.ofString "is_conditional") R_is_conditional.1 (.stmts R_is_conditional.2.1) R_is_conditional.2.2 0 [] .none .none .none .none .none .none .none 0)) (.mk []))
noncomputable def o_105 (P : Params) : Obj := (.mk (.type "code") .none (.fields (.mk ((.str (.ofString "is_conditional") 275) :: ((.str (.ofString "is_conditional") 276) :: ((.str (.ofString "/claim/cut.py") 277) :: ((.int 39 0) :: ((.int 1 0) :: ((.int 0 0) :: ((.int 0 0) :: ((.int 3 0) :: ((.ref 64) :: ((.bool true) :: ((.int 181 0) :: ((.ref 65) :: (.none :: ((.ref 66) :: ((.ref 67) :: ((.ref 68) :: ((.int 279 0) :: ((.int 39 0) :: ((.str (.ofString "/claim/cut.py") 280) :: []))))))))))))))))))))) (.mk []))
noncomputable def o_106 (P : Params) : Obj := (.mk (.type "function") .none (.func (.mk (.ofString "is_conditional") (.ofString "is_conditional") R_is_conditional.1 (.stmts R_is_conditional.2.1) R_is_conditional.2.2 3 [] .none .none .none (.str (.ofString "moduleyard.liveness") 227) .none (.ref 69) .none 0)) (.mk []))
noncomputable def o_109 (P : Params) : Obj := (.mk (.type "tuple") .none (.seq (.mk []) 0) (.mk []))
noncomputable def o_110 (P : Params) : Obj := (.mk .none .none (.fields (.mk [])) (.mk []))
noncomputable def o_111 (P : Params) : Obj := (.mk (.type "tuple") .none (.seq (.mk ((.str (.ofString "row") 285) :: ((.str (.ofString "name") 286) :: []))) 0) (.mk []))
noncomputable def o_112 (P : Params) : Obj := (.mk (.type "tuple") .none (.seq (.mk []) 0) (.mk []))
noncomputable def o_113 (P : Params) : Obj := (.mk .none .none (.func (.mk (.ofString "sets_flags") (.ofString "sets_flags") R_sets_flags.1 (.stmts R_sets_flags.2.1) R_sets_flags.2.2 0 [] .none .none .none .none .none .none .none 0)) (.mk []))
noncomputable def o_114 (P : Params) : Obj := (.mk (.type "code") .none (.fields (.mk ((.str (.ofString "sets_flags") 282) :: ((.str (.ofString "sets_flags") 283) :: ((.str (.ofString "/claim/cut.py") 284) :: ((.int 41 0) :: ((.int 1 0) :: ((.int 0 0) :: ((.int 0 0) :: ((.int 3 0) :: ((.ref 71) :: ((.bool true) :: ((.int 181 0) :: ((.ref 72) :: (.none :: ((.ref 73) :: ((.ref 74) :: ((.ref 75) :: ((.int 287 0) :: ((.int 41 0) :: ((.str (.ofString "/claim/cut.py") 288) :: []))))))))))))))))))))) (.mk []))
noncomputable def o_115 (P : Params) : Obj := (.mk (.type "function") .none (.func (.mk (.ofString "sets_flags") (.ofString "sets_flags") R_sets_flags.1 (.stmts R_sets_flags.2.1) R_sets_flags.2.2 3 [] .none .none .none (.str (.ofString "moduleyard.liveness") 227) .none (.ref 76) .none 0)) (.mk []))
noncomputable def o_116 (P : Params) : Obj := (.mk (.type "tuple") .none (.seq (.mk []) 0) (.mk []))
noncomputable def o_117 (P : Params) : Obj := (.mk .none .none (.fields (.mk [])) (.mk []))
noncomputable def o_118 (P : Params) : Obj := (.mk (.type "tuple") .none (.seq (.mk ((.str (.ofString "row") 293) :: ((.str (.ofString "found") 294) :: []))) 0) (.mk []))
noncomputable def o_119 (P : Params) : Obj := (.mk (.type "tuple") .none (.seq (.mk []) 0) (.mk []))
noncomputable def o_120 (P : Params) : Obj := (.mk .none .none (.func (.mk (.ofString "memory_reads") (.ofString "memory_reads") R_memory_reads.1 (.stmts R_memory_reads.2.1) R_memory_reads.2.2 0 [] .none .none .none .none .none .none .none 0)) (.mk []))
noncomputable def o_121 (P : Params) : Obj := (.mk (.type "code") .none (.fields (.mk ((.str (.ofString "memory_reads") 290) :: ((.str (.ofString "memory_reads") 291) :: ((.str (.ofString "/claim/cut.py") 292) :: ((.int 46 0) :: ((.int 1 0) :: ((.int 0 0) :: ((.int 0 0) :: ((.int 3 0) :: ((.ref 78) :: ((.bool true) :: ((.int 181 0) :: ((.ref 79) :: (.none :: ((.ref 80) :: ((.ref 81) :: ((.ref 82) :: ((.int 295 0) :: ((.int 46 0) :: ((.str (.ofString "/claim/cut.py") 296) :: []))))))))))))))))))))) (.mk []))
noncomputable def o_122 (P : Params) : Obj := (.mk (.type "function") .none (.func (.mk (.ofString "memory_reads") (.ofString "memory_reads") R_memory_reads.1 (.stmts R_memory_reads.2.1) R_memory_reads.2.2 3 [] .none .none .none (.str (.ofString "moduleyard.liveness") 227) .none (.ref 83) .none 0)) (.mk []))
noncomputable def o_123 (P : Params) : Obj := (.mk (.type "tuple") .none (.seq (.mk []) 0) (.mk []))
noncomputable def o_124 (P : Params) : Obj := (.mk .none .none (.fields (.mk [])) (.mk []))
noncomputable def o_125 (P : Params) : Obj := (.mk (.type "tuple") .none (.seq (.mk ((.str (.ofString "row") 301) :: ((.str (.ofString "found") 302) :: ((.str (.ofString "name") 303) :: [])))) 0) (.mk []))
noncomputable def o_126 (P : Params) : Obj := (.mk (.type "tuple") .none (.seq (.mk []) 0) (.mk []))
noncomputable def o_127 (P : Params) : Obj := (.mk .none .none (.func (.mk (.ofString "branch_reads") (.ofString "branch_reads") R_branch_reads.1 (.stmts R_branch_reads.2.1) R_branch_reads.2.2 0 [] .none .none .none .none .none .none .none 0)) (.mk []))
noncomputable def o_128 (P : Params) : Obj := (.mk (.type "code") .none (.fields (.mk ((.str (.ofString "branch_reads") 298) :: ((.str (.ofString "branch_reads") 299) :: ((.str (.ofString "/claim/cut.py") 300) :: ((.int 51 0) :: ((.int 1 0) :: ((.int 0 0) :: ((.int 0 0) :: ((.int 3 0) :: ((.ref 85) :: ((.bool true) :: ((.int 181 0) :: ((.ref 86) :: (.none :: ((.ref 87) :: ((.ref 88) :: ((.ref 89) :: ((.int 304 0) :: ((.int 51 0) :: ((.str (.ofString "/claim/cut.py") 305) :: []))))))))))))))))))))) (.mk []))
noncomputable def o_129 (P : Params) : Obj := (.mk (.type "function") .none (.func (.mk (.ofString "branch_reads") (.ofString "branch_reads") R_branch_reads.1 (.stmts R_branch_reads.2.1) R_branch_reads.2.2 3 [] .none .none .none (.str (.ofString "moduleyard.liveness") 227) .none (.ref 90) .none 0)) (.mk []))
noncomputable def o_130 (P : Params) : Obj := (.mk (.type "tuple") .none (.seq (.mk []) 0) (.mk []))
noncomputable def o_131 (P : Params) : Obj := (.mk .none .none (.fields (.mk [])) (.mk []))
noncomputable def o_132 (P : Params) : Obj := (.mk (.type "tuple") .none (.seq (.mk ((.str (.ofString "row") 310) :: ((.str (.ofString "name") 311) :: []))) 0) (.mk []))
noncomputable def o_133 (P : Params) : Obj := (.mk (.type "tuple") .none (.seq (.mk []) 0) (.mk []))
noncomputable def o_134 (P : Params) : Obj := (.mk .none .none (.func (.mk (.ofString "reads") (.ofString "reads") R_reads.1 (.stmts R_reads.2.1) R_reads.2.2 0 [] .none .none .none .none .none .none .none 0)) (.mk []))
noncomputable def o_135 (P : Params) : Obj := (.mk (.type "code") .none (.fields (.mk ((.str (.ofString "reads") 307) :: ((.str (.ofString "reads") 308) :: ((.str (.ofString "/claim/cut.py") 309) :: ((.int 63 0) :: ((.int 1 0) :: ((.int 0 0) :: ((.int 0 0) :: ((.int 3 0) :: ((.ref 92) :: ((.bool true) :: ((.int 181 0) :: ((.ref 93) :: (.none :: ((.ref 94) :: ((.ref 95) :: ((.ref 96) :: ((.int 312 0) :: ((.int 63 0) :: ((.str (.ofString "/claim/cut.py") 313) :: []))))))))))))))))))))) (.mk []))
noncomputable def o_136 (P : Params) : Obj := (.mk (.type "function") .none (.func (.mk (.ofString "reads") (.ofString "reads") R_reads.1 (.stmts R_reads.2.1) R_reads.2.2 3 [] .none .none .none (.str (.ofString "moduleyard.liveness") 227) .none (.ref 97) .none 0)) (.mk []))
noncomputable def o_137 (P : Params) : Obj := (.mk (.type "tuple") .none (.seq (.mk []) 0) (.mk []))
noncomputable def o_138 (P : Params) : Obj := (.mk .none .none (.fields (.mk [])) (.mk []))
noncomputable def o_139 (P : Params) : Obj := (.mk (.type "tuple") .none (.seq (.mk []) 0) (.mk []))
noncomputable def o_140 (P : Params) : Obj := (.mk (.type "tuple") .none (.seq (.mk []) 0) (.mk []))
noncomputable def o_141 (P : Params) : Obj := (.mk .none .none (.func (.mk (.ofString "call_writes") (.ofString "call_writes") R_call_writes.1 (.stmts R_call_writes.2.1) R_call_writes.2.2 0 [] .none .none .none .none .none .none .none 0)) (.mk []))
noncomputable def o_142 (P : Params) : Obj := (.mk (.type "code") .none (.fields (.mk ((.str (.ofString "call_writes") 315) :: ((.str (.ofString "call_writes") 316) :: ((.str (.ofString "/claim/cut.py") 317) :: ((.int 78 0) :: ((.int 0 0) :: ((.int 0 0) :: ((.int 0 0) :: ((.int 3 0) :: ((.ref 99) :: ((.bool true) :: ((.int 181 0) :: ((.ref 100) :: (.none :: ((.ref 101) :: ((.ref 102) :: ((.ref 103) :: ((.int 318 0) :: ((.int 78 0) :: ((.str (.ofString "/claim/cut.py") 319) :: []))))))))))))))))))))) (.mk []))
noncomputable def o_143 (P : Params) : Obj := (.mk (.type "function") .none (.func (.mk (.ofString "call_writes") (.ofString "call_writes") R_call_writes.1 (.stmts R_call_writes.2.1) R_call_writes.2.2 3 [] .none .none .none (.str (.ofString "moduleyard.liveness") 227) .none (.ref 104) .none 0)) (.mk []))
noncomputable def o_144 (P : Params) : Obj := (.mk (.type "tuple") .none (.seq (.mk []) 0) (.mk []))
noncomputable def o_145 (P : Params) : Obj := (.mk .none .none (.fields (.mk [])) (.mk []))
noncomputable def o_146 (P : Params) : Obj := (.mk (.type "tuple") .none (.seq (.mk ((.str (.ofString "row") 324) :: ((.str (.ofString "name") 325) :: ((.str (.ofString "found") 326) :: [])))) 0) (.mk []))
noncomputable def o_147 (P : Params) : Obj := (.mk (.type "tuple") .none (.seq (.mk []) 0) (.mk []))
noncomputable def o_148 (P : Params) : Obj := (.mk .none .none (.func (.mk (.ofString "writes") (.ofString "writes") R_writes.1 (.stmts R_writes.2.1) R_writes.2.2 0 [] .none .none .none .none .none .none .none 0)) (.mk []))
noncomputable def o_149 (P : Params) : Obj := (.mk (.type "code") .none (.fields (.mk ((.str (.ofString "writes") 321) :: ((.str (.ofString "writes") 322) :: ((.str (.ofString "/claim/cut.py") 323) :: ((.int 80 0) :: ((.int 1 0) :: ((.int 0 0) :: ((.int 0 0) :: ((.int 3 0) :: ((.ref 106) :: ((.bool true) :: ((.int 181 0) :: ((.ref 107) :: (.none :: ((.ref 108) :: ((.ref 109) :: ((.ref 110) :: ((.int 327 0) :: ((.int 80 0) :: ((.str (.ofString "/claim/cut.py") 328) :: []))))))))))))))))))))) (.mk []))
noncomputable def o_150 (P : Params) : Obj := (.mk (.type "function") .none (.func (.mk (.ofString "writes") (.ofString "writes") R_writes.1 (.stmts R_writes.2.1) R_writes.2.2 3 [] .none .none .none (.str (.ofString "moduleyard.liveness") 227) .none (.ref 111) .none 0)) (.mk []))
noncomputable def o_151 (P : Params) : Obj := (.mk (.type "tuple") .none (.seq (.mk []) 0) (.mk []))
noncomputable def o_152 (P : Params) : Obj := (.mk .none .none (.fields (.mk [])) (.mk []))
noncomputable def o_153 (P : Params) : Obj := (.mk (.type "tuple") .none (.seq (.mk ((.str (.ofString "rows") 333) :: ((.str (.ofString "index") 334) :: ((.str (.ofString "row") 335) :: [])))) 0) (.mk []))
noncomputable def o_154 (P : Params) : Obj := (.mk (.type "tuple") .none (.seq (.mk []) 0) (.mk []))
noncomputable def o_155 (P : Params) : Obj := (.mk .none .none (.func (.mk (.ofString "leaves_unknown") (.ofString "leaves_unknown") R_leaves_unknown.1 (.stmts R_leaves_unknown.2.1) R_leaves_unknown.2.2 0 [] .none .none .none .none .none .none .none 0)) (.mk []))
noncomputable def o_156 (P : Params) : Obj := (.mk (.type "code") .none (.fields (.mk ((.str (.ofString "leaves_unknown") 330) :: ((.str (.ofString "leaves_unknown") 331) :: ((.str (.ofString "/claim/cut.py") 332) :: ((.int 94 0) :: ((.int 2 0) :: ((.int 0 0) :: ((.int 0 0) :: ((.int 3 0) :: ((.ref 113) :: ((.bool true) :: ((.int 181 0) :: ((.ref 114) :: (.none :: ((.ref 115) :: ((.ref 116) :: ((.ref 117) :: ((.int 336 0) :: ((.int 94 0) :: ((.str (.ofString "/claim/cut.py") 337) :: []))))))))))))))))))))) (.mk []))
noncomputable def o_157 (P : Params) : Obj := (.mk (.type "function") .none (.func (.mk (.ofString "leaves_unknown") (.ofString "leaves_unknown") R_leaves_unknown.1 (.stmts R_leaves_unknown.2.1) R_leaves_unknown.2.2 3 [] .none .none .none (.str (.ofString "moduleyard.liveness") 227) .none (.ref 118) .none 0)) (.mk []))
noncomputable def o_158 (P : Params) : Obj := (.mk (.type "tuple") .none (.seq (.mk []) 0) (.mk []))
noncomputable def o_159 (P : Params) : Obj := (.mk .none .none (.fields (.mk [])) (.mk []))
noncomputable def o_160 (P : Params) : Obj := (.mk (.type "tuple") .none (.seq (.mk ((.str (.ofString "row") 342) :: ((.str (.ofString "after") 343) :: []))) 0) (.mk []))
noncomputable def o_161 (P : Params) : Obj := (.mk (.type "tuple") .none (.seq (.mk []) 0) (.mk []))
noncomputable def o_162 (P : Params) : Obj := (.mk .none .none (.func (.mk (.ofString "live_before") (.ofString "live_before") R_live_before.1 (.stmts R_live_before.2.1) R_live_before.2.2 0 [] .none .none .none .none .none .none .none 0)) (.mk []))
noncomputable def o_163 (P : Params) : Obj := (.mk (.type "code") .none (.fields (.mk ((.str (.ofString "live_before") 339) :: ((.str (.ofString "live_before") 340) :: ((.str (.ofString "/claim/cut.py") 341) :: ((.int 101 0) :: ((.int 2 0) :: ((.int 0 0) :: ((.int 0 0) :: ((.int 3 0) :: ((.ref 120) :: ((.bool true) :: ((.int 181 0) :: ((.ref 121) :: (.none :: ((.ref 122) :: ((.ref 123) :: ((.ref 124) :: ((.int 344 0) :: ((.int 101 0) :: ((.str (.ofString "/claim/cut.py") 345) :: []))))))))))))))))))))) (.mk []))
noncomputable def o_164 (P : Params) : Obj := (.mk (.type "function") .none (.func (.mk (.ofString "live_before") (.ofString "live_before") R_live_before.1 (.stmts R_live_before.2.1) R_live_before.2.2 3 [] .none .none .none (.str (.ofString "moduleyard.liveness") 227) .none (.ref 125) .none 0)) (.mk []))
noncomputable def o_165 (P : Params) : Obj := (.mk (.type "tuple") .none (.seq (.mk []) 0) (.mk []))
noncomputable def o_166 (P : Params) : Obj := (.mk .none .none (.fields (.mk [])) (.mk []))
noncomputable def o_167 (P : Params) : Obj := (.mk .none .none (.func (.mk (.ofString "liveness") (.ofString "liveness") R_liveness.1 (.stmts R_liveness.2.1) R_liveness.2.2 0 [] .none .none .none .none .none .none .none 0)) (.mk []))
noncomputable def o_168 (P : Params) : Obj := (.mk (.type "code") .none (.fields (.mk ((.str (.ofString "liveness") 347) :: ((.str (.ofString "liveness") 348) :: ((.str (.ofString "/claim/cut.py") 349) :: ((.int 103 0) :: ((.int 1 0) :: ((.int 0 0) :: ((.int 0 0) :: ((.int 3 0) :: ((.ref 127) :: ((.bool true) :: ((.int 181 0) :: ((.ref 128) :: (.none :: (.none :: (.none :: ((.ref 129) :: ((.int 350 0) :: ((.int 103 0) :: ((.str (.ofString "/claim/cut.py") 351) :: []))))))))))))))))))))) (.mk []))
noncomputable def o_169 (P : Params) : Obj := (.mk (.type "function") .none (.func (.mk (.ofString "liveness") (.ofString "liveness") R_liveness.1 (.stmts R_liveness.2.1) R_liveness.2.2 3 [] .none .none .none (.str (.ofString "moduleyard.liveness") 227) .none (.ref 130) .none 0)) (.mk []))
noncomputable def o_170 (P : Params) : Obj := (.mk (.type "tuple") .none (.seq (.mk []) 0) (.mk []))
noncomputable def o_171 (P : Params) : Obj := (.mk .none .none (.fields (.mk [])) (.mk []))
noncomputable def o_172 (P : Params) : Obj := (.mk (.type "tuple") .none (.seq (.mk ((.str (.ofString "mask") 356) :: ((.str (.ofString "register") 357) :: []))) 0) (.mk []))
noncomputable def o_173 (P : Params) : Obj := (.mk (.type "tuple") .none (.seq (.mk []) 0) (.mk []))
noncomputable def o_174 (P : Params) : Obj := (.mk .none .none (.func (.mk (.ofString "is_live") (.ofString "is_live") R_is_live.1 (.stmts R_is_live.2.1) R_is_live.2.2 0 [] .none .none .none .none .none .none .none 0)) (.mk []))
noncomputable def o_175 (P : Params) : Obj := (.mk (.type "code") .none (.fields (.mk ((.str (.ofString "is_live") 353) :: ((.str (.ofString "is_live") 354) :: ((.str (.ofString "/claim/cut.py") 355) :: ((.int 129 0) :: ((.int 2 0) :: ((.int 0 0) :: ((.int 0 0) :: ((.int 3 0) :: ((.ref 132) :: ((.bool true) :: ((.int 181 0) :: ((.ref 133) :: (.none :: ((.ref 134) :: ((.ref 135) :: ((.ref 136) :: ((.int 358 0) :: ((.int 129 0) :: ((.str (.ofString "/claim/cut.py") 359) :: []))))))))))))))))))))) (.mk []))
noncomputable def o_176 (P : Params) : Obj := (.mk (.type "function") .none (.func (.mk (.ofString "is_live") (.ofString "is_live") R_is_live.1 (.stmts R_is_live.2.1) R_is_live.2.2 3 [] .none .none .none (.str (.ofString "moduleyard.liveness") 227) .none (.ref 137) .none 0)) (.mk []))
noncomputable def o_177 (P : Params) : Obj := (.mk (.type "tuple") .none (.seq (.mk []) 0) (.mk []))
noncomputable def o_178 (P : Params) : Obj := (.mk .none .none (.fields (.mk [])) (.mk []))
noncomputable def o_179 (P : Params) : Obj := (.mk (.type "tuple") .none (.seq (.mk ((.str (.ofString "x") 370) :: [])) 0) (.mk []))
noncomputable def o_180 (P : Params) : Obj := (.mk (.type "tuple") .none (.seq (.mk []) 0) (.mk []))
noncomputable def o_181 (P : Params) : Obj := (.mk .none .none (.func (.mk (.ofString "to_signed") (.ofString "to_signed") R_to_signed.1 (.stmts R_to_signed.2.1) R_to_signed.2.2 0 [] .none .none .none .none .none .none .none 0)) (.mk []))
noncomputable def o_182 (P : Params) : Obj := (.mk (.type "code") .none (.fields (.mk ((.str (.ofString "to_signed") 367) :: ((.str (.ofString "to_signed") 368) :: ((.str (.ofString "/claim/cut.py") 369) :: ((.int 134 0) :: ((.int 1 0) :: ((.int 0 0) :: ((.int 0 0) :: ((.int 3 0) :: ((.ref 139) :: ((.bool true) :: ((.int 181 0) :: ((.ref 140) :: (.none :: ((.ref 141) :: ((.ref 142) :: ((.ref 143) :: ((.int 371 0) :: ((.int 134 0) :: ((.str (.ofString "/claim/cut.py") 372) :: []))))))))))))))))))))) (.mk []))
noncomputable def o_183 (P : Params) : Obj := (.mk (.type "function") .none (.func (.mk (.ofString "to_signed") (.ofString "to_signed") R_to_signed.1 (.stmts R_to_signed.2.1) R_to_signed.2.2 3 [] .none .none .none (.str (.ofString "moduleyard.alu") 361) .none (.ref 144) .none 0)) (.mk []))
noncomputable def o_184 (P : Params) : Obj := (.mk (.type "tuple") .none (.seq (.mk (.none :: [])) 0) (.mk []))
noncomputable def o_185 (P : Params) : Obj := (.mk (.type "tuple") .none (.seq (.mk []) 0) (.mk []))
noncomputable def o_186 (P : Params) : Obj := (.mk .none .none (.fields (.mk [])) (.mk []))
noncomputable def o_187 (P : Params) : Obj := (.mk (.type "tuple") .none (.seq (.mk ((.str (.ofString "result") 377) :: ((.str (.ofString "c") 378) :: ((.str (.ofString "v") 379) :: ((.str (.ofString "h") 380) :: []))))) 0) (.mk []))
noncomputable def o_188 (P : Params) : Obj := (.mk (.type "tuple") .none (.seq (.mk []) 0) (.mk []))
noncomputable def o_189 (P : Params) : Obj := (.mk .none .none (.func (.mk (.ofString "flagged") (.ofString "flagged") R_flagged.1 (.stmts R_flagged.2.1) R_flagged.2.2 0 [] .none .none .none .none .none .none .none 0)) (.mk []))
noncomputable def o_190 (P : Params) : Obj := (.mk (.type "code") .none (.fields (.mk ((.str (.ofString "flagged") 374) :: ((.str (.ofString "flagged") 375) :: ((.str (.ofString "/claim/cut.py") 376) :: ((.int 136 0) :: ((.int 4 0) :: ((.int 0 0) :: ((.int 0 0) :: ((.int 3 0) :: ((.ref 147) :: ((.bool true) :: ((.int 181 0) :: ((.ref 148) :: (.none :: ((.ref 149) :: ((.ref 150) :: ((.ref 151) :: ((.int 381 0) :: ((.int 136 0) :: ((.str (.ofString "/claim/cut.py") 382) :: []))))))))))))))))))))) (.mk []))
noncomputable def o_191 (P : Params) : Obj := (.mk (.type "function") .none (.func (.mk (.ofString "flagged") (.ofString "flagged") R_flagged.1 (.stmts R_flagged.2.1) R_flagged.2.2 3 [] (.ref 146) .none .none (.str (.ofString "moduleyard.alu") 361) .none (.ref 152) .none 0)) (.mk []))
noncomputable def o_192 (P : Params) : Obj := (.mk (.type "dict") .none (.dict (.mk ((.mk (PyData.keyHash P (.ofString "__name__")) (.str (.ofString "__name__") 165) (.str (.ofString "moduleyard.errors") 494)) :: ((.mk (PyData.keyHash P (.ofString "__doc__")) (.str (.ofString "__doc__") 166) .none) :: ((.mk (PyData.keyHash P (.ofString "__package__")) (.str (.ofString "__package__") 167) .none) :: ((.mk (PyData.keyHash P (.ofString "__loader__")) (.str (.ofString "__loader__") 168) (.builtin "__main__.__loader__#opaque")) :: ((.mk (PyData.keyHash P (.ofString "__spec__")) (.str (.ofString "__spec__") 169) .none) :: ((.mk (PyData.keyHash P (.ofString "__annotations__")) (.str (.ofString "__annotations__") 170) (.ref 6)) :: ((.mk (PyData.keyHash P (.ofString "__builtins__")) (.str (.ofString "__builtins__") 171) (.ref 4)) :: ((.mk (PyData.keyHash P (.ofString "__file__")) (.str (.ofString "__file__") 173) (.str (.ofString "/claim/cut.py") 172)) :: ((.mk (PyData.keyHash P (.ofString "__cached__")) (.str (.ofString "__cached__") 174) .none) :: ((.mk (PyData.keyHash P (.ofString "LINK_flow")) (.str (.ofString "LINK_flow") 190) (.int 15 189)) :: ((.mk (PyData.keyHash P (.ofString "END_OF_COMMAND")) (.str (.ofString "END_OF_COMMAND") 192) (.int 9 191)) :: ((.mk (PyData.keyHash P (.ofString "target_of")) (.str (.ofString "target_of") 200) (.ref 21)) :: ((.mk (PyData.keyHash P (.ofString "falls_through")) (.str (.ofString "falls_through") 208) (.ref 28)) :: ((.mk (PyData.keyHash P (.ofString "can_jump")) (.str (.ofString "can_jump") 215) (.ref 35)) :: ((.mk (PyData.keyHash P (.ofString "successors")) (.str (.ofString "successors") 226) (.ref 42)) :: ((.mk (PyData.keyHash P (.ofString "FRAME")) (.str (.ofString "FRAME") 230) (.int 11 229)) :: ((.mk (PyData.keyHash P (.ofString "STATIC")) (.str (.ofString "STATIC") 232) (.int 13 231)) :: ((.mk (PyData.keyHash P (.ofString "STACK")) (.str (.ofString "STACK") 234) (.int 14 233)) :: ((.mk (PyData.keyHash P (.ofString "HIGH")) (.str (.ofString "HIGH") 236) (.int 16 235)) :: ((.mk (PyData.keyHash P (.ofString "FLAGS")) (.str (.ofString "FLAGS") 238) (.int 17 237)) :: ((.mk (PyData.keyHash P (.ofString "EVERYTHING")) (.str (.ofString "EVERYTHING") 244) (.int 262143 243)) :: ((.mk (PyData.keyHash P (.ofString "HELD")) (.str (.ofString "HELD") 253) (.int 26624 252)) :: ((.mk (PyData.keyHash P (.ofString "bit")) (.str (.ofString "bit") 260) (.ref 49)) :: ((.mk (PyData.keyHash P (.ofString "is_register_form")) (.str (.ofString "is_register_form") 267) (.ref 56)) :: ((.mk (PyData.keyHash P (.ofString "is_immediate_form")) (.str (.ofString "is_immediate_form") 274) (.ref 63)) :: ((.mk (PyData.keyHash P (.ofString "is_conditional")) (.str (.ofString "is_conditional") 281) (.ref 70)) :: ((.mk (PyData.keyHash P (.ofString "sets_flags")) (.str (.ofString "sets_flags") 289) (.ref 77)) :: ((.mk (PyData.keyHash P (.ofString "memory_reads")) (.str (.ofString "memory_reads") 297) (.ref 84)) :: ((.mk (PyData.keyHash P (.ofString "branch_reads")) (.str (.ofString "branch_reads") 306) (.ref 91)) :: ((.mk (PyData.keyHash P (.ofString "reads")) (.str (.ofString "reads") 314) (.ref 98)) :: ((.mk (PyData.keyHash P (.ofString "call_writes")) (.str (.ofString "call_writes") 320) (.ref 105)) :: ((.mk (PyData.keyHash P (.ofString "writes")) (.str (.ofString "writes") 329) (.ref 112)) :: ((.mk (PyData.keyHash P (.ofString "leaves_unknown")) (.str (.ofString "leaves_unknown") 338) (.ref 119)) :: ((.mk (PyData.keyHash P (.ofString "live_before")) (.str (.ofString "live_before") 346) (.ref 126)) :: ((.mk (PyData.keyHash P (.ofString "liveness")) (.str (.ofString "liveness") 352) (.ref 131)) :: ((.mk (PyData.keyHash P (.ofString "is_live")) (.str (.ofString "is_live") 360) (.ref 138)) :: ((.mk (PyData.keyHash P (.ofString "MASK")) (.str (.ofString "MASK") 364) (.int 4294967295 363)) :: ((.mk (PyData.keyHash P (.ofString "SIGN")) (.str (.ofString "SIGN") 366) (.int 2147483648 365)) :: ((.mk (PyData.keyHash P (.ofString "to_signed")) (.str (.ofString "to_signed") 373) (.ref 145)) :: ((.mk (PyData.keyHash P (.ofString "flagged")) (.str (.ofString "flagged") 383) (.ref 153)) :: ((.mk (PyData.keyHash P (.ofString "add")) (.str (.ofString "add") 395) (.ref 160)) :: ((.mk (PyData.keyHash P (.ofString "sub")) (.str (.ofString "sub") 406) (.ref 167)) :: ((.mk (PyData.keyHash P (.ofString "mul")) (.str (.ofString "mul") 417) (.ref 174)) :: ((.mk (PyData.keyHash P (.ofString "div")) (.str (.ofString "div") 428) (.ref 181)) :: ((.mk (PyData.keyHash P (.ofString "shift_left")) (.str (.ofString "shift_left") 436) (.ref 188)) :: ((.mk (PyData.keyHash P (.ofString "shift_arith")) (.str (.ofString "shift_arith") 444) (.ref 195)) :: ((.mk (PyData.keyHash P (.ofString "rotate")) (.str (.ofString "rotate") 453) (.ref 202)) :: ((.mk (PyData.keyHash P (.ofString "bitwise")) (.str (.ofString "bitwise") 462) (.ref 209)) :: ((.mk (PyData.keyHash P (.ofString "operate")) (.str (.ofString "operate") 471) (.ref 216)) :: ((.mk (PyData.keyHash P (.ofString "condition_number")) (.str (.ofString "condition_number") 479) (.ref 223)) :: ((.mk (PyData.keyHash P (.ofString "holds")) (.str (.ofString "holds") 493) (.ref 230)) :: [])))))))))))))))))))))))))))))))))))))))))))))))))))) 51) (.mk []))
noncomputable def o_193 (P : Params) : Obj := (.mk .none .none (.fields (.mk ((.int 4 0) :: ((.int 0 0) :: ((.ref 20) :: ((.int 6 0) :: ((.int 0 0) :: ((.ref 27) :: ((.int 13 0) :: ((.int 0 0) :: ((.ref 34) :: ((.int 15 0) :: ((.int 0 0) :: ((.ref 41) :: ((.int 33 0) :: ((.int 0 0) :: ((.ref 48) :: ((.int 35 0) :: ((.int 0 0) :: ((.ref 55) :: ((.int 37 0) :: ((.int 0 0) :: ((.ref 62) :: ((.int 39 0) :: ((.int 0 0) :: ((.ref 69) :: ((.int 41 0) :: ((.int 0 0) :: ((.ref 76) :: ((.int 46 0) :: ((.int 0 0) :: ((.ref 83) :: ((.int 51 0) :: ((.int 0 0) :: ((.ref 90) :: ((.int 63 0) :: ((.int 0 0) :: ((.ref 97) :: ((.int 78 0) :: ((.int 0 0) :: ((.ref 104) :: ((.int 80 0) :: ((.int 0 0) :: ((.ref 111) :: ((.int 94 0) :: ((.int 0 0) :: ((.ref 118) :: ((.int 101 0) :: ((.int 0 0) :: ((.ref 125) :: ((.int 103 0) :: ((.int 0 0) :: ((.ref 130) :: ((.int 129 0) :: ((.int 0 0) :: ((.ref 137) :: ((.int 134 0) :: ((.int 0 0) :: ((.ref 144) :: ((.int 136 0) :: ((.int 0 0) :: ((.ref 152) :: ((.int 138 0) :: ((.int 0 0) :: ((.ref 159) :: ((.int 144 0) :: ((.int 0 0) :: ((.ref 166) :: ((.int 149 0) :: ((.int 0 0) :: ((.ref 173) :: ((.int 154 0) :: ((.int 0 0) :: ((.ref 180) :: ((.int 160 0) :: ((.int 0 0) :: ((.ref 187) :: ((.int 162 0) :: ((.int 0 0) :: ((.ref 194) :: ((.int 164 0) :: ((.int 0 0) :: ((.ref 201) :: ((.int 167 0) :: ((.int 0 0) :: ((.ref 208) :: ((.int 177 0) :: ((.int 0 0) :: ((.ref 215) :: ((.int 195 0) :: ((.int 0 0) :: ((.ref 222) :: ((.int 198 0) :: ((.int 0 0) :: ((.ref 229) :: []))))))))))))))))))))))))))))))))))))))))))))))))))))))))))))))))))))))))))))))))))))))))))))))) (.mk []))
noncomputable def o_194 (P : Params) : Obj := (.mk (.type "tuple") .none (.seq (.mk []) 0) (.mk []))
noncomputable def o_195 (P : Params) : Obj := (.mk .none .none (.fields (.mk [])) (.mk []))
noncomputable def o_196 (P : Params) : Obj := (.mk (.type "tuple") .none (.seq (.mk ((.str (.ofString "x") 387) :: ((.str (.ofString "y") 388) :: ((.str (.ofString "total") 389) :: ((.str (.ofString "result") 390) :: ((.str (.ofString "c") 391) :: ((.str (.ofString "v") 392) :: []))))))) 0) (.mk []))
noncomputable def o_197 (P : Params) : Obj := (.mk (.type "tuple") .none (.seq (.mk []) 0) (.mk []))
noncomputable def o_198 (P : Params) : Obj := (.mk .none .none (.func (.mk (.ofString "add") (.ofString "add") R_add.1 (.stmts R_add.2.1) R_add.2.2 0 [] .none .none .none .none .none .none .none 0)) (.mk []))
noncomputable def o_199 (P : Params) : Obj := (.mk (.type "code") .none (.fields (.mk ((.str (.ofString "add") 384) :: ((.str (.ofString "add") 385) :: ((.str (.ofString "/claim/cut.py") 386) :: ((.int 138 0) :: ((.int 2 0) :: ((.int 0 0) :: ((.int 0 0) :: ((.int 3 0) :: ((.ref 154) :: ((.bool true) :: ((.int 181 0) :: ((.ref 155) :: (.none :: ((.ref 156) :: ((.ref 157) :: ((.ref 158) :: ((.int 393 0) :: ((.int 138 0) :: ((.str (.ofString "/claim/cut.py") 394) :: []))))))))))))))))))))) (.mk []))
noncomputable def o_200 (P : Params) : Obj := (.mk (.type "function") .none (.func (.mk (.ofString "add") (.ofString "add") R_add.1 (.stmts R_add.2.1) R_add.2.2 3 [] .none .none .none (.str (.ofString "moduleyard.alu") 361) .none (.ref 159) .none 0)) (.mk []))
noncomputable def o_201 (P : Params) : Obj := (.mk (.type "tuple") .none (.seq (.mk []) 0) (.mk []))
noncomputable def o_202 (P : Params) : Obj := (.mk .none .none (.fields (.mk [])) (.mk []))
noncomputable def o_203 (P : Params) : Obj := (.mk (.type "tuple") .none (.seq (.mk ((.str (.ofString "x") 399) :: ((.str (.ofString "y") 400) :: ((.str (.ofString "result") 401) :: ((.str (.ofString "c") 402) :: ((.str (.ofString "v") 403) :: [])))))) 0) (.mk []))
noncomputable def o_204 (P : Params) : Obj := (.mk (.type "tuple") .none (.seq (.mk []) 0) (.mk []))
noncomputable def o_205 (P : Params) : Obj := (.mk .none .none (.func (.mk (.ofString "sub") (.ofString "sub") R_sub.1 (.stmts R_sub.2.1) R_sub.2.2 0 [] .none .none .none .none .none .none .none 0)) (.mk []))
noncomputable def o_206 (P : Params) : Obj := (.mk (.type "code") .none (.fields (.mk ((.str (.ofString "sub") 396) :: ((.str (.ofString "sub") 397) :: ((.str (.ofString "/claim/cut.py") 398) :: ((.int 144 0) :: ((.int 2 0) :: ((.int 0 0) :: ((.int 0 0) :: ((.int 3 0) :: ((.ref 161) :: ((.bool true) :: ((.int 181 0) :: ((.ref 162) :: (.none :: ((.ref 163) :: ((.ref 164) :: ((.ref 165) :: ((.int 404 0) :: ((.int 144 0) :: ((.str (.ofString "/claim/cut.py") 405) :: []))))))))))))))))))))) (.mk []))
noncomputable def o_207 (P : Params) : Obj := (.mk (.type "function") .none (.func (.mk (.ofString "sub") (.ofString "sub") R_sub.1 (.stmts R_sub.2.1) R_sub.2.2 3 [] .none .none .none (.str (.ofString "moduleyard.alu") 361) .none (.ref 166) .none 0)) (.mk []))
noncomputable def o_208 (P : Params) : Obj := (.mk (.type "tuple") .none (.seq (.mk []) 0) (.mk []))
noncomputable def o_209 (P : Params) : Obj := (.mk .none .none (.fields (.mk [])) (.mk []))
noncomputable def o_210 (P : Params) : Obj := (.mk (.type "tuple") .none (.seq (.mk ((.str (.ofString "x") 410) :: ((.str (.ofString "y") 411) :: ((.str (.ofString "product") 412) :: ((.str (.ofString "result") 413) :: ((.str (.ofString "v") 414) :: [])))))) 0) (.mk []))
noncomputable def o_211 (P : Params) : Obj := (.mk (.type "tuple") .none (.seq (.mk []) 0) (.mk []))
noncomputable def o_212 (P : Params) : Obj := (.mk .none .none (.func (.mk (.ofString "mul") (.ofString "mul") R_mul.1 (.stmts R_mul.2.1) R_mul.2.2 0 [] .none .none .none .none .none .none .none 0)) (.mk []))
noncomputable def o_213 (P : Params) : Obj := (.mk (.type "code") .none (.fields (.mk ((.str (.ofString "mul") 407) :: ((.str (.ofString "mul") 408) :: ((.str (.ofString "/claim/cut.py") 409) :: ((.int 149 0) :: ((.int 2 0) :: ((.int 0 0) :: ((.int 0 0) :: ((.int 3 0) :: ((.ref 168) :: ((.bool true) :: ((.int 181 0) :: ((.ref 169) :: (.none :: ((.ref 170) :: ((.ref 171) :: ((.ref 172) :: ((.int 415 0) :: ((.int 149 0) :: ((.str (.ofString "/claim/cut.py") 416) :: []))))))))))))))))))))) (.mk []))
noncomputable def o_214 (P : Params) : Obj := (.mk (.type "function") .none (.func (.mk (.ofString "mul") (.ofString "mul") R_mul.1 (.stmts R_mul.2.1) R_mul.2.2 3 [] .none .none .none (.str (.ofString "moduleyard.alu") 361) .none (.ref 173) .none 0)) (.mk []))
noncomputable def o_215 (P : Params) : Obj := (.mk (.type "tuple") .none (.seq (.mk []) 0) (.mk []))
noncomputable def o_216 (P : Params) : Obj := (.mk .none .none (.fields (.mk [])) (.mk []))
noncomputable def o_217 (P : Params) : Obj := (.mk (.type "tuple") .none (.seq (.mk ((.str (.ofString "x") 421) :: ((.str (.ofString "y") 422) :: ((.str (.ofString "divisor") 423) :: ((.str (.ofString "quotient") 424) :: ((.str (.ofString "rest") 425) :: [])))))) 0) (.mk []))
noncomputable def o_218 (P : Params) : Obj := (.mk (.type "tuple") .none (.seq (.mk []) 0) (.mk []))
noncomputable def o_219 (P : Params) : Obj := (.mk .none .none (.func (.mk (.ofString "div") (.ofString "div") R_div.1 (.stmts R_div.2.1) R_div.2.2 0 [] .none .none .none .none .none .none .none 0)) (.mk []))
noncomputable def o_220 (P : Params) : Obj := (.mk (.type "code") .none (.fields (.mk ((.str (.ofString "div") 418) :: ((.str (.ofString "div") 419) :: ((.str (.ofString "/claim/cut.py") 420) :: ((.int 154 0) :: ((.int 2 0) :: ((.int 0 0) :: ((.int 0 0) :: ((.int 3 0) :: ((.ref 175) :: ((.bool true) :: ((.int 181 0) :: ((.ref 176) :: (.none :: ((.ref 177) :: ((.ref 178) :: ((.ref 179) :: ((.int 426 0) :: ((.int 154 0) :: ((.str (.ofString "/claim/cut.py") 427) :: []))))))))))))))))))))) (.mk []))
noncomputable def o_221 (P : Params) : Obj := (.mk (.type "function") .none (.func (.mk (.ofString "div") (.ofString "div") R_div.1 (.stmts R_div.2.1) R_div.2.2 3 [] .none .none .none (.str (.ofString "moduleyard.alu") 361) .none (.ref 180) .none 0)) (.mk []))
noncomputable def o_222 (P : Params) : Obj := (.mk (.type "tuple") .none (.seq (.mk []) 0) (.mk []))
noncomputable def o_223 (P : Params) : Obj := (.mk .none .none (.fields (.mk [])) (.mk []))
noncomputable def o_224 (P : Params) : Obj := (.mk (.type "tuple") .none (.seq (.mk ((.str (.ofString "x") 432) :: ((.str (.ofString "y") 433) :: []))) 0) (.mk []))
noncomputable def o_225 (P : Params) : Obj := (.mk (.type "tuple") .none (.seq (.mk []) 0) (.mk []))
noncomputable def o_226 (P : Params) : Obj := (.mk .none .none (.func (.mk (.ofString "shift_left") (.ofString "shift_left") R_shift_left.1 (.stmts R_shift_left.2.1) R_shift_left.2.2 0 [] .none .none .none .none .none .none .none 0)) (.mk []))
noncomputable def o_227 (P : Params) : Obj := (.mk (.type "code") .none (.fields (.mk ((.str (.ofString "shift_left") 429) :: ((.str (.ofString "shift_left") 430) :: ((.str (.ofString "/claim/cut.py") 431) :: ((.int 160 0) :: ((.int 2 0) :: ((.int 0 0) :: ((.int 0 0) :: ((.int 3 0) :: ((.ref 182) :: ((.bool true) :: ((.int 181 0) :: ((.ref 183) :: (.none :: ((.ref 184) :: ((.ref 185) :: ((.ref 186) :: ((.int 434 0) :: ((.int 160 0) :: ((.str (.ofString "/claim/cut.py") 435) :: []))))))))))))))))))))) (.mk []))
noncomputable def o_228 (P : Params) : Obj := (.mk (.type "function") .none (.func (.mk (.ofString "shift_left") (.ofString "shift_left") R_shift_left.1 (.stmts R_shift_left.2.1) R_shift_left.2.2 3 [] .none .none .none (.str (.ofString "moduleyard.alu") 361) .none (.ref 187) .none 0)) (.mk []))
noncomputable def o_229 (P : Params) : Obj := (.mk (.type "tuple") .none (.seq (.mk []) 0) (.mk []))
noncomputable def o_230 (P : Params) : Obj := (.mk .none .none (.fields (.mk [])) (.mk []))
noncomputable def o_231 (P : Params) : Obj := (.mk (.type "tuple") .none (.seq (.mk ((.str (.ofString "x") 440) :: ((.str (.ofString "y") 441) :: []))) 0) (.mk []))
noncomputable def o_232 (P : Params) : Obj := (.mk (.type "tuple") .none (.seq (.mk []) 0) (.mk []))
noncomputable def o_233 (P : Params) : Obj := (.mk .none .none (.func (.mk (.ofString "shift_arith") (.ofString "shift_arith") R_shift_arith.1 (.stmts R_shift_arith.2.1) R_shift_arith.2.2 0 [] .none .none .none .none .none .none .none 0)) (.mk []))
noncomputable def o_234 (P : Params) : Obj := (.mk (.type "code") .none (.fields (.mk ((.str (.ofString "shift_arith") 437) :: ((.str (.ofString "shift_arith") 438) :: ((.str (.ofString "/claim/cut.py") 439) :: ((.int 162 0) :: ((.int 2 0) :: ((.int 0 0) :: ((.int 0 0) :: ((.int 3 0) :: ((.ref 189) :: ((.bool true) :: ((.int 181 0) :: ((.ref 190) :: (.none :: ((.ref 191) :: ((.ref 192) :: ((.ref 193) :: ((.int 442 0) :: ((.int 162 0) :: ((.str (.ofString "/claim/cut.py") 443) :: []))))))))))))))))))))) (.mk []))
noncomputable def o_235 (P : Params) : Obj := (.mk (.type "function") .none (.func (.mk (.ofString "shift_arith") (.ofString "shift_arith") R_shift_arith.1 (.stmts R_shift_arith.2.1) R_shift_arith.2.2 3 [] .none .none .none (.str (.ofString "moduleyard.alu") 361) .none (.ref 194) .none 0)) (.mk []))
noncomputable def o_236 (P : Params) : Obj := (.mk (.type "tuple") .none (.seq (.mk []) 0) (.mk []))
noncomputable def o_237 (P : Params) : Obj := (.mk .none .none (.fields (.mk [])) (.mk []))
noncomputable def o_238 (P : Params) : Obj := (.mk (.type "tuple") .none (.seq (.mk ((.str (.ofString "x") 448) :: ((.str (.ofString "y") 449) :: ((.str (.ofString "count") 450) :: [])))) 0) (.mk []))
noncomputable def o_239 (P : Params) : Obj := (.mk (.type "tuple") .none (.seq (.mk []) 0) (.mk []))
noncomputable def o_240 (P : Params) : Obj := (.mk .none .none (.func (.mk (.ofString "rotate") (.ofString "rotate") R_rotate.1 (.stmts R_rotate.2.1) R_rotate.2.2 0 [] .none .none .none .none .none .none .none 0)) (.mk []))
noncomputable def o_241 (P : Params) : Obj := (.mk (.type "code") .none (.fields (.mk ((.str (.ofString "rotate") 445) :: ((.str (.ofString "rotate") 446) :: ((.str (.ofString "/claim/cut.py") 447) :: ((.int 164 0) :: ((.int 2 0) :: ((.int 0 0) :: ((.int 0 0) :: ((.int 3 0) :: ((.ref 196) :: ((.bool true) :: ((.int 181 0) :: ((.ref 197) :: (.none :: ((.ref 198) :: ((.ref 199) :: ((.ref 200) :: ((.int 451 0) :: ((.int 164 0) :: ((.str (.ofString "/claim/cut.py") 452) :: []))))))))))))))))))))) (.mk []))
noncomputable def o_242 (P : Params) : Obj := (.mk (.type "function") .none (.func (.mk (.ofString "rotate") (.ofString "rotate") R_rotate.1 (.stmts R_rotate.2.1) R_rotate.2.2 3 [] .none .none .none (.str (.ofString "moduleyard.alu") 361) .none (.ref 201) .none 0)) (.mk []))
noncomputable def o_243 (P : Params) : Obj := (.mk (.type "tuple") .none (.seq (.mk []) 0) (.mk []))
noncomputable def o_244 (P : Params) : Obj := (.mk .none .none (.fields (.mk [])) (.mk []))
noncomputable def o_245 (P : Params) : Obj := (.mk (.type "tuple") .none (.seq (.mk ((.str (.ofString "name") 457) :: ((.str (.ofString "x") 458) :: ((.str (.ofString "y") 459) :: [])))) 0) (.mk []))
noncomputable def o_246 (P : Params) : Obj := (.mk (.type "tuple") .none (.seq (.mk []) 0) (.mk []))
noncomputable def o_247 (P : Params) : Obj := (.mk .none .none (.func (.mk (.ofString "bitwise") (.ofString "bitwise") R_bitwise.1 (.stmts R_bitwise.2.1) R_bitwise.2.2 0 [] .none .none .none .none .none .none .none 0)) (.mk []))
noncomputable def o_248 (P : Params) : Obj := (.mk (.type "code") .none (.fields (.mk ((.str (.ofString "bitwise") 454) :: ((.str (.ofString "bitwise") 455) :: ((.str (.ofString "/claim/cut.py") 456) :: ((.int 167 0) :: ((.int 3 0) :: ((.int 0 0) :: ((.int 0 0) :: ((.int 3 0) :: ((.ref 203) :: ((.bool true) :: ((.int 181 0) :: ((.ref 204) :: (.none :: ((.ref 205) :: ((.ref 206) :: ((.ref 207) :: ((.int 460 0) :: ((.int 167 0) :: ((.str (.ofString "/claim/cut.py") 461) :: []))))))))))))))))))))) (.mk []))
noncomputable def o_249 (P : Params) : Obj := (.mk (.type "function") .none (.func (.mk (.ofString "bitwise") (.ofString "bitwise") R_bitwise.1 (.stmts R_bitwise.2.1) R_bitwise.2.2 3 [] .none .none .none (.str (.ofString "moduleyard.alu") 361) .none (.ref 208) .none 0)) (.mk []))
noncomputable def o_250 (P : Params) : Obj := (.mk (.type "tuple") .none (.seq (.mk []) 0) (.mk []))
noncomputable def o_251 (P : Params) : Obj := (.mk .none .none (.fields (.mk [])) (.mk []))
noncomputable def o_252 (P : Params) : Obj := (.mk (.type "tuple") .none (.seq (.mk ((.str (.ofString "name") 466) :: ((.str (.ofString "x") 467) :: ((.str (.ofString "y") 468) :: [])))) 0) (.mk []))
noncomputable def o_253 (P : Params) : Obj := (.mk (.type "tuple") .none (.seq (.mk []) 0) (.mk []))
noncomputable def o_254 (P : Params) : Obj := (.mk .none .none (.func (.mk (.ofString "operate") (.ofString "operate") R_operate.1 (.stmts R_operate.2.1) R_operate.2.2 0 [] .none .none .none .none .none .none .none 0)) (.mk []))
noncomputable def o_255 (P : Params) : Obj := (.mk (.type "code") .none (.fields (.mk ((.str (.ofString "operate") 463) :: ((.str (.ofString "operate") 464) :: ((.str (.ofString "/claim/cut.py") 465) :: ((.int 177 0) :: ((.int 3 0) :: ((.int 0 0) :: ((.int 0 0) :: ((.int 3 0) :: ((.ref 210) :: ((.bool true) :: ((.int 181 0) :: ((.ref 211) :: (.none :: ((.ref 212) :: ((.ref 213) :: ((.ref 214) :: ((.int 469 0) :: ((.int 177 0) :: ((.str (.ofString "/claim/cut.py") 470) :: []))))))))))))))))))))) (.mk []))
noncomputable def o_256 (P : Params) : Obj := (.mk (.type "function") .none (.func (.mk (.ofString "operate") (.ofString "operate") R_operate.1 (.stmts R_operate.2.1) R_operate.2.2 3 [] .none .none .none (.str (.ofString "moduleyard.alu") 361) .none (.ref 215) .none 0)) (.mk []))
noncomputable def o_257 (P : Params) : Obj := (.mk (.type "tuple") .none (.seq (.mk []) 0) (.mk []))
noncomputable def o_258 (P : Params) : Obj := (.mk .none .none (.fields (.mk [])) (.mk []))
noncomputable def o_259 (P : Params) : Obj := (.mk (.type "tuple") .none (.seq (.mk ((.str (.ofString "cond") 475) :: ((.str (.ofString "names") 476) :: []))) 0) (.mk []))
noncomputable def o_260 (P : Params) : Obj := (.mk (.type "tuple") .none (.seq (.mk []) 0) (.mk []))
noncomputable def o_261 (P : Params) : Obj := (.mk .none .none (.func (.mk (.ofString "condition_number") (.ofString "condition_number") R_condition_number.1 (.stmts R_condition_number.2.1) R_condition_number.2.2 0 [] .none .none .none .none .none .none .none 0)) (.mk []))
noncomputable def o_262 (P : Params) : Obj := (.mk (.type "code") .none (.fields (.mk ((.str (.ofString "condition_number") 472) :: ((.str (.ofString "condition_number") 473) :: ((.str (.ofString "/claim/cut.py") 474) :: ((.int 195 0) :: ((.int 1 0) :: ((.int 0 0) :: ((.int 0 0) :: ((.int 3 0) :: ((.ref 217) :: ((.bool true) :: ((.int 181 0) :: ((.ref 218) :: (.none :: ((.ref 219) :: ((.ref 220) :: ((.ref 221) :: ((.int 477 0) :: ((.int 195 0) :: ((.str (.ofString "/claim/cut.py") 478) :: []))))))))))))))))))))) (.mk []))
noncomputable def o_263 (P : Params) : Obj := (.mk (.type "function") .none (.func (.mk (.ofString "condition_number") (.ofString "condition_number") R_condition_number.1 (.stmts R_condition_number.2.1) R_condition_number.2.2 3 [] .none .none .none (.str (.ofString "moduleyard.alu") 361) .none (.ref 222) .none 0)) (.mk []))
noncomputable def o_264 (P : Params) : Obj := (.mk (.type "tuple") .none (.seq (.mk []) 0) (.mk []))
noncomputable def o_265 (P : Params) : Obj := (.mk .none .none (.fields (.mk [])) (.mk []))
noncomputable def o_266 (P : Params) : Obj := (.mk (.type "tuple") .none (.seq (.mk ((.str (.ofString "cond") 483) :: ((.str (.ofString "flags") 484) :: ((.str (.ofString "n") 485) :: ((.str (.ofString "z") 486) :: ((.str (.ofString "c") 487) :: ((.str (.ofString "v") 488) :: ((.str (.ofString "number") 489) :: ((.str (.ofString "truths") 490) :: []))))))))) 0) (.mk []))
noncomputable def o_267 (P : Params) : Obj := (.mk (.type "tuple") .none (.seq (.mk []) 0) (.mk []))
noncomputable def o_268 (P : Params) : Obj := (.mk .none .none (.func (.mk (.ofString "holds") (.ofString "holds") R_holds.1 (.stmts R_holds.2.1) R_holds.2.2 0 [] .none .none .none .none .none .none .none 0)) (.mk []))
noncomputable def o_269 (P : Params) : Obj := (.mk (.type "code") .none (.fields (.mk ((.str (.ofString "holds") 480) :: ((.str (.ofString "holds") 481) :: ((.str (.ofString "/claim/cut.py") 482) :: ((.int 198 0) :: ((.int 2 0) :: ((.int 0 0) :: ((.int 0 0) :: ((.int 3 0) :: ((.ref 224) :: ((.bool true) :: ((.int 181 0) :: ((.ref 225) :: (.none :: ((.ref 226) :: ((.ref 227) :: ((.ref 228) :: ((.int 491 0) :: ((.int 198 0) :: ((.str (.ofString "/claim/cut.py") 492) :: []))))))))))))))))))))) (.mk []))
noncomputable def o_270 (P : Params) : Obj := (.mk (.type "function") .none (.func (.mk (.ofString "holds") (.ofString "holds") R_holds.1 (.stmts R_holds.2.1) R_holds.2.2 3 [] .none .none .none (.str (.ofString "moduleyard.alu") 361) .none (.ref 229) .none 0)) (.mk []))
noncomputable def o_271 (P : Params) : Obj := (.mk .none .none (.dict (.mk ((.mk (PyData.keyHash P (.ofString "type.__subclasses__.Exception.0")) (.str (.ofString "type.__subclasses__.Exception.0") 512) (.int 240 0)) :: ((.mk (PyData.keyHash P (.ofString "type.__subclasses__.Exception.n")) (.str (.ofString "type.__subclasses__.Exception.n") 513) (.int 1 0)) :: []))) 2) (.mk []))
noncomputable def o_274 (P : Params) : Obj := (.mk (.type "tuple") .none (.seq (.mk ((.type "Exception") :: [])) 0) (.mk []))
noncomputable def o_275 (P : Params) : Obj := (.mk (.type "builtin_function_or_method") .none (.fields (.mk ((.builtin "type.__prepare__") :: ((.type "type") :: [])))) (.mk []))
noncomputable def o_276 (P : Params) : Obj := (.mk (.type "dict") .none (.dict (.mk ((.mk (PyData.keyHash P (.ofString "__module__")) (.str (.ofString "__module__") 503) (.str (.ofString "moduleyard.errors") 494)) :: ((.mk (PyData.keyHash P (.ofString "__qualname__")) (.str (.ofString "__qualname__") 505) (.str (.ofString "YardError") 504)) :: ((.mk (PyData.keyHash P (.ofString "__firstlineno__")) (.str (.ofString "__firstlineno__") 507) (.int 204 506)) :: ((.mk (PyData.keyHash P (.ofString "__static_attributes__")) (.str (.ofString "__static_attributes__") 508) (.ref 238)) :: []))))) 4) (.mk []))
noncomputable def o_277 (P : Params) : Obj := (.mk (.type "tuple") .none (.seq (.mk []) 0) (.mk []))
noncomputable def o_278 (P : Params) : Obj := (.mk .none .none (.fields (.mk [])) (.mk []))
noncomputable def o_279 (P : Params) : Obj := (.mk (.type "code") .none (.fields (.mk ((.str (.ofString "YardError") 498) :: ((.str (.ofString "YardError") 499) :: ((.str (.ofString "/claim/cut.py") 500) :: ((.int 204 0) :: ((.int 0 0) :: ((.int 0 0) :: ((.int 0 0) :: ((.int 0 0) :: ((.ref 234) :: ((.bool false) :: ((.int 181 0) :: ((.ref 235) :: (.none :: (.none :: (.none :: (.none :: ((.int 501 0) :: ((.int 204 0) :: ((.str (.ofString "/claim/cut.py") 502) :: []))))))))))))))))))))) (.mk []))
noncomputable def o_280 (P : Params) : Obj := (.mk (.type "frame") .none .plain (.mk ((.some (.ref 236)) :: ((.some (.ref 3)) :: ((.some (.ref 233)) :: (.none :: ((.some (.str (.ofString "moduleyard.errors") 494)) :: (.none :: ((.some (.ref 0)) :: [])))))))))
noncomputable def o_281 (P : Params) : Obj := (.mk (.type "tuple") .none (.seq (.mk []) 0) (.mk []))
noncomputable def o_282 (P : Params) : Obj := (.mk (.type "dict") .none (.dict (.mk ((.mk (PyData.keyHash P (.ofString "__module__")) (.str (.ofString "__module__") 503) (.str (.ofString "moduleyard.errors") 494)) :: ((.mk (PyData.keyHash P (.ofString "__firstlineno__")) (.str (.ofString "__firstlineno__") 507) (.int 204 506)) :: ((.mk (PyData.keyHash P (.ofString "__static_attributes__")) (.str (.ofString "__static_attributes__") 508) (.ref 238)) :: ((.mk (PyData.keyHash P (.ofString "__weakref__")) (.str (.ofString "__weakref__") 510) (.ref 241)) :: ((.mk (PyData.keyHash P (.ofString "__doc__")) (.str (.ofString "__doc__") 511) .none) :: [])))))) 3) (.mk []))
noncomputable def o_284 (P : Params) : Obj := (.mk (.type "getset_descriptor") .none (.fields (.mk ((.str (.ofString "__weakref__") 509) :: ((.ref 240) :: ((.builtin "ExceptionGroup.__weakref__") :: (.none :: [])))))) (.mk []))
noncomputable def o_285 (P : Params) : Obj := (.mk (.type "super") .none (.fields (.mk ((.ref 240) :: ((.ref 240) :: ((.ref 240) :: []))))) (.mk []))
noncomputable def o_286 (P : Params) : Obj := (.mk (.type "builtin_function_or_method") .none (.fields (.mk ((.builtin "object.__init_subclass__") :: ((.ref 240) :: [])))) (.mk []))
noncomputable def o_290 (P : Params) : Obj := (.mk (.type "tuple") .none (.seq (.mk ((.ref 240) :: [])) 0) (.mk []))
noncomputable def o_291 (P : Params) : Obj := (.mk (.type "builtin_function_or_method") .none (.fields (.mk ((.builtin "type.__prepare__") :: ((.type "type") :: [])))) (.mk []))
noncomputable def o_292 (P : Params) : Obj := (.mk (.type "dict") .none (.dict (.mk ((.mk (PyData.keyHash P (.ofString "__module__")) (.str (.ofString "__module__") 523) (.str (.ofString "moduleyard.errors") 494)) :: ((.mk (PyData.keyHash P (.ofString "__qualname__")) (.str (.ofString "__qualname__") 525) (.str (.ofString "TrapError") 524)) :: ((.mk (PyData.keyHash P (.ofString "__firstlineno__")) (.str (.ofString "__firstlineno__") 527) (.int 206 526)) :: ((.mk (PyData.keyHash P (.ofString "__init__")) (.str (.ofString "__init__") 537) (.ref 257)) :: ((.mk (PyData.keyHash P (.ofString "__static_attributes__")) (.str (.ofString "__static_attributes__") 541) (.ref 258)) :: [])))))) 5) (.mk []))
noncomputable def o_293 (P : Params) : Obj := (.mk (.type "tuple") .none (.seq (.mk []) 0) (.mk []))
noncomputable def o_294 (P : Params) : Obj := (.mk .none .none (.fields (.mk ((.int 208 0) :: ((.int 4 0) :: ((.ref 256) :: []))))) (.mk []))
noncomputable def o_295 (P : Params) : Obj := (.mk (.type "code") .none (.fields (.mk ((.str (.ofString "TrapError") 518) :: ((.str (.ofString "TrapError") 519) :: ((.str (.ofString "/claim/cut.py") 520) :: ((.int 206 0) :: ((.int 0 0) :: ((.int 0 0) :: ((.int 0 0) :: ((.int 0 0) :: ((.ref 247) :: ((.bool false) :: ((.int 181 0) :: ((.ref 248) :: (.none :: (.none :: (.none :: (.none :: ((.int 521 0) :: ((.int 206 0) :: ((.str (.ofString "/claim/cut.py") 522) :: []))))))))))))))))))))) (.mk []))
noncomputable def o_296 (P : Params) : Obj := (.mk (.type "frame") .none .plain (.mk ((.some (.ref 249)) :: ((.some (.ref 3)) :: ((.some (.ref 246)) :: (.none :: ((.some (.str (.ofString "moduleyard.errors") 494)) :: (.none :: ((.some (.ref 0)) :: [])))))))))
noncomputable def o_297 (P : Params) : Obj := (.mk (.type "tuple") .none (.seq (.mk []) 0) (.mk []))
noncomputable def o_298 (P : Params) : Obj := (.mk .none .none (.fields (.mk [])) (.mk []))
noncomputable def o_299 (P : Params) : Obj := (.mk (.type "tuple") .none (.seq (.mk ((.str (.ofString "self") 531) :: ((.str (.ofString "number") 532) :: ((.str (.ofString "place") 533) :: ((.str (.ofString "module") 534) :: []))))) 0) (.mk []))
noncomputable def o_300 (P : Params) : Obj := (.mk (.type "tuple") .none (.seq (.mk []) 0) (.mk []))
noncomputable def o_301 (P : Params) : Obj := (.mk .none .none (.func (.mk (.ofString "__init__") (.ofString "TrapError.__init__") R_TrapError_init.1 (.stmts R_TrapError_init.2.1) R_TrapError_init.2.2 0 [] .none .none .none .none .none .none .none 0)) (.mk []))
noncomputable def o_302 (P : Params) : Obj := (.mk (.type "code") .none (.fields (.mk ((.str (.ofString "__init__") 528) :: ((.str (.ofString "TrapError.__init__") 529) :: ((.str (.ofString "/claim/cut.py") 530) :: ((.int 208 0) :: ((.int 4 0) :: ((.int 0 0) :: ((.int 0 0) :: ((.int 3 0) :: ((.ref 251) :: ((.bool true) :: ((.int 181 0) :: ((.ref 252) :: (.none :: ((.ref 253) :: ((.ref 254) :: ((.ref 255) :: ((.int 535 0) :: ((.int 208 0) :: ((.str (.ofString "/claim/cut.py") 536) :: []))))))))))))))))))))) (.mk []))
noncomputable def o_303 (P : Params) : Obj := (.mk (.type "function") .none (.func (.mk (.ofString "__init__") (.ofString "TrapError.__init__") R_TrapError_init.1 (.stmts R_TrapError_init.2.1) R_TrapError_init.2.2 3 [] .none .none .none (.str (.ofString "moduleyard.errors") 494) .none (.ref 256) .none 0)) (.mk []))
noncomputable def o_304 (P : Params) : Obj := (.mk (.type "tuple") .none (.seq (.mk ((.str (.ofString "module") 538) :: ((.str (.ofString "number") 539) :: ((.str (.ofString "place") 540) :: [])))) 0) (.mk []))
noncomputable def o_305 (P : Params) : Obj := (.mk (.type "dict") .none (.dict (.mk ((.mk (PyData.keyHash P (.ofString "__module__")) (.str (.ofString "__module__") 523) (.str (.ofString "moduleyard.errors") 494)) :: ((.mk (PyData.keyHash P (.ofString "__firstlineno__")) (.str (.ofString "__firstlineno__") 527) (.int 206 526)) :: ((.mk (PyData.keyHash P (.ofString "__init__")) (.str (.ofString "__init__") 537) (.ref 257)) :: ((.mk (PyData.keyHash P (.ofString "__static_attributes__")) (.str (.ofString "__static_attributes__") 541) (.ref 258)) :: ((.mk (PyData.keyHash P (.ofString "__doc__")) (.str (.ofString "__doc__") 542) .none) :: [])))))) 2) (.mk []))
noncomputable def o_306 (P : Params) : Obj := (.mk (.type "type") .none (.cls (.mk (.ofString "TrapError") ((.ref 240) :: []) ((.ref 260) :: ((.ref 240) :: ((.type "Exception") :: ((.type "BaseException") :: ((.type "object") :: []))))) 259 (.ofString "TrapError") true [] [] false .none false)) (.mk ((.some (.ref 244)) :: (.none :: ((.some (.str (.ofString "TrapError") 516)) :: ((.some (.str (.ofString "TrapError") 524)) :: ((.some (.builtin "Exception.__new__")) :: ((.some (.bool true)) :: []))))))))
noncomputable def o_307 (P : Params) : Obj := (.mk (.type "super") .none (.fields (.mk ((.ref 260) :: ((.ref 260) :: ((.ref 260) :: []))))) (.mk []))
noncomputable def o_308 (P : Params) : Obj := (.mk (.type "builtin_function_or_method") .none (.fields (.mk ((.builtin "object.__init_subclass__") :: ((.ref 260) :: [])))) (.mk []))
noncomputable def o_311 (P : Params) : Obj := (.mk (.type "type") .none (.cls (.mk (.ofString "YardError") ((.type "Exception") :: []) ((.ref 240) :: ((.type "Exception") :: ((.type "BaseException") :: ((.type "object") :: [])))) 239 (.ofString "YardError") true [] ((.ref 260) :: ((.ref 279) :: [])) false .none false)) (.mk ((.some (.ref 231)) :: (.none :: ((.some (.str (.ofString "YardError") 496)) :: ((.some (.str (.ofString "YardError") 504)) :: ((.some (.builtin "Exception.__new__")) :: ((.some (.bool true)) :: []))))))))
noncomputable def o_312 (P : Params) : Obj := (.mk (.type "tuple") .none (.seq (.mk ((.ref 240) :: [])) 0) (.mk []))
noncomputable def o_313 (P : Params) : Obj := (.mk (.type "builtin_function_or_method") .none (.fields (.mk ((.builtin "type.__prepare__") :: ((.type "type") :: [])))) (.mk []))
noncomputable def o_314 (P : Params) : Obj := (.mk (.type "dict") .none (.dict (.mk ((.mk (PyData.keyHash P (.ofString "__module__")) (.str (.ofString "__module__") 552) (.str (.ofString "moduleyard.errors") 494)) :: ((.mk (PyData.keyHash P (.ofString "__qualname__")) (.str (.ofString "__qualname__") 554) (.str (.ofString "BadRow") 553)) :: ((.mk (PyData.keyHash P (.ofString "__firstlineno__")) (.str (.ofString "__firstlineno__") 556) (.int 212 555)) :: ((.mk (PyData.keyHash P (.ofString "__init__")) (.str (.ofString "__init__") 564) (.ref 276)) :: ((.mk (PyData.keyHash P (.ofString "__static_attributes__")) (.str (.ofString "__static_attributes__") 566) (.ref 277)) :: [])))))) 5) (.mk []))
noncomputable def o_315 (P : Params) : Obj := (.mk (.type "tuple") .none (.seq (.mk []) 0) (.mk []))
noncomputable def o_316 (P : Params) : Obj := (.mk .none .none (.fields (.mk ((.int 214 0) :: ((.int 4 0) :: ((.ref 275) :: []))))) (.mk []))
noncomputable def o_317 (P : Params) : Obj := (.mk (.type "code") .none (.fields (.mk ((.str (.ofString "BadRow") 547) :: ((.str (.ofString "BadRow") 548) :: ((.str (.ofString "/claim/cut.py") 549) :: ((.int 212 0) :: ((.int 0 0) :: ((.int 0 0) :: ((.int 0 0) :: ((.int 0 0) :: ((.ref 266) :: ((.bool false) :: ((.int 181 0) :: ((.ref 267) :: (.none :: (.none :: (.none :: (.none :: ((.int 550 0) :: ((.int 212 0) :: ((.str (.ofString "/claim/cut.py") 551) :: []))))))))))))))))))))) (.mk []))
noncomputable def o_318 (P : Params) : Obj := (.mk (.type "frame") .none .plain (.mk ((.some (.ref 268)) :: ((.some (.ref 3)) :: ((.some (.ref 265)) :: (.none :: ((.some (.str (.ofString "moduleyard.errors") 494)) :: (.none :: ((.some (.ref 0)) :: [])))))))))
noncomputable def o_319 (P : Params) : Obj := (.mk (.type "tuple") .none (.seq (.mk []) 0) (.mk []))
noncomputable def o_320 (P : Params) : Obj := (.mk .none .none (.fields (.mk [])) (.mk []))
noncomputable def o_321 (P : Params) : Obj := (.mk (.type "tuple") .none (.seq (.mk ((.str (.ofString "self") 560) :: ((.str (.ofString "what") 561) :: []))) 0) (.mk []))
noncomputable def o_322 (P : Params) : Obj := (.mk (.type "tuple") .none (.seq (.mk []) 0) (.mk []))
noncomputable def o_323 (P : Params) : Obj := (.mk .none .none (.func (.mk (.ofString "__init__") (.ofString "BadRow.__init__") R_BadRow_init.1 (.stmts R_BadRow_init.2.1) R_BadRow_init.2.2 0 [] .none .none .none .none .none .none .none 0)) (.mk []))
noncomputable def o_324 (P : Params) : Obj := (.mk (.type "code") .none (.fields (.mk ((.str (.ofString "__init__") 557) :: ((.str (.ofString "BadRow.__init__") 558) :: ((.str (.ofString "/claim/cut.py") 559) :: ((.int 214 0) :: ((.int 2 0) :: ((.int 0 0) :: ((.int 0 0) :: ((.int 3 0) :: ((.ref 270) :: ((.bool true) :: ((.int 181 0) :: ((.ref 271) :: (.none :: ((.ref 272) :: ((.ref 273) :: ((.ref 274) :: ((.int 562 0) :: ((.int 214 0) :: ((.str (.ofString "/claim/cut.py") 563) :: []))))))))))))))))))))) (.mk []))
noncomputable def o_325 (P : Params) : Obj := (.mk (.type "function") .none (.func (.mk (.ofString "__init__") (.ofString "BadRow.__init__") R_BadRow_init.1 (.stmts R_BadRow_init.2.1) R_BadRow_init.2.2 3 [] .none .none .none (.str (.ofString "moduleyard.errors") 494) .none (.ref 275) .none 0)) (.mk []))
noncomputable def o_326 (P : Params) : Obj := (.mk (.type "tuple") .none (.seq (.mk ((.str (.ofString "what") 565) :: [])) 0) (.mk []))
noncomputable def o_327 (P : Params) : Obj := (.mk (.type "dict") .none (.dict (.mk ((.mk (PyData.keyHash P (.ofString "__module__")) (.str (.ofString "__module__") 552) (.str (.ofString "moduleyard.errors") 494)) :: ((.mk (PyData.keyHash P (.ofString "__firstlineno__")) (.str (.ofString "__firstlineno__") 556) (.int 212 555)) :: ((.mk (PyData.keyHash P (.ofString "__init__")) (.str (.ofString "__init__") 564) (.ref 276)) :: ((.mk (PyData.keyHash P (.ofString "__static_attributes__")) (.str (.ofString "__static_attributes__") 566) (.ref 277)) :: ((.mk (PyData.keyHash P (.ofString "__doc__")) (.str (.ofString "__doc__") 567) .none) :: [])))))) 2) (.mk []))
noncomputable def o_328 (P : Params) : Obj := (.mk (.type "type") .none (.cls (.mk (.ofString "BadRow") ((.ref 240) :: []) ((.ref 279) :: ((.ref 240) :: ((.type "Exception") :: ((.type "BaseException") :: ((.type "object") :: []))))) 278 (.ofString "BadRow") true [] [] false .none false)) (.mk ((.some (.ref 263)) :: (.none :: ((.some (.str (.ofString "BadRow") 545)) :: ((.some (.str (.ofString "BadRow") 553)) :: ((.some (.builtin "Exception.__new__")) :: ((.some (.bool true)) :: []))))))))
noncomputable def o_329 (P : Params) : Obj := (.mk (.type "super") .none (.fields (.mk ((.ref 279) :: ((.ref 279) :: ((.ref 279) :: []))))) (.mk []))
noncomputable def o_330 (P : Params) : Obj := (.mk (.type "builtin_function_or_method") .none (.fields (.mk ((.builtin "object.__init_subclass__") :: ((.ref 279) :: [])))) (.mk []))
noncomputable def o_331 (P : Params) : Obj := (.mk (.type "dict") .none (.dict (.mk ((.mk (PyData.keyHash P (.ofString "__name__")) (.str (.ofString "__name__") 165) (.str (.ofString "moduleyard.cpu") 570)) :: ((.mk (PyData.keyHash P (.ofString "__doc__")) (.str (.ofString "__doc__") 166) .none) :: ((.mk (PyData.keyHash P (.ofString "__package__")) (.str (.ofString "__package__") 167) .none) :: ((.mk (PyData.keyHash P (.ofString "__loader__")) (.str (.ofString "__loader__") 168) (.builtin "__main__.__loader__#opaque")) :: ((.mk (PyData.keyHash P (.ofString "__spec__")) (.str (.ofString "__spec__") 169) .none) :: ((.mk (PyData.keyHash P (.ofString "__annotations__")) (.str (.ofString "__annotations__") 170) (.ref 6)) :: ((.mk (PyData.keyHash P (.ofString "__builtins__")) (.str (.ofString "__builtins__") 171) (.ref 4)) :: ((.mk (PyData.keyHash P (.ofString "__file__")) (.str (.ofString "__file__") 173) (.str (.ofString "/claim/cut.py") 172)) :: ((.mk (PyData.keyHash P (.ofString "__cached__")) (.str (.ofString "__cached__") 174) .none) :: ((.mk (PyData.keyHash P (.ofString "LINK_flow")) (.str (.ofString "LINK_flow") 190) (.int 15 189)) :: ((.mk (PyData.keyHash P (.ofString "END_OF_COMMAND")) (.str (.ofString "END_OF_COMMAND") 192) (.int 9 191)) :: ((.mk (PyData.keyHash P (.ofString "target_of")) (.str (.ofString "target_of") 200) (.ref 21)) :: ((.mk (PyData.keyHash P (.ofString "falls_through")) (.str (.ofString "falls_through") 208) (.ref 28)) :: ((.mk (PyData.keyHash P (.ofString "can_jump")) (.str (.ofString "can_jump") 215) (.ref 35)) :: ((.mk (PyData.keyHash P (.ofString "successors")) (.str (.ofString "successors") 226) (.ref 42)) :: ((.mk (PyData.keyHash P (.ofString "FRAME")) (.str (.ofString "FRAME") 230) (.int 11 229)) :: ((.mk (PyData.keyHash P (.ofString "STATIC")) (.str (.ofString "STATIC") 232) (.int 13 231)) :: ((.mk (PyData.keyHash P (.ofString "STACK")) (.str (.ofString "STACK") 234) (.int 14 233)) :: ((.mk (PyData.keyHash P (.ofString "HIGH")) (.str (.ofString "HIGH") 236) (.int 16 235)) :: ((.mk (PyData.keyHash P (.ofString "FLAGS")) (.str (.ofString "FLAGS") 238) (.int 17 237)) :: ((.mk (PyData.keyHash P (.ofString "EVERYTHING")) (.str (.ofString "EVERYTHING") 244) (.int 262143 243)) :: ((.mk (PyData.keyHash P (.ofString "HELD")) (.str (.ofString "HELD") 253) (.int 26624 252)) :: ((.mk (PyData.keyHash P (.ofString "bit")) (.str (.ofString "bit") 260) (.ref 49)) :: ((.mk (PyData.keyHash P (.ofString "is_register_form")) (.str (.ofString "is_register_form") 267) (.ref 56)) :: ((.mk (PyData.keyHash P (.ofString "is_immediate_form")) (.str (.ofString "is_immediate_form") 274) (.ref 63)) :: ((.mk (PyData.keyHash P (.ofString "is_conditional")) (.str (.ofString "is_conditional") 281) (.ref 70)) :: ((.mk (PyData.keyHash P (.ofString "sets_flags")) (.str (.ofString "sets_flags") 289) (.ref 77)) :: ((.mk (PyData.keyHash P (.ofString "memory_reads")) (.str (.ofString "memory_reads") 297) (.ref 84)) :: ((.mk (PyData.keyHash P (.ofString "branch_reads")) (.str (.ofString "branch_reads") 306) (.ref 91)) :: ((.mk (PyData.keyHash P (.ofString "reads")) (.str (.ofString "reads") 314) (.ref 98)) :: ((.mk (PyData.keyHash P (.ofString "call_writes")) (.str (.ofString "call_writes") 320) (.ref 105)) :: ((.mk (PyData.keyHash P (.ofString "writes")) (.str (.ofString "writes") 329) (.ref 112)) :: ((.mk (PyData.keyHash P (.ofString "leaves_unknown")) (.str (.ofString "leaves_unknown") 338) (.ref 119)) :: ((.mk (PyData.keyHash P (.ofString "live_before")) (.str (.ofString "live_before") 346) (.ref 126)) :: ((.mk (PyData.keyHash P (.ofString "liveness")) (.str (.ofString "liveness") 352) (.ref 131)) :: ((.mk (PyData.keyHash P (.ofString "is_live")) (.str (.ofString "is_live") 360) (.ref 138)) :: ((.mk (PyData.keyHash P (.ofString "MASK")) (.str (.ofString "MASK") 364) (.int 4294967295 363)) :: ((.mk (PyData.keyHash P (.ofString "SIGN")) (.str (.ofString "SIGN") 366) (.int 2147483648 365)) :: ((.mk (PyData.keyHash P (.ofString "to_signed")) (.str (.ofString "to_signed") 373) (.ref 145)) :: ((.mk (PyData.keyHash P (.ofString "flagged")) (.str (.ofString "flagged") 383) (.ref 153)) :: ((.mk (PyData.keyHash P (.ofString "add")) (.str (.ofString "add") 395) (.ref 160)) :: ((.mk (PyData.keyHash P (.ofString "sub")) (.str (.ofString "sub") 406) (.ref 167)) :: ((.mk (PyData.keyHash P (.ofString "mul")) (.str (.ofString "mul") 417) (.ref 174)) :: ((.mk (PyData.keyHash P (.ofString "div")) (.str (.ofString "div") 428) (.ref 181)) :: ((.mk (PyData.keyHash P (.ofString "shift_left")) (.str (.ofString "shift_left") 436) (.ref 188)) :: ((.mk (PyData.keyHash P (.ofString "shift_arith")) (.str (.ofString "shift_arith") 444) (.ref 195)) :: ((.mk (PyData.keyHash P (.ofString "rotate")) (.str (.ofString "rotate") 453) (.ref 202)) :: ((.mk (PyData.keyHash P (.ofString "bitwise")) (.str (.ofString "bitwise") 462) (.ref 209)) :: ((.mk (PyData.keyHash P (.ofString "operate")) (.str (.ofString "operate") 471) (.ref 216)) :: ((.mk (PyData.keyHash P (.ofString "condition_number")) (.str (.ofString "condition_number") 479) (.ref 223)) :: ((.mk (PyData.keyHash P (.ofString "holds")) (.str (.ofString "holds") 493) (.ref 230)) :: ((.mk (PyData.keyHash P (.ofString "YardError")) (.str (.ofString "YardError") 515) (.ref 240)) :: ((.mk (PyData.keyHash P (.ofString "TrapError")) (.str (.ofString "TrapError") 544) (.ref 260)) :: ((.mk (PyData.keyHash P (.ofString "BadRow")) (.str (.ofString "BadRow") 569) (.ref 279)) :: ((.mk (PyData.keyHash P (.ofString "WORD_cpu")) (.str (.ofString "WORD_cpu") 573) (.int 4294967296 572)) :: ((.mk (PyData.keyHash P (.ofString "LINK_cpu")) (.str (.ofString "LINK_cpu") 575) (.int 15 574)) :: ((.mk (PyData.keyHash P (.ofString "Cpu")) (.str (.ofString "Cpu") 681) (.ref 347)) :: [])))))))))))))))))))))))))))))))))))))))))))))))))))))))))) 57) (.mk []))
noncomputable def o_332 (P : Params) : Obj := (.mk .none .none (.fields (.mk ((.int 4 0) :: ((.int 0 0) :: ((.ref 20) :: ((.int 6 0) :: ((.int 0 0) :: ((.ref 27) :: ((.int 13 0) :: ((.int 0 0) :: ((.ref 34) :: ((.int 15 0) :: ((.int 0 0) :: ((.ref 41) :: ((.int 33 0) :: ((.int 0 0) :: ((.ref 48) :: ((.int 35 0) :: ((.int 0 0) :: ((.ref 55) :: ((.int 37 0) :: ((.int 0 0) :: ((.ref 62) :: ((.int 39 0) :: ((.int 0 0) :: ((.ref 69) :: ((.int 41 0) :: ((.int 0 0) :: ((.ref 76) :: ((.int 46 0) :: ((.int 0 0) :: ((.ref 83) :: ((.int 51 0) :: ((.int 0 0) :: ((.ref 90) :: ((.int 63 0) :: ((.int 0 0) :: ((.ref 97) :: ((.int 78 0) :: ((.int 0 0) :: ((.ref 104) :: ((.int 80 0) :: ((.int 0 0) :: ((.ref 111) :: ((.int 94 0) :: ((.int 0 0) :: ((.ref 118) :: ((.int 101 0) :: ((.int 0 0) :: ((.ref 125) :: ((.int 103 0) :: ((.int 0 0) :: ((.ref 130) :: ((.int 129 0) :: ((.int 0 0) :: ((.ref 137) :: ((.int 134 0) :: ((.int 0 0) :: ((.ref 144) :: ((.int 136 0) :: ((.int 0 0) :: ((.ref 152) :: ((.int 138 0) :: ((.int 0 0) :: ((.ref 159) :: ((.int 144 0) :: ((.int 0 0) :: ((.ref 166) :: ((.int 149 0) :: ((.int 0 0) :: ((.ref 173) :: ((.int 154 0) :: ((.int 0 0) :: ((.ref 180) :: ((.int 160 0) :: ((.int 0 0) :: ((.ref 187) :: ((.int 162 0) :: ((.int 0 0) :: ((.ref 194) :: ((.int 164 0) :: ((.int 0 0) :: ((.ref 201) :: ((.int 167 0) :: ((.int 0 0) :: ((.ref 208) :: ((.int 177 0) :: ((.int 0 0) :: ((.ref 215) :: ((.int 195 0) :: ((.int 0 0) :: ((.ref 222) :: ((.int 198 0) :: ((.int 0 0) :: ((.ref 229) :: ((.int 204 0) :: ((.int 0 0) :: ((.ref 236) :: ((.int 206 0) :: ((.int 0 0) :: ((.ref 249) :: ((.int 212 0) :: ((.int 0 0) :: ((.ref 268) :: ((.int 219 0) :: ((.int 0 0) :: ((.ref 287) :: []))))))))))))))))))))))))))))))))))))))))))))))))))))))))))))))))))))))))))))))))))))))))))))))))))))))))))) (.mk []))
noncomputable def o_333 (P : Params) : Obj := (.mk (.type "tuple") .none (.seq (.mk []) 0) (.mk []))
noncomputable def o_334 (P : Params) : Obj := (.mk (.type "builtin_function_or_method") .none (.fields (.mk ((.builtin "type.__prepare__") :: ((.type "type") :: [])))) (.mk []))
noncomputable def o_335 (P : Params) : Obj := (.mk (.type "dict") .none (.dict (.mk ((.mk (PyData.keyHash P (.ofString "__module__")) (.str (.ofString "__module__") 583) (.str (.ofString "moduleyard.cpu") 570)) :: ((.mk (PyData.keyHash P (.ofString "__qualname__")) (.str (.ofString "__qualname__") 585) (.str (.ofString "Cpu") 584)) :: ((.mk (PyData.keyHash P (.ofString "__firstlineno__")) (.str (.ofString "__firstlineno__") 587) (.int 219 586)) :: ((.mk (PyData.keyHash P (.ofString "__init__")) (.str (.ofString "__init__") 595) (.ref 295)) :: ((.mk (PyData.keyHash P (.ofString "step")) (.str (.ofString "step") 605) (.ref 302)) :: ((.mk (PyData.keyHash P (.ofString "transfer")) (.str (.ofString "transfer") 615) (.ref 309)) :: ((.mk (PyData.keyHash P (.ofString "flags")) (.str (.ofString "flags") 622) (.ref 316)) :: ((.mk (PyData.keyHash P (.ofString "branch")) (.str (.ofString "branch") 632) (.ref 323)) :: ((.mk (PyData.keyHash P (.ofString "set_result")) (.str (.ofString "set_result") 641) (.ref 330)) :: ((.mk (PyData.keyHash P (.ofString "calculate")) (.str (.ofString "calculate") 654) (.ref 337)) :: ((.mk (PyData.keyHash P (.ofString "run")) (.str (.ofString "run") 664) (.ref 344)) :: ((.mk (PyData.keyHash P (.ofString "__static_attributes__")) (.str (.ofString "__static_attributes__") 674) (.ref 345)) :: []))))))))))))) 12) (.mk []))
noncomputable def o_336 (P : Params) : Obj := (.mk (.type "tuple") .none (.seq (.mk []) 0) (.mk []))
noncomputable def o_337 (P : Params) : Obj := (.mk .none .none (.fields (.mk ((.int 221 0) :: ((.int 4 0) :: ((.ref 294) :: ((.int 232 0) :: ((.int 4 0) :: ((.ref 301) :: ((.int 254 0) :: ((.int 4 0) :: ((.ref 308) :: ((.int 264 0) :: ((.int 4 0) :: ((.ref 315) :: ((.int 267 0) :: ((.int 4 0) :: ((.ref 322) :: ((.int 281 0) :: ((.int 4 0) :: ((.ref 329) :: ((.int 288 0) :: ((.int 4 0) :: ((.ref 336) :: ((.int 305 0) :: ((.int 4 0) :: ((.ref 343) :: [])))))))))))))))))))))))))) (.mk []))
noncomputable def o_338 (P : Params) : Obj := (.mk (.type "code") .none (.fields (.mk ((.str (.ofString "Cpu") 578) :: ((.str (.ofString "Cpu") 579) :: ((.str (.ofString "/claim/cut.py") 580) :: ((.int 219 0) :: ((.int 0 0) :: ((.int 0 0) :: ((.int 0 0) :: ((.int 0 0) :: ((.ref 285) :: ((.bool false) :: ((.int 181 0) :: ((.ref 286) :: (.none :: (.none :: (.none :: (.none :: ((.int 581 0) :: ((.int 219 0) :: ((.str (.ofString "/claim/cut.py") 582) :: []))))))))))))))))))))) (.mk []))
noncomputable def o_339 (P : Params) : Obj := (.mk (.type "frame") .none .plain (.mk ((.some (.ref 287)) :: ((.some (.ref 3)) :: ((.some (.ref 284)) :: (.none :: ((.some (.str (.ofString "moduleyard.cpu") 570)) :: (.none :: ((.some (.ref 0)) :: [])))))))))
noncomputable def o_340 (P : Params) : Obj := (.mk (.type "tuple") .none (.seq (.mk []) 0) (.mk []))
noncomputable def o_341 (P : Params) : Obj := (.mk .none .none (.fields (.mk [])) (.mk []))
noncomputable def o_342 (P : Params) : Obj := (.mk (.type "tuple") .none (.seq (.mk ((.str (.ofString "self") 591) :: ((.str (.ofString "memory") 592) :: []))) 0) (.mk []))
noncomputable def o_343 (P : Params) : Obj := (.mk (.type "tuple") .none (.seq (.mk []) 0) (.mk []))
noncomputable def o_344 (P : Params) : Obj := (.mk .none .none (.func (.mk (.ofString "__init__") (.ofString "Cpu.__init__") R_Cpu_init.1 (.stmts R_Cpu_init.2.1) R_Cpu_init.2.2 0 [] .none .none .none .none .none .none .none 0)) (.mk []))
noncomputable def o_345 (P : Params) : Obj := (.mk (.type "code") .none (.fields (.mk ((.str (.ofString "__init__") 588) :: ((.str (.ofString "Cpu.__init__") 589) :: ((.str (.ofString "/claim/cut.py") 590) :: ((.int 221 0) :: ((.int 2 0) :: ((.int 0 0) :: ((.int 0 0) :: ((.int 3 0) :: ((.ref 289) :: ((.bool true) :: ((.int 181 0) :: ((.ref 290) :: (.none :: ((.ref 291) :: ((.ref 292) :: ((.ref 293) :: ((.int 593 0) :: ((.int 221 0) :: ((.str (.ofString "/claim/cut.py") 594) :: []))))))))))))))))))))) (.mk []))
noncomputable def o_346 (P : Params) : Obj := (.mk (.type "function") .none (.func (.mk (.ofString "__init__") (.ofString "Cpu.__init__") R_Cpu_init.1 (.stmts R_Cpu_init.2.1) R_Cpu_init.2.2 3 [] .none .none .none (.str (.ofString "moduleyard.cpu") 570) .none (.ref 294) .none 0)) (.mk []))
noncomputable def o_347 (P : Params) : Obj := (.mk (.type "tuple") .none (.seq (.mk []) 0) (.mk []))
noncomputable def o_348 (P : Params) : Obj := (.mk .none .none (.fields (.mk [])) (.mk []))
noncomputable def o_349 (P : Params) : Obj := (.mk (.type "tuple") .none (.seq (.mk ((.str (.ofString "self") 599) :: ((.str (.ofString "row") 600) :: ((.str (.ofString "name") 601) :: ((.str (.ofString "trap") 602) :: []))))) 0) (.mk []))
noncomputable def o_350 (P : Params) : Obj := (.mk (.type "tuple") .none (.seq (.mk []) 0) (.mk []))
noncomputable def o_351 (P : Params) : Obj := (.mk .none .none (.func (.mk (.ofString "step") (.ofString "Cpu.step") R_Cpu_step.1 (.stmts R_Cpu_step.2.1) R_Cpu_step.2.2 0 [] .none .none .none .none .none .none .none 0)) (.mk []))
noncomputable def o_352 (P : Params) : Obj := (.mk (.type "code") .none (.fields (.mk ((.str (.ofString "step") 596) :: ((.str (.ofString "Cpu.step") 597) :: ((.str (.ofString "/claim/cut.py") 598) :: ((.int 232 0) :: ((.int 1 0) :: ((.int 0 0) :: ((.int 0 0) :: ((.int 3 0) :: ((.ref 296) :: ((.bool true) :: ((.int 181 0) :: ((.ref 297) :: (.none :: ((.ref 298) :: ((.ref 299) :: ((.ref 300) :: ((.int 603 0) :: ((.int 232 0) :: ((.str (.ofString "/claim/cut.py") 604) :: []))))))))))))))))))))) (.mk []))
noncomputable def o_353 (P : Params) : Obj := (.mk (.type "function") .none (.func (.mk (.ofString "step") (.ofString "Cpu.step") R_Cpu_step.1 (.stmts R_Cpu_step.2.1) R_Cpu_step.2.2 3 [] .none .none .none (.str (.ofString "moduleyard.cpu") 570) .none (.ref 301) .none 0)) (.mk []))
noncomputable def o_354 (P : Params) : Obj := (.mk (.type "tuple") .none (.seq (.mk []) 0) (.mk []))
noncomputable def o_355 (P : Params) : Obj := (.mk .none .none (.fields (.mk [])) (.mk []))
noncomputable def o_356 (P : Params) : Obj := (.mk (.type "tuple") .none (.seq (.mk ((.str (.ofString "self") 609) :: ((.str (.ofString "name") 610) :: ((.str (.ofString "register") 611) :: ((.str (.ofString "address") 612) :: []))))) 0) (.mk []))
noncomputable def o_357 (P : Params) : Obj := (.mk (.type "tuple") .none (.seq (.mk []) 0) (.mk []))
noncomputable def o_358 (P : Params) : Obj := (.mk .none .none (.func (.mk (.ofString "transfer") (.ofString "Cpu.transfer") R_Cpu_transfer.1 (.stmts R_Cpu_transfer.2.1) R_Cpu_transfer.2.2 0 [] .none .none .none .none .none .none .none 0)) (.mk []))
noncomputable def o_359 (P : Params) : Obj := (.mk (.type "code") .none (.fields (.mk ((.str (.ofString "transfer") 606) :: ((.str (.ofString "Cpu.transfer") 607) :: ((.str (.ofString "/claim/cut.py") 608) :: ((.int 254 0) :: ((.int 4 0) :: ((.int 0 0) :: ((.int 0 0) :: ((.int 3 0) :: ((.ref 303) :: ((.bool true) :: ((.int 181 0) :: ((.ref 304) :: (.none :: ((.ref 305) :: ((.ref 306) :: ((.ref 307) :: ((.int 613 0) :: ((.int 254 0) :: ((.str (.ofString "/claim/cut.py") 614) :: []))))))))))))))))))))) (.mk []))
noncomputable def o_360 (P : Params) : Obj := (.mk (.type "function") .none (.func (.mk (.ofString "transfer") (.ofString "Cpu.transfer") R_Cpu_transfer.1 (.stmts R_Cpu_transfer.2.1) R_Cpu_transfer.2.2 3 [] .none .none .none (.str (.ofString "moduleyard.cpu") 570) .none (.ref 308) .none 0)) (.mk []))
noncomputable def o_361 (P : Params) : Obj := (.mk (.type "tuple") .none (.seq (.mk []) 0) (.mk []))
noncomputable def o_362 (P : Params) : Obj := (.mk .none .none (.fields (.mk [])) (.mk []))
noncomputable def o_363 (P : Params) : Obj := (.mk (.type "tuple") .none (.seq (.mk ((.str (.ofString "self") 619) :: [])) 0) (.mk []))
noncomputable def o_364 (P : Params) : Obj := (.mk (.type "tuple") .none (.seq (.mk []) 0) (.mk []))
noncomputable def o_365 (P : Params) : Obj := (.mk .none .none (.func (.mk (.ofString "flags") (.ofString "Cpu.flags") R_Cpu_flags.1 (.stmts R_Cpu_flags.2.1) R_Cpu_flags.2.2 0 [] .none .none .none .none .none .none .none 0)) (.mk []))
noncomputable def o_366 (P : Params) : Obj := (.mk (.type "code") .none (.fields (.mk ((.str (.ofString "flags") 616) :: ((.str (.ofString "Cpu.flags") 617) :: ((.str (.ofString "/claim/cut.py") 618) :: ((.int 264 0) :: ((.int 1 0) :: ((.int 0 0) :: ((.int 0 0) :: ((.int 3 0) :: ((.ref 310) :: ((.bool true) :: ((.int 181 0) :: ((.ref 311) :: (.none :: ((.ref 312) :: ((.ref 313) :: ((.ref 314) :: ((.int 620 0) :: ((.int 264 0) :: ((.str (.ofString "/claim/cut.py") 621) :: []))))))))))))))))))))) (.mk []))
noncomputable def o_367 (P : Params) : Obj := (.mk (.type "function") .none (.func (.mk (.ofString "flags") (.ofString "Cpu.flags") R_Cpu_flags.1 (.stmts R_Cpu_flags.2.1) R_Cpu_flags.2.2 3 [] .none .none .none (.str (.ofString "moduleyard.cpu") 570) .none (.ref 315) .none 0)) (.mk []))
noncomputable def o_368 (P : Params) : Obj := (.mk (.type "tuple") .none (.seq (.mk []) 0) (.mk []))
noncomputable def o_369 (P : Params) : Obj := (.mk .none .none (.fields (.mk [])) (.mk []))
noncomputable def o_370 (P : Params) : Obj := (.mk (.type "tuple") .none (.seq (.mk ((.str (.ofString "self") 626) :: ((.str (.ofString "name") 627) :: ((.str (.ofString "row") 628) :: ((.str (.ofString "target") 629) :: []))))) 0) (.mk []))
noncomputable def o_371 (P : Params) : Obj := (.mk (.type "tuple") .none (.seq (.mk []) 0) (.mk []))
noncomputable def o_372 (P : Params) : Obj := (.mk .none .none (.func (.mk (.ofString "branch") (.ofString "Cpu.branch") R_Cpu_branch.1 (.stmts R_Cpu_branch.2.1) R_Cpu_branch.2.2 0 [] .none .none .none .none .none .none .none 0)) (.mk []))
noncomputable def o_373 (P : Params) : Obj := (.mk (.type "code") .none (.fields (.mk ((.str (.ofString "branch") 623) :: ((.str (.ofString "Cpu.branch") 624) :: ((.str (.ofString "/claim/cut.py") 625) :: ((.int 267 0) :: ((.int 3 0) :: ((.int 0 0) :: ((.int 0 0) :: ((.int 3 0) :: ((.ref 317) :: ((.bool true) :: ((.int 181 0) :: ((.ref 318) :: (.none :: ((.ref 319) :: ((.ref 320) :: ((.ref 321) :: ((.int 630 0) :: ((.int 267 0) :: ((.str (.ofString "/claim/cut.py") 631) :: []))))))))))))))))))))) (.mk []))
noncomputable def o_374 (P : Params) : Obj := (.mk (.type "function") .none (.func (.mk (.ofString "branch") (.ofString "Cpu.branch") R_Cpu_branch.1 (.stmts R_Cpu_branch.2.1) R_Cpu_branch.2.2 3 [] .none .none .none (.str (.ofString "moduleyard.cpu") 570) .none (.ref 322) .none 0)) (.mk []))
noncomputable def o_375 (P : Params) : Obj := (.mk (.type "tuple") .none (.seq (.mk []) 0) (.mk []))
noncomputable def o_376 (P : Params) : Obj := (.mk .none .none (.fields (.mk [])) (.mk []))
noncomputable def o_377 (P : Params) : Obj := (.mk (.type "tuple") .none (.seq (.mk ((.str (.ofString "self") 636) :: ((.str (.ofString "register") 637) :: ((.str (.ofString "result") 638) :: [])))) 0) (.mk []))
noncomputable def o_378 (P : Params) : Obj := (.mk (.type "tuple") .none (.seq (.mk []) 0) (.mk []))
noncomputable def o_379 (P : Params) : Obj := (.mk .none .none (.func (.mk (.ofString "set_result") (.ofString "Cpu.set_result") R_Cpu_set_result.1 (.stmts R_Cpu_set_result.2.1) R_Cpu_set_result.2.2 0 [] .none .none .none .none .none .none .none 0)) (.mk []))
noncomputable def o_380 (P : Params) : Obj := (.mk (.type "code") .none (.fields (.mk ((.str (.ofString "set_result") 633) :: ((.str (.ofString "Cpu.set_result") 634) :: ((.str (.ofString "/claim/cut.py") 635) :: ((.int 281 0) :: ((.int 3 0) :: ((.int 0 0) :: ((.int 0 0) :: ((.int 3 0) :: ((.ref 324) :: ((.bool true) :: ((.int 181 0) :: ((.ref 325) :: (.none :: ((.ref 326) :: ((.ref 327) :: ((.ref 328) :: ((.int 639 0) :: ((.int 281 0) :: ((.str (.ofString "/claim/cut.py") 640) :: []))))))))))))))))))))) (.mk []))
noncomputable def o_381 (P : Params) : Obj := (.mk (.type "function") .none (.func (.mk (.ofString "set_result") (.ofString "Cpu.set_result") R_Cpu_set_result.1 (.stmts R_Cpu_set_result.2.1) R_Cpu_set_result.2.2 3 [] .none .none .none (.str (.ofString "moduleyard.cpu") 570) .none (.ref 329) .none 0)) (.mk []))
noncomputable def o_382 (P : Params) : Obj := (.mk (.type "tuple") .none (.seq (.mk []) 0) (.mk []))
noncomputable def o_383 (P : Params) : Obj := (.mk .none .none (.fields (.mk [])) (.mk []))
noncomputable def o_384 (P : Params) : Obj := (.mk (.type "tuple") .none (.seq (.mk ((.str (.ofString "self") 645) :: ((.str (.ofString "name") 646) :: ((.str (.ofString "row") 647) :: ((.str (.ofString "right") 648) :: ((.str (.ofString "found") 649) :: ((.str (.ofString "result") 650) :: ((.str (.ofString "high") 651) :: [])))))))) 0) (.mk []))
noncomputable def o_385 (P : Params) : Obj := (.mk (.type "tuple") .none (.seq (.mk []) 0) (.mk []))
noncomputable def o_386 (P : Params) : Obj := (.mk .none .none (.func (.mk (.ofString "calculate") (.ofString "Cpu.calculate") R_Cpu_calculate.1 (.stmts R_Cpu_calculate.2.1) R_Cpu_calculate.2.2 0 [] .none .none .none .none .none .none .none 0)) (.mk []))
noncomputable def o_387 (P : Params) : Obj := (.mk (.type "code") .none (.fields (.mk ((.str (.ofString "calculate") 642) :: ((.str (.ofString "Cpu.calculate") 643) :: ((.str (.ofString "/claim/cut.py") 644) :: ((.int 288 0) :: ((.int 3 0) :: ((.int 0 0) :: ((.int 0 0) :: ((.int 3 0) :: ((.ref 331) :: ((.bool true) :: ((.int 181 0) :: ((.ref 332) :: (.none :: ((.ref 333) :: ((.ref 334) :: ((.ref 335) :: ((.int 652 0) :: ((.int 288 0) :: ((.str (.ofString "/claim/cut.py") 653) :: []))))))))))))))))))))) (.mk []))
noncomputable def o_388 (P : Params) : Obj := (.mk (.type "function") .none (.func (.mk (.ofString "calculate") (.ofString "Cpu.calculate") R_Cpu_calculate.1 (.stmts R_Cpu_calculate.2.1) R_Cpu_calculate.2.2 3 [] .none .none .none (.str (.ofString "moduleyard.cpu") 570) .none (.ref 336) .none 0)) (.mk []))
noncomputable def o_389 (P : Params) : Obj := (.mk (.type "tuple") .none (.seq (.mk []) 0) (.mk []))
noncomputable def o_390 (P : Params) : Obj := (.mk .none .none (.fields (.mk [])) (.mk []))
noncomputable def o_391 (P : Params) : Obj := (.mk (.type "tuple") .none (.seq (.mk ((.str (.ofString "self") 658) :: ((.str (.ofString "limit") 659) :: ((.str (.ofString "steps") 660) :: ((.str (.ofString "trap") 661) :: []))))) 0) (.mk []))
noncomputable def o_392 (P : Params) : Obj := (.mk (.type "tuple") .none (.seq (.mk []) 0) (.mk []))
noncomputable def o_393 (P : Params) : Obj := (.mk .none .none (.func (.mk (.ofString "run") (.ofString "Cpu.run") R_Cpu_run.1 (.stmts R_Cpu_run.2.1) R_Cpu_run.2.2 0 [] .none .none .none .none .none .none .none 0)) (.mk []))
noncomputable def o_394 (P : Params) : Obj := (.mk (.type "code") .none (.fields (.mk ((.str (.ofString "run") 655) :: ((.str (.ofString "Cpu.run") 656) :: ((.str (.ofString "/claim/cut.py") 657) :: ((.int 305 0) :: ((.int 2 0) :: ((.int 0 0) :: ((.int 0 0) :: ((.int 3 0) :: ((.ref 338) :: ((.bool true) :: ((.int 181 0) :: ((.ref 339) :: (.none :: ((.ref 340) :: ((.ref 341) :: ((.ref 342) :: ((.int 662 0) :: ((.int 305 0) :: ((.str (.ofString "/claim/cut.py") 663) :: []))))))))))))))))))))) (.mk []))
noncomputable def o_395 (P : Params) : Obj := (.mk (.type "function") .none (.func (.mk (.ofString "run") (.ofString "Cpu.run") R_Cpu_run.1 (.stmts R_Cpu_run.2.1) R_Cpu_run.2.2 3 [] .none .none .none (.str (.ofString "moduleyard.cpu") 570) .none (.ref 343) .none 0)) (.mk []))
noncomputable def o_396 (P : Params) : Obj := (.mk (.type "tuple") .none (.seq (.mk ((.str (.ofString "c") 665) :: ((.str (.ofString "h") 666) :: ((.str (.ofString "memory") 667) :: ((.str (.ofString "n") 668) :: ((.str (.ofString "pc") 669) :: ((.str (.ofString "regs") 670) :: ((.str (.ofString "rows") 671) :: ((.str (.ofString "v") 672) :: ((.str (.ofString "z") 673) :: [])))))))))) 0) (.mk []))
noncomputable def o_397 (P : Params) : Obj := (.mk (.type "dict") .none (.dict (.mk ((.mk (PyData.keyHash P (.ofString "__module__")) (.str (.ofString "__module__") 583) (.str (.ofString "moduleyard.cpu") 570)) :: ((.mk (PyData.keyHash P (.ofString "__firstlineno__")) (.str (.ofString "__firstlineno__") 587) (.int 219 586)) :: ((.mk (PyData.keyHash P (.ofString "__init__")) (.str (.ofString "__init__") 595) (.ref 295)) :: ((.mk (PyData.keyHash P (.ofString "step")) (.str (.ofString "step") 605) (.ref 302)) :: ((.mk (PyData.keyHash P (.ofString "transfer")) (.str (.ofString "transfer") 615) (.ref 309)) :: ((.mk (PyData.keyHash P (.ofString "flags")) (.str (.ofString "flags") 622) (.ref 316)) :: ((.mk (PyData.keyHash P (.ofString "branch")) (.str (.ofString "branch") 632) (.ref 323)) :: ((.mk (PyData.keyHash P (.ofString "set_result")) (.str (.ofString "set_result") 641) (.ref 330)) :: ((.mk (PyData.keyHash P (.ofString "calculate")) (.str (.ofString "calculate") 654) (.ref 337)) :: ((.mk (PyData.keyHash P (.ofString "run")) (.str (.ofString "run") 664) (.ref 344)) :: ((.mk (PyData.keyHash P (.ofString "__static_attributes__")) (.str (.ofString "__static_attributes__") 674) (.ref 345)) :: ((.mk (PyData.keyHash P (.ofString "__dict__")) (.str (.ofString "__dict__") 676) (.ref 348)) :: ((.mk (PyData.keyHash P (.ofString "__weakref__")) (.str (.ofString "__weakref__") 678) (.ref 349)) :: ((.mk (PyData.keyHash P (.ofString "__doc__")) (.str (.ofString "__doc__") 679) .none) :: []))))))))))))))) 4) (.mk []))
noncomputable def o_398 (P : Params) : Obj := (.mk (.type "type") .none (.cls (.mk (.ofString "Cpu") ((.type "object") :: []) ((.ref 347) :: ((.type "object") :: [])) 346 (.ofString "Cpu") true [] [] false .none false)) (.mk (.none :: (.none :: ((.some (.str (.ofString "Cpu") 576)) :: ((.some (.str (.ofString "Cpu") 584)) :: ((.some (.builtin "object.__new__")) :: ((.some (.bool true)) :: []))))))))
noncomputable def o_399 (P : Params) : Obj := (.mk (.type "getset_descriptor") .none (.fields (.mk ((.str (.ofString "__dict__") 675) :: ((.ref 347) :: ((.builtin "function.__dict__") :: ((.builtin "function.__dict__#set") :: [])))))) (.mk []))
noncomputable def o_400 (P : Params) : Obj := (.mk (.type "getset_descriptor") .none (.fields (.mk ((.str (.ofString "__weakref__") 677) :: ((.ref 347) :: ((.builtin "ExceptionGroup.__weakref__") :: (.none :: [])))))) (.mk []))
noncomputable def o_401 (P : Params) : Obj := (.mk (.type "super") .none (.fields (.mk ((.ref 347) :: ((.ref 347) :: ((.ref 347) :: []))))) (.mk []))
noncomputable def o_402 (P : Params) : Obj := (.mk (.type "builtin_function_or_method") .none (.fields (.mk ((.builtin "object.__init_subclass__") :: ((.ref 347) :: [])))) (.mk []))
noncomputable def o_405 (P : Params) : Obj := (.mk (.type "tuple") .none (.seq (.mk []) 0) (.mk []))
noncomputable def o_406 (P : Params) : Obj := (.mk .none .none (.fields (.mk [])) (.mk []))
noncomputable def o_407 (P : Params) : Obj := (.mk (.type "tuple") .none (.seq (.mk []) 0) (.mk []))
noncomputable def o_408 (P : Params) : Obj := (.mk (.type "tuple") .none (.seq (.mk []) 0) (.mk []))
noncomputable def o_409 (P : Params) : Obj := (.mk .none .none (.func (.mk (.ofString "register_names") (.ofString "register_names") R_register_names.1 (.stmts R_register_names.2.1) R_register_names.2.2 0 [] .none .none .none .none .none .none .none 0)) (.mk []))
noncomputable def o_410 (P : Params) : Obj := (.mk (.type "code") .none (.fields (.mk ((.str (.ofString "register_names") 682) :: ((.str (.ofString "register_names") 683) :: ((.str (.ofString "/claim/cut.py") 684) :: ((.int 311 0) :: ((.int 0 0) :: ((.int 0 0) :: ((.int 0 0) :: ((.int 3 0) :: ((.ref 352) :: ((.bool true) :: ((.int 181 0) :: ((.ref 353) :: (.none :: ((.ref 354) :: ((.ref 355) :: ((.ref 356) :: ((.int 685 0) :: ((.int 311 0) :: ((.str (.ofString "/claim/cut.py") 686) :: []))))))))))))))))))))) (.mk []))
noncomputable def o_411 (P : Params) : Obj := (.mk (.type "function") .none (.func (.mk (.ofString "register_names") (.ofString "register_names") R_register_names.1 (.stmts R_register_names.2.1) R_register_names.2.2 3 [] .none .none .none (.str (.ofString "moduleyard.cpu") 570) .none (.ref 357) .none 0)) (.mk []))
noncomputable def o_414 (P : Params) : Obj := (.mk (.type "tuple") .none (.seq (.mk []) 0) (.mk []))
noncomputable def o_415 (P : Params) : Obj := (.mk (.type "builtin_function_or_method") .none (.fields (.mk ((.builtin "type.__prepare__") :: ((.type "type") :: [])))) (.mk []))
noncomputable def o_416 (P : Params) : Obj := (.mk (.type "dict") .none (.dict (.mk ((.mk (PyData.keyHash P (.ofString "__module__")) (.str (.ofString "__module__") 699) (.str (.ofString "moduleyard.memory") 688)) :: ((.mk (PyData.keyHash P (.ofString "__qualname__")) (.str (.ofString "__qualname__") 701) (.str (.ofString "Memory") 700)) :: ((.mk (PyData.keyHash P (.ofString "__firstlineno__")) (.str (.ofString "__firstlineno__") 703) (.int 315 702)) :: ((.mk (PyData.keyHash P (.ofString "__init__")) (.str (.ofString "__init__") 711) (.ref 372)) :: ((.mk (PyData.keyHash P (.ofString "place")) (.str (.ofString "place") 719) (.ref 379)) :: ((.mk (PyData.keyHash P (.ofString "word")) (.str (.ofString "word") 727) (.ref 386)) :: ((.mk (PyData.keyHash P (.ofString "put_word")) (.str (.ofString "put_word") 736) (.ref 393)) :: ((.mk (PyData.keyHash P (.ofString "byte")) (.str (.ofString "byte") 744) (.ref 400)) :: ((.mk (PyData.keyHash P (.ofString "put_byte")) (.str (.ofString "put_byte") 755) (.ref 407)) :: ((.mk (PyData.keyHash P (.ofString "__static_attributes__")) (.str (.ofString "__static_attributes__") 758) (.ref 408)) :: []))))))))))) 10) (.mk []))
noncomputable def o_417 (P : Params) : Obj := (.mk (.type "tuple") .none (.seq (.mk []) 0) (.mk []))
noncomputable def o_418 (P : Params) : Obj := (.mk .none .none (.fields (.mk ((.int 317 0) :: ((.int 4 0) :: ((.ref 371) :: ((.int 321 0) :: ((.int 4 0) :: ((.ref 378) :: ((.int 326 0) :: ((.int 4 0) :: ((.ref 385) :: ((.int 329 0) :: ((.int 4 0) :: ((.ref 392) :: ((.int 332 0) :: ((.int 4 0) :: ((.ref 399) :: ((.int 335 0) :: ((.int 4 0) :: ((.ref 406) :: [])))))))))))))))))))) (.mk []))
noncomputable def o_419 (P : Params) : Obj := (.mk (.type "code") .none (.fields (.mk ((.str (.ofString "Memory") 694) :: ((.str (.ofString "Memory") 695) :: ((.str (.ofString "/claim/cut.py") 696) :: ((.int 315 0) :: ((.int 0 0) :: ((.int 0 0) :: ((.int 0 0) :: ((.int 0 0) :: ((.ref 362) :: ((.bool false) :: ((.int 181 0) :: ((.ref 363) :: (.none :: (.none :: (.none :: (.none :: ((.int 697 0) :: ((.int 315 0) :: ((.str (.ofString "/claim/cut.py") 698) :: []))))))))))))))))))))) (.mk []))
noncomputable def o_420 (P : Params) : Obj := (.mk (.type "frame") .none .plain (.mk ((.some (.ref 364)) :: ((.some (.ref 3)) :: ((.some (.ref 361)) :: (.none :: ((.some (.str (.ofString "moduleyard.memory") 688)) :: (.none :: ((.some (.ref 0)) :: [])))))))))
noncomputable def o_421 (P : Params) : Obj := (.mk (.type "tuple") .none (.seq (.mk []) 0) (.mk []))
noncomputable def o_422 (P : Params) : Obj := (.mk .none .none (.fields (.mk [])) (.mk []))
noncomputable def o_423 (P : Params) : Obj := (.mk (.type "tuple") .none (.seq (.mk ((.str (.ofString "self") 707) :: ((.str (.ofString "size") 708) :: []))) 0) (.mk []))
noncomputable def o_424 (P : Params) : Obj := (.mk (.type "tuple") .none (.seq (.mk []) 0) (.mk []))
noncomputable def o_425 (P : Params) : Obj := (.mk .none .none (.func (.mk (.ofString "__init__") (.ofString "Memory.__init__") R_Memory_init.1 (.stmts R_Memory_init.2.1) R_Memory_init.2.2 0 [] .none .none .none .none .none .none .none 0)) (.mk []))
noncomputable def o_426 (P : Params) : Obj := (.mk (.type "code") .none (.fields (.mk ((.str (.ofString "__init__") 704) :: ((.str (.ofString "Memory.__init__") 705) :: ((.str (.ofString "/claim/cut.py") 706) :: ((.int 317 0) :: ((.int 2 0) :: ((.int 0 0) :: ((.int 0 0) :: ((.int 3 0) :: ((.ref 366) :: ((.bool true) :: ((.int 181 0) :: ((.ref 367) :: (.none :: ((.ref 368) :: ((.ref 369) :: ((.ref 370) :: ((.int 709 0) :: ((.int 317 0) :: ((.str (.ofString "/claim/cut.py") 710) :: []))))))))))))))))))))) (.mk []))
noncomputable def o_427 (P : Params) : Obj := (.mk (.type "function") .none (.func (.mk (.ofString "__init__") (.ofString "Memory.__init__") R_Memory_init.1 (.stmts R_Memory_init.2.1) R_Memory_init.2.2 3 [] .none .none .none (.str (.ofString "moduleyard.memory") 688) .none (.ref 371) .none 0)) (.mk []))
noncomputable def o_428 (P : Params) : Obj := (.mk (.type "tuple") .none (.seq (.mk []) 0) (.mk []))
noncomputable def o_429 (P : Params) : Obj := (.mk .none .none (.fields (.mk [])) (.mk []))
noncomputable def o_430 (P : Params) : Obj := (.mk (.type "tuple") .none (.seq (.mk ((.str (.ofString "self") 715) :: ((.str (.ofString "address") 716) :: []))) 0) (.mk []))
noncomputable def o_431 (P : Params) : Obj := (.mk (.type "tuple") .none (.seq (.mk []) 0) (.mk []))
noncomputable def o_432 (P : Params) : Obj := (.mk .none .none (.func (.mk (.ofString "place") (.ofString "Memory.place") R_Memory_place.1 (.stmts R_Memory_place.2.1) R_Memory_place.2.2 0 [] .none .none .none .none .none .none .none 0)) (.mk []))
noncomputable def o_433 (P : Params) : Obj := (.mk (.type "code") .none (.fields (.mk ((.str (.ofString "place") 712) :: ((.str (.ofString "Memory.place") 713) :: ((.str (.ofString "/claim/cut.py") 714) :: ((.int 321 0) :: ((.int 2 0) :: ((.int 0 0) :: ((.int 0 0) :: ((.int 3 0) :: ((.ref 373) :: ((.bool true) :: ((.int 181 0) :: ((.ref 374) :: (.none :: ((.ref 375) :: ((.ref 376) :: ((.ref 377) :: ((.int 717 0) :: ((.int 321 0) :: ((.str (.ofString "/claim/cut.py") 718) :: []))))))))))))))))))))) (.mk []))
noncomputable def o_434 (P : Params) : Obj := (.mk (.type "function") .none (.func (.mk (.ofString "place") (.ofString "Memory.place") R_Memory_place.1 (.stmts R_Memory_place.2.1) R_Memory_place.2.2 3 [] .none .none .none (.str (.ofString "moduleyard.memory") 688) .none (.ref 378) .none 0)) (.mk []))
noncomputable def o_435 (P : Params) : Obj := (.mk (.type "tuple") .none (.seq (.mk []) 0) (.mk []))
noncomputable def o_436 (P : Params) : Obj := (.mk .none .none (.fields (.mk [])) (.mk []))
noncomputable def o_437 (P : Params) : Obj := (.mk (.type "tuple") .none (.seq (.mk ((.str (.ofString "self") 723) :: ((.str (.ofString "address") 724) :: []))) 0) (.mk []))
noncomputable def o_438 (P : Params) : Obj := (.mk (.type "tuple") .none (.seq (.mk []) 0) (.mk []))
noncomputable def o_439 (P : Params) : Obj := (.mk .none .none (.func (.mk (.ofString "word") (.ofString "Memory.word") R_Memory_word.1 (.stmts R_Memory_word.2.1) R_Memory_word.2.2 0 [] .none .none .none .none .none .none .none 0)) (.mk []))
noncomputable def o_440 (P : Params) : Obj := (.mk (.type "code") .none (.fields (.mk ((.str (.ofString "word") 720) :: ((.str (.ofString "Memory.word") 721) :: ((.str (.ofString "/claim/cut.py") 722) :: ((.int 326 0) :: ((.int 2 0) :: ((.int 0 0) :: ((.int 0 0) :: ((.int 3 0) :: ((.ref 380) :: ((.bool true) :: ((.int 181 0) :: ((.ref 381) :: (.none :: ((.ref 382) :: ((.ref 383) :: ((.ref 384) :: ((.int 725 0) :: ((.int 326 0) :: ((.str (.ofString "/claim/cut.py") 726) :: []))))))))))))))))))))) (.mk []))
noncomputable def o_441 (P : Params) : Obj := (.mk (.type "function") .none (.func (.mk (.ofString "word") (.ofString "Memory.word") R_Memory_word.1 (.stmts R_Memory_word.2.1) R_Memory_word.2.2 3 [] .none .none .none (.str (.ofString "moduleyard.memory") 688) .none (.ref 385) .none 0)) (.mk []))
noncomputable def o_442 (P : Params) : Obj := (.mk (.type "tuple") .none (.seq (.mk []) 0) (.mk []))
noncomputable def o_443 (P : Params) : Obj := (.mk .none .none (.fields (.mk [])) (.mk []))
noncomputable def o_444 (P : Params) : Obj := (.mk (.type "tuple") .none (.seq (.mk ((.str (.ofString "self") 731) :: ((.str (.ofString "address") 732) :: ((.str (.ofString "value") 733) :: [])))) 0) (.mk []))
noncomputable def o_445 (P : Params) : Obj := (.mk (.type "tuple") .none (.seq (.mk []) 0) (.mk []))
noncomputable def o_446 (P : Params) : Obj := (.mk .none .none (.func (.mk (.ofString "put_word") (.ofString "Memory.put_word") R_Memory_put_word.1 (.stmts R_Memory_put_word.2.1) R_Memory_put_word.2.2 0 [] .none .none .none .none .none .none .none 0)) (.mk []))
noncomputable def o_447 (P : Params) : Obj := (.mk (.type "code") .none (.fields (.mk ((.str (.ofString "put_word") 728) :: ((.str (.ofString "Memory.put_word") 729) :: ((.str (.ofString "/claim/cut.py") 730) :: ((.int 329 0) :: ((.int 3 0) :: ((.int 0 0) :: ((.int 0 0) :: ((.int 3 0) :: ((.ref 387) :: ((.bool true) :: ((.int 181 0) :: ((.ref 388) :: (.none :: ((.ref 389) :: ((.ref 390) :: ((.ref 391) :: ((.int 734 0) :: ((.int 329 0) :: ((.str (.ofString "/claim/cut.py") 735) :: []))))))))))))))))))))) (.mk []))
noncomputable def o_448 (P : Params) : Obj := (.mk (.type "function") .none (.func (.mk (.ofString "put_word") (.ofString "Memory.put_word") R_Memory_put_word.1 (.stmts R_Memory_put_word.2.1) R_Memory_put_word.2.2 3 [] .none .none .none (.str (.ofString "moduleyard.memory") 688) .none (.ref 392) .none 0)) (.mk []))
noncomputable def o_449 (P : Params) : Obj := (.mk (.type "tuple") .none (.seq (.mk []) 0) (.mk []))
noncomputable def o_450 (P : Params) : Obj := (.mk .none .none (.fields (.mk [])) (.mk []))
noncomputable def o_451 (P : Params) : Obj := (.mk (.type "tuple") .none (.seq (.mk ((.str (.ofString "self") 740) :: ((.str (.ofString "address") 741) :: []))) 0) (.mk []))
noncomputable def o_452 (P : Params) : Obj := (.mk (.type "tuple") .none (.seq (.mk []) 0) (.mk []))
noncomputable def o_453 (P : Params) : Obj := (.mk .none .none (.func (.mk (.ofString "byte") (.ofString "Memory.byte") R_Memory_byte.1 (.stmts R_Memory_byte.2.1) R_Memory_byte.2.2 0 [] .none .none .none .none .none .none .none 0)) (.mk []))
noncomputable def o_454 (P : Params) : Obj := (.mk (.type "code") .none (.fields (.mk ((.str (.ofString "byte") 737) :: ((.str (.ofString "Memory.byte") 738) :: ((.str (.ofString "/claim/cut.py") 739) :: ((.int 332 0) :: ((.int 2 0) :: ((.int 0 0) :: ((.int 0 0) :: ((.int 3 0) :: ((.ref 394) :: ((.bool true) :: ((.int 181 0) :: ((.ref 395) :: (.none :: ((.ref 396) :: ((.ref 397) :: ((.ref 398) :: ((.int 742 0) :: ((.int 332 0) :: ((.str (.ofString "/claim/cut.py") 743) :: []))))))))))))))))))))) (.mk []))
noncomputable def o_455 (P : Params) : Obj := (.mk (.type "function") .none (.func (.mk (.ofString "byte") (.ofString "Memory.byte") R_Memory_byte.1 (.stmts R_Memory_byte.2.1) R_Memory_byte.2.2 3 [] .none .none .none (.str (.ofString "moduleyard.memory") 688) .none (.ref 399) .none 0)) (.mk []))
noncomputable def o_456 (P : Params) : Obj := (.mk (.type "tuple") .none (.seq (.mk []) 0) (.mk []))
noncomputable def o_457 (P : Params) : Obj := (.mk .none .none (.fields (.mk [])) (.mk []))
noncomputable def o_458 (P : Params) : Obj := (.mk (.type "tuple") .none (.seq (.mk ((.str (.ofString "self") 748) :: ((.str (.ofString "address") 749) :: ((.str (.ofString "value") 750) :: ((.str (.ofString "shift") 751) :: ((.str (.ofString "rest") 752) :: [])))))) 0) (.mk []))
noncomputable def o_459 (P : Params) : Obj := (.mk (.type "tuple") .none (.seq (.mk []) 0) (.mk []))
noncomputable def o_460 (P : Params) : Obj := (.mk .none .none (.func (.mk (.ofString "put_byte") (.ofString "Memory.put_byte") R_Memory_put_byte.1 (.stmts R_Memory_put_byte.2.1) R_Memory_put_byte.2.2 0 [] .none .none .none .none .none .none .none 0)) (.mk []))
noncomputable def o_461 (P : Params) : Obj := (.mk (.type "code") .none (.fields (.mk ((.str (.ofString "put_byte") 745) :: ((.str (.ofString "Memory.put_byte") 746) :: ((.str (.ofString "/claim/cut.py") 747) :: ((.int 335 0) :: ((.int 3 0) :: ((.int 0 0) :: ((.int 0 0) :: ((.int 3 0) :: ((.ref 401) :: ((.bool true) :: ((.int 181 0) :: ((.ref 402) :: (.none :: ((.ref 403) :: ((.ref 404) :: ((.ref 405) :: ((.int 753 0) :: ((.int 335 0) :: ((.str (.ofString "/claim/cut.py") 754) :: []))))))))))))))))))))) (.mk []))
noncomputable def o_462 (P : Params) : Obj := (.mk (.type "function") .none (.func (.mk (.ofString "put_byte") (.ofString "Memory.put_byte") R_Memory_put_byte.1 (.stmts R_Memory_put_byte.2.1) R_Memory_put_byte.2.2 3 [] .none .none .none (.str (.ofString "moduleyard.memory") 688) .none (.ref 406) .none 0)) (.mk []))
noncomputable def o_463 (P : Params) : Obj := (.mk (.type "tuple") .none (.seq (.mk ((.str (.ofString "size") 756) :: ((.str (.ofString "words") 757) :: []))) 0) (.mk []))
noncomputable def o_464 (P : Params) : Obj := (.mk (.type "dict") .none (.dict (.mk ((.mk (PyData.keyHash P (.ofString "__module__")) (.str (.ofString "__module__") 699) (.str (.ofString "moduleyard.memory") 688)) :: ((.mk (PyData.keyHash P (.ofString "__firstlineno__")) (.str (.ofString "__firstlineno__") 703) (.int 315 702)) :: ((.mk (PyData.keyHash P (.ofString "__init__")) (.str (.ofString "__init__") 711) (.ref 372)) :: ((.mk (PyData.keyHash P (.ofString "place")) (.str (.ofString "place") 719) (.ref 379)) :: ((.mk (PyData.keyHash P (.ofString "word")) (.str (.ofString "word") 727) (.ref 386)) :: ((.mk (PyData.keyHash P (.ofString "put_word")) (.str (.ofString "put_word") 736) (.ref 393)) :: ((.mk (PyData.keyHash P (.ofString "byte")) (.str (.ofString "byte") 744) (.ref 400)) :: ((.mk (PyData.keyHash P (.ofString "put_byte")) (.str (.ofString "put_byte") 755) (.ref 407)) :: ((.mk (PyData.keyHash P (.ofString "__static_attributes__")) (.str (.ofString "__static_attributes__") 758) (.ref 408)) :: ((.mk (PyData.keyHash P (.ofString "__dict__")) (.str (.ofString "__dict__") 760) (.ref 411)) :: ((.mk (PyData.keyHash P (.ofString "__weakref__")) (.str (.ofString "__weakref__") 762) (.ref 412)) :: ((.mk (PyData.keyHash P (.ofString "__doc__")) (.str (.ofString "__doc__") 763) .none) :: []))))))))))))) 4) (.mk []))
noncomputable def o_465 (P : Params) : Obj := (.mk (.type "type") .none (.cls (.mk (.ofString "Memory") ((.type "object") :: []) ((.ref 410) :: ((.type "object") :: [])) 409 (.ofString "Memory") true [] [] false .none false)) (.mk (.none :: (.none :: ((.some (.str (.ofString "Memory") 692)) :: ((.some (.str (.ofString "Memory") 700)) :: ((.some (.builtin "object.__new__")) :: ((.some (.bool true)) :: []))))))))
noncomputable def o_466 (P : Params) : Obj := (.mk (.type "getset_descriptor") .none (.fields (.mk ((.str (.ofString "__dict__") 759) :: ((.ref 410) :: ((.builtin "function.__dict__") :: ((.builtin "function.__dict__#set") :: [])))))) (.mk []))
noncomputable def o_467 (P : Params) : Obj := (.mk (.type "getset_descriptor") .none (.fields (.mk ((.str (.ofString "__weakref__") 761) :: ((.ref 410) :: ((.builtin "ExceptionGroup.__weakref__") :: (.none :: [])))))) (.mk []))
noncomputable def o_468 (P : Params) : Obj := (.mk (.type "super") .none (.fields (.mk ((.ref 410) :: ((.ref 410) :: ((.ref 410) :: []))))) (.mk []))
noncomputable def o_469 (P : Params) : Obj := (.mk (.type "builtin_function_or_method") .none (.fields (.mk ((.builtin "object.__init_subclass__") :: ((.ref 410) :: [])))) (.mk []))
noncomputable def o_470 (P : Params) : Obj := (.mk (.type "dict") .none (.dict (.mk ((.mk (PyData.keyHash P (.ofString "__name__")) (.str (.ofString "__name__") 165) (.str (.ofString "law_pb0357_01") 766)) :: ((.mk (PyData.keyHash P (.ofString "__doc__")) (.str (.ofString "__doc__") 166) .none) :: ((.mk (PyData.keyHash P (.ofString "__package__")) (.str (.ofString "__package__") 167) .none) :: ((.mk (PyData.keyHash P (.ofString "__loader__")) (.str (.ofString "__loader__") 168) (.builtin "__main__.__loader__#opaque")) :: ((.mk (PyData.keyHash P (.ofString "__spec__")) (.str (.ofString "__spec__") 169) .none) :: ((.mk (PyData.keyHash P (.ofString "__annotations__")) (.str (.ofString "__annotations__") 170) (.ref 6)) :: ((.mk (PyData.keyHash P (.ofString "__builtins__")) (.str (.ofString "__builtins__") 171) (.ref 4)) :: ((.mk (PyData.keyHash P (.ofString "__file__")) (.str (.ofString "__file__") 173) (.str (.ofString "/claim/cut.py") 172)) :: ((.mk (PyData.keyHash P (.ofString "__cached__")) (.str (.ofString "__cached__") 174) .none) :: ((.mk (PyData.keyHash P (.ofString "LINK_flow")) (.str (.ofString "LINK_flow") 190) (.int 15 189)) :: ((.mk (PyData.keyHash P (.ofString "END_OF_COMMAND")) (.str (.ofString "END_OF_COMMAND") 192) (.int 9 191)) :: ((.mk (PyData.keyHash P (.ofString "target_of")) (.str (.ofString "target_of") 200) (.ref 21)) :: ((.mk (PyData.keyHash P (.ofString "falls_through")) (.str (.ofString "falls_through") 208) (.ref 28)) :: ((.mk (PyData.keyHash P (.ofString "can_jump")) (.str (.ofString "can_jump") 215) (.ref 35)) :: ((.mk (PyData.keyHash P (.ofString "successors")) (.str (.ofString "successors") 226) (.ref 42)) :: ((.mk (PyData.keyHash P (.ofString "FRAME")) (.str (.ofString "FRAME") 230) (.int 11 229)) :: ((.mk (PyData.keyHash P (.ofString "STATIC")) (.str (.ofString "STATIC") 232) (.int 13 231)) :: ((.mk (PyData.keyHash P (.ofString "STACK")) (.str (.ofString "STACK") 234) (.int 14 233)) :: ((.mk (PyData.keyHash P (.ofString "HIGH")) (.str (.ofString "HIGH") 236) (.int 16 235)) :: ((.mk (PyData.keyHash P (.ofString "FLAGS")) (.str (.ofString "FLAGS") 238) (.int 17 237)) :: ((.mk (PyData.keyHash P (.ofString "EVERYTHING")) (.str (.ofString "EVERYTHING") 244) (.int 262143 243)) :: ((.mk (PyData.keyHash P (.ofString "HELD")) (.str (.ofString "HELD") 253) (.int 26624 252)) :: ((.mk (PyData.keyHash P (.ofString "bit")) (.str (.ofString "bit") 260) (.ref 49)) :: ((.mk (PyData.keyHash P (.ofString "is_register_form")) (.str (.ofString "is_register_form") 267) (.ref 56)) :: ((.mk (PyData.keyHash P (.ofString "is_immediate_form")) (.str (.ofString "is_immediate_form") 274) (.ref 63)) :: ((.mk (PyData.keyHash P (.ofString "is_conditional")) (.str (.ofString "is_conditional") 281) (.ref 70)) :: ((.mk (PyData.keyHash P (.ofString "sets_flags")) (.str (.ofString "sets_flags") 289) (.ref 77)) :: ((.mk (PyData.keyHash P (.ofString "memory_reads")) (.str (.ofString "memory_reads") 297) (.ref 84)) :: ((.mk (PyData.keyHash P (.ofString "branch_reads")) (.str (.ofString "branch_reads") 306) (.ref 91)) :: ((.mk (PyData.keyHash P (.ofString "reads")) (.str (.ofString "reads") 314) (.ref 98)) :: ((.mk (PyData.keyHash P (.ofString "call_writes")) (.str (.ofString "call_writes") 320) (.ref 105)) :: ((.mk (PyData.keyHash P (.ofString "writes")) (.str (.ofString "writes") 329) (.ref 112)) :: ((.mk (PyData.keyHash P (.ofString "leaves_unknown")) (.str (.ofString "leaves_unknown") 338) (.ref 119)) :: ((.mk (PyData.keyHash P (.ofString "live_before")) (.str (.ofString "live_before") 346) (.ref 126)) :: ((.mk (PyData.keyHash P (.ofString "liveness")) (.str (.ofString "liveness") 352) (.ref 131)) :: ((.mk (PyData.keyHash P (.ofString "is_live")) (.str (.ofString "is_live") 360) (.ref 138)) :: ((.mk (PyData.keyHash P (.ofString "MASK")) (.str (.ofString "MASK") 364) (.int 4294967295 363)) :: ((.mk (PyData.keyHash P (.ofString "SIGN")) (.str (.ofString "SIGN") 366) (.int 2147483648 365)) :: ((.mk (PyData.keyHash P (.ofString "to_signed")) (.str (.ofString "to_signed") 373) (.ref 145)) :: ((.mk (PyData.keyHash P (.ofString "flagged")) (.str (.ofString "flagged") 383) (.ref 153)) :: ((.mk (PyData.keyHash P (.ofString "add")) (.str (.ofString "add") 395) (.ref 160)) :: ((.mk (PyData.keyHash P (.ofString "sub")) (.str (.ofString "sub") 406) (.ref 167)) :: ((.mk (PyData.keyHash P (.ofString "mul")) (.str (.ofString "mul") 417) (.ref 174)) :: ((.mk (PyData.keyHash P (.ofString "div")) (.str (.ofString "div") 428) (.ref 181)) :: ((.mk (PyData.keyHash P (.ofString "shift_left")) (.str (.ofString "shift_left") 436) (.ref 188)) :: ((.mk (PyData.keyHash P (.ofString "shift_arith")) (.str (.ofString "shift_arith") 444) (.ref 195)) :: ((.mk (PyData.keyHash P (.ofString "rotate")) (.str (.ofString "rotate") 453) (.ref 202)) :: ((.mk (PyData.keyHash P (.ofString "bitwise")) (.str (.ofString "bitwise") 462) (.ref 209)) :: ((.mk (PyData.keyHash P (.ofString "operate")) (.str (.ofString "operate") 471) (.ref 216)) :: ((.mk (PyData.keyHash P (.ofString "condition_number")) (.str (.ofString "condition_number") 479) (.ref 223)) :: ((.mk (PyData.keyHash P (.ofString "holds")) (.str (.ofString "holds") 493) (.ref 230)) :: ((.mk (PyData.keyHash P (.ofString "YardError")) (.str (.ofString "YardError") 515) (.ref 240)) :: ((.mk (PyData.keyHash P (.ofString "TrapError")) (.str (.ofString "TrapError") 544) (.ref 260)) :: ((.mk (PyData.keyHash P (.ofString "BadRow")) (.str (.ofString "BadRow") 569) (.ref 279)) :: ((.mk (PyData.keyHash P (.ofString "WORD_cpu")) (.str (.ofString "WORD_cpu") 573) (.int 4294967296 572)) :: ((.mk (PyData.keyHash P (.ofString "LINK_cpu")) (.str (.ofString "LINK_cpu") 575) (.int 15 574)) :: ((.mk (PyData.keyHash P (.ofString "Cpu")) (.str (.ofString "Cpu") 681) (.ref 347)) :: ((.mk (PyData.keyHash P (.ofString "register_names")) (.str (.ofString "register_names") 687) (.ref 358)) :: ((.mk (PyData.keyHash P (.ofString "WORD_memory")) (.str (.ofString "WORD_memory") 691) (.int 4294967296 690)) :: ((.mk (PyData.keyHash P (.ofString "Memory")) (.str (.ofString "Memory") 765) (.ref 410)) :: ((.mk (PyData.keyHash P (.ofString "_law_pods")) (.str (.ofString "_law_pods") 778) (.ref 421)) :: ((.mk (PyData.keyHash P (.ofString "_law_pod")) (.str (.ofString "_law_pod") 786) (.ref 428)) :: ((.mk (PyData.keyHash P (.ofString "_law_planned")) (.str (.ofString "_law_planned") 799) (.ref 435)) :: ((.mk (PyData.keyHash P (.ofString "_law_end")) (.str (.ofString "_law_end") 805) (.ref 440)) :: ((.mk (PyData.keyHash P (.ofString "law")) (.str (.ofString "law") 811) (.ref 445)) :: [])))))))))))))))))))))))))))))))))))))))))))))))))))))))))))))))))) 65) (.mk []))
noncomputable def o_471 (P : Params) : Obj := (.mk .none .none (.fields (.mk ((.int 4 0) :: ((.int 0 0) :: ((.ref 20) :: ((.int 6 0) :: ((.int 0 0) :: ((.ref 27) :: ((.int 13 0) :: ((.int 0 0) :: ((.ref 34) :: ((.int 15 0) :: ((.int 0 0) :: ((.ref 41) :: ((.int 33 0) :: ((.int 0 0) :: ((.ref 48) :: ((.int 35 0) :: ((.int 0 0) :: ((.ref 55) :: ((.int 37 0) :: ((.int 0 0) :: ((.ref 62) :: ((.int 39 0) :: ((.int 0 0) :: ((.ref 69) :: ((.int 41 0) :: ((.int 0 0) :: ((.ref 76) :: ((.int 46 0) :: ((.int 0 0) :: ((.ref 83) :: ((.int 51 0) :: ((.int 0 0) :: ((.ref 90) :: ((.int 63 0) :: ((.int 0 0) :: ((.ref 97) :: ((.int 78 0) :: ((.int 0 0) :: ((.ref 104) :: ((.int 80 0) :: ((.int 0 0) :: ((.ref 111) :: ((.int 94 0) :: ((.int 0 0) :: ((.ref 118) :: ((.int 101 0) :: ((.int 0 0) :: ((.ref 125) :: ((.int 103 0) :: ((.int 0 0) :: ((.ref 130) :: ((.int 129 0) :: ((.int 0 0) :: ((.ref 137) :: ((.int 134 0) :: ((.int 0 0) :: ((.ref 144) :: ((.int 136 0) :: ((.int 0 0) :: ((.ref 152) :: ((.int 138 0) :: ((.int 0 0) :: ((.ref 159) :: ((.int 144 0) :: ((.int 0 0) :: ((.ref 166) :: ((.int 149 0) :: ((.int 0 0) :: ((.ref 173) :: ((.int 154 0) :: ((.int 0 0) :: ((.ref 180) :: ((.int 160 0) :: ((.int 0 0) :: ((.ref 187) :: ((.int 162 0) :: ((.int 0 0) :: ((.ref 194) :: ((.int 164 0) :: ((.int 0 0) :: ((.ref 201) :: ((.int 167 0) :: ((.int 0 0) :: ((.ref 208) :: ((.int 177 0) :: ((.int 0 0) :: ((.ref 215) :: ((.int 195 0) :: ((.int 0 0) :: ((.ref 222) :: ((.int 198 0) :: ((.int 0 0) :: ((.ref 229) :: ((.int 204 0) :: ((.int 0 0) :: ((.ref 236) :: ((.int 206 0) :: ((.int 0 0) :: ((.ref 249) :: ((.int 212 0) :: ((.int 0 0) :: ((.ref 268) :: ((.int 219 0) :: ((.int 0 0) :: ((.ref 287) :: ((.int 311 0) :: ((.int 0 0) :: ((.ref 357) :: ((.int 315 0) :: ((.int 0 0) :: ((.ref 364) :: ((.int 340 0) :: ((.int 0 0) :: ((.ref 420) :: ((.int 350 0) :: ((.int 0 0) :: ((.ref 427) :: ((.int 352 0) :: ((.int 0 0) :: ((.ref 434) :: ((.int 369 0) :: ((.int 0 0) :: ((.ref 439) :: ((.int 379 0) :: ((.int 0 0) :: ((.ref 444) :: [])))))))))))))))))))))))))))))))))))))))))))))))))))))))))))))))))))))))))))))))))))))))))))))))))))))))))))))))))))))))))))))))) (.mk []))
noncomputable def o_472 (P : Params) : Obj := (.mk (.type "tuple") .none (.seq (.mk []) 0) (.mk []))
noncomputable def o_473 (P : Params) : Obj := (.mk .none .none (.fields (.mk [])) (.mk []))
noncomputable def o_474 (P : Params) : Obj := (.mk (.type "tuple") .none (.seq (.mk ((.str (.ofString "script") 771) :: ((.str (.ofString "shelf") 772) :: ((.str (.ofString "one") 773) :: ((.str (.ofString "left") 774) :: ((.str (.ofString "hop") 775) :: [])))))) 0) (.mk []))
noncomputable def o_475 (P : Params) : Obj := (.mk (.type "tuple") .none (.seq (.mk []) 0) (.mk []))
noncomputable def o_476 (P : Params) : Obj := (.mk .none .none (.func (.mk (.ofString "_law_pods") (.ofString "_law_pods") R_law_pods.1 (.stmts R_law_pods.2.1) R_law_pods.2.2 0 [] .none .none .none .none .none .none .none 0)) (.mk []))
noncomputable def o_477 (P : Params) : Obj := (.mk (.type "code") .none (.fields (.mk ((.str (.ofString "_law_pods") 768) :: ((.str (.ofString "_law_pods") 769) :: ((.str (.ofString "/claim/cut.py") 770) :: ((.int 340 0) :: ((.int 1 0) :: ((.int 0 0) :: ((.int 0 0) :: ((.int 3 0) :: ((.ref 415) :: ((.bool true) :: ((.int 181 0) :: ((.ref 416) :: (.none :: ((.ref 417) :: ((.ref 418) :: ((.ref 419) :: ((.int 776 0) :: ((.int 340 0) :: ((.str (.ofString "/claim/cut.py") 777) :: []))))))))))))))))))))) (.mk []))
noncomputable def o_478 (P : Params) : Obj := (.mk (.type "function") .none (.func (.mk (.ofString "_law_pods") (.ofString "_law_pods") R_law_pods.1 (.stmts R_law_pods.2.1) R_law_pods.2.2 3 [] .none .none .none (.str (.ofString "law_pb0357_01") 766) .none (.ref 420) .none 0)) (.mk []))
noncomputable def o_479 (P : Params) : Obj := (.mk (.type "tuple") .none (.seq (.mk []) 0) (.mk []))
noncomputable def o_480 (P : Params) : Obj := (.mk .none .none (.fields (.mk [])) (.mk []))
noncomputable def o_481 (P : Params) : Obj := (.mk (.type "tuple") .none (.seq (.mk ((.str (.ofString "shelf") 782) :: ((.str (.ofString "most") 783) :: []))) 0) (.mk []))
noncomputable def o_482 (P : Params) : Obj := (.mk (.type "tuple") .none (.seq (.mk []) 0) (.mk []))
noncomputable def o_483 (P : Params) : Obj := (.mk .none .none (.func (.mk (.ofString "_law_pod") (.ofString "_law_pod") R_law_pod.1 (.stmts R_law_pod.2.1) R_law_pod.2.2 0 [] .none .none .none .none .none .none .none 0)) (.mk []))
noncomputable def o_484 (P : Params) : Obj := (.mk (.type "code") .none (.fields (.mk ((.str (.ofString "_law_pod") 779) :: ((.str (.ofString "_law_pod") 780) :: ((.str (.ofString "/claim/cut.py") 781) :: ((.int 350 0) :: ((.int 2 0) :: ((.int 0 0) :: ((.int 0 0) :: ((.int 3 0) :: ((.ref 422) :: ((.bool true) :: ((.int 181 0) :: ((.ref 423) :: (.none :: ((.ref 424) :: ((.ref 425) :: ((.ref 426) :: ((.int 784 0) :: ((.int 350 0) :: ((.str (.ofString "/claim/cut.py") 785) :: []))))))))))))))))))))) (.mk []))
noncomputable def o_485 (P : Params) : Obj := (.mk (.type "function") .none (.func (.mk (.ofString "_law_pod") (.ofString "_law_pod") R_law_pod.1 (.stmts R_law_pod.2.1) R_law_pod.2.2 3 [] .none .none .none (.str (.ofString "law_pb0357_01") 766) .none (.ref 427) .none 0)) (.mk []))
noncomputable def o_486 (P : Params) : Obj := (.mk (.type "tuple") .none (.seq (.mk []) 0) (.mk []))
noncomputable def o_487 (P : Params) : Obj := (.mk .none .none (.fields (.mk [])) (.mk []))
noncomputable def o_488 (P : Params) : Obj := (.mk (.type "tuple") .none (.seq (.mk ((.str (.ofString "shelf") 790) :: ((.str (.ofString "many") 791) :: ((.str (.ofString "rows") 792) :: ((.str (.ofString "at") 793) :: ((.str (.ofString "sort") 794) :: ((.str (.ofString "to") 795) :: ((.str (.ofString "one") 796) :: [])))))))) 0) (.mk []))
noncomputable def o_489 (P : Params) : Obj := (.mk (.type "tuple") .none (.seq (.mk []) 0) (.mk []))
noncomputable def o_490 (P : Params) : Obj := (.mk .none .none (.func (.mk (.ofString "_law_planned") (.ofString "_law_planned") R_law_planned.1 (.stmts R_law_planned.2.1) R_law_planned.2.2 0 [] .none .none .none .none .none .none .none 0)) (.mk []))
noncomputable def o_491 (P : Params) : Obj := (.mk (.type "code") .none (.fields (.mk ((.str (.ofString "_law_planned") 787) :: ((.str (.ofString "_law_planned") 788) :: ((.str (.ofString "/claim/cut.py") 789) :: ((.int 352 0) :: ((.int 2 0) :: ((.int 0 0) :: ((.int 0 0) :: ((.int 3 0) :: ((.ref 429) :: ((.bool true) :: ((.int 181 0) :: ((.ref 430) :: (.none :: ((.ref 431) :: ((.ref 432) :: ((.ref 433) :: ((.int 797 0) :: ((.int 352 0) :: ((.str (.ofString "/claim/cut.py") 798) :: []))))))))))))))))))))) (.mk []))
noncomputable def o_492 (P : Params) : Obj := (.mk (.type "function") .none (.func (.mk (.ofString "_law_planned") (.ofString "_law_planned") R_law_planned.1 (.stmts R_law_planned.2.1) R_law_planned.2.2 3 [] .none .none .none (.str (.ofString "law_pb0357_01") 766) .none (.ref 434) .none 0)) (.mk []))
noncomputable def o_493 (P : Params) : Obj := (.mk (.type "tuple") .none (.seq (.mk []) 0) (.mk []))
noncomputable def o_494 (P : Params) : Obj := (.mk .none .none (.fields (.mk [])) (.mk []))
noncomputable def o_495 (P : Params) : Obj := (.mk .none .none (.func (.mk (.ofString "_law_end") (.ofString "_law_end") R_law_end.1 (.stmts R_law_end.2.1) R_law_end.2.2 0 [] .none .none .none .none .none .none .none 0)) (.mk []))
noncomputable def o_496 (P : Params) : Obj := (.mk (.type "code") .none (.fields (.mk ((.str (.ofString "_law_end") 800) :: ((.str (.ofString "_law_end") 801) :: ((.str (.ofString "/claim/cut.py") 802) :: ((.int 369 0) :: ((.int 3 0) :: ((.int 0 0) :: ((.int 0 0) :: ((.int 3 0) :: ((.ref 436) :: ((.bool true) :: ((.int 181 0) :: ((.ref 437) :: (.none :: (.none :: (.none :: ((.ref 438) :: ((.int 803 0) :: ((.int 369 0) :: ((.str (.ofString "/claim/cut.py") 804) :: []))))))))))))))))))))) (.mk []))
noncomputable def o_497 (P : Params) : Obj := (.mk (.type "function") .none (.func (.mk (.ofString "_law_end") (.ofString "_law_end") R_law_end.1 (.stmts R_law_end.2.1) R_law_end.2.2 3 [] .none .none .none (.str (.ofString "law_pb0357_01") 766) .none (.ref 439) .none 0)) (.mk []))
noncomputable def o_498 (P : Params) : Obj := (.mk (.type "tuple") .none (.seq (.mk []) 0) (.mk []))
noncomputable def o_499 (P : Params) : Obj := (.mk .none .none (.fields (.mk [])) (.mk []))
noncomputable def o_500 (P : Params) : Obj := (.mk .none .none (.func (.mk (.ofString "law") (.ofString "law") R_law.1 (.stmts R_law.2.1) R_law.2.2 0 [] .none .none .none .none .none .none .none 0)) (.mk []))
noncomputable def o_501 (P : Params) : Obj := (.mk (.type "code") .none (.fields (.mk ((.str (.ofString "law") 806) :: ((.str (.ofString "law") 807) :: ((.str (.ofString "/claim/cut.py") 808) :: ((.int 379 0) :: ((.int 1 0) :: ((.int 0 0) :: ((.int 0 0) :: ((.int 3 0) :: ((.ref 441) :: ((.bool true) :: ((.int 181 0) :: ((.ref 442) :: (.none :: (.none :: (.none :: ((.ref 443) :: ((.int 809 0) :: ((.int 379 0) :: ((.str (.ofString "/claim/cut.py") 810) :: []))))))))))))))))))))) (.mk []))
noncomputable def o_502 (P : Params) : Obj := (.mk (.type "function") .none (.func (.mk (.ofString "law") (.ofString "law") R_law.1 (.stmts R_law.2.1) R_law.2.2 3 [] .none .none .none (.str (.ofString "law_pb0357_01") 766) .none (.ref 444) .none 0)) (.mk []))
noncomputable def tree_47 (P : Params) : BT := (.node (boot_o_0 P) (.node (boot_o_1 P) (.node (boot_o_3 P) (.node (boot_o_7 P) .nil .nil) (.node (o_43 P) .nil .nil)) (.node (boot_o_5 P) (.node (boot_o_9 P) .nil .nil) (.node (o_45 P) .nil .nil))) (.node (boot_o_2 P) (.node (boot_o_4 P) (.node (boot_o_8 P) .nil .nil) (.node (o_44 P) .nil .nil)) (.node (boot_o_6 P) (.node (boot_o_10 P) .nil .nil) (.node (o_46 P) .nil .nil))))
noncomputable def tree_270 (P : Params) : BT := (.node (boot_o_0 P) (.node (boot_o_1 P) (.node (o_192 P) (.node (boot_o_7 P) (.node (o_51 P) (.node (o_67 P) (.node (o_99 P) (.node (o_165 P) .nil .nil) (.node (o_231 P) .nil .nil)) (.node (o_133 P) (.node (o_199 P) .nil .nil) (.node (o_263 P) .nil .nil))) (.node (o_83 P) (.node (o_117 P) (.node (o_181 P) .nil .nil) (.node (o_247 P) .nil .nil)) (.node (o_149 P) (.node (o_215 P) .nil .nil) .nil))) (.node (o_59 P) (.node (o_75 P) (.node (o_109 P) (.node (o_173 P) .nil .nil) (.node (o_239 P) .nil .nil)) (.node (o_141 P) (.node (o_207 P) .nil .nil) .nil)) (.node (o_91 P) (.node (o_125 P) (.node (o_189 P) .nil .nil) (.node (o_255 P) .nil .nil)) (.node (o_157 P) (.node (o_223 P) .nil .nil) .nil)))) (.node (o_43 P) (.node (o_55 P) (.node (o_71 P) (.node (o_103 P) (.node (o_169 P) .nil .nil) (.node (o_235 P) .nil .nil)) (.node (o_137 P) (.node (o_203 P) .nil .nil) (.node (o_267 P) .nil .nil))) (.node (o_87 P) (.node (o_121 P) (.node (o_185 P) .nil .nil) (.node (o_251 P) .nil .nil)) (.node (o_153 P) (.node (o_219 P) .nil .nil) .nil))) (.node (o_63 P) (.node (o_79 P) (.node (o_113 P) (.node (o_177 P) .nil .nil) (.node (o_243 P) .nil .nil)) (.node (o_145 P) (.node (o_211 P) .nil .nil) .nil)) (.node (o_95 P) (.node (o_129 P) (.node (o_195 P) .nil .nil) (.node (o_259 P) .nil .nil)) (.node (o_161 P) (.node (o_227 P) .nil .nil) .nil))))) (.node (boot_o_5 P) (.node (boot_o_9 P) (.node (o_53 P) (.node (o_69 P) (.node (o_101 P) (.node (o_167 P) .nil .nil) (.node (o_233 P) .nil .nil)) (.node (o_135 P) (.node (o_201 P) .nil .nil) (.node (o_265 P) .nil .nil))) (.node (o_85 P) (.node (o_119 P) (.node (o_183 P) .nil .nil) (.node (o_249 P) .nil .nil)) (.node (o_151 P) (.node (o_217 P) .nil .nil) .nil))) (.node (o_61 P) (.node (o_77 P) (.node (o_111 P) (.node (o_175 P) .nil .nil) (.node (o_241 P) .nil .nil)) (.node (o_143 P) (.node (o_209 P) .nil .nil) .nil)) (.node (o_93 P) (.node (o_127 P) (.node (o_191 P) .nil .nil) (.node (o_257 P) .nil .nil)) (.node (o_159 P) (.node (o_225 P) .nil .nil) .nil)))) (.node (o_45 P) (.node (o_57 P) (.node (o_73 P) (.node (o_105 P) (.node (o_171 P) .nil .nil) (.node (o_237 P) .nil .nil)) (.node (o_139 P) (.node (o_205 P) .nil .nil) (.node (o_269 P) .nil .nil))) (.node (o_89 P) (.node (o_123 P) (.node (o_187 P) .nil .nil) (.node (o_253 P) .nil .nil)) (.node (o_155 P) (.node (o_221 P) .nil .nil) .nil))) (.node (o_65 P) (.node (o_81 P) (.node (o_115 P) (.node (o_179 P) .nil .nil) (.node (o_245 P) .nil .nil)) (.node (o_147 P) (.node (o_213 P) .nil .nil) .nil)) (.node (o_97 P) (.node (o_131 P) (.node (o_197 P) .nil .nil) (.node (o_261 P) .nil .nil)) (.node (o_163 P) (.node (o_229 P) .nil .nil) .nil)))))) (.node (boot_o_2 P) (.node (boot_o_4 P) (.node (boot_o_8 P) (.node (o_52 P) (.node (o_68 P) (.node (o_100 P) (.node (o_166 P) .nil .nil) (.node (o_232 P) .nil .nil)) (.node (o_134 P) (.node (o_200 P) .nil .nil) (.node (o_264 P) .nil .nil))) (.node (o_84 P) (.node (o_118 P) (.node (o_182 P) .nil .nil) (.node (o_248 P) .nil .nil)) (.node (o_150 P) (.node (o_216 P) .nil .nil) .nil))) (.node (o_60 P) (.node (o_76 P) (.node (o_110 P) (.node (o_174 P) .nil .nil) (.node (o_240 P) .nil .nil)) (.node (o_142 P) (.node (o_208 P) .nil .nil) .nil)) (.node (o_92 P) (.node (o_126 P) (.node (o_190 P) .nil .nil) (.node (o_256 P) .nil .nil)) (.node (o_158 P) (.node (o_224 P) .nil .nil) .nil)))) (.node (o_193 P) (.node (o_56 P) (.node (o_72 P) (.node (o_104 P) (.node (o_170 P) .nil .nil) (.node (o_236 P) .nil .nil)) (.node (o_138 P) (.node (o_204 P) .nil .nil) (.node (o_268 P) .nil .nil))) (.node (o_88 P) (.node (o_122 P) (.node (o_186 P) .nil .nil) (.node (o_252 P) .nil .nil)) (.node (o_154 P) (.node (o_220 P) .nil .nil) .nil))) (.node (o_64 P) (.node (o_80 P) (.node (o_114 P) (.node (o_178 P) .nil .nil) (.node (o_244 P) .nil .nil)) (.node (o_146 P) (.node (o_212 P) .nil .nil) .nil)) (.node (o_96 P) (.node (o_130 P) (.node (o_196 P) .nil .nil) (.node (o_260 P) .nil .nil)) (.node (o_162 P) (.node (o_228 P) .nil .nil) .nil))))) (.node (boot_o_6 P) (.node (boot_o_10 P) (.node (o_54 P) (.node (o_70 P) (.node (o_102 P) (.node (o_168 P) .nil .nil) (.node (o_234 P) .nil .nil)) (.node (o_136 P) (.node (o_202 P) .nil .nil) (.node (o_266 P) .nil .nil))) (.node (o_86 P) (.node (o_120 P) (.node (o_184 P) .nil .nil) (.node (o_250 P) .nil .nil)) (.node (o_152 P) (.node (o_218 P) .nil .nil) .nil))) (.node (o_62 P) (.node (o_78 P) (.node (o_112 P) (.node (o_176 P) .nil .nil) (.node (o_242 P) .nil .nil)) (.node (o_144 P) (.node (o_210 P) .nil .nil) .nil)) (.node (o_94 P) (.node (o_128 P) (.node (o_194 P) .nil .nil) (.node (o_258 P) .nil .nil)) (.node (o_160 P) (.node (o_226 P) .nil .nil) .nil)))) (.node (o_46 P) (.node (o_58 P) (.node (o_74 P) (.node (o_106 P) (.node (o_172 P) .nil .nil) (.node (o_238 P) .nil .nil)) (.node (o_140 P) (.node (o_206 P) .nil .nil) (.node (o_270 P) .nil .nil))) (.node (o_90 P) (.node (o_124 P) (.node (o_188 P) .nil .nil) (.node (o_254 P) .nil .nil)) (.node (o_156 P) (.node (o_222 P) .nil .nil) .nil))) (.node (o_66 P) (.node (o_82 P) (.node (o_116 P) (.node (o_180 P) .nil .nil) (.node (o_246 P) .nil .nil)) (.node (o_148 P) (.node (o_214 P) .nil .nil) .nil)) (.node (o_98 P) (.node (o_132 P) (.node (o_198 P) .nil .nil) (.node (o_262 P) .nil .nil)) (.node (o_164 P) (.node (o_230 P) .nil .nil) .nil)))))))
noncomputable def tree_402 (P : Params) : BT := (.node (boot_o_0 P) (.node (boot_o_1 P) (.node (o_331 P) (.node (boot_o_7 P) (.node (o_51 P) (.node (o_67 P) (.node (o_99 P) (.node (o_165 P) (.node (o_301 P) .nil .nil) .nil) (.node (o_231 P) (.node (o_370 P) .nil .nil) .nil)) (.node (o_133 P) (.node (o_199 P) (.node (o_338 P) .nil .nil) .nil) (.node (o_263 P) (.node (o_402 P) .nil .nil) .nil))) (.node (o_83 P) (.node (o_117 P) (.node (o_181 P) (.node (o_320 P) .nil .nil) .nil) (.node (o_247 P) (.node (o_386 P) .nil .nil) .nil)) (.node (o_149 P) (.node (o_215 P) (.node (o_354 P) .nil .nil) .nil) (.node (o_282 P) .nil .nil)))) (.node (o_59 P) (.node (o_75 P) (.node (o_109 P) (.node (o_173 P) (.node (o_312 P) .nil .nil) .nil) (.node (o_239 P) (.node (o_378 P) .nil .nil) .nil)) (.node (o_141 P) (.node (o_207 P) (.node (o_346 P) .nil .nil) .nil) (.node (o_274 P) .nil .nil))) (.node (o_91 P) (.node (o_125 P) (.node (o_189 P) (.node (o_328 P) .nil .nil) .nil) (.node (o_255 P) (.node (o_394 P) .nil .nil) .nil)) (.node (o_157 P) (.node (o_223 P) (.node (o_362 P) .nil .nil) .nil) (.node (o_293 P) .nil .nil))))) (.node (o_43 P) (.node (o_55 P) (.node (o_71 P) (.node (o_103 P) (.node (o_169 P) (.node (o_305 P) .nil .nil) .nil) (.node (o_235 P) (.node (o_374 P) .nil .nil) .nil)) (.node (o_137 P) (.node (o_203 P) (.node (o_342 P) .nil .nil) .nil) (.node (o_267 P) .nil .nil))) (.node (o_87 P) (.node (o_121 P) (.node (o_185 P) (.node (o_324 P) .nil .nil) .nil) (.node (o_251 P) (.node (o_390 P) .nil .nil) .nil)) (.node (o_153 P) (.node (o_219 P) (.node (o_358 P) .nil .nil) .nil) (.node (o_286 P) .nil .nil)))) (.node (o_63 P) (.node (o_79 P) (.node (o_113 P) (.node (o_177 P) (.node (o_316 P) .nil .nil) .nil) (.node (o_243 P) (.node (o_382 P) .nil .nil) .nil)) (.node (o_145 P) (.node (o_211 P) (.node (o_350 P) .nil .nil) .nil) (.node (o_278 P) .nil .nil))) (.node (o_95 P) (.node (o_129 P) (.node (o_195 P) (.node (o_334 P) .nil .nil) .nil) (.node (o_259 P) (.node (o_398 P) .nil .nil) .nil)) (.node (o_161 P) (.node (o_227 P) (.node (o_366 P) .nil .nil) .nil) (.node (o_297 P) .nil .nil)))))) (.node (boot_o_5 P) (.node (boot_o_9 P) (.node (o_53 P) (.node (o_69 P) (.node (o_101 P) (.node (o_167 P) (.node (o_303 P) .nil .nil) .nil) (.node (o_233 P) (.node (o_372 P) .nil .nil) .nil)) (.node (o_135 P) (.node (o_201 P) (.node (o_340 P) .nil .nil) .nil) (.node (o_265 P) .nil .nil))) (.node (o_85 P) (.node (o_119 P) (.node (o_183 P) (.node (o_322 P) .nil .nil) .nil) (.node (o_249 P) (.node (o_388 P) .nil .nil) .nil)) (.node (o_151 P) (.node (o_217 P) (.node (o_356 P) .nil .nil) .nil) (.node (o_284 P) .nil .nil)))) (.node (o_61 P) (.node (o_77 P) (.node (o_111 P) (.node (o_175 P) (.node (o_314 P) .nil .nil) .nil) (.node (o_241 P) (.node (o_380 P) .nil .nil) .nil)) (.node (o_143 P) (.node (o_209 P) (.node (o_348 P) .nil .nil) .nil) (.node (o_276 P) .nil .nil))) (.node (o_93 P) (.node (o_127 P) (.node (o_191 P) (.node (o_330 P) .nil .nil) .nil) (.node (o_257 P) (.node (o_396 P) .nil .nil) .nil)) (.node (o_159 P) (.node (o_225 P) (.node (o_364 P) .nil .nil) .nil) (.node (o_295 P) .nil .nil))))) (.node (o_45 P) (.node (o_57 P) (.node (o_73 P) (.node (o_105 P) (.node (o_171 P) (.node (o_307 P) .nil .nil) .nil) (.node (o_237 P) (.node (o_376 P) .nil .nil) .nil)) (.node (o_139 P) (.node (o_205 P) (.node (o_344 P) .nil .nil) .nil) (.node (o_269 P) .nil .nil))) (.node (o_89 P) (.node (o_123 P) (.node (o_187 P) (.node (o_326 P) .nil .nil) .nil) (.node (o_253 P) (.node (o_392 P) .nil .nil) .nil)) (.node (o_155 P) (.node (o_221 P) (.node (o_360 P) .nil .nil) .nil) (.node (o_291 P) .nil .nil)))) (.node (o_65 P) (.node (o_81 P) (.node (o_115 P) (.node (o_179 P) (.node (o_318 P) .nil .nil) .nil) (.node (o_245 P) (.node (o_384 P) .nil .nil) .nil)) (.node (o_147 P) (.node (o_213 P) (.node (o_352 P) .nil .nil) .nil) (.node (o_280 P) .nil .nil))) (.node (o_97 P) (.node (o_131 P) (.node (o_197 P) (.node (o_336 P) .nil .nil) .nil) (.node (o_261 P) (.node (o_400 P) .nil .nil) .nil)) (.node (o_163 P) (.node (o_229 P) (.node (o_368 P) .nil .nil) .nil) (.node (o_299 P) .nil .nil))))))) (.node (o_271 P) (.node (boot_o_4 P) (.node (boot_o_8 P) (.node (o_52 P) (.node (o_68 P) (.node (o_100 P) (.node (o_166 P) (.node (o_302 P) .nil .nil) .nil) (.node (o_232 P) (.node (o_371 P) .nil .nil) .nil)) (.node (o_134 P) (.node (o_200 P) (.node (o_339 P) .nil .nil) .nil) (.node (o_264 P) .nil .nil))) (.node (o_84 P) (.node (o_118 P) (.node (o_182 P) (.node (o_321 P) .nil .nil) .nil) (.node (o_248 P) (.node (o_387 P) .nil .nil) .nil)) (.node (o_150 P) (.node (o_216 P) (.node (o_355 P) .nil .nil) .nil) (.node (o_311 P) .nil .nil)))) (.node (o_60 P) (.node (o_76 P) (.node (o_110 P) (.node (o_174 P) (.node (o_313 P) .nil .nil) .nil) (.node (o_240 P) (.node (o_379 P) .nil .nil) .nil)) (.node (o_142 P) (.node (o_208 P) (.node (o_347 P) .nil .nil) .nil) (.node (o_275 P) .nil .nil))) (.node (o_92 P) (.node (o_126 P) (.node (o_190 P) (.node (o_329 P) .nil .nil) .nil) (.node (o_256 P) (.node (o_395 P) .nil .nil) .nil)) (.node (o_158 P) (.node (o_224 P) (.node (o_363 P) .nil .nil) .nil) (.node (o_294 P) .nil .nil))))) (.node (o_332 P) (.node (o_56 P) (.node (o_72 P) (.node (o_104 P) (.node (o_170 P) (.node (o_306 P) .nil .nil) .nil) (.node (o_236 P) (.node (o_375 P) .nil .nil) .nil)) (.node (o_138 P) (.node (o_204 P) (.node (o_343 P) .nil .nil) .nil) (.node (o_268 P) .nil .nil))) (.node (o_88 P) (.node (o_122 P) (.node (o_186 P) (.node (o_325 P) .nil .nil) .nil) (.node (o_252 P) (.node (o_391 P) .nil .nil) .nil)) (.node (o_154 P) (.node (o_220 P) (.node (o_359 P) .nil .nil) .nil) (.node (o_290 P) .nil .nil)))) (.node (o_64 P) (.node (o_80 P) (.node (o_114 P) (.node (o_178 P) (.node (o_317 P) .nil .nil) .nil) (.node (o_244 P) (.node (o_383 P) .nil .nil) .nil)) (.node (o_146 P) (.node (o_212 P) (.node (o_351 P) .nil .nil) .nil) (.node (o_279 P) .nil .nil))) (.node (o_96 P) (.node (o_130 P) (.node (o_196 P) (.node (o_335 P) .nil .nil) .nil) (.node (o_260 P) (.node (o_399 P) .nil .nil) .nil)) (.node (o_162 P) (.node (o_228 P) (.node (o_367 P) .nil .nil) .nil) (.node (o_298 P) .nil .nil)))))) (.node (boot_o_6 P) (.node (boot_o_10 P) (.node (o_54 P) (.node (o_70 P) (.node (o_102 P) (.node (o_168 P) (.node (o_304 P) .nil .nil) .nil) (.node (o_234 P) (.node (o_373 P) .nil .nil) .nil)) (.node (o_136 P) (.node (o_202 P) (.node (o_341 P) .nil .nil) .nil) (.node (o_266 P) .nil .nil))) (.node (o_86 P) (.node (o_120 P) (.node (o_184 P) (.node (o_323 P) .nil .nil) .nil) (.node (o_250 P) (.node (o_389 P) .nil .nil) .nil)) (.node (o_152 P) (.node (o_218 P) (.node (o_357 P) .nil .nil) .nil) (.node (o_285 P) .nil .nil)))) (.node (o_62 P) (.node (o_78 P) (.node (o_112 P) (.node (o_176 P) (.node (o_315 P) .nil .nil) .nil) (.node (o_242 P) (.node (o_381 P) .nil .nil) .nil)) (.node (o_144 P) (.node (o_210 P) (.node (o_349 P) .nil .nil) .nil) (.node (o_277 P) .nil .nil))) (.node (o_94 P) (.node (o_128 P) (.node (o_194 P) (.node (o_333 P) .nil .nil) .nil) (.node (o_258 P) (.node (o_397 P) .nil .nil) .nil)) (.node (o_160 P) (.node (o_226 P) (.node (o_365 P) .nil .nil) .nil) (.node (o_296 P) .nil .nil))))) (.node (o_46 P) (.node (o_58 P) (.node (o_74 P) (.node (o_106 P) (.node (o_172 P) (.node (o_308 P) .nil .nil) .nil) (.node (o_238 P) (.node (o_377 P) .nil .nil) .nil)) (.node (o_140 P) (.node (o_206 P) (.node (o_345 P) .nil .nil) .nil) (.node (o_270 P) .nil .nil))) (.node (o_90 P) (.node (o_124 P) (.node (o_188 P) (.node (o_327 P) .nil .nil) .nil) (.node (o_254 P) (.node (o_393 P) .nil .nil) .nil)) (.node (o_156 P) (.node (o_222 P) (.node (o_361 P) .nil .nil) .nil) (.node (o_292 P) .nil .nil)))) (.node (o_66 P) (.node (o_82 P) (.node (o_116 P) (.node (o_180 P) (.node (o_319 P) .nil .nil) .nil) (.node (o_246 P) (.node (o_385 P) .nil .nil) .nil)) (.node (o_148 P) (.node (o_214 P) (.node (o_353 P) .nil .nil) .nil) (.node (o_281 P) .nil .nil))) (.node (o_98 P) (.node (o_132 P) (.node (o_198 P) (.node (o_337 P) .nil .nil) .nil) (.node (o_262 P) (.node (o_401 P) .nil .nil) .nil)) (.node (o_164 P) (.node (o_230 P) (.node (o_369 P) .nil .nil) .nil) (.node (o_300 P) .nil .nil))))))))
noncomputable def tree_502 (P : Params) : BT := (.node (boot_o_0 P) (.node (boot_o_1 P) (.node (o_470 P) (.node (boot_o_7 P) (.node (o_51 P) (.node (o_67 P) (.node (o_99 P) (.node (o_165 P) (.node (o_301 P) .nil .nil) (.node (o_438 P) .nil .nil)) (.node (o_231 P) (.node (o_370 P) .nil .nil) .nil)) (.node (o_133 P) (.node (o_199 P) (.node (o_338 P) .nil .nil) (.node (o_472 P) .nil .nil)) (.node (o_263 P) (.node (o_402 P) .nil .nil) .nil))) (.node (o_83 P) (.node (o_117 P) (.node (o_181 P) (.node (o_320 P) .nil .nil) (.node (o_454 P) .nil .nil)) (.node (o_247 P) (.node (o_386 P) .nil .nil) .nil)) (.node (o_149 P) (.node (o_215 P) (.node (o_354 P) .nil .nil) (.node (o_488 P) .nil .nil)) (.node (o_282 P) (.node (o_422 P) .nil .nil) .nil)))) (.node (o_59 P) (.node (o_75 P) (.node (o_109 P) (.node (o_173 P) (.node (o_312 P) .nil .nil) (.node (o_446 P) .nil .nil)) (.node (o_239 P) (.node (o_378 P) .nil .nil) .nil)) (.node (o_141 P) (.node (o_207 P) (.node (o_346 P) .nil .nil) (.node (o_480 P) .nil .nil)) (.node (o_274 P) (.node (o_414 P) .nil .nil) .nil))) (.node (o_91 P) (.node (o_125 P) (.node (o_189 P) (.node (o_328 P) .nil .nil) (.node (o_462 P) .nil .nil)) (.node (o_255 P) (.node (o_394 P) .nil .nil) .nil)) (.node (o_157 P) (.node (o_223 P) (.node (o_362 P) .nil .nil) (.node (o_496 P) .nil .nil)) (.node (o_293 P) (.node (o_430 P) .nil .nil) .nil))))) (.node (o_43 P) (.node (o_55 P) (.node (o_71 P) (.node (o_103 P) (.node (o_169 P) (.node (o_305 P) .nil .nil) (.node (o_442 P) .nil .nil)) (.node (o_235 P) (.node (o_374 P) .nil .nil) .nil)) (.node (o_137 P) (.node (o_203 P) (.node (o_342 P) .nil .nil) (.node (o_476 P) .nil .nil)) (.node (o_267 P) (.node (o_408 P) .nil .nil) .nil))) (.node (o_87 P) (.node (o_121 P) (.node (o_185 P) (.node (o_324 P) .nil .nil) (.node (o_458 P) .nil .nil)) (.node (o_251 P) (.node (o_390 P) .nil .nil) .nil)) (.node (o_153 P) (.node (o_219 P) (.node (o_358 P) .nil .nil) (.node (o_492 P) .nil .nil)) (.node (o_286 P) (.node (o_426 P) .nil .nil) .nil)))) (.node (o_63 P) (.node (o_79 P) (.node (o_113 P) (.node (o_177 P) (.node (o_316 P) .nil .nil) (.node (o_450 P) .nil .nil)) (.node (o_243 P) (.node (o_382 P) .nil .nil) .nil)) (.node (o_145 P) (.node (o_211 P) (.node (o_350 P) .nil .nil) (.node (o_484 P) .nil .nil)) (.node (o_278 P) (.node (o_418 P) .nil .nil) .nil))) (.node (o_95 P) (.node (o_129 P) (.node (o_195 P) (.node (o_334 P) .nil .nil) (.node (o_466 P) .nil .nil)) (.node (o_259 P) (.node (o_398 P) .nil .nil) .nil)) (.node (o_161 P) (.node (o_227 P) (.node (o_366 P) .nil .nil) (.node (o_500 P) .nil .nil)) (.node (o_297 P) (.node (o_434 P) .nil .nil) .nil)))))) (.node (boot_o_5 P) (.node (boot_o_9 P) (.node (o_53 P) (.node (o_69 P) (.node (o_101 P) (.node (o_167 P) (.node (o_303 P) .nil .nil) (.node (o_440 P) .nil .nil)) (.node (o_233 P) (.node (o_372 P) .nil .nil) .nil)) (.node (o_135 P) (.node (o_201 P) (.node (o_340 P) .nil .nil) (.node (o_474 P) .nil .nil)) (.node (o_265 P) (.node (o_406 P) .nil .nil) .nil))) (.node (o_85 P) (.node (o_119 P) (.node (o_183 P) (.node (o_322 P) .nil .nil) (.node (o_456 P) .nil .nil)) (.node (o_249 P) (.node (o_388 P) .nil .nil) .nil)) (.node (o_151 P) (.node (o_217 P) (.node (o_356 P) .nil .nil) (.node (o_490 P) .nil .nil)) (.node (o_284 P) (.node (o_424 P) .nil .nil) .nil)))) (.node (o_61 P) (.node (o_77 P) (.node (o_111 P) (.node (o_175 P) (.node (o_314 P) .nil .nil) (.node (o_448 P) .nil .nil)) (.node (o_241 P) (.node (o_380 P) .nil .nil) .nil)) (.node (o_143 P) (.node (o_209 P) (.node (o_348 P) .nil .nil) (.node (o_482 P) .nil .nil)) (.node (o_276 P) (.node (o_416 P) .nil .nil) .nil))) (.node (o_93 P) (.node (o_127 P) (.node (o_191 P) (.node (o_330 P) .nil .nil) (.node (o_464 P) .nil .nil)) (.node (o_257 P) (.node (o_396 P) .nil .nil) .nil)) (.node (o_159 P) (.node (o_225 P) (.node (o_364 P) .nil .nil) (.node (o_498 P) .nil .nil)) (.node (o_295 P) (.node (o_432 P) .nil .nil) .nil))))) (.node (o_45 P) (.node (o_57 P) (.node (o_73 P) (.node (o_105 P) (.node (o_171 P) (.node (o_307 P) .nil .nil) (.node (o_444 P) .nil .nil)) (.node (o_237 P) (.node (o_376 P) .nil .nil) .nil)) (.node (o_139 P) (.node (o_205 P) (.node (o_344 P) .nil .nil) (.node (o_478 P) .nil .nil)) (.node (o_269 P) (.node (o_410 P) .nil .nil) .nil))) (.node (o_89 P) (.node (o_123 P) (.node (o_187 P) (.node (o_326 P) .nil .nil) (.node (o_460 P) .nil .nil)) (.node (o_253 P) (.node (o_392 P) .nil .nil) .nil)) (.node (o_155 P) (.node (o_221 P) (.node (o_360 P) .nil .nil) (.node (o_494 P) .nil .nil)) (.node (o_291 P) (.node (o_428 P) .nil .nil) .nil)))) (.node (o_65 P) (.node (o_81 P) (.node (o_115 P) (.node (o_179 P) (.node (o_318 P) .nil .nil) (.node (o_452 P) .nil .nil)) (.node (o_245 P) (.node (o_384 P) .nil .nil) .nil)) (.node (o_147 P) (.node (o_213 P) (.node (o_352 P) .nil .nil) (.node (o_486 P) .nil .nil)) (.node (o_280 P) (.node (o_420 P) .nil .nil) .nil))) (.node (o_97 P) (.node (o_131 P) (.node (o_197 P) (.node (o_336 P) .nil .nil) (.node (o_468 P) .nil .nil)) (.node (o_261 P) (.node (o_400 P) .nil .nil) .nil)) (.node (o_163 P) (.node (o_229 P) (.node (o_368 P) .nil .nil) (.node (o_502 P) .nil .nil)) (.node (o_299 P) (.node (o_436 P) .nil .nil) .nil))))))) (.node (o_271 P) (.node (boot_o_4 P) (.node (boot_o_8 P) (.node (o_52 P) (.node (o_68 P) (.node (o_100 P) (.node (o_166 P) (.node (o_302 P) .nil .nil) (.node (o_439 P) .nil .nil)) (.node (o_232 P) (.node (o_371 P) .nil .nil) .nil)) (.node (o_134 P) (.node (o_200 P) (.node (o_339 P) .nil .nil) (.node (o_473 P) .nil .nil)) (.node (o_264 P) (.node (o_405 P) .nil .nil) .nil))) (.node (o_84 P) (.node (o_118 P) (.node (o_182 P) (.node (o_321 P) .nil .nil) (.node (o_455 P) .nil .nil)) (.node (o_248 P) (.node (o_387 P) .nil .nil) .nil)) (.node (o_150 P) (.node (o_216 P) (.node (o_355 P) .nil .nil) (.node (o_489 P) .nil .nil)) (.node (o_311 P) (.node (o_423 P) .nil .nil) .nil)))) (.node (o_60 P) (.node (o_76 P) (.node (o_110 P) (.node (o_174 P) (.node (o_313 P) .nil .nil) (.node (o_447 P) .nil .nil)) (.node (o_240 P) (.node (o_379 P) .nil .nil) .nil)) (.node (o_142 P) (.node (o_208 P) (.node (o_347 P) .nil .nil) (.node (o_481 P) .nil .nil)) (.node (o_275 P) (.node (o_415 P) .nil .nil) .nil))) (.node (o_92 P) (.node (o_126 P) (.node (o_190 P) (.node (o_329 P) .nil .nil) (.node (o_463 P) .nil .nil)) (.node (o_256 P) (.node (o_395 P) .nil .nil) .nil)) (.node (o_158 P) (.node (o_224 P) (.node (o_363 P) .nil .nil) (.node (o_497 P) .nil .nil)) (.node (o_294 P) (.node (o_431 P) .nil .nil) .nil))))) (.node (o_471 P) (.node (o_56 P) (.node (o_72 P) (.node (o_104 P) (.node (o_170 P) (.node (o_306 P) .nil .nil) (.node (o_443 P) .nil .nil)) (.node (o_236 P) (.node (o_375 P) .nil .nil) .nil)) (.node (o_138 P) (.node (o_204 P) (.node (o_343 P) .nil .nil) (.node (o_477 P) .nil .nil)) (.node (o_268 P) (.node (o_409 P) .nil .nil) .nil))) (.node (o_88 P) (.node (o_122 P) (.node (o_186 P) (.node (o_325 P) .nil .nil) (.node (o_459 P) .nil .nil)) (.node (o_252 P) (.node (o_391 P) .nil .nil) .nil)) (.node (o_154 P) (.node (o_220 P) (.node (o_359 P) .nil .nil) (.node (o_493 P) .nil .nil)) (.node (o_290 P) (.node (o_427 P) .nil .nil) .nil)))) (.node (o_64 P) (.node (o_80 P) (.node (o_114 P) (.node (o_178 P) (.node (o_317 P) .nil .nil) (.node (o_451 P) .nil .nil)) (.node (o_244 P) (.node (o_383 P) .nil .nil) .nil)) (.node (o_146 P) (.node (o_212 P) (.node (o_351 P) .nil .nil) (.node (o_485 P) .nil .nil)) (.node (o_279 P) (.node (o_419 P) .nil .nil) .nil))) (.node (o_96 P) (.node (o_130 P) (.node (o_196 P) (.node (o_335 P) .nil .nil) (.node (o_467 P) .nil .nil)) (.node (o_260 P) (.node (o_399 P) .nil .nil) .nil)) (.node (o_162 P) (.node (o_228 P) (.node (o_367 P) .nil .nil) (.node (o_501 P) .nil .nil)) (.node (o_298 P) (.node (o_435 P) .nil .nil) .nil)))))) (.node (boot_o_6 P) (.node (boot_o_10 P) (.node (o_54 P) (.node (o_70 P) (.node (o_102 P) (.node (o_168 P) (.node (o_304 P) .nil .nil) (.node (o_441 P) .nil .nil)) (.node (o_234 P) (.node (o_373 P) .nil .nil) .nil)) (.node (o_136 P) (.node (o_202 P) (.node (o_341 P) .nil .nil) (.node (o_475 P) .nil .nil)) (.node (o_266 P) (.node (o_407 P) .nil .nil) .nil))) (.node (o_86 P) (.node (o_120 P) (.node (o_184 P) (.node (o_323 P) .nil .nil) (.node (o_457 P) .nil .nil)) (.node (o_250 P) (.node (o_389 P) .nil .nil) .nil)) (.node (o_152 P) (.node (o_218 P) (.node (o_357 P) .nil .nil) (.node (o_491 P) .nil .nil)) (.node (o_285 P) (.node (o_425 P) .nil .nil) .nil)))) (.node (o_62 P) (.node (o_78 P) (.node (o_112 P) (.node (o_176 P) (.node (o_315 P) .nil .nil) (.node (o_449 P) .nil .nil)) (.node (o_242 P) (.node (o_381 P) .nil .nil) .nil)) (.node (o_144 P) (.node (o_210 P) (.node (o_349 P) .nil .nil) (.node (o_483 P) .nil .nil)) (.node (o_277 P) (.node (o_417 P) .nil .nil) .nil))) (.node (o_94 P) (.node (o_128 P) (.node (o_194 P) (.node (o_333 P) .nil .nil) (.node (o_465 P) .nil .nil)) (.node (o_258 P) (.node (o_397 P) .nil .nil) .nil)) (.node (o_160 P) (.node (o_226 P) (.node (o_365 P) .nil .nil) (.node (o_499 P) .nil .nil)) (.node (o_296 P) (.node (o_433 P) .nil .nil) .nil))))) (.node (o_46 P) (.node (o_58 P) (.node (o_74 P) (.node (o_106 P) (.node (o_172 P) (.node (o_308 P) .nil .nil) (.node (o_445 P) .nil .nil)) (.node (o_238 P) (.node (o_377 P) .nil .nil) .nil)) (.node (o_140 P) (.node (o_206 P) (.node (o_345 P) .nil .nil) (.node (o_479 P) .nil .nil)) (.node (o_270 P) (.node (o_411 P) .nil .nil) .nil))) (.node (o_90 P) (.node (o_124 P) (.node (o_188 P) (.node (o_327 P) .nil .nil) (.node (o_461 P) .nil .nil)) (.node (o_254 P) (.node (o_393 P) .nil .nil) .nil)) (.node (o_156 P) (.node (o_222 P) (.node (o_361 P) .nil .nil) (.node (o_495 P) .nil .nil)) (.node (o_292 P) (.node (o_429 P) .nil .nil) .nil)))) (.node (o_66 P) (.node (o_82 P) (.node (o_116 P) (.node (o_180 P) (.node (o_319 P) .nil .nil) (.node (o_453 P) .nil .nil)) (.node (o_246 P) (.node (o_385 P) .nil .nil) .nil)) (.node (o_148 P) (.node (o_214 P) (.node (o_353 P) .nil .nil) (.node (o_487 P) .nil .nil)) (.node (o_281 P) (.node (o_421 P) .nil .nil) .nil))) (.node (o_98 P) (.node (o_132 P) (.node (o_198 P) (.node (o_337 P) .nil .nil) (.node (o_469 P) .nil .nil)) (.node (o_262 P) (.node (o_401 P) .nil .nil) .nil)) (.node (o_164 P) (.node (o_230 P) (.node (o_369 P) .nil .nil) .nil) (.node (o_300 P) (.node (o_437 P) .nil .nil) .nil))))))))
noncomputable def heap_503 (P : Params) : Heap := (.mk (.mk ((boot_o_0 P) :: ((boot_o_1 P) :: ((o_271 P) :: ((o_470 P) :: ((boot_o_4 P) :: ((boot_o_5 P) :: ((boot_o_6 P) :: ((boot_o_7 P) :: ((boot_o_8 P) :: ((boot_o_9 P) :: ((boot_o_10 P) :: ((o_43 P) :: ((o_471 P) :: ((o_45 P) :: ((o_46 P) :: ((o_51 P) :: ((o_52 P) :: ((o_53 P) :: ((o_54 P) :: ((o_55 P) :: ((o_56 P) :: ((o_57 P) :: ((o_58 P) :: ((o_59 P) :: ((o_60 P) :: ((o_61 P) :: ((o_62 P) :: ((o_63 P) :: ((o_64 P) :: ((o_65 P) :: ((o_66 P) :: ((o_67 P) :: ((o_68 P) :: ((o_69 P) :: ((o_70 P) :: ((o_71 P) :: ((o_72 P) :: ((o_73 P) :: ((o_74 P) :: ((o_75 P) :: ((o_76 P) :: ((o_77 P) :: ((o_78 P) :: ((o_79 P) :: ((o_80 P) :: ((o_81 P) :: ((o_82 P) :: ((o_83 P) :: ((o_84 P) :: ((o_85 P) :: ((o_86 P) :: ((o_87 P) :: ((o_88 P) :: ((o_89 P) :: ((o_90 P) :: ((o_91 P) :: ((o_92 P) :: ((o_93 P) :: ((o_94 P) :: ((o_95 P) :: ((o_96 P) :: ((o_97 P) :: ((o_98 P) :: ((o_99 P) :: ((o_100 P) :: ((o_101 P) :: ((o_102 P) :: ((o_103 P) :: ((o_104 P) :: ((o_105 P) :: ((o_106 P) :: ((o_109 P) :: ((o_110 P) :: ((o_111 P) :: ((o_112 P) :: ((o_113 P) :: ((o_114 P) :: ((o_115 P) :: ((o_116 P) :: ((o_117 P) :: ((o_118 P) :: ((o_119 P) :: ((o_120 P) :: ((o_121 P) :: ((o_122 P) :: ((o_123 P) :: ((o_124 P) :: ((o_125 P) :: ((o_126 P) :: ((o_127 P) :: ((o_128 P) :: ((o_129 P) :: ((o_130 P) :: ((o_131 P) :: ((o_132 P) :: ((o_133 P) :: ((o_134 P) :: ((o_135 P) :: ((o_136 P) :: ((o_137 P) :: ((o_138 P) :: ((o_139 P) :: ((o_140 P) :: ((o_141 P) :: ((o_142 P) :: ((o_143 P) :: ((o_144 P) :: ((o_145 P) :: ((o_146 P) :: ((o_147 P) :: ((o_148 P) :: ((o_149 P) :: ((o_150 P) :: ((o_151 P) :: ((o_152 P) :: ((o_153 P) :: ((o_154 P) :: ((o_155 P) :: ((o_156 P) :: ((o_157 P) :: ((o_158 P) :: ((o_159 P) :: ((o_160 P) :: ((o_161 P) :: ((o_162 P) :: ((o_163 P) :: ((o_164 P) :: ((o_165 P) :: ((o_166 P) :: ((o_167 P) :: ((o_168 P) :: ((o_169 P) :: ((o_170 P) :: ((o_171 P) :: ((o_172 P) :: ((o_173 P) :: ((o_174 P) :: ((o_175 P) :: ((o_176 P) :: ((o_177 P) :: ((o_178 P) :: ((o_179 P) :: ((o_180 P) :: ((o_181 P) :: ((o_182 P) :: ((o_183 P) :: ((o_184 P) :: ((o_185 P) :: ((o_186 P) :: ((o_187 P) :: ((o_188 P) :: ((o_189 P) :: ((o_190 P) :: ((o_191 P) :: ((o_194 P) :: ((o_195 P) :: ((o_196 P) :: ((o_197 P) :: ((o_198 P) :: ((o_199 P) :: ((o_200 P) :: ((o_201 P) :: ((o_202 P) :: ((o_203 P) :: ((o_204 P) :: ((o_205 P) :: ((o_206 P) :: ((o_207 P) :: ((o_208 P) :: ((o_209 P) :: ((o_210 P) :: ((o_211 P) :: ((o_212 P) :: ((o_213 P) :: ((o_214 P) :: ((o_215 P) :: ((o_216 P) :: ((o_217 P) :: ((o_218 P) :: ((o_219 P) :: ((o_220 P) :: ((o_221 P) :: ((o_222 P) :: ((o_223 P) :: ((o_224 P) :: ((o_225 P) :: ((o_226 P) :: ((o_227 P) :: ((o_228 P) :: ((o_229 P) :: ((o_230 P) :: ((o_231 P) :: ((o_232 P) :: ((o_233 P) :: ((o_234 P) :: ((o_235 P) :: ((o_236 P) :: ((o_237 P) :: ((o_238 P) :: ((o_239 P) :: ((o_240 P) :: ((o_241 P) :: ((o_242 P) :: ((o_243 P) :: ((o_244 P) :: ((o_245 P) :: ((o_246 P) :: ((o_247 P) :: ((o_248 P) :: ((o_249 P) :: ((o_250 P) :: ((o_251 P) :: ((o_252 P) :: ((o_253 P) :: ((o_254 P) :: ((o_255 P) :: ((o_256 P) :: ((o_257 P) :: ((o_258 P) :: ((o_259 P) :: ((o_260 P) :: ((o_261 P) :: ((o_262 P) :: ((o_263 P) :: ((o_264 P) :: ((o_265 P) :: ((o_266 P) :: ((o_267 P) :: ((o_268 P) :: ((o_269 P) :: ((o_270 P) :: ((o_274 P) :: ((o_275 P) :: ((o_276 P) :: ((o_277 P) :: ((o_278 P) :: ((o_279 P) :: ((o_280 P) :: ((o_281 P) :: ((o_282 P) :: ((o_311 P) :: ((o_284 P) :: ((o_285 P) :: ((o_286 P) :: ((o_290 P) :: ((o_291 P) :: ((o_292 P) :: ((o_293 P) :: ((o_294 P) :: ((o_295 P) :: ((o_296 P) :: ((o_297 P) :: ((o_298 P) :: ((o_299 P) :: ((o_300 P) :: ((o_301 P) :: ((o_302 P) :: ((o_303 P) :: ((o_304 P) :: ((o_305 P) :: ((o_306 P) :: ((o_307 P) :: ((o_308 P) :: ((o_312 P) :: ((o_313 P) :: ((o_314 P) :: ((o_315 P) :: ((o_316 P) :: ((o_317 P) :: ((o_318 P) :: ((o_319 P) :: ((o_320 P) :: ((o_321 P) :: ((o_322 P) :: ((o_323 P) :: ((o_324 P) :: ((o_325 P) :: ((o_326 P) :: ((o_327 P) :: ((o_328 P) :: ((o_329 P) :: ((o_330 P) :: ((o_333 P) :: ((o_334 P) :: ((o_335 P) :: ((o_336 P) :: ((o_337 P) :: ((o_338 P) :: ((o_339 P) :: ((o_340 P) :: ((o_341 P) :: ((o_342 P) :: ((o_343 P) :: ((o_344 P) :: ((o_345 P) :: ((o_346 P) :: ((o_347 P) :: ((o_348 P) :: ((o_349 P) :: ((o_350 P) :: ((o_351 P) :: ((o_352 P) :: ((o_353 P) :: ((o_354 P) :: ((o_355 P) :: ((o_356 P) :: ((o_357 P) :: ((o_358 P) :: ((o_359 P) :: ((o_360 P) :: ((o_361 P) :: ((o_362 P) :: ((o_363 P) :: ((o_364 P) :: ((o_365 P) :: ((o_366 P) :: ((o_367 P) :: ((o_368 P) :: ((o_369 P) :: ((o_370 P) :: ((o_371 P) :: ((o_372 P) :: ((o_373 P) :: ((o_374 P) :: ((o_375 P) :: ((o_376 P) :: ((o_377 P) :: ((o_378 P) :: ((o_379 P) :: ((o_380 P) :: ((o_381 P) :: ((o_382 P) :: ((o_383 P) :: ((o_384 P) :: ((o_385 P) :: ((o_386 P) :: ((o_387 P) :: ((o_388 P) :: ((o_389 P) :: ((o_390 P) :: ((o_391 P) :: ((o_392 P) :: ((o_393 P) :: ((o_394 P) :: ((o_395 P) :: ((o_396 P) :: ((o_397 P) :: ((o_398 P) :: ((o_399 P) :: ((o_400 P) :: ((o_401 P) :: ((o_402 P) :: ((o_405 P) :: ((o_406 P) :: ((o_407 P) :: ((o_408 P) :: ((o_409 P) :: ((o_410 P) :: ((o_411 P) :: ((o_414 P) :: ((o_415 P) :: ((o_416 P) :: ((o_417 P) :: ((o_418 P) :: ((o_419 P) :: ((o_420 P) :: ((o_421 P) :: ((o_422 P) :: ((o_423 P) :: ((o_424 P) :: ((o_425 P) :: ((o_426 P) :: ((o_427 P) :: ((o_428 P) :: ((o_429 P) :: ((o_430 P) :: ((o_431 P) :: ((o_432 P) :: ((o_433 P) :: ((o_434 P) :: ((o_435 P) :: ((o_436 P) :: ((o_437 P) :: ((o_438 P) :: ((o_439 P) :: ((o_440 P) :: ((o_441 P) :: ((o_442 P) :: ((o_443 P) :: ((o_444 P) :: ((o_445 P) :: ((o_446 P) :: ((o_447 P) :: ((o_448 P) :: ((o_449 P) :: ((o_450 P) :: ((o_451 P) :: ((o_452 P) :: ((o_453 P) :: ((o_454 P) :: ((o_455 P) :: ((o_456 P) :: ((o_457 P) :: ((o_458 P) :: ((o_459 P) :: ((o_460 P) :: ((o_461 P) :: ((o_462 P) :: ((o_463 P) :: ((o_464 P) :: ((o_465 P) :: ((o_466 P) :: ((o_467 P) :: ((o_468 P) :: ((o_469 P) :: ((o_472 P) :: ((o_473 P) :: ((o_474 P) :: ((o_475 P) :: ((o_476 P) :: ((o_477 P) :: ((o_478 P) :: ((o_479 P) :: ((o_480 P) :: ((o_481 P) :: ((o_482 P) :: ((o_483 P) :: ((o_484 P) :: ((o_485 P) :: ((o_486 P) :: ((o_487 P) :: ((o_488 P) :: ((o_489 P) :: ((o_490 P) :: ((o_491 P) :: ((o_492 P) :: ((o_493 P) :: ((o_494 P) :: ((o_495 P) :: ((o_496 P) :: ((o_497 P) :: ((o_498 P) :: ((o_499 P) :: ((o_500 P) :: ((o_501 P) :: ((o_502 P) :: []))))))))))))))))))))))))))))))))))))))))))))))))))))))))))))))))))))))))))))))))))))))))))))))))))))))))))))))))))))))))))))))))))))))))))))))))))))))))))))))))))))))))))))))))))))))))))))))))))))))))))))))))))))))))))))))))))))))))))))))))))))))))))))))))))))))))))))))))))))))))))))))))))))))))))))))))))))))))))))))))))))))))))))))))))))))))))))))))))))))))))))))))))))))))))))))))))))))))))))))))))))))))))))))))))))))))))))))))))))))))))))))) (.mk [] [] [] 0 [] [] false (.mk []) [] 0 false false false 0 (2000 :: (10 :: (10 :: []))) false 0 true [] [] 0 false))
noncomputable def heap_46 (P : Params) : Heap := (.mk (.mk ((boot_o_0 P) :: ((boot_o_1 P) :: ((boot_o_2 P) :: ((boot_o_3 P) :: ((boot_o_4 P) :: ((boot_o_5 P) :: ((boot_o_6 P) :: ((boot_o_7 P) :: ((boot_o_8 P) :: ((boot_o_9 P) :: ((boot_o_10 P) :: ((o_43 P) :: ((o_44 P) :: ((o_45 P) :: ((o_46 P) :: [])))))))))))))))) (.mk [] [] [] 0 [] [] false (.mk []) [] 0 false false false 0 (2000 :: (10 :: (10 :: []))) false 0 true [] [] 0 false))
noncomputable def KF (P : Params) : Frag := (nat_lit 2, (o_271 P)) :: (nat_lit 3, (o_470 P)) :: (nat_lit 15, (o_51 P)) :: (nat_lit 17, (o_53 P)) :: (nat_lit 18, (o_54 P)) :: (nat_lit 20, (o_56 P)) :: (nat_lit 21, (o_57 P)) :: (nat_lit 22, (o_58 P)) :: (nat_lit 24, (o_60 P)) :: (nat_lit 25, (o_61 P)) :: (nat_lit 27, (o_63 P)) :: (nat_lit 28, (o_64 P)) :: (nat_lit 29, (o_65 P)) :: (nat_lit 31, (o_67 P)) :: (nat_lit 32, (o_68 P)) :: (nat_lit 34, (o_70 P)) :: (nat_lit 35, (o_71 P)) :: (nat_lit 36, (o_72 P)) :: (nat_lit 38, (o_74 P)) :: (nat_lit 39, (o_75 P)) :: (nat_lit 41, (o_77 P)) :: (nat_lit 42, (o_78 P)) :: (nat_lit 43, (o_79 P)) :: (nat_lit 45, (o_81 P)) :: (nat_lit 46, (o_82 P)) :: (nat_lit 48, (o_84 P)) :: (nat_lit 49, (o_85 P)) :: (nat_lit 50, (o_86 P)) :: (nat_lit 52, (o_88 P)) :: (nat_lit 53, (o_89 P)) :: (nat_lit 55, (o_91 P)) :: (nat_lit 56, (o_92 P)) :: (nat_lit 57, (o_93 P)) :: (nat_lit 59, (o_95 P)) :: (nat_lit 60, (o_96 P)) :: (nat_lit 62, (o_98 P)) :: (nat_lit 63, (o_99 P)) :: (nat_lit 64, (o_100 P)) :: (nat_lit 66, (o_102 P)) :: (nat_lit 67, (o_103 P)) :: (nat_lit 69, (o_105 P)) :: (nat_lit 70, (o_106 P)) :: (nat_lit 71, (o_109 P)) :: (nat_lit 73, (o_111 P)) :: (nat_lit 74, (o_112 P)) :: (nat_lit 76, (o_114 P)) :: (nat_lit 77, (o_115 P)) :: (nat_lit 78, (o_116 P)) :: (nat_lit 80, (o_118 P)) :: (nat_lit 81, (o_119 P)) :: (nat_lit 83, (o_121 P)) :: (nat_lit 84, (o_122 P)) :: (nat_lit 85, (o_123 P)) :: (nat_lit 87, (o_125 P)) :: (nat_lit 88, (o_126 P)) :: (nat_lit 90, (o_128 P)) :: (nat_lit 91, (o_129 P)) :: (nat_lit 92, (o_130 P)) :: (nat_lit 94, (o_132 P)) :: (nat_lit 95, (o_133 P)) :: (nat_lit 97, (o_135 P)) :: (nat_lit 98, (o_136 P)) :: (nat_lit 99, (o_137 P)) :: (nat_lit 101, (o_139 P)) :: (nat_lit 102, (o_140 P)) :: (nat_lit 104, (o_142 P)) :: (nat_lit 105, (o_143 P)) :: (nat_lit 106, (o_144 P)) :: (nat_lit 108, (o_146 P)) :: (nat_lit 109, (o_147 P)) :: (nat_lit 111, (o_149 P)) :: (nat_lit 112, (o_150 P)) :: (nat_lit 113, (o_151 P)) :: (nat_lit 115, (o_153 P)) :: (nat_lit 116, (o_154 P)) :: (nat_lit 118, (o_156 P)) :: (nat_lit 119, (o_157 P)) :: (nat_lit 120, (o_158 P)) :: (nat_lit 122, (o_160 P)) :: (nat_lit 123, (o_161 P)) :: (nat_lit 125, (o_163 P)) :: (nat_lit 126, (o_164 P)) :: (nat_lit 127, (o_165 P)) :: (nat_lit 130, (o_168 P)) :: (nat_lit 131, (o_169 P)) :: (nat_lit 132, (o_170 P)) :: (nat_lit 134, (o_172 P)) :: (nat_lit 135, (o_173 P)) :: (nat_lit 137, (o_175 P)) :: (nat_lit 138, (o_176 P)) :: (nat_lit 139, (o_177 P)) :: (nat_lit 141, (o_179 P)) :: (nat_lit 142, (o_180 P)) :: (nat_lit 144, (o_182 P)) :: (nat_lit 145, (o_183 P)) :: (nat_lit 146, (o_184 P)) :: (nat_lit 147, (o_185 P)) :: (nat_lit 149, (o_187 P)) :: (nat_lit 150, (o_188 P)) :: (nat_lit 152, (o_190 P)) :: (nat_lit 153, (o_191 P)) :: (nat_lit 154, (o_194 P)) :: (nat_lit 156, (o_196 P)) :: (nat_lit 157, (o_197 P)) :: (nat_lit 159, (o_199 P)) :: (nat_lit 160, (o_200 P)) :: (nat_lit 161, (o_201 P)) :: (nat_lit 163, (o_203 P)) :: (nat_lit 164, (o_204 P)) :: (nat_lit 166, (o_206 P)) :: (nat_lit 167, (o_207 P)) :: (nat_lit 168, (o_208 P)) :: (nat_lit 170, (o_210 P)) :: (nat_lit 171, (o_211 P)) :: (nat_lit 173, (o_213 P)) :: (nat_lit 174, (o_214 P)) :: (nat_lit 175, (o_215 P)) :: (nat_lit 177, (o_217 P)) :: (nat_lit 178, (o_218 P)) :: (nat_lit 180, (o_220 P)) :: (nat_lit 181, (o_221 P)) :: (nat_lit 182, (o_222 P)) :: (nat_lit 184, (o_224 P)) :: (nat_lit 185, (o_225 P)) :: (nat_lit 187, (o_227 P)) :: (nat_lit 188, (o_228 P)) :: (nat_lit 189, (o_229 P)) :: (nat_lit 191, (o_231 P)) :: (nat_lit 192, (o_232 P)) :: (nat_lit 194, (o_234 P)) :: (nat_lit 195, (o_235 P)) :: (nat_lit 196, (o_236 P)) :: (nat_lit 198, (o_238 P)) :: (nat_lit 199, (o_239 P)) :: (nat_lit 201, (o_241 P)) :: (nat_lit 202, (o_242 P)) :: (nat_lit 203, (o_243 P)) :: (nat_lit 205, (o_245 P)) :: (nat_lit 206, (o_246 P)) :: (nat_lit 208, (o_248 P)) :: (nat_lit 209, (o_249 P)) :: (nat_lit 210, (o_250 P)) :: (nat_lit 212, (o_252 P)) :: (nat_lit 213, (o_253 P)) :: (nat_lit 215, (o_255 P)) :: (nat_lit 216, (o_256 P)) :: (nat_lit 217, (o_257 P)) :: (nat_lit 219, (o_259 P)) :: (nat_lit 220, (o_260 P)) :: (nat_lit 222, (o_262 P)) :: (nat_lit 223, (o_263 P)) :: (nat_lit 224, (o_264 P)) :: (nat_lit 226, (o_266 P)) :: (nat_lit 227, (o_267 P)) :: (nat_lit 229, (o_269 P)) :: (nat_lit 230, (o_270 P)) :: (nat_lit 231, (o_274 P)) :: (nat_lit 238, (o_281 P)) :: (nat_lit 239, (o_282 P)) :: (nat_lit 240, (o_311 P)) :: (nat_lit 241, (o_284 P)) :: (nat_lit 244, (o_290 P)) :: (nat_lit 251, (o_297 P)) :: (nat_lit 253, (o_299 P)) :: (nat_lit 254, (o_300 P)) :: (nat_lit 256, (o_302 P)) :: (nat_lit 257, (o_303 P)) :: (nat_lit 258, (o_304 P)) :: (nat_lit 259, (o_305 P)) :: (nat_lit 260, (o_306 P)) :: (nat_lit 263, (o_312 P)) :: (nat_lit 270, (o_319 P)) :: (nat_lit 272, (o_321 P)) :: (nat_lit 273, (o_322 P)) :: (nat_lit 275, (o_324 P)) :: (nat_lit 276, (o_325 P)) :: (nat_lit 277, (o_326 P)) :: (nat_lit 278, (o_327 P)) :: (nat_lit 279, (o_328 P)) :: (nat_lit 289, (o_340 P)) :: (nat_lit 291, (o_342 P)) :: (nat_lit 292, (o_343 P)) :: (nat_lit 294, (o_345 P)) :: (nat_lit 295, (o_346 P)) :: (nat_lit 296, (o_347 P)) :: (nat_lit 298, (o_349 P)) :: (nat_lit 299, (o_350 P)) :: (nat_lit 301, (o_352 P)) :: (nat_lit 302, (o_353 P)) :: (nat_lit 303, (o_354 P)) :: (nat_lit 305, (o_356 P)) :: (nat_lit 306, (o_357 P)) :: (nat_lit 308, (o_359 P)) :: (nat_lit 309, (o_360 P)) :: (nat_lit 310, (o_361 P)) :: (nat_lit 312, (o_363 P)) :: (nat_lit 313, (o_364 P)) :: (nat_lit 315, (o_366 P)) :: (nat_lit 316, (o_367 P)) :: (nat_lit 317, (o_368 P)) :: (nat_lit 319, (o_370 P)) :: (nat_lit 320, (o_371 P)) :: (nat_lit 322, (o_373 P)) :: (nat_lit 323, (o_374 P)) :: (nat_lit 324, (o_375 P)) :: (nat_lit 326, (o_377 P)) :: (nat_lit 327, (o_378 P)) :: (nat_lit 329, (o_380 P)) :: (nat_lit 330, (o_381 P)) :: (nat_lit 331, (o_382 P)) :: (nat_lit 333, (o_384 P)) :: (nat_lit 334, (o_385 P)) :: (nat_lit 336, (o_387 P)) :: (nat_lit 337, (o_388 P)) :: (nat_lit 338, (o_389 P)) :: (nat_lit 340, (o_391 P)) :: (nat_lit 341, (o_392 P)) :: (nat_lit 343, (o_394 P)) :: (nat_lit 344, (o_395 P)) :: (nat_lit 345, (o_396 P)) :: (nat_lit 346, (o_397 P)) :: (nat_lit 347, (o_398 P)) :: (nat_lit 348, (o_399 P)) :: (nat_lit 349, (o_400 P)) :: (nat_lit 352, (o_405 P)) :: (nat_lit 354, (o_407 P)) :: (nat_lit 355, (o_408 P)) :: (nat_lit 357, (o_410 P)) :: (nat_lit 358, (o_411 P)) :: (nat_lit 366, (o_421 P)) :: (nat_lit 368, (o_423 P)) :: (nat_lit 369, (o_424 P)) :: (nat_lit 371, (o_426 P)) :: (nat_lit 372, (o_427 P)) :: (nat_lit 373, (o_428 P)) :: (nat_lit 375, (o_430 P)) :: (nat_lit 376, (o_431 P)) :: (nat_lit 378, (o_433 P)) :: (nat_lit 379, (o_434 P)) :: (nat_lit 380, (o_435 P)) :: (nat_lit 382, (o_437 P)) :: (nat_lit 383, (o_438 P)) :: (nat_lit 385, (o_440 P)) :: (nat_lit 386, (o_441 P)) :: (nat_lit 387, (o_442 P)) :: (nat_lit 389, (o_444 P)) :: (nat_lit 390, (o_445 P)) :: (nat_lit 392, (o_447 P)) :: (nat_lit 393, (o_448 P)) :: (nat_lit 394, (o_449 P)) :: (nat_lit 396, (o_451 P)) :: (nat_lit 397, (o_452 P)) :: (nat_lit 399, (o_454 P)) :: (nat_lit 400, (o_455 P)) :: (nat_lit 401, (o_456 P)) :: (nat_lit 403, (o_458 P)) :: (nat_lit 404, (o_459 P)) :: (nat_lit 406, (o_461 P)) :: (nat_lit 407, (o_462 P)) :: (nat_lit 408, (o_463 P)) :: (nat_lit 409, (o_464 P)) :: (nat_lit 410, (o_465 P)) :: (nat_lit 411, (o_466 P)) :: (nat_lit 412, (o_467 P)) :: (nat_lit 415, (o_472 P)) :: (nat_lit 417, (o_474 P)) :: (nat_lit 418, (o_475 P)) :: (nat_lit 420, (o_477 P)) :: (nat_lit 421, (o_478 P)) :: (nat_lit 422, (o_479 P)) :: (nat_lit 424, (o_481 P)) :: (nat_lit 425, (o_482 P)) :: (nat_lit 427, (o_484 P)) :: (nat_lit 428, (o_485 P)) :: (nat_lit 429, (o_486 P)) :: (nat_lit 431, (o_488 P)) :: (nat_lit 432, (o_489 P)) :: (nat_lit 434, (o_491 P)) :: (nat_lit 435, (o_492 P)) :: (nat_lit 436, (o_493 P)) :: (nat_lit 439, (o_496 P)) :: (nat_lit 440, (o_497 P)) :: (nat_lit 441, (o_498 P)) :: (nat_lit 444, (o_501 P)) :: (nat_lit 445, (o_502 P)) :: []
noncomputable def asL : List Addr := 2 :: 3 :: 15 :: 17 :: 18 :: 20 :: 21 :: 22 :: 24 :: 25 :: 27 :: 28 :: 29 :: 31 :: 32 :: 34 :: 35 :: 36 :: 38 :: 39 :: 41 :: 42 :: 43 :: 45 :: 46 :: 48 :: 49 :: 50 :: 52 :: 53 :: 55 :: 56 :: 57 :: 59 :: 60 :: 62 :: 63 :: 64 :: 66 :: 67 :: 69 :: 70 :: 71 :: 73 :: 74 :: 76 :: 77 :: 78 :: 80 :: 81 :: 83 :: 84 :: 85 :: 87 :: 88 :: 90 :: 91 :: 92 :: 94 :: 95 :: 97 :: 98 :: 99 :: 101 :: 102 :: 104 :: 105 :: 106 :: 108 :: 109 :: 111 :: 112 :: 113 :: 115 :: 116 :: 118 :: 119 :: 120 :: 122 :: 123 :: 125 :: 126 :: 127 :: 130 :: 131 :: 132 :: 134 :: 135 :: 137 :: 138 :: 139 :: 141 :: 142 :: 144 :: 145 :: 146 :: 147 :: 149 :: 150 :: 152 :: 153 :: 154 :: 156 :: 157 :: 159 :: 160 :: 161 :: 163 :: 164 :: 166 :: 167 :: 168 :: 170 :: 171 :: 173 :: 174 :: 175 :: 177 :: 178 :: 180 :: 181 :: 182 :: 184 :: 185 :: 187 :: 188 :: 189 :: 191 :: 192 :: 194 :: 195 :: 196 :: 198 :: 199 :: 201 :: 202 :: 203 :: 205 :: 206 :: 208 :: 209 :: 210 :: 212 :: 213 :: 215 :: 216 :: 217 :: 219 :: 220 :: 222 :: 223 :: 224 :: 226 :: 227 :: 229 :: 230 :: 231 :: 238 :: 239 :: 240 :: 241 :: 244 :: 251 :: 253 :: 254 :: 256 :: 257 :: 258 :: 259 :: 260 :: 263 :: 270 :: 272 :: 273 :: 275 :: 276 :: 277 :: 278 :: 279 :: 289 :: 291 :: 292 :: 294 :: 295 :: 296 :: 298 :: 299 :: 301 :: 302 :: 303 :: 305 :: 306 :: 308 :: 309 :: 310 :: 312 :: 313 :: 315 :: 316 :: 317 :: 319 :: 320 :: 322 :: 323 :: 324 :: 326 :: 327 :: 329 :: 330 :: 331 :: 333 :: 334 :: 336 :: 337 :: 338 :: 340 :: 341 :: 343 :: 344 :: 345 :: 346 :: 347 :: 348 :: 349 :: 352 :: 354 :: 355 :: 357 :: 358 :: 366 :: 368 :: 369 :: 371 :: 372 :: 373 :: 375 :: 376 :: 378 :: 379 :: 380 :: 382 :: 383 :: 385 :: 386 :: 387 :: 389 :: 390 :: 392 :: 393 :: 394 :: 396 :: 397 :: 399 :: 400 :: 401 :: 403 :: 404 :: 406 :: 407 :: 408 :: 409 :: 410 :: 411 :: 412 :: 415 :: 417 :: 418 :: 420 :: 421 :: 422 :: 424 :: 425 :: 427 :: 428 :: 429 :: 431 :: 432 :: 434 :: 435 :: 436 :: 439 :: 440 :: 441 :: 444 :: 445 :: []
noncomputable def lv : List (Str × WData) := [("EVERYTHING", WData.int 262143), ("HELD", WData.int 26624)]
noncomputable def lo : List Str := ["EVERYTHING", "HELD", "flagged"]
theorem asL_ok (P : Params) : asL = (KF P).map (·.1) := by kernel_rfl
noncomputable def HK : Hook := kHook KF asL asL_ok
noncomputable def envH : Env := { scope := PP.main.scope, locals := mainNs, globals := mainNs, cells := [], code := .ref 13, frame := some 14 }
noncomputable def q0 : Pos := ⟨0, 0, 0, 0⟩
noncomputable def cE : Code := .body (G1 ++ (G2 ++ (G3 ++ []))) envH
noncomputable def S46 (w : World) (os : OsState) : Shared := ⟨heap_46 w.params, ⟨[]⟩, {}, 187, os⟩
noncomputable def T47 (w : World) (os : OsState) : SharedT := ⟨tree_47 w.params, 15, {}, ⟨[]⟩, {}, 187, os⟩
noncomputable def T270 (w : World) (os : OsState) : SharedT := ⟨tree_270 w.params, 231, {}, ⟨[]⟩, {}, 496, os⟩
noncomputable def T402 (w : World) (os : OsState) : SharedT := ⟨tree_402 w.params, 352, {}, ⟨[]⟩, {}, 682, os⟩
noncomputable def T502 (w : World) (os : OsState) : SharedT := ⟨tree_502 w.params, 446, {}, ⟨[]⟩, {}, 812, os⟩
noncomputable def p1 : Pos := ⟨203, 0, 203, 8⟩
noncomputable def p2 : Pos := ⟨219, 0, 310, 28⟩
noncomputable def p3 : Pos := ⟨379, 0, 410, 86⟩
theorem run_0 (w : World) (os : OsState) : topGo treeTable PP w 11 (some (.ref 6)) 12 ⟨boot_heap w.params, ⟨[]⟩, boot_drawn, boot_toks, os⟩ (topStub PP) = some (S46 w os, ⟨denote treeTable cE, cE, q0, [topFrame q0]⟩) := by kernel_rfl
theorem run_1 (w : World) (os : OsState) : segRun treeTable PP w 11 (some (.ref 6)) 1 1 (S46 w os) (blockOf (G1 ++ (G2 ++ (G3 ++ []))) envH cE q0 [topFrame q0]) = some (.next, (T47 w os).abs, cE, q0) := by kernel_rfl
theorem run_2 (w : World) (os : OsState) : segRunT treeTable PP w 11 (some (.ref 6)) 1 1132 (T47 w os) (piecesOf G1 envH cE q0 [topFrame q0]) = some (.next, T270 w os, cE, p1) := by kernel_rfl
theorem run_3 (w : World) (os : OsState) : segRunT treeTable PP w 11 (some (.ref 6)) 1 1188 (T270 w os) (piecesOf G2 envH cE p1 [topFrame q0]) = some (.next, T402 w os, cE, p2) := by kernel_rfl
theorem run_4 (w : World) (os : OsState) : segRunT treeTable PP w 11 (some (.ref 6)) 1 595 (T402 w os) (piecesOf G3 envH cE p2 [topFrame q0]) = some (.next, T502 w os, cE, p3) := by kernel_rfl
theorem run_5 (w : World) (os : OsState) : topRun treeTable PP w 11 (some (.ref 6)) 2 (T502 w os).abs (restOf [] envH cE p3 [topFrame q0]) = some ⟨heap_503 w.params, ⟨[]⟩, {}, 812, os⟩ := by kernel_rfl
theorem run_all (w : World) (os : OsState) : topRun treeTable PP w 11 (some (.ref 6)) (12 + (1 + (1132 + (1188 + (595 + 2))))) ⟨boot_heap w.params, ⟨[]⟩, boot_drawn, boot_toks, os⟩ (topStub PP) = some ⟨heap_503 w.params, ⟨[]⟩, {}, 812, os⟩ :=
  go_top (run_0 w os) (piece_block (b := G1 ++ (G2 ++ (G3 ++ []))) (run_1 w os) (piece_app (segRun_of (run_2 w os)) (piece_app (segRun_of (run_3 w os)) (piece_app (segRun_of (run_4 w os)) (run_5 w os)))))
theorem look_1 (w : World) : ((boot_heap w.params).isNs mainGlobals && (⟨[]⟩ : Array GenState).size == 0, (boot_heap w.params).objs.size, (boot_heap w.params).nsMap mainGlobals "__annotations__") = (true, 11, some (.ref 6)) := by kernel_rfl
theorem look_2 (w : World) (os : OsState) : (staticsOk (importedModules PP.main.body) (boot_heap w.params) (heap_503 w.params) && namesBound PP (heap_503 w.params) && gensDone ⟨heap_503 w.params, ⟨[]⟩, {}, 812, os⟩ && laidKept (boot_heap w.params) (heap_503 w.params)) = true := by kernel_rfl
theorem look_3 (w : World) (os : OsState) : openSeen view lo (importedModules PP.main.body) (fun s => xlAt view lv s && recOk (RowW.records PySem.Challenge.rw_pb0357_01.row.toRowW) s) true ⟨heap_503 w.params, ⟨[]⟩, {}, 812, os⟩ = openGood view lo := by kernel_rfl
theorem look_4 (w : World) (os : OsState) : Hook.obs HK ⟨heap_503 w.params, ⟨[]⟩, {}, 812, os⟩ = Hook.val HK w := by kernel_rfl
theorem open_1 : opening PP = plainProg PP.main.scope.names := by kernel_rfl
theorem open_2 (s : Shared) : fenceModules? PP s = some s := by kernel_rfl
theorem left0 : LeftO PP view lo (fun s => xlAt view lv s && recOk (RowW.records PySem.Challenge.rw_pb0357_01.row.toRowW) s) (Hook.obs HK) (Hook.val HK) 5936 :=
  LeftO.of_pieces (H₀ := boot_heap) (H₁ := heap_503) (boot_open open_1 rfl open_2) look_1 run_all rfl fun w => funext fun os => looks_pair (look_2 w os) (looks_pair (look_3 w os) (look_4 w os))
theorem said0 : PySem.Challenge.rw_pb0357_01.row.partSaid = true := by kernel_rfl
theorem well0 : PySem.Challenge.rw_pb0357_01.wellSaid = true := by
  unfold OpenLaw.wellSaid OpenRow.wellSaid
  rw [said0]
  kernel_rfl
theorem hd (hc : ∀ d kwd, defOf view "law" = some (d, kwd) → WalkO view lo (XL view lv) HK.says PySem.Challenge.rw_pb0357_01.row.toRowW d kwd fun f vs => PySem.call f vs) : PySem.Challenge.rw_pb0357_01.Holds := by
  refine holds_law well0 fun said => ?_
  refine holds_open (q := view) (loose := lo) (Xt := fun s => xlAt view lv s && recOk (RowW.records PySem.Challenge.rw_pb0357_01.row.toRowW) s) (XP := XL view lv) (Yf := Hook.obs HK) (Ya := Hook.val HK) (YP := Hook.says HK) (N := 5936) left0 (Hook.of HK) (Hook.keeps HK) (fun s e => xl_of s (Bool.and_eq_true_iff.mp e).1) XL.keeps (by rfl) (by rfl) (by rfl) (fun s e => recFacts_of (Bool.and_eq_true_iff.mp e).2) (by rfl) said (by decide +kernel) ⟨rfl, rfl, rfl, rfl, rfl, by decide +kernel⟩ ?hw (hc _ _ (by rfl))
  w_witness2
end
end
section
theorem ite_bind {α : Type} {p : Prop} [Decidable p] {x : Option α} {b : α} (e : (if p then x else none) = some b) : p ∧ x = some b := by
  by_cases h : p
  · rw [if_pos h] at e; exact ⟨h, e⟩
  · rw [if_neg h] at e; cases e
section
variable {α β γ δ : Type} {G : Prop}
theorem ob1 {x : Option α} {f : α → Option δ} {r : δ} (e : x.bind f = some r) (k : ∀ a, x = some a → f a = some r → G) : G := by
  cases x with
  | none => cases e
  | some a => exact k a rfl e
theorem ob2 {x : Option (α × β)} {f : α × β → Option δ} {r : δ} (e : x.bind f = some r) (k : ∀ a b, x = some (a, b) → f (a, b) = some r → G) : G := ob1 e fun a => k a.1 a.2
theorem ob3 {x : Option (α × β × γ)} {f : α × β × γ → Option δ} {r : δ} (e : x.bind f = some r) (k : ∀ a b c, x = some (a, b, c) → f (a, b, c) = some r → G) : G := ob1 e fun a => k a.1 a.2.1 a.2.2
theorem obI {p : Prop} [Decidable p] {x : Option α} {b : α} (e : (if p then x else none) = some b) (k : p → x = some b → G) : G := k (ite_bind e).1 (ite_bind e).2
theorem obE {b : Bool} {x : Option α} {r : α} (e : (if b = true then none else x) = some r) (k : b = false → x = some r → G) : G := by
  cases b
  · exact k rfl e
  · cases e
@[elab_as_elim] theorem oR2 {a v : α} {b s : β} {G : α → β → Prop} (e : some (a, b) = some (v, s)) (k : G a b) : G v s := by cases e; exact k
@[elab_as_elim] theorem oR3 {a v : α} {b s : β} {c w : γ} {G : α → β → γ → Prop} (e : some (a, b, c) = some (v, s, w)) (k : G a b c) : G v s w := by cases e; exact k
@[elab_as_elim] theorem oM2 {y : Option γ} {f : γ → α × β} {v : α} {s : β} {G : α → β → Prop} (e : y.map f = some (v, s)) (k : ∀ a, y = some a → G (f a).1 (f a).2) : G v s := by
  cases y with
  | none => cases e
  | some a =>
    have h := k a rfl
    rw [show f a = (v, s) from Option.some.inj e] at h
    exact h
theorem xE11 {p q : α → Prop} (h : ∃ a, p a ∧ q a) (k : ∀ a, p a → q a → G) : G := by obtain ⟨a, h1, h2⟩ := h; exact k a h1 h2
theorem xE12 {p q r : α → Prop} (h : ∃ a, p a ∧ q a ∧ r a) (k : ∀ a, p a → q a → r a → G) : G := by obtain ⟨a, h1, h2, h3⟩ := h; exact k a h1 h2 h3
theorem xE21 {p q : α → β → Prop} (h : ∃ a b, p a b ∧ q a b) (k : ∀ a b, p a b → q a b → G) : G := by obtain ⟨a, b, h1, h2⟩ := h; exact k a b h1 h2
theorem xE22 {p q r : α → β → Prop} (h : ∃ a b, p a b ∧ q a b ∧ r a b) (k : ∀ a b, p a b → q a b → r a b → G) : G := by obtain ⟨a, b, h1, h2, h3⟩ := h; exact k a b h1 h2 h3
theorem oN {r : α} (e : none = some r) : G := nomatch e
end
inductive V where
  | none | bool (b : Bool) | int (i : Int) | str (s : Str) | tup (vs : List V) | ref (n : Nat) | scr (ns : List Int)

inductive O where
  | lst (vs : List V) | inst (C : Addr) (d : Nat) | ns (fs : List (Str × V)) | dct (c : List (Int × Int))

abbrev Store := List O

structure Wd where
  prog : Program
  w : World
  h0 : Heap
  K : Frag
  mg : Str → Option Value
  mb : Str → Option Value

abbrev lstO (xs : Array Value) (n : Nat) : Obj := { cls := .type "list", data := .seq xs n }
abbrev tupO (xs : Array Value) (n : Nat) : Obj := { cls := .type "tuple", data := .seq xs n }

mutual
inductive VRel (W : Wd) (β : List Addr) (h : Heap) : V → Value → Prop
  | none : VRel W β h .none .none
  | bool (b : Bool) : VRel W β h (.bool b) (.bool b)
  | int (i : Int) (t : Tok) : VRel W β h (.int i) (.int i t)
  | str (x : Str) (t : Tok) : VRel W β h (.str x) (.str x t)
  | tup {vs : List V} {a : Addr} {xs : Array Value} {n : Nat} : h.get? a = some (tupO xs n) → VRels W β h vs xs.toList → VRel W β h (.tup vs) (.ref a)
  | ref {n : Nat} {a : Addr} : β[n]? = some a → VRel W β h (.ref n) (.ref a)
  | scr {ns : List Int} {a : Addr} {xs : Array Value} : W.h0.IsList a xs → IntsAre xs.toList ns → VRel W β h (.scr ns) (.ref a)
inductive VRels (W : Wd) (β : List Addr) (h : Heap) : List V → List Value → Prop
  | nil : VRels W β h [] []
  | cons {v : V} {x : Value} {vs : List V} {xs : List Value} : VRel W β h v x → VRels W β h vs xs → VRels W β h (v :: vs) (x :: xs)
end

section
variable {W : Wd} {β : List Addr} {h : Heap} {x : Value}
theorem VRel.int_inv {i : Int} (r : VRel W β h (.int i) x) : ∃ t, x = .int i t := by cases r; exact ⟨_, rfl⟩
theorem VRel.str_inv {i : Str} (r : VRel W β h (.str i) x) : ∃ t, x = .str i t := by cases r; exact ⟨_, rfl⟩
theorem VRel.bool_inv {b : Bool} (r : VRel W β h (.bool b) x) : x = .bool b := by cases r; rfl
theorem VRel.none_inv (r : VRel W β h .none x) : x = .none := by cases r; rfl
theorem VRel.ref_inv {i : Nat} (r : VRel W β h (.ref i) x) : ∃ a, x = .ref a ∧ β[i]? = some a := by cases r; exact ⟨_, rfl, by assumption⟩
theorem VRel.scr_inv {ns : List Int} (r : VRel W β h (.scr ns) x) : ∃ a xs, x = .ref a ∧ W.h0.IsList a xs ∧ IntsAre xs.toList ns := by cases r; exact ⟨_, _, rfl, by assumption, by assumption⟩
theorem VRel.tup_inv {vs : List V} (r : VRel W β h (.tup vs) x) : ∃ a xs n, x = .ref a ∧ h.get? a = some (tupO xs n) ∧ VRels W β h vs xs.toList := by cases r; exact ⟨_, _, _, rfl, by assumption, by assumption⟩
end

mutual
theorem VRel.mono {W : Wd} {β β' : List Addr} {h h' : Heap} (hp : ∀ (n : Nat) (a : Addr), β[n]? = some a → β'[n]? = some a) (ht : ∀ a xs n, h.get? a = some (tupO xs n) → h'.get? a = some (tupO xs n)) :
    ∀ {v : V} {x : Value}, VRel W β h v x → VRel W β' h' v x
  | _, _, .none => .none
  | _, _, .bool b => .bool b
  | _, _, .int i t => .int i t
  | _, _, .str x t => .str x t
  | _, _, .tup a b => .tup (ht _ _ _ a) (VRels.mono hp ht b)
  | _, _, .ref a => .ref (hp _ _ a)
  | _, _, .scr a b => .scr a b
theorem VRels.mono {W : Wd} {β β' : List Addr} {h h' : Heap} (hp : ∀ (n : Nat) (a : Addr), β[n]? = some a → β'[n]? = some a) (ht : ∀ a xs n, h.get? a = some (tupO xs n) → h'.get? a = some (tupO xs n)) :
    ∀ {v : List V} {x : List Value}, VRels W β h v x → VRels W β' h' v x
  | _, _, .nil => .nil
  | _, _, .cons a b => .cons (VRel.mono hp ht a) (VRels.mono hp ht b)
end

theorem VRels.length {W : Wd} {β : List Addr} {h : Heap} : ∀ {vs : List V} {xs : List Value}, VRels W β h vs xs → xs.length = vs.length
  | _, _, .nil => rfl
  | _, _, .cons _ b => by simp [VRels.length b]

theorem VRels.nil_inv {W : Wd} {β : List Addr} {h : Heap} {xs : List Value} (r : VRels W β h [] xs) : xs = [] := by cases r; rfl
theorem VRels.cons_inv {W : Wd} {β : List Addr} {h : Heap} {v : V} {vs : List V} {xs : List Value} (r : VRels W β h (v :: vs) xs) : ∃ x ys, xs = x :: ys ∧ VRel W β h v x ∧ VRels W β h vs ys := by cases r; exact ⟨_, _, rfl, by assumption, by assumption⟩

theorem VRels.get {W : Wd} {β : List Addr} {h : Heap} : ∀ {vs : List V} {xs : List Value}, VRels W β h vs xs → ∀ {i : Nat} {v : V}, vs[i]? = some v → ∃ x, xs[i]? = some x ∧ VRel W β h v x
  | _, _, .nil, i, v, e => by simp at e
  | _, _, .cons (v := v') (x := x') a b, 0, v, e => by
    simp only [List.getElem?_cons_zero, Option.some.injEq] at e
    subst e; exact ⟨x', by simp, a⟩
  | _, _, .cons a b, i + 1, v, e => by
    simp only [List.getElem?_cons_succ] at e
    obtain ⟨x, hx, hr⟩ := VRels.get b e
    exact ⟨x, by simpa using hx, hr⟩

theorem VRels.append {W : Wd} {β : List Addr} {h : Heap} : ∀ {vs : List V} {xs : List Value} {ws : List V} {ys : List Value}, VRels W β h vs xs → VRels W β h ws ys → VRels W β h (vs ++ ws) (xs ++ ys)
  | _, _, _, _, .nil, r => r
  | _, _, _, _, .cons a b, r => .cons a (VRels.append b r)

theorem VRels.set {W : Wd} {β : List Addr} {h : Heap} : ∀ {vs : List V} {xs : List Value}, VRels W β h vs xs → ∀ {i : Nat} {v : V} {x : Value}, VRel W β h v x → VRels W β h (vs.set i v) (xs.set i x)
  | _, _, .nil, i, _, _, _ => by simp; exact .nil
  | _, _, .cons _ b, 0, _, _, r => .cons r b
  | _, _, .cons a b, _ + 1, _, _, r => .cons a (VRels.set b r)

theorem VRels.erase {W : Wd} {β : List Addr} {h : Heap} : ∀ {vs : List V} {xs : List Value}, VRels W β h vs xs → ∀ {i : Nat}, VRels W β h (vs.eraseIdx i) (xs.eraseIdx i)
  | _, _, .nil, i => by simp; exact .nil
  | _, _, .cons _ b, 0 => b
  | _, _, .cons a b, _ + 1 => .cons a (VRels.erase b)

theorem VRels.drop {W : Wd} {β : List Addr} {h : Heap} : ∀ {vs : List V} {xs : List Value}, VRels W β h vs xs → ∀ (i : Nat), VRels W β h (vs.drop i) (xs.drop i)
  | _, _, .nil, i => by simp; exact .nil
  | _, _, .cons a b, 0 => .cons a b
  | _, _, .cons _ b, i + 1 => VRels.drop b i

theorem VRels.take {W : Wd} {β : List Addr} {h : Heap} : ∀ {vs : List V} {xs : List Value}, VRels W β h vs xs → ∀ (i : Nat), VRels W β h (vs.take i) (xs.take i)
  | _, _, .nil, i => by simp; exact .nil
  | _, _, .cons _ _, 0 => .nil
  | _, _, .cons a b, i + 1 => .cons a (VRels.take b i)

theorem VRels.flatten {W : Wd} {β : List Addr} {h : Heap} {vs : List V} {xs : List Value} (r : VRels W β h vs xs) : ∀ k : Nat, VRels W β h (List.replicate k vs).flatten (List.replicate k xs).flatten
  | 0 => .nil
  | k + 1 => by
    simp only [List.replicate_succ, List.flatten_cons]
    exact r.append (VRels.flatten r k)

inductive FRel (W : Wd) (β : List Addr) (h : Heap) : List (Str × V) → List DictEntry → Prop
  | nil : FRel W β h [] []
  | cons {n : Str} {v : V} {e : DictEntry} {fs : List (Str × V)} {es : List DictEntry} : (∃ t, e.key = .str n t) → VRel W β h v e.val → FRel W β h fs es → FRel W β h ((n, v) :: fs) (e :: es)

theorem FRel.mono {W : Wd} {β β' : List Addr} {h h' : Heap} (hp : ∀ (n : Nat) (a : Addr), β[n]? = some a → β'[n]? = some a) (ht : ∀ a xs n, h.get? a = some (tupO xs n) → h'.get? a = some (tupO xs n)) {fs : List (Str × V)} {es : List DictEntry} (r : FRel W β h fs es) : FRel W β' h' fs es := by
  induction r with
  | nil => exact .nil
  | cons a b _ ih => exact .cons a (b.mono hp ht) ih

noncomputable def ORel (W : Wd) (β : List Addr) (h : Heap) : O → Obj → Prop
  | .lst vs, ob => ∃ xs n, ob = lstO xs n ∧ VRels W β h vs xs.toList
  | .inst C d, ob => ∃ dx, β[d]? = some dx ∧ ob = instObj C dx
  | .ns fs, ob => ∃ es n, ob = dictOf es n ∧ FRel W β h fs es
  | .dct c, ob => ∃ kvs : List (Int × Value), ob.IsDictOf (PySem.intKind W.prog W.w) kvs ∧ PyProof.V.FlatPairs PySem.PyData.int kvs (kdfD c)

theorem ORel.mono {W : Wd} {β β' : List Addr} {h h' : Heap} (hp : ∀ (n : Nat) (a : Addr), β[n]? = some a → β'[n]? = some a) (ht : ∀ a xs n, h.get? a = some (tupO xs n) → h'.get? a = some (tupO xs n)) {o : O} {ob : Obj} (r : ORel W β h o ob) : ORel W β' h' o ob := by
  cases o with
  | lst vs => obtain ⟨xs, n, e, q⟩ := r; exact ⟨xs, n, e, q.mono hp ht⟩
  | inst C d => obtain ⟨dx, e, q⟩ := r; exact ⟨dx, hp _ _ e, q⟩
  | ns fs => obtain ⟨es, n, e, q⟩ := r; exact ⟨es, n, e, q.mono hp ht⟩
  | dct c => exact r

structure SRel (W : Wd) (σ : Store) (β : List Addr) (h : Heap) : Prop where
  keep : ∀ b o, W.h0.get? b = some o → h.get? b = some o
  len : β.length = σ.length
  nodup : β.Nodup
  fresh : ∀ a ∈ β, W.h0.get? a = none
  low : ∃ o, W.h0.get? cStatics = some o
  above : ∀ a ∈ β, sysModules < a
  obj : ∀ (i : Nat) (o : O) (a : Addr), σ[i]? = some o → β[i]? = some a → ∃ ob, h.get? a = some ob ∧ ORel W β h o ob

structure Ext (X : List Addr) (β : List Addr) (h : Heap) (β' : List Addr) (h' : Heap) : Prop where
  pre : ∀ (n : Nat) (a : Addr), β[n]? = some a → β'[n]? = some a
  new : ∀ a ∈ β', a ∉ β → h.get? a = none
  keep : ∀ b o, b ∉ β → b ∉ X → h.get? b = some o → h'.get? b = some o
  tup : ∀ a xs n, h.get? a = some (tupO xs n) → h'.get? a = some (tupO xs n)
  dom : ∀ b o, h.get? b = some o → ∃ o', h'.get? b = some o'

theorem Ext.refl (X β : List Addr) (h : Heap) : Ext X β h β h := ⟨fun _ _ e => e, fun _ a b => absurd a b, fun _ _ _ _ e => e, fun _ _ _ e => e, fun _ o e => ⟨o, e⟩⟩
theorem Ext.trans {X β β' β'' : List Addr} {h h' h'' : Heap} (a : Ext X β h β' h') (b : Ext X β' h' β'' h'') : Ext X β h β'' h'' := by
  refine ⟨fun n x e => b.pre _ _ (a.pre _ _ e), fun x hx hn => ?_, fun x o h1 h2 e => ?_, fun x xs n e => b.tup _ _ _ (a.tup _ _ _ e), fun x o e => ?_⟩
  · by_cases q : x ∈ β'
    · exact a.new x q hn
    · have z := b.new x hx q
      cases e : h.get? x with
      | none => rfl
      | some o => obtain ⟨o', e'⟩ := a.dom _ _ e; rw [z] at e'; cases e'
  · have q : x ∉ β' := fun q => by rw [a.new x q h1] at e; cases e
    exact b.keep _ _ q h2 (a.keep _ _ h1 h2 e)
  · obtain ⟨o', e'⟩ := a.dom _ _ e
    exact b.dom _ _ e'
theorem Ext.weak {X Y β β' : List Addr} {h h' : Heap} (a : Ext X β h β' h') (s : ∀ x ∈ X, x ∈ Y) : Ext Y β h β' h' :=
  ⟨a.pre, a.new, fun b o h1 h2 e => a.keep b o h1 (fun q => h2 (s _ q)) e, a.tup, a.dom⟩

theorem Ext.push (X β : List Addr) (h : Heap) (o : Obj) : Ext X β h β (h.push o) :=
  ⟨fun _ _ e => e, fun _ a b => absurd a b, fun _ _ _ _ e => Heap.get?_push_of_some _ e, fun _ _ _ e => Heap.get?_push_of_some _ e, fun _ o' e => ⟨o', Heap.get?_push_of_some _ e⟩⟩
theorem SRel.big {W : Wd} {σ : Store} {β : List Addr} {h : Heap} (S : SRel W σ β h) : sysModules < h.objs.size := by
  obtain ⟨o, ho⟩ := S.low
  exact Nat.lt_trans (by decide : sysModules < cStatics) (Heap.lt_size (S.keep _ _ ho))
theorem not_mem_size {W : Wd} {σ : Store} {β : List Addr} {h : Heap} (S : SRel W σ β h) : h.objs.size ∉ β := fun q => by
  obtain ⟨i, hi⟩ := List.getElem?_of_mem q
  have hl : i < σ.length := by rw [← S.len]; exact (List.getElem?_eq_some_iff.mp hi).1
  obtain ⟨ob, e, _⟩ := S.obj i _ _ (List.getElem?_eq_getElem hl) hi
  exact absurd (Heap.lt_size e) (Nat.lt_irrefl _)
theorem size_free (h : Heap) : h.get? h.objs.size = none := by
  cases q : h.get? h.objs.size with
  | none => rfl
  | some o => exact absurd (Heap.lt_size q) (Nat.lt_irrefl _)
theorem size_free0 {W : Wd} {σ : Store} {β : List Addr} {h : Heap} (S : SRel W σ β h) : W.h0.get? h.objs.size = none := by
  cases q : W.h0.get? h.objs.size with
  | none => rfl
  | some o => exact absurd (Heap.lt_size (S.keep _ _ q)) (Nat.lt_irrefl _)

theorem get_snoc_pre {α : Type} {l : List α} {a : α} : ∀ (n : Nat) (x : α), l[n]? = some x → (l ++ [a])[n]? = some x := fun n x e => by
  rw [List.getElem?_append_left (List.getElem?_eq_some_iff.mp e).1]; exact e

theorem SRel.other {W : Wd} {σ : Store} {β : List Addr} {h h' : Heap} (S : SRel W σ β h) (hk : ∀ b o, W.h0.get? b = some o → h'.get? b = some o)
    (hb : ∀ a ∈ β, ∀ o, h.get? a = some o → h'.get? a = some o) (ht : ∀ a xs n, h.get? a = some (tupO xs n) → h'.get? a = some (tupO xs n)) : SRel W σ β h' :=
  ⟨hk, S.len, S.nodup, S.fresh, S.low, S.above, fun i o a e1 e2 => by
    obtain ⟨ob, e, r⟩ := S.obj i o a e1 e2
    exact ⟨ob, hb a (List.mem_of_getElem? e2) _ e, r.mono (fun _ _ e => e) ht⟩⟩
theorem SRel.push {W : Wd} {σ : Store} {β : List Addr} {h : Heap} (S : SRel W σ β h) (o : Obj) : SRel W σ β (h.push o) :=
  S.other (fun _ _ e => Heap.get?_push_of_some _ (S.keep _ _ e)) (fun _ _ _ e => Heap.get?_push_of_some _ e) fun _ _ _ e => Heap.get?_push_of_some _ e
theorem SRel.alloc {W : Wd} {σ : Store} {β : List Addr} {h : Heap} (S : SRel W σ β h) {o : O} {ob : Obj} (hf : ob.isFreed = false) (r : ORel W (β ++ [h.objs.size]) (h.push ob) o ob) : SRel W (σ ++ [o]) (β ++ [h.objs.size]) (h.push ob) := by
  have S' := S.push ob
  refine ⟨S'.keep, by simp [S.len], ?_, fun a ha => ?_, S.low, fun a ha => ?_, fun i o' a e1 e2 => ?_⟩
  · rw [List.nodup_append]
    refine ⟨S.nodup, by simp, fun a ha b hb => ?_⟩
    rw [List.mem_singleton] at hb
    subst hb
    rintro rfl
    exact not_mem_size S ha
  · rcases List.mem_append.mp ha with q | q
    · exact S.fresh a q
    · rw [List.mem_singleton] at q; subst q; exact size_free0 S
  · rcases List.mem_append.mp ha with q | q
    · exact S.above a q
    · rw [List.mem_singleton] at q; subst q; exact S.big
  · by_cases hi : i < σ.length
    · rw [List.getElem?_append_left hi] at e1
      rw [List.getElem?_append_left (by rw [S.len]; exact hi)] at e2
      obtain ⟨ob', e, q⟩ := S'.obj i o' a e1 e2
      exact ⟨ob', e, q.mono get_snoc_pre fun _ _ _ e => e⟩
    · have hi' : i = σ.length := by
        have := (List.getElem?_eq_some_iff.mp e1).1
        simp at this; lia
      subst hi'
      rw [List.getElem?_append_right (Nat.le_refl _)] at e1
      rw [List.getElem?_append_right (by rw [S.len]; exact Nat.le_refl _), S.len] at e2
      simp at e1 e2
      subst e1 e2
      exact ⟨ob, Heap.get?_push_size _ hf, r⟩
theorem Ext.alloc {W : Wd} {σ : Store} {β : List Addr} {h : Heap} (_S : SRel W σ β h) (X : List Addr) (ob : Obj) : Ext X β h (β ++ [h.objs.size]) (h.push ob) :=
  ⟨get_snoc_pre, fun a ha hn => by
    rcases List.mem_append.mp ha with q | q
    · exact absurd q hn
    · rw [List.mem_singleton] at q; subst q; exact size_free h, fun _ _ _ _ e => Heap.get?_push_of_some _ e, fun _ _ _ e => Heap.get?_push_of_some _ e, fun _ o' e => ⟨o', Heap.get?_push_of_some _ e⟩⟩

theorem SRel.apart {W : Wd} {σ : Store} {β : List Addr} {h : Heap} (S : SRel W σ β h) {i j : Nat} {a b : Addr} (ei : β[i]? = some a) (ej : β[j]? = some b) (hij : i ≠ j) : a ≠ b := by
  rintro rfl
  exact hij ((List.getElem?_inj (List.getElem?_eq_some_iff.mp ei).1 S.nodup).mp (ei.trans ej.symm))

theorem SRel.turn {W : Wd} {σ : Store} {β : List Addr} {h h' : Heap} (S : SRel W σ β h) {i : Nat} {a : Addr} {o' : O} {ob ob' : Obj} (ei : β[i]? = some a) (e0 : h.get? a = some ob) (hnt : ∀ xs n, ob ≠ tupO xs n)
    (hs : ∀ b o, b ≠ a → h.get? b = some o → h'.get? b = some o) (e' : h'.get? a = some ob') (r : (∀ x xs n, h.get? x = some (tupO xs n) → h'.get? x = some (tupO xs n)) → ORel W β h' o' ob') : SRel W (σ.set i o') β h' ∧ ∀ X, Ext X β h β h' := by
  have ht : ∀ x xs n, h.get? x = some (tupO xs n) → h'.get? x = some (tupO xs n) := fun x xs n e => by
    refine hs _ _ (fun q => ?_) e
    subst q
    rw [e0] at e
    exact hnt _ _ (Option.some.inj e)
  refine ⟨⟨fun b o e => hs _ _ (fun q => ?_) (S.keep _ _ e), by simp [S.len], S.nodup, S.fresh, S.low, S.above, fun j o a' e1 e2 => ?_⟩, fun X => ⟨fun _ _ e => e, fun _ p q => absurd p q, fun b o h1 _ e => hs _ _ (fun q => h1 ?_) e, ht, fun b o e => ?_⟩⟩
  · subst q
    rw [S.fresh _ (List.mem_of_getElem? ei)] at e; cases e
  · by_cases hij : i = j
    · subst hij
      have hl : i < σ.length := by rw [← S.len]; exact (List.getElem?_eq_some_iff.mp ei).1
      rw [List.getElem?_set_self hl] at e1
      cases e1
      rw [ei] at e2; cases e2
      exact ⟨ob', e', r ht⟩
    · rw [List.getElem?_set_ne hij] at e1
      obtain ⟨ob₁, e₁, r₁⟩ := S.obj j o a' e1 e2
      exact ⟨ob₁, hs _ _ (fun q => S.apart ei e2 hij q.symm) e₁, r₁.mono (fun _ _ e => e) ht⟩
  · rw [q]; exact List.mem_of_getElem? ei
  · by_cases q : b = a
    · subst q; exact ⟨_, e'⟩
    · exact ⟨o, hs _ _ q e⟩

theorem SRel.at {W : Wd} {σ : Store} {β : List Addr} {h : Heap} (S : SRel W σ β h) {i : Nat} {o : O} (e : σ[i]? = some o) : ∃ a ob, β[i]? = some a ∧ h.get? a = some ob ∧ ORel W β h o ob := by
  have hl : i < β.length := by rw [S.len]; exact (List.getElem?_eq_some_iff.mp e).1
  obtain ⟨ob, e', r⟩ := S.obj i o β[i] e (List.getElem?_eq_getElem hl)
  exact ⟨β[i], ob, List.getElem?_eq_getElem hl, e', r⟩
theorem SRel.lst {W : Wd} {σ : Store} {β : List Addr} {h : Heap} (S : SRel W σ β h) {i : Nat} {a : Addr} {vs : List V} (e : σ[i]? = some (.lst vs)) (ea : β[i]? = some a) : ∃ xs n, h.get? a = some (lstO xs n) ∧ VRels W β h vs xs.toList := by
  obtain ⟨ob, e', xs, n, rfl, r⟩ := S.obj i _ a e ea
  exact ⟨xs, n, e', r⟩
theorem SRel.dct {W : Wd} {σ : Store} {β : List Addr} {h : Heap} (S : SRel W σ β h) {i : Nat} {a : Addr} {c : List (Int × Int)} (e : σ[i]? = some (.dct c)) (ea : β[i]? = some a) : ∃ kvs, h.DictOf (PySem.intKind W.prog W.w) a kvs ∧ PyProof.V.FlatPairs PySem.PyData.int kvs (kdfD c) := by
  obtain ⟨ob, e', kvs, r, f⟩ := S.obj i _ a e ea
  exact ⟨kvs, Heap.dictOf_iff.mpr ⟨ob, e', r⟩, f⟩
end
section
abbrev Rho := Str → Option V
noncomputable def Rho.set (ρ : Rho) (x : Str) (v : V) : Rho := fun y => if y = x then some v else ρ y

inductive Fn where
  | glob (n : Str) | meth (C : Addr) (n : Str)

structure Cfg where
  G : Str → Option V
  attr : Addr → Str → Bool
  meth : Addr → Str → Bool
  Φ : Fn → List V → Store → Option (V × Store)

inductive FlowA where
  | next | brk | cont | ret (v : V)

noncomputable def flatD : V → Option PyData
  | .none => some .none
  | .bool b => some (.bool b)
  | .int i => some (.int i)
  | .str s => some (.str s)
  | _ => none
noncomputable def flatDs : List V → Option (List PyData)
  | [] => some []
  | v :: r => (flatD v).bind fun d => (flatDs r).bind fun ds => some (d :: ds)
noncomputable def toD (σ : Store) : Nat → V → Option PyData
  | 0, _ => none
  | n + 1, v => match v with
    | .tup vs => (toDs n vs).map .tuple
    | .ref i => match σ[i]? with
      | some (.lst vs) => (flatDs vs).map .list
      | _ => none
    | v => flatD v
where toDs (n : Nat) : List V → Option (List PyData)
    | [] => some []
    | v :: r => (toD σ n v).bind fun d => (toDs n r).bind fun ds => some (d :: ds)

noncomputable def eqD (σ : Store) (a b : V) : Option Bool := (toD σ 8 a).bind fun d => (toD σ 8 b).bind fun d' => if SeqAt.shaped d && SeqAt.shaped d' then some (d.eqv d') else none
noncomputable def eqV (σ : Store) (a b : V) : Option Bool := match a, b with
  | .int x, .int y => some (x == y)
  | .str x, .str y => some (x == y)
  | a, b => eqD σ a b

noncomputable def isInt : V → Bool | .int _ => true | _ => false
noncomputable def isStr : V → Bool | .str _ => true | _ => false
noncomputable def isI (x : Int) : V → Bool | .int y => y == x | _ => false
noncomputable def isS (x : Str) : V → Bool | .str y => y == x | _ => false
noncomputable def inV (x : V) (ys : List V) : Option Bool := match x with
  | .int i => if ys.all isInt then some (ys.any (isI i)) else none
  | .str s => if ys.all isStr then some (ys.any (isS s)) else none
  | _ => none
noncomputable def itemsOf (σ : Store) : V → Option (List V)
  | .tup vs => some vs
  | .ref n => match σ[n]? with
    | some (.lst vs) => some vs
    | _ => none
  | _ => none

noncomputable def intOf : V → Option Int | .int i => some i | _ => none
noncomputable def cmpI (f : Int → Int → Bool) (a b : V) : Option Bool := (intOf a).bind fun x => (intOf b).bind fun y => some (f x y)
noncomputable def isN : V → Bool | .none => true | _ => false
noncomputable def noneV : V → Option Bool
  | .none => some true
  | .ref _ => some false
  | .tup _ => some false
  | .int _ => some false
  | _ => none
noncomputable def cmpV (op : CmpOp) (a b : V) (σ : Store) : Option Bool := match op with
  | .Eq => eqV σ a b
  | .NotEq => (eqV σ a b).map (!·)
  | .Lt => cmpI (fun x y => decide (x < y)) a b
  | .LtE => cmpI (fun x y => decide (x ≤ y)) a b
  | .Gt => cmpI (fun x y => decide (y < x)) a b
  | .GtE => cmpI (fun x y => decide (y ≤ x)) a b
  | .Is => if isN b then noneV a else none
  | .IsNot => if isN b then (noneV a).map (!·) else none
  | .In => (itemsOf σ b).bind fun ys => inV a ys
  | .NotIn => (itemsOf σ b).bind fun ys => (inV a ys).map (!·)

noncomputable def newO (σ : Store) (o : O) : V × Store := (.ref σ.length, σ ++ [o])

noncomputable def maxLen : Nat := 1000
noncomputable def binV (op : Operator) (a b : V) (σ : Store) : Option (V × Store) := match a, b with
  | .int x, .int y => (match op with
    | .Add => some (.int (x + y), σ)
    | .Sub => some (.int (x - y), σ)
    | .Mult => if -(2 ^ 64) < x ∧ x < 2 ^ 64 then some (.int (x * y), σ) else none
    | .FloorDiv => if y ≠ 0 ∧ y.natAbs < 1073741824 then some (.int (x.fdiv y), σ) else none
    | .Mod => if y ≠ 0 then some (.int (x.fmod y), σ) else none
    | .BitAnd => some (.int (Builtin.bitAnd x y), σ)
    | .BitOr => some (.int (Builtin.bitOr x y), σ)
    | .BitXor => some (.int (Builtin.bitXor x y), σ)
    | .LShift => if 0 ≤ y ∧ y ≤ 1000000 ∧ x.natAbs < 2 ^ 64 then some (.int (x * 2 ^ y.toNat), σ) else none
    | .RShift => if 0 ≤ y then some (.int (x.fdiv (2 ^ y.toNat)), σ) else none
    | _ => none)
  | .ref i, .ref j => (match op with
    | .Add => (match σ[i]?, σ[j]? with
      | some (.lst xs), some (.lst ys) => if xs.length + ys.length ≤ maxLen then some (newO σ (.lst (xs ++ ys))) else none
      | _, _ => none)
    | _ => none)
  | .ref i, .int k => (match op with
    | .Mult => (match σ[i]? with
      | some (.lst xs) => if 0 ≤ k ∧ k ≤ maxLen ∧ xs.length = 1 then some (newO σ (.lst (List.replicate k.toNat xs).flatten)) else none
      | _ => none)
    | _ => none)
  | _, _ => none

noncomputable def unV (op : UnaryOp) (a : V) : Option V := match op, a with
  | .Not, .bool b => some (.bool !b)
  | .Invert, .int x => some (.int (-x - 1))
  | .USub, .int x => some (.int (-x))
  | _, _ => none

noncomputable def truthV : V → Option Bool
  | .bool b => some b
  | _ => none

noncomputable def constV : Const → Option V
  | .none => some .none
  | .bool b => some (.bool b)
  | .int i => some (.int i)
  | .str s => some (.str s)
  | _ => none

noncomputable def itemV (σ : Store) (a i : V) : Option V := match i with
  | .int k => if 0 ≤ k ∧ k < 2 ^ 62 then (itemsOf σ a).bind fun vs => vs[k.toNat]? else none
  | _ => none

noncomputable def asInt : V → Option (Option Int)
  | .none => some none
  | .int i => some (some i)
  | _ => none
noncomputable def cutL {α : Type} (xs : List α) (lo hi : Option Int) : Option (List α) := match lo, hi with
  | some a, none => if 0 ≤ a then some (xs.drop a.toNat) else none
  | none, some b => if 0 ≤ b then some (xs.take b.toNat) else none
  | _, _ => none
noncomputable def sliceV (σ : Store) (a lo hi : V) : Option (V × Store) := (asInt lo).bind fun l => (asInt hi).bind fun h => match a with
  | .ref i => (match σ[i]? with
    | some (.lst xs) => if xs.length ≤ maxLen then (cutL xs l h).bind fun ys => some (newO σ (.lst ys)) else none
    | _ => none)
  | .scr ns => if ns.length ≤ maxLen then (cutL ns l h).bind fun ys => some (newO σ (.lst (ys.map .int))) else none
  | .str s => if s.length ≤ maxLen then some (.str (Txt.slice s l h), σ) else none
  | _ => none

noncomputable def builtinV (f : Str) (vs : List V) (σ : Store) : Option (V × Store) :=
  if f = "len" then (match vs with
    | [v] => (itemsOf σ v).bind fun xs => if xs.length ≤ maxLen then some (.int xs.length, σ) else none
    | _ => none)
  else none

noncomputable def isBuiltin (f : Str) : Bool := f == "len" || f == "range" || f == "list" || f == "sorted"

noncomputable def methO (σ : Store) (n : Nat) (name : Str) (vs : List V) : Option O → Option (V × Store)
  | some (.lst xs) =>
      if name = "append" then (match vs with
        | [v] => if xs.length ≤ maxLen then some (.none, σ.set n (.lst (xs ++ [v]))) else none
        | _ => none)
      else if name = "pop" then (match vs with
        | [] => if xs.length ≤ maxLen then (xs[xs.length - 1]?).map fun v => (v, σ.set n (.lst (xs.eraseIdx (xs.length - 1)))) else none
        | [.int 0] => if xs.length ≤ maxLen then (xs[0]?).map fun v => (v, σ.set n (.lst (xs.eraseIdx 0))) else none
        | _ => none)
      else none
  | some (.dct c) =>
      if name = "get" then (match vs with
        | [.int k, .int d] => some (.int (kdfLook c k d), σ)
        | _ => none)
      else none
  | _ => none
noncomputable def methV (σ : Store) (o : V) (name : Str) (vs : List V) : Option (V × Store) := match o with
  | .ref n => methO σ n name vs σ[n]?
  | .str s => if name = "endswith" then (match vs with
      | [.str t] => some (.bool (Txt.endswith s t), σ)
      | _ => none) else none
  | _ => none

noncomputable def instOf (σ : Store) : V → Option (Addr × Nat × List (Str × V))
  | .ref n => (match σ[n]? with
    | some (.inst C d) => (match σ[d]? with
      | some (.ns fs) => some (C, d, fs)
      | _ => none)
    | _ => none)
  | _ => none
noncomputable def putF (x : Str) (v : V) : List (Str × V) → List (Str × V)
  | [] => [(x, v)]
  | (y, w) :: r => if y = x then (y, v) :: r else (y, w) :: putF x v r

noncomputable def setO (σ : Store) (n : Nat) (k : Int) (v : V) : Option O → Option Store
  | some (.lst xs) => if 0 ≤ k ∧ k < xs.length ∧ xs.length ≤ maxLen then some (σ.set n (.lst (xs.set k.toNat v))) else none
  | some (.dct c) => (intOf v).bind fun e => if c.length ≤ maxLen then some (σ.set n (.dct (kdfPut c k e))) else none
  | _ => none
noncomputable def setV (σ : Store) (o i v : V) : Option Store := match o with
  | .ref n => (intOf i).bind fun k => setO σ n k v σ[n]?
  | _ => none

structure Itp where
  e : Scope → Rho → Store → Expr → Option (V × Store)
  t : Scope → Rho → Store → Expr → Option (Bool × Store)
  s : Scope → Rho → Store → Stmt → Option (FlowA × Rho × Store)
  ss : Scope → Rho → Store → List Stmt → Option (FlowA × Rho × Store)

noncomputable def evs (I : Itp) (Γ : Scope) (ρ : Rho) : Store → List Expr → Option (List V × Store)
  | σ, [] => some ([], σ)
  | σ, e :: r => (I.e Γ ρ σ e).bind fun p => (evs I Γ ρ p.2 r).bind fun q => some (p.1 :: q.1, q.2)

noncomputable def notStar : Expr → Bool
  | .Starred .. => false
  | _ => true
noncomputable def isSet : Expr → Bool
  | .Set .. => true
  | _ => false
noncomputable def isSlice : Expr → Bool
  | .Slice .. => true
  | _ => false

noncomputable def boolV (I : Itp) (Γ : Scope) (ρ : Rho) (op : BoolOp) : Store → List Expr → Option (V × Store)
  | _, [] => none
  | σ, [e] => I.e Γ ρ σ e
  | σ, e :: r => (I.e Γ ρ σ e).bind fun p => (truthV p.1).bind fun b => match op, b with
    | .And, false => some p
    | .Or, true => some p
    | _, _ => boolV I Γ ρ op p.2 r
noncomputable def allT (I : Itp) (Γ : Scope) (ρ : Rho) (op : BoolOp) : Store → List Expr → Option (Bool × Store)
  | σ, [] => some (op == .And, σ)
  | σ, e :: r => (I.t Γ ρ σ e).bind fun p => match op, p.1 with
    | .And, false => some (false, p.2)
    | .Or, true => some (true, p.2)
    | _, _ => allT I Γ ρ op p.2 r

noncomputable def relabelS (scope Γ : Scope) : Scope :=
  { scope with names := scope.names.map fun (n, k) => if k == .free && Γ.kind == .function && Γ.names.lookup n == some .cell then (n, .cell) else (n, k) }

noncomputable def intsOf : List V → Option (List Int)
  | [] => some []
  | .int i :: r => (intsOf r).bind fun ns => some (i :: ns)
  | _ => none

noncomputable def nameOf : Expr → Option (Str × Pos)
  | .Name x p => some (x, p)
  | _ => none
noncomputable def tupOf : Expr → Option (List Expr)
  | .Tuple es _ _ => some es
  | _ => none
noncomputable def rngI : List Int → Store → Option (List Int × Store)
  | [n], σ => if -(2 ^ 62) ≤ n ∧ n ≤ maxLen then some ((List.range n.toNat).map fun (i : Nat) => (i : Int), σ) else none
  | [a, b], σ => if 0 ≤ a ∧ a ≤ maxLen ∧ -(2 ^ 62) ≤ b ∧ b ≤ maxLen then some ((List.range (b - a).toNat).map fun (i : Nat) => a + (i : Int), σ) else none
  | _, _ => none
noncomputable def rangeOf (I : Itp) (Γ : Scope) (ρ : Rho) (σ : Store) : Expr → Option (List Int × Store)
  | .Call (.Name f _) args [] _ => if f = "range" ∧ Γ.names.lookup f = some .globalImplicit ∧ args.all notStar then (evs I Γ ρ σ args).bind fun p => (intsOf p.1).bind fun is => rngI is p.2 else none
  | _ => none

noncomputable def accPush (n : Nat) (v : V) (σ : Store) : Option Store := match σ[n]? with
  | some (.lst xs) => if xs.length ≤ maxLen then some (σ.set n (.lst (xs ++ [v]))) else none
  | _ => none
noncomputable def compBody (I : Itp) (Γ : Scope) (n : Nat) (elt : Expr) (ifs : List Expr) (ρ : Rho) (σ : Store) : Option Store := match ifs with
  | [] => (I.e Γ ρ σ elt).bind fun p => accPush n p.1 p.2
  | [c] => (I.t Γ ρ σ c).bind fun b => if b.1 then (I.e Γ ρ b.2 elt).bind fun p => accPush n p.1 p.2 else some b.2
  | _ => none
noncomputable def compI (I : Itp) (Γ : Scope) (x : Str) (n : Nat) (elt : Expr) (ifs : List Expr) : Rho → Store → List Int → Option (Rho × Store)
  | ρ, σ, [] => some (ρ, σ)
  | ρ, σ, i :: r => (compBody I Γ n elt ifs (ρ.set x (.int i)) σ).bind fun σ' => compI I Γ x n elt ifs (ρ.set x (.int i)) σ' r
noncomputable def compL (I : Itp) (Γ : Scope) (x : Str) (n : Nat) (elt : Expr) (ifs : List Expr) (l : Nat) : (rem k : Nat) → Rho → Store → Option (Rho × Store)
  | 0, k, ρ, σ => match σ[l]? with
    | some (.lst ws) => if ws.length = k then some (ρ, σ) else none
    | _ => none
  | rem + 1, k, ρ, σ => match σ[l]? with
    | some (.lst ws) => if ws.length = k + rem + 1 ∧ ws.length ≤ maxLen then (ws[k]?).bind fun v => (compBody I Γ n elt ifs (ρ.set x v) σ).bind fun σ' => compL I Γ x n elt ifs l rem (k + 1) (ρ.set x v) σ' else none
    | _ => none
noncomputable def isRange : Expr → Bool
  | .Call (.Name f _) _ [] _ => f == "range"
  | _ => false
noncomputable def lenAt (σ : Store) (l : Nat) : Nat := match σ[l]? with
  | some (.lst ws) => ws.length
  | _ => 0

noncomputable def hideL (Γ : Scope) (ρ : Rho) : Rho := fun y => if Γ.names.lookup y = some .local then none else ρ y
noncomputable def compN (I : Itp) (Γ : Scope) (ρ : Rho) (σ : Store) (x : Str) (elt iter : Expr) (ifs : List Expr) (scope : Scope) : Option (V × Store) :=
  let Γ' := relabelS scope Γ
  if scope.kind = .function ∧ Γ.kind = .function ∧ scope.names.lookup x = some .local ∧ (scope.names.all fun y => y.2 != .local || scope.names.lookup y.1 == some .local) ∧ (Γ'.names.all fun y => y.2 != .free) ∧ (scope.names.all fun y => y.2 != .cell) ∧ isSet iter = false then
    if isRange iter then (rangeOf I Γ ρ σ iter).bind fun p => (compI I Γ' x p.2.length elt ifs (hideL Γ' ρ) (p.2 ++ [.lst []]) p.1).bind fun q => some (.ref p.2.length, q.2)
    else (I.e Γ ρ σ iter).bind fun p => match p.1 with
      | .ref l => (compL I Γ' x p.2.length elt ifs l (lenAt p.2 l) 0 (hideL Γ' ρ) (p.2 ++ [.lst []])).bind fun q => some (.ref p.2.length, q.2)
      | _ => none
  else none
noncomputable def compV (I : Itp) (Γ : Scope) (ρ : Rho) (σ : Store) : Expr → Option (V × Store)
  | .ListComp elt [⟨target, iter, ifs, as⟩] scope _ => (nameOf target).bind fun x => if as = 0 then compN I Γ ρ σ x.1 elt iter ifs scope else none
  | _ => none

noncomputable def plainBase : Expr → Bool
  | .Call .. => false
  | _ => true

noncomputable def sortI (ns : List Int) : List Int := ns.mergeSort (fun a b => decide (a ≤ b))
noncomputable def callN (C : Cfg) (I : Itp) (Γ : Scope) (ρ : Rho) (σ : Store) (f : Str) (args : List Expr) : Option (V × Store) :=
  if Γ.names.lookup f = some .globalImplicit ∧ args.all notStar ∧ args.length ≤ 20 then
    if isBuiltin f then
      if f = "len" then (evs I Γ ρ σ args).bind fun p => builtinV f p.1 p.2
      else if f = "list" then (match args with
        | [a] => if isRange a then (rangeOf I Γ ρ σ a).bind fun p => some (newO p.2 (.lst (p.1.map .int)))
          else (I.e Γ ρ σ a).bind fun p => (match p.1 with
            | .ref i => (match p.2[i]? with
              | some (.lst xs) => if xs.length ≤ maxLen then some (newO p.2 (.lst xs)) else none
              | _ => none)
            | _ => none)
        | _ => none)
      else if f = "sorted" then (match args with
        | [a] => (I.e Γ ρ σ a).bind fun p => (match p.1 with
            | .ref i => (match p.2[i]? with
              | some (.lst xs) => (intsOf xs).bind fun ns => if ns.length < 64 then some (newO p.2 (.lst ((sortI ns).map .int))) else none
              | _ => none)
            | _ => none)
        | _ => none)
      else none
    else (evs I Γ ρ σ args).bind fun p => C.Φ (.glob f) p.1 p.2
  else none

noncomputable def kindO : Option O → Nat
  | none => 0
  | some (.lst _) => 1
  | some (.inst _ _) => 2
  | some (.ns _) => 3
  | some (.dct _) => 4
noncomputable def callI (C : Cfg) (I : Itp) (Γ : Scope) (ρ : Rho) (p : V × Store) (name : Str) (args : List Expr) : Option (Addr × Nat × List (Str × V)) → Option (V × Store)
  | some (Cl, _, fs) => if C.meth Cl name ∧ fs.lookup name = none then (evs I Γ ρ p.2 args).bind fun q => C.Φ (.meth Cl name) (p.1 :: q.1) q.2 else none
  | none => (match p.1 with
    | .ref i => (evs I Γ ρ p.2 args).bind fun q => if kindO p.2[i]? = kindO q.2[i]? then methV q.2 p.1 name q.1 else none
    | .str _ => (evs I Γ ρ p.2 args).bind fun q => methV q.2 p.1 name q.1
    | .tup ys => if name = "index" then (match args with
      | [a] => (I.e Γ ρ p.2 a).bind fun q => (match q.1 with
        | .str s => if ys.all isStr ∧ ys.length ≤ maxLen then (ys.findIdx? (isS s)).map fun (j : Nat) => (V.int (j : Int), q.2) else none
        | _ => none)
      | _ => none) else none
    | _ => none)
noncomputable def callM (C : Cfg) (I : Itp) (Γ : Scope) (ρ : Rho) (σ : Store) (o : Expr) (name : Str) (args : List Expr) : Option (V × Store) :=
  if plainBase o ∧ args.all notStar ∧ args.length ≤ 20 then (I.e Γ ρ σ o).bind fun p => callI C I Γ ρ p name args (instOf p.2 p.1) else none

noncomputable def cutA (I : Itp) (Γ : Scope) (ρ : Rho) (p : V × Store) : Expr → Option (V × Store)
  | .Slice (some lo) none none _ => (I.e Γ ρ p.2 lo).bind fun q => sliceV q.2 p.1 q.1 .none
  | .Slice none (some hi) none _ => (I.e Γ ρ p.2 hi).bind fun q => sliceV q.2 p.1 .none q.1
  | _ => none
noncomputable def stepE (C : Cfg) (I : Itp) (Γ : Scope) (ρ : Rho) (σ : Store) : Expr → Option (V × Store)
  | .Constant c _ _ => (constV c).map fun v => (v, σ)
  | .Name x _ => if x = "__debug__" then none else match Γ.names.lookup x with
    | some .local => (ρ x).map fun v => (v, σ)
    | some .cell => (ρ x).map fun v => (v, σ)
    | some .globalImplicit => (C.G x).map fun v => (v, σ)
    | _ => none
  | .BinOp l op r _ => (I.e Γ ρ σ l).bind fun a => (I.e Γ ρ a.2 r).bind fun b => binV op a.1 b.1 b.2
  | .UnaryOp op x _ => (I.e Γ ρ σ x).bind fun a => (unV op a.1).map fun v => (v, a.2)
  | .BoolOp op vs _ => boolV I Γ ρ op σ vs
  | .Compare l [op] [r] _ => if isSet r then none else (I.e Γ ρ σ l).bind fun a => (I.e Γ ρ a.2 r).bind fun b => (cmpV op a.1 b.1 b.2).map fun c => (.bool c, b.2)
  | .IfExp c a b _ => (I.t Γ ρ σ c).bind fun p => if p.1 then I.e Γ ρ p.2 a else I.e Γ ρ p.2 b
  | .List es _ => if es.all notStar then (evs I Γ ρ σ es).bind fun p => if p.1.length ≤ maxLen then some (newO p.2 (.lst p.1)) else none else none
  | .Tuple es _ _ => if es.all notStar then (evs I Γ ρ σ es).bind fun p => if p.1.length ≤ maxLen then some (.tup p.1, p.2) else none else none
  | .Dict [] [] _ => some (newO σ (.dct []))
  | .Attribute o name _ => if plainBase o then (I.e Γ ρ σ o).bind fun p => (instOf p.2 p.1).bind fun i => if C.attr i.1 name then (i.2.2.lookup name).map fun v => (v, p.2) else none else none
  | .Subscript o i _ => (I.e Γ ρ σ o).bind fun p => if isSlice i then cutA I Γ ρ p i else (I.e Γ ρ p.2 i).bind fun q => (itemV q.2 p.1 q.1).map fun v => (v, q.2)
  | .Call (.Name f _) args [] _ => callN C I Γ ρ σ f args
  | .Call (.Attribute o name ap) args [] p => if (ap.endLine == p.line) = true then callM C I Γ ρ σ o name args else none
  | .ListComp elt gens scope pos => compV I Γ ρ σ (.ListComp elt gens scope pos)
  | _ => none

noncomputable def stepT (_C : Cfg) (I : Itp) (Γ : Scope) (ρ : Rho) (σ : Store) : Expr → Option (Bool × Store)
  | .UnaryOp .Not x _ => (I.t Γ ρ σ x).map fun p => (!p.1, p.2)
  | .BoolOp op vs _ => allT I Γ ρ op σ vs
  | .IfExp c a b _ => (I.t Γ ρ σ c).bind fun p => if p.1 then I.t Γ ρ p.2 a else I.t Γ ρ p.2 b
  | .Compare l [op] [r] _ => if isSet r then none else (I.e Γ ρ σ l).bind fun a => (I.e Γ ρ a.2 r).bind fun b => (cmpV op a.1 b.1 b.2).map fun c => (c, b.2)
  | .Compare l [op, op'] [r, r'] _ => if isSet r || isSet r' then none else (I.e Γ ρ σ l).bind fun a => (I.e Γ ρ a.2 r).bind fun b => (cmpV op a.1 b.1 b.2).bind fun c =>
      if c then (I.e Γ ρ b.2 r').bind fun d => (cmpV op' b.1 d.1 d.2).map fun c' => (c', d.2) else some (false, b.2)
  | .Compare .. => none
  | e => (I.e Γ ρ σ e).bind fun p => (truthV p.1).map fun b => (b, p.2)

noncomputable def asg1 (C : Cfg) (I : Itp) (Γ : Scope) (ρ : Rho) (σ : Store) (t : Expr) (v : V) : Option (Rho × Store) := match t with
  | .Name x _ => match Γ.names.lookup x with
    | some .local => some (ρ.set x v, σ)
    | some .cell => some (ρ.set x v, σ)
    | _ => none
  | .Attribute o name _ => (I.e Γ ρ σ o).bind fun p => (instOf p.2 p.1).bind fun i => if C.attr i.1 name ∧ i.2.2.length ≤ 100 then some (ρ, p.2.set i.2.1 (.ns (putF name v i.2.2))) else none
  | .Subscript o i _ => if isSlice i then none else (I.e Γ ρ σ o).bind fun p => (I.e Γ ρ p.2 i).bind fun q => (setV q.2 p.1 q.1 v).map fun σ' => (ρ, σ')
  | _ => none
noncomputable def asgs (C : Cfg) (I : Itp) (Γ : Scope) : Rho → Store → List Expr → List V → Option (Rho × Store)
  | ρ, σ, [], [] => some (ρ, σ)
  | ρ, σ, t :: ts, v :: vs => (asg1 C I Γ ρ σ t v).bind fun p => asgs C I Γ p.1 p.2 ts vs
  | _, _, _, _ => none
noncomputable def asg (C : Cfg) (I : Itp) (Γ : Scope) (ρ : Rho) (σ : Store) (t : Expr) (v : V) : Option (Rho × Store) := match t with
  | .Tuple ts _ _ => if ts.all notStar then (match v with
    | .tup vs => if vs.length ≤ maxLen then asgs C I Γ ρ σ ts vs else none
    | _ => none) else none
  | t => asg1 C I Γ ρ σ t v

noncomputable def isTuple : Expr → Bool
  | .Tuple .. => true
  | _ => false
noncomputable def isComp : Expr → Bool
  | .ListComp .. | .SetComp .. | .DictComp .. => true
  | _ => false

noncomputable def compFree (x : Str) : Expr → Bool
  | .ListComp _ _ scope _ => !(scope.names.any fun (n, k) => n == x && (k == .local || k == .cell))
  | _ => false

noncomputable def forI (C : Cfg) (I : Itp) (Γ : Scope) (t : Expr) (body : List Stmt) : Rho → Store → List Int → Option (FlowA × Rho × Store)
  | ρ, σ, [] => some (.next, ρ, σ)
  | ρ, σ, i :: r => (asg C I Γ ρ σ t (.int i)).bind fun p => (I.ss Γ p.1 p.2 body).bind fun q => match q.1 with
    | .next => forI C I Γ t body q.2.1 q.2.2 r
    | .cont => forI C I Γ t body q.2.1 q.2.2 r
    | .brk => some (.next, q.2.1, q.2.2)
    | .ret v => some (.ret v, q.2.1, q.2.2)
noncomputable def forL (C : Cfg) (I : Itp) (Γ : Scope) (t : Expr) (body : List Stmt) (l : Nat) : (rem k : Nat) → Rho → Store → Option (FlowA × Rho × Store)
  | 0, k, ρ, σ => match σ[l]? with
    | some (.lst ws) => if ws.length = k then some (.next, ρ, σ) else none
    | _ => none
  | rem + 1, k, ρ, σ => match σ[l]? with
    | some (.lst ws) => if ws.length = k + rem + 1 ∧ ws.length ≤ maxLen then (ws[k]?).bind fun v => (asg C I Γ ρ σ t v).bind fun p => (I.ss Γ p.1 p.2 body).bind fun q => match q.1 with
        | .next => forL C I Γ t body l rem (k + 1) q.2.1 q.2.2
        | .cont => forL C I Γ t body l rem (k + 1) q.2.1 q.2.2
        | .brk => some (.next, q.2.1, q.2.2)
        | .ret v => some (.ret v, q.2.1, q.2.2)
      else none
    | _ => none
noncomputable def whileA (I : Itp) (Γ : Scope) (test : Expr) (body : List Stmt) : Nat → Rho → Store → Option (FlowA × Rho × Store)
  | 0, _, _ => none
  | n + 1, ρ, σ => (I.t Γ ρ σ test).bind fun p => if p.1 then (I.ss Γ ρ p.2 body).bind fun q => match q.1 with
      | .next => whileA I Γ test body n q.2.1 q.2.2
      | .cont => whileA I Γ test body n q.2.1 q.2.2
      | .brk => some (.next, q.2.1, q.2.2)
      | .ret v => some (.ret v, q.2.1, q.2.2)
    else some (.next, ρ, p.2)
noncomputable def whileMax : Nat := 1000

noncomputable def assignC (I : Itp) (Γ : Scope) (ρ : Rho) (σ : Store) (t e : Expr) : Option (FlowA × Rho × Store) :=
  (nameOf t).bind fun x => if Γ.names.lookup x.1 = some .local ∧ x.2.line = e.pos.line ∧ compFree x.1 e = true then
    (I.e Γ ρ σ e).bind fun r => some (.next, ρ.set x.1 r.1, r.2) else none
noncomputable def pairV : V → Option (V × V)
  | .tup [a, b] => some (a, b)
  | _ => none
noncomputable def assignT (I : Itp) (Γ : Scope) (ρ : Rho) (σ : Store) (t e : Expr) : Option (FlowA × Rho × Store) :=
  (tupOf t).bind fun ts => match ts with
    | [t1, t2] => (nameOf t1).bind fun x => (nameOf t2).bind fun y => (tupOf e).bind fun vs => if x.1 ≠ y.1 ∧ Γ.names.lookup x.1 = some .local ∧ Γ.names.lookup y.1 = some .local ∧ x.2.line = y.2.line ∧ vs.length = 2 ∧ vs.all notStar = true ∧ vs.all (foldedForSure 8) = false ∧ vs.all (constantsAlone 8) = false then
      (I.e Γ ρ σ e).bind fun r => (pairV r.1).bind fun q => some (.next, (ρ.set y.1 q.2).set x.1 q.1, r.2) else none
    | _ => none
noncomputable def assignA (C : Cfg) (I : Itp) (Γ : Scope) (ρ : Rho) (σ : Store) (t e : Expr) : Option (FlowA × Rho × Store) :=
  if isComp e then assignC I Γ ρ σ t e
  else if isTuple t && isTuple e then assignT I Γ ρ σ t e
  else (I.e Γ ρ σ e).bind fun r => (asg C I Γ ρ r.2 t r.1).bind fun q => some (.next, q.1, q.2)
noncomputable def attrOf : Expr → Option (Expr × Str)
  | .Attribute o name _ => some (o, name)
  | _ => none
noncomputable def augA (C : Cfg) (I : Itp) (Γ : Scope) (ρ : Rho) (σ : Store) (o : Expr) (name : Str) (e : Expr) : Option (FlowA × Rho × Store) :=
  if plainBase o then (I.e Γ ρ σ o).bind fun p => (instOf p.2 p.1).bind fun i => if C.attr i.1 name then (i.2.2.lookup name).bind fun old => (I.e Γ ρ p.2 e).bind fun r => (match old, r.1 with
      | .int a, .int b => (instOf r.2 p.1).bind fun j => if C.attr j.1 name ∧ j.2.2.length ≤ 100 then some (.next, ρ, r.2.set j.2.1 (.ns (putF name (.int (a + b)) j.2.2))) else none
      | _, _ => none) else none else none
noncomputable def stepS (C : Cfg) (I : Itp) (Γ : Scope) (ρ : Rho) (σ : Store) : Stmt → Option (FlowA × Rho × Store)
  | .Expr e p => if isComp e then none else (I.e Γ ρ σ e).bind fun q => match q.1 with
    | .none => some (.next, ρ, q.2)
    | _ => none
  | .Return (some e) _ => (I.e Γ ρ σ e).bind fun p => some (.ret p.1, ρ, p.2)
  | .Return none _ => some (.ret .none, ρ, σ)
  | .Assign [t] e p => assignA C I Γ ρ σ t e
  | .AugAssign t op e _ => (match op with
    | .Add => (attrOf t).bind fun q => augA C I Γ ρ σ q.1 q.2 e
    | _ => none)
  | .If c a b _ => (I.t Γ ρ σ c).bind fun p => if p.1 then I.ss Γ ρ p.2 a else I.ss Γ ρ p.2 b
  | .While c body [] _ => whileA I Γ c body whileMax ρ σ
  | .For t iter body [] _ => if isSet iter then none else if isRange iter then (rangeOf I Γ ρ σ iter).bind fun p => forI C I Γ t body ρ p.2 p.1
    else (I.e Γ ρ σ iter).bind fun p => (match p.1 with
      | .ref l => forL C I Γ t body l (lenAt p.2 l) 0 ρ p.2
      | _ => none)
  | .Break _ => some (.brk, ρ, σ)
  | .Continue _ => some (.cont, ρ, σ)
  | .Pass _ => some (.next, ρ, σ)
  | .Try body _ [] [] _ => I.ss Γ ρ σ body
  | _ => none

noncomputable def stepSS (I : Itp) (Γ : Scope) (ρ : Rho) (σ : Store) : List Stmt → Option (FlowA × Rho × Store)
  | [] => some (.next, ρ, σ)
  | s :: r => (I.s Γ ρ σ s).bind fun p => match p.1 with
    | .next => I.ss Γ p.2.1 p.2.2 r
    | f => some (f, p.2.1, p.2.2)

noncomputable def stepI (C : Cfg) (I : Itp) : Itp := ⟨stepE C I, stepT C I, stepS C I, stepSS I⟩
noncomputable def ev (C : Cfg) : Nat → Itp
  | 0 => ⟨fun _ _ _ _ => none, fun _ _ _ _ => none, fun _ _ _ _ => none, fun _ _ _ _ => none⟩
  | n + 1 => stepI C (ev C n)

structure FDef where
  params : List Str
  dflt : List V
  body : List Stmt
  scope : Scope

noncomputable def zipR : List Str → List V → Rho
  | x :: xs, v :: vs => (zipR xs vs).set x v
  | _, _ => fun _ => none

structure Tab where
  G : Str → Option V
  attr : Addr → Str → Bool
  meth : Addr → Str → Bool
  fd : Fn → Option FDef
  cls : Str → Option Addr

noncomputable def deep : Nat := 64
noncomputable def runF (C : Cfg) (D : FDef) (args : List V) (σ : Store) : Option (V × Store) :=
  if D.params.length ≤ args.length + D.dflt.length ∧ args.length ≤ D.params.length then
    ((ev C deep).ss D.scope (zipR D.params (args ++ D.dflt.drop (args.length + D.dflt.length - D.params.length))) σ D.body).bind fun p => match p.1 with
      | .ret v => some (v, p.2.2)
      | .next => some (.none, p.2.2)
      | _ => none
  else none

noncomputable def phiF (C : Cfg) (args : List V) (σ : Store) : Option FDef → Option (V × Store)
  | some D => runF C D args σ
  | none => none
noncomputable def phiC (C : Cfg) (args : List V) (σ : Store) (Cl : Addr) : Option FDef → Option (V × Store)
  | some D => (runF C D (.ref (σ.length + 1) :: args) (σ ++ [.ns [], .inst Cl σ.length])).bind fun p => (match p.1 with
    | .none => some (.ref (σ.length + 1), p.2)
    | _ => none)
  | none => none
noncomputable def phiN (T : Tab) (C : Cfg) (g : Str) (args : List V) (σ : Store) : Option Addr → Option (V × Store)
  | some Cl => phiC C args σ Cl (T.fd (.meth Cl "__init__"))
  | none => phiF C args σ (T.fd (.glob g))
noncomputable def phi (T : Tab) : Nat → Fn → List V → Store → Option (V × Store)
  | 0, _, _, _ => none
  | n + 1, f, args, σ => match f with
    | .glob g => phiN T ⟨T.G, T.attr, T.meth, phi T n⟩ g args σ (T.cls g)
    | .meth Cl m => phiF ⟨T.G, T.attr, T.meth, phi T n⟩ args σ (T.fd (.meth Cl m))
end
section
theorem oL {α : Type} {o : Option O} {f : List V → Option α} {r : α} {G : Prop} (e : (match (generalizing := false) o with | some (.lst xs) => f xs | _ => none) = some r) (k : ∀ xs, o = some (.lst xs) → f xs = some r → G) : G := by
  rcases o with _ | ⟨xs⟩ | _ | _ | _
  · cases e
  · exact k xs rfl e
  all_goals cases e

theorem nameOf_inv {t : Expr} {q : Str × Pos} (h : nameOf t = some q) : t = .Name q.1 q.2 := by
  cases t <;> first | exact oN h | skip
  cases h; rfl
theorem tupOf_inv {t : Expr} {es : List Expr} (h : tupOf t = some es) : ∃ k p, t = .Tuple es k p := by
  cases t <;> first | exact oN h | skip
  cases h; exact ⟨_, _, rfl⟩
theorem pairV_inv {v : V} {q : V × V} (h : pairV v = some q) : v = .tup [q.1, q.2] := by
  cases v with
  | tup vs =>
    rcases vs with _ | ⟨a, _ | ⟨b, _ | _⟩⟩
    · exact oN h
    · exact oN h
    · cases h; rfl
    · exact oN h
  | _ => exact oN h

structure AOk (n : Nat) (A : Around) : Prop where
  handled : A.handled = none
  depth : A.depth + 4 * n < recursionLimit
  units : A.units + 300 + 30 * n < cLine

structure EnvOK (Γ : Scope) (env : Env) : Prop where
  scope : env.scope = Γ
  kind : Γ.kind = .function
  glob : env.globals = mainGlobals
  bi : env.builtins = builtinsNs

noncomputable def foot (env : Env) : List Addr := env.locals :: env.cells.map (·.2)

structure LRel (W : Wd) (env : Env) (ρ : Rho) (β : List Addr) (h : Heap) : Prop where
  ns : ∃ m, h.Ns env.locals m ∧ ∀ x v, env.kindOf x = some .local → ρ x = some v → ∃ y, m x = some y ∧ VRel W β h v y
  cell : ∀ x v, env.kindOf x = some .cell → ρ x = some v → ∃ c y, env.cells.lookup x = some c ∧ h.IsCell c (some y) ∧ VRel W β h v y
  cells : ∀ x, env.kindOf x = some .cell → ∃ c y, env.cells.lookup x = some c ∧ h.IsCell c y
  lfresh : env.locals ∉ β ∧ W.h0.get? env.locals = none
  cfresh : ∀ p ∈ env.cells, p.2 ∉ β ∧ W.h0.get? p.2 = none ∧ p.2 ≠ env.locals ∧ ∃ y, h.IsCell p.2 y
  cinj : ∀ x y c, env.cells.lookup x = some c → env.cells.lookup y = some c → x = y
  above : W.h0.objs.size ≤ env.locals

theorem mem_of_lookup {x : Str} {c : Addr} : ∀ {l : List (Str × Addr)}, l.lookup x = some c → (x, c) ∈ l
  | [], e => by cases e
  | (y, d) :: r, e => by
    rw [List.lookup_cons] at e
    cases q : (x == y) with
    | true => rw [q] at e; cases e; rw [eq_of_beq q]; exact .head _
    | false => rw [q] at e; exact .tail _ (mem_of_lookup e)

theorem Ext.notMem {X β β' : List Addr} {h h' : Heap} (E : Ext X β h β' h') {a : Addr} {o : Obj} (hn : a ∉ β) (e : h.get? a = some o) : a ∉ β' := fun q => by
  rw [E.new a q hn] at e; cases e

theorem LRel.ext {W : Wd} {env : Env} {ρ : Rho} {β β' : List Addr} {h h' : Heap} (L : LRel W env ρ β h) (E : Ext [] β h β' h') : LRel W env ρ β' h' := by
  have mono : ∀ {v x}, VRel W β h v x → VRel W β' h' v x := fun r => r.mono E.pre E.tup
  have cl : ∀ {x c y}, env.cells.lookup x = some c → h.IsCell c y → h'.IsCell c y := fun e ⟨o, ho, hd⟩ => ⟨o, E.keep _ _ (L.cfresh _ (mem_of_lookup e)).1 (by simp) ho, hd⟩
  obtain ⟨m, hn, hm⟩ := L.ns
  have ho := hn
  obtain ⟨o, es, ep, ho, hd, hk, hf⟩ := ho
  refine ⟨⟨m, ⟨o, es, ep, E.keep _ _ L.lfresh.1 (by simp) ho, hd, hk, hf⟩, fun x v a b => ?_⟩, fun x v a b => ?_, fun x a => ?_, ⟨E.notMem L.lfresh.1 ho, L.lfresh.2⟩, fun p hp => ?_, L.cinj, L.above⟩
  · obtain ⟨y, e, r⟩ := hm x v a b
    exact ⟨y, e, mono r⟩
  · obtain ⟨c, y, e, ic, r⟩ := L.cell x v a b
    exact ⟨c, y, e, cl e ic, mono r⟩
  · obtain ⟨c, y, e, ic⟩ := L.cells x a
    exact ⟨c, y, e, cl e ic⟩
  · obtain ⟨a1, a2, a3, y, o', ho', hd'⟩ := L.cfresh p hp
    exact ⟨E.notMem a1 ho', a2, a3, y, o', E.keep _ _ a1 (by simp) ho', hd'⟩

structure Done (W : Wd) (X : List Addr) (β : List Addr) (s : Shared) (σ' : Store) (β' : List Addr) (s' : Shared) : Prop where
  ext : Ext X β s.heap β' s'.heap
  rel : SRel W σ' β' s'.heap
  gens : s'.gens = s.gens
  os : s'.os = s.os

theorem Done.trans {W : Wd} {X β β' β'' : List Addr} {s s' s'' : Shared} {σ' σ'' : Store} (a : Done W X β s σ' β' s') (b : Done W X β' s' σ'' β'' s'') : Done W X β s σ'' β'' s'' :=
  ⟨a.ext.trans b.ext, b.rel, b.gens.trans a.gens, b.os.trans a.os⟩
theorem Done.weak {W : Wd} {X Y β β' : List Addr} {s s' : Shared} {σ' : Store} (a : Done W X β s σ' β' s') (h : ∀ x ∈ X, x ∈ Y) : Done W Y β s σ' β' s' :=
  ⟨a.ext.weak h, a.rel, a.gens, a.os⟩
theorem Done.same {W : Wd} {X β : List Addr} {s : Shared} {σ : Store} (S : SRel W σ β s.heap) (t : Nat) : Done W X β s σ β { s with toks := t } := ⟨Ext.refl .., S, rfl, rfl⟩
theorem Done.same' {W : Wd} {X β : List Addr} {s : Shared} {σ : Store} (S : SRel W σ β s.heap) : Done W X β s σ β s := ⟨Ext.refl .., S, rfl, rfl⟩
theorem Done.push {W : Wd} {X β : List Addr} {s : Shared} {σ : Store} (S : SRel W σ β s.heap) (o : Obj) (t : Nat) : Done W X β s σ β { s with heap := s.heap.push o, toks := t } := ⟨Ext.push .., S.push o, rfl, rfl⟩
theorem Done.alloc {W : Wd} {X β : List Addr} {s : Shared} {σ : Store} (S : SRel W σ β s.heap) {o : O} {ob : Obj} (hf : ob.isFreed = false) (r : ORel W (β ++ [s.heap.objs.size]) (s.heap.push ob) o ob) (t : Nat) :
    Done W X β s (σ ++ [o]) (β ++ [s.heap.objs.size]) { s with heap := s.heap.push ob, toks := t } := ⟨Ext.alloc S .., S.alloc hf r, rfl, rfl⟩

theorem SRel.newRef {W : Wd} {σ : Store} {β : List Addr} {h : Heap} (S : SRel W σ β h) {h' : Heap} {a : Addr} : VRel W (β ++ [a]) h' (.ref σ.length) (.ref a) :=
  .ref (by rw [← S.len]; simp)

structure AttrOk (K : Frag) (C : Addr) (x : Str) : Prop where
  get : plainGet K C x = true
  dict : hasDictIn K C = true
  attr : ∃ r, findIn K (.ref C) x = some r ∧ noGet K r = true
  set : findIn K (.ref C) "__setattr__" = some (some (.builtin "object.__setattr__"))
  over : plainOver K C = true
  take : takerIn K C x = some none

inductive FnObj (W : Wd) (f : Addr) (D : FDef) : Prop
  | mk {oc : Value} {od : Option Addr} {osl : Array (Option Value)} {name qual : Str} {params : Arguments} {dV kV doc pm : Value} {an : Option Addr} {cdv ct : Value} (hf : W.K.lookup f = some ⟨oc, od, .func (fnOf name qual params D.body D.scope dV kV doc pm an cdv ct), osl⟩) (hc : codeIn W.K cdv qual = true)
    (hb : ∀ (s : Shared) (xs : List Value), (∀ b o, W.h0.get? b = some o → s.heap.get? b = some o) → D.params.length ≤ xs.length + D.dflt.length → xs.length ≤ D.params.length →
      ∃ ds, (∀ β h, VRels W β h (D.dflt.drop (xs.length + D.dflt.length - D.params.length)) ds) ∧ BindsTo s (fnOf name qual params D.body D.scope dV kV doc pm an cdv ct) ⟨xs, []⟩ (D.params.zip (xs ++ ds))) : FnObj W f D
structure FnAt (W : Wd) (f : Addr) (D : FDef) : Prop where
  obj : FnObj W f D
  isFn : isFn W.K (.ref f) = true
  keep : keepIn W.K (.ref f) = true
  kind : D.scope.kind = .function
  gen : D.scope.isGenerator = false
  co : D.scope.isCoroutine = false
  kinds : ∀ x ∈ D.params, D.scope.names.lookup x = some .local ∨ D.scope.names.lookup x = some .cell
  nodup : D.params.Nodup
  cells : ((cellsFrom 0 D.scope.names []).map (·.1)).Nodup

structure WOK (W : Wd) (T : Tab) : Prop where
  inK : W.K.In W.h0
  nolimit : W.h0.NoLimit
  globs : W.h0.Ns mainGlobals W.mg
  bis : W.h0.Ns builtinsNs W.mb
  consts : ∀ x v, T.G x = some v → ∃ y, W.mg x = some y ∧ ∀ β h, VRel W β h v y
  nob : ∀ x, isBuiltin x = true → W.mg x = none
  nodebug : W.mg "__debug__" = none
  bilen : W.mb "len" = some (.builtin "len")
  birange : W.mb "range" = some (.type "range")
  bilist : W.mb "list" = some (.type "list")
  bisorted : W.mb "sorted" = some (.builtin "sorted")
  attr : ∀ C x, T.attr C x = true → AttrOk W.K C x
  meth : ∀ C x D, T.meth C x = true → T.fd (.meth C x) = some D → plainGet W.K C x = true ∧ ∃ f, findIn W.K (.ref C) x = some (some (.ref f)) ∧ FnAt W f D
  glob : ∀ g D, T.cls g = none → T.fd (.glob g) = some D → ∃ f, W.mg g = some (.ref f) ∧ FnAt W f D
  cls : ∀ g C D, T.cls g = some C → T.fd (.meth C "__init__") = some D → W.mg g = some (.ref C) ∧ makesIn W.K C = true ∧ keepIn W.K (.ref C) = true ∧ ∃ f, findIn W.K (.ref C) "__init__" = some (some (.ref f)) ∧ FnAt W f D

section
variable (W : Wd) (T : Tab) (n : Nat)

abbrev MM : Model := model W.prog W.w
noncomputable def PostE (env : Env) (ρ : Rho) (β : List Addr) (s : Shared) (v : V) (σ' : Store) (x : Value) (s' : Shared) : Prop := ∃ β', Done W [env.locals] β s σ' β' s' ∧ LRel W env ρ β' s'.heap ∧ VRel W β' s'.heap v x
noncomputable def PostT (env : Env) (ρ : Rho) (β : List Addr) (s : Shared) (b : Bool) (σ' : Store) (c : Bool) (s' : Shared) : Prop := c = b ∧ ∃ β', Done W [env.locals] β s σ' β' s' ∧ LRel W env ρ β' s'.heap
noncomputable def EvE (A : Around) (env : Env) (ρ : Rho) (β : List Addr) (s : Shared) (t : Sem Value) (v : V) (σ' : Store) : Prop :=
  wpAny (MM W) A t (PostE W env ρ β s v σ') (fun _ _ => False) s
noncomputable def EvT (A : Around) (env : Env) (ρ : Rho) (β : List Addr) (s : Shared) (t : Sem Bool) (b : Bool) (σ' : Store) : Prop :=
  wpAny (MM W) A t (PostT W env ρ β s b σ') (fun _ _ => False) s
noncomputable def flowRel (β : List Addr) (h : Heap) : FlowA → Flow → Prop
  | .next, .next => True
  | .brk, .brk => True
  | .cont, .cont => True
  | .ret v, .ret x => VRel W β h v x
  | _, _ => False
noncomputable def PostS (env : Env) (β : List Addr) (s : Shared) (f : FlowA) (ρ' : Rho) (σ' : Store) (c : Flow) (s' : Shared) : Prop :=
  ∃ β', Done W (foot env) β s σ' β' s' ∧ LRel W env ρ' β' s'.heap ∧ flowRel W β' s'.heap f c
noncomputable def EvS (A : Around) (env : Env) (β : List Addr) (s : Shared) (t : Sem Flow) (f : FlowA) (ρ' : Rho) (σ' : Store) : Prop :=
  wpAny (MM W) A t (PostS W env β s f ρ' σ') (fun _ _ => False) s

structure Sound (I : Itp) : Prop where
  e : ∀ {Γ ρ σ e v σ'}, I.e Γ ρ σ e = some (v, σ') → ∀ {A env s β}, AOk n A → EnvOK Γ env → SRel W σ β s.heap → LRel W env ρ β s.heap → EvE W A env ρ β s (eval e env) v σ'
  t : ∀ {Γ ρ σ e b σ'}, I.t Γ ρ σ e = some (b, σ') → ∀ {A env s β}, AOk n A → EnvOK Γ env → SRel W σ β s.heap → LRel W env ρ β s.heap → EvT W A env ρ β s (isTrue e env (eval e env)) b σ'
  s : ∀ {Γ ρ σ st f ρ' σ'}, I.s Γ ρ σ st = some (f, ρ', σ') → ∀ {A env s β}, AOk n A → EnvOK Γ env → SRel W σ β s.heap → LRel W env ρ β s.heap → EvS W A env β s (exec st env) f ρ' σ'
  ss : ∀ {Γ ρ σ sts f ρ' σ'}, I.ss Γ ρ σ sts = some (f, ρ', σ') → ∀ {A env s β}, AOk n A → EnvOK Γ env → SRel W σ β s.heap → LRel W env ρ β s.heap → EvS W A env β s (execs sts env) f ρ' σ'
end

theorem EvE.then {W : Wd} {A : Around} {env : Env} {ρ : Rho} {β : List Addr} {s : Shared} {t : Sem Value} {v : V} {σ' : Store} {Q : Value → Shared → Prop}
    (h : EvE W A env ρ β s t v σ') (k : ∀ x s' β', Done W [env.locals] β s σ' β' s' → LRel W env ρ β' s'.heap → VRel W β' s'.heap v x → Q x s') : wpAny (MM W) A t Q (fun _ _ => False) s :=
  wpAny_mono h (fun x s' ⟨β', d, l, r⟩ => k x s' β' d l r) fun _ _ q => q
theorem EvT.then {W : Wd} {A : Around} {env : Env} {ρ : Rho} {β : List Addr} {s : Shared} {t : Sem Bool} {b : Bool} {σ' : Store} {Q : Bool → Shared → Prop}
    (h : EvT W A env ρ β s t b σ') (k : ∀ s' β', Done W [env.locals] β s σ' β' s' → LRel W env ρ β' s'.heap → Q b s') : wpAny (MM W) A t Q (fun _ _ => False) s :=
  wpAny_mono h (fun _ s' ⟨e, β', d, l⟩ => e ▸ k s' β' d l) fun _ _ q => q
theorem EvE.from {W : Wd} {A : Around} {env : Env} {ρ : Rho} {β β₁ : List Addr} {s s₁ : Shared} {t : Sem Value} {v : V} {σ₁ σ' : Store} (d : Done W [env.locals] β s σ₁ β₁ s₁) (h : EvE W A env ρ β₁ s₁ t v σ') :
    wpAny (MM W) A t (PostE W env ρ β s v σ') (fun _ _ => False) s₁ :=
  wpAny_mono h (fun _ _ ⟨β', d', l, r⟩ => ⟨β', d.trans d', l, r⟩) fun _ _ q => q
theorem EvT.from {W : Wd} {A : Around} {env : Env} {ρ : Rho} {β β₁ : List Addr} {s s₁ : Shared} {t : Sem Bool} {b : Bool} {σ₁ σ' : Store} (d : Done W [env.locals] β s σ₁ β₁ s₁) (h : EvT W A env ρ β₁ s₁ t b σ') :
    wpAny (MM W) A t (PostT W env ρ β s b σ') (fun _ _ => False) s₁ :=
  wpAny_mono h (fun _ _ ⟨e, β', d', l⟩ => ⟨e, β', d.trans d', l⟩) fun _ _ q => q

theorem Done.vrel {W : Wd} {X β β' : List Addr} {s s' : Shared} {σ' : Store} (d : Done W X β s σ' β' s') {v : V} {x : Value} (r : VRel W β s.heap v x) : VRel W β' s'.heap v x := r.mono d.ext.pre d.ext.tup
theorem Done.vrels {W : Wd} {X β β' : List Addr} {s s' : Shared} {σ' : Store} (d : Done W X β s σ' β' s') {v : List V} {x : List Value} (r : VRels W β s.heap v x) : VRels W β' s'.heap v x := r.mono d.ext.pre d.ext.tup
theorem Done.lrel {W : Wd} {env : Env} {ρ : Rho} {β β' : List Addr} {s s' : Shared} {σ' : Store} (d : Done W [] β s σ' β' s') (L : LRel W env ρ β s.heap) : LRel W env ρ β' s'.heap := L.ext d.ext
theorem Done.fin {W : Wd} {env : Env} {ρ : Rho} {β β' : List Addr} {s s' : Shared} {σ' : Store} {v : V} {x : Value} (d : Done W [] β s σ' β' s') (L : LRel W env ρ β s.heap) (r : VRel W β' s'.heap v x) : PostE W env ρ β s v σ' x s' :=
  ⟨β', d.weak (by simp), d.lrel L, r⟩

theorem PostE.after {W : Wd} {env : Env} {ρ : Rho} {β β₁ : List Addr} {s s₁ s' : Shared} {σ₁ σ' : Store} {v : V} {x : Value} (q : PostE W env ρ β₁ s₁ v σ' x s') (d : Done W [env.locals] β s σ₁ β₁ s₁) : PostE W env ρ β s v σ' x s' := by
  obtain ⟨β', d', r⟩ := q; exact ⟨β', d.trans d', r⟩

section
variable {W : Wd} {T : Tab} {A : Around} {env : Env} {Γ : Scope} {ρ : Rho} {σ : Store} {β : List Addr} {s : Shared} {n : Nat} {C : Cfg} {I : Itp}

theorem bind_some {α γ : Type} {o : Option α} {f : α → Option γ} {r : γ} (e : o.bind f = some r) : ∃ a, o = some a ∧ f a = some r := Option.bind_eq_some_iff.mp e
theorem map_some {α γ : Type} {o : Option α} {f : α → γ} {r : γ} (e : o.map f = some r) : ∃ a, o = some a ∧ f a = r := Option.map_eq_some_iff.mp e

theorem sound_const {c : Const} {k : Nat} {p : Pos} {v : V} {σ' : Store} (e : (constV c).map (fun v => (v, σ)) = some (v, σ')) (S : SRel W σ β s.heap) (L : LRel W env ρ β s.heap) : EvE W A env ρ β s (eval (.Constant c k p) env) v σ' := by
  obtain ⟨v', hv, e⟩ := map_some e
  obtain ⟨rfl, rfl⟩ := Prod.mk.inj e
  cases c with
  | none => cases hv; exact wpAny_Constant_none ((Done.same' S).fin L .none)
  | bool b => cases hv; exact wpAny_Constant_bool ((Done.same' S).fin L (.bool b))
  | int i => cases hv; exact wpAny_Constant_int ((Done.same S _).fin L (.int i _))
  | str x => cases hv; exact wpAny_Constant_str ((Done.same S _).fin L (.str x _))
  | _ => cases hv

theorem sound_name (G : WOK W T) (hC : C.G = T.G) {x : Str} {p : Pos} {v : V} {σ' : Store} (e : stepE C I Γ ρ σ (.Name x p) = some (v, σ')) (O : EnvOK Γ env) (S : SRel W σ β s.heap) (L : LRel W env ρ β s.heap) :
    EvE W A env ρ β s (eval (.Name x p) env) v σ' := by
  change (if x = ("__debug__" : Str) then none else match Γ.names.lookup x with
    | some .local => (ρ x).map fun v => (v, σ)
    | some .cell => (ρ x).map fun v => (v, σ)
    | some .globalImplicit => (C.G x).map fun v => (v, σ)
    | _ => none) = _ at e
  split at e
  · cases e
  rename_i hd
  have hd' : (x == ("__debug__" : Str)) = false := by simpa using hd
  have hk : env.scope.kind = .function := by rw [O.scope]; exact O.kind
  have kd : env.kindOf x = Γ.names.lookup x := by unfold Env.kindOf; rw [O.scope]
  split at e
  · rename_i hl
    obtain ⟨v', hv, e⟩ := map_some e
    obtain ⟨rfl, rfl⟩ := Prod.mk.inj e
    obtain ⟨m, hn, hm⟩ := L.ns
    obtain ⟨y, hy, r⟩ := hm x _ (kd.trans hl) hv
    exact wpAny_Name (wpAny_loadName_local hk (kd.trans hl) hn hy ((Done.same' S).fin L r)) hd'
  · rename_i hl
    obtain ⟨v', hv, e⟩ := map_some e
    obtain ⟨rfl, rfl⟩ := Prod.mk.inj e
    obtain ⟨c, y, hc, ic, r⟩ := L.cell x _ (kd.trans hl) hv
    exact wpAny_Name (wpAny_loadName_cell hk (kd.trans hl) hc ic ((Done.same' S).fin L r)) hd'
  · rename_i hl
    obtain ⟨v', hv, e⟩ := map_some e
    obtain ⟨rfl, rfl⟩ := Prod.mk.inj e
    rw [hC] at hv
    obtain ⟨y, hy, r⟩ := G.consts x _ hv
    refine Calls.Name_function_global hk (kd.trans hl) (Calls.loadGlobal_global (by rw [O.glob]; exact G.globs.keeps S.keep) hy ((Done.same' S).fin L (r _ _))) hd'
  · cases e

theorem sound_binop (hI : Sound W n I) {l r : Expr} {op : Operator} {p : Pos} {v : V} {σ' : Store} (H : ∀ {a b : V} {x y : Value} {σ : Store} {s : Shared} {β : List Addr}, binV op a b σ = some (v, σ') → SRel W σ β s.heap → LRel W env ρ β s.heap → VRel W β s.heap a x → VRel W β s.heap b y → EvE W A env ρ β s (binaryOp op x y) v σ')
    (e : stepE C I Γ ρ σ (.BinOp l op r p) = some (v, σ')) (hA : AOk n A) (O : EnvOK Γ env) (S : SRel W σ β s.heap) (L : LRel W env ρ β s.heap) : EvE W A env ρ β s (eval (.BinOp l op r p) env) v σ' := by
  change ((I.e Γ ρ σ l).bind fun a => (I.e Γ ρ a.2 r).bind fun b => binV op a.1 b.1 b.2) = _ at e
  refine ob2 e fun a σ₁ e1 e => ?_
  refine ob2 e fun b σ₂ e2 e => ?_
  refine wpAny_BinOp (EvE.then (hI.e e1 hA O S L) fun x s₁ β₁ d₁ L₁ r₁ => EvE.then (hI.e e2 hA O d₁.rel L₁) fun y s₂ β₂ d₂ L₂ r₂ => ?_)
  exact EvE.from (d₁.trans d₂) (H e d₂.rel L₂ (d₂.vrel r₁) r₂)
end

noncomputable def full (W : Wd) (L : Addr) (h : Heap) : List (Addr × Obj) :=
  (List.range h.objs.size).filterMap fun b => if b = L then none else if (W.h0.get? b).isSome then none else (h.get? b).map fun o => (b, o)
theorem mem_full {W : Wd} {L : Addr} {h : Heap} {p : Addr × Obj} : p ∈ full W L h ↔ h.get? p.1 = some p.2 ∧ p.1 ≠ L ∧ W.h0.get? p.1 = none := by
  unfold full
  rw [List.mem_filterMap]
  constructor
  · rintro ⟨b, _, e⟩
    split at e
    · cases e
    · split at e
      · cases e
      · rename_i h1 h2
        obtain ⟨o, ho, rfl⟩ := map_some e
        exact ⟨ho, h1, by simpa using h2⟩
  · rintro ⟨h1, h2, h3⟩
    refine ⟨p.1, List.mem_range.mpr (Heap.lt_size h1), ?_⟩
    rw [if_neg h2, h3, h1]
    rfl
theorem full_news (W : Wd) (L : Addr) (h : Heap) : News W.h0 L h (full W L h) := fun _ hp => mem_full.mp hp
theorem full_fst {W : Wd} {L : Addr} {h : Heap} : ∀ l : List Nat, l.Nodup → ((l.filterMap fun b => if b = L then none else if (W.h0.get? b).isSome then none else (h.get? b).map fun o => (b, o)).map (·.1)).Nodup
  | [], _ => by simp
  | a :: r, hn => by
    rw [List.nodup_cons] at hn
    rw [List.filterMap_cons]
    split
    · exact full_fst r hn.2
    · rename_i p e
      rw [List.map_cons, List.nodup_cons]
      refine ⟨fun q => ?_, full_fst r hn.2⟩
      obtain ⟨⟨b, o⟩, hp, hb⟩ := List.mem_map.mp q
      obtain ⟨c, hc, e'⟩ := List.mem_filterMap.mp hp
      have h1 : p.1 = a := by
        split at e
        · cases e
        · split at e
          · cases e
          · obtain ⟨_, _, e⟩ := map_some e; rw [← e]
      have h2 : b = c := by
        split at e'
        · cases e'
        · split at e'
          · cases e'
          · obtain ⟨_, _, e'⟩ := map_some e'; exact (congrArg Prod.fst e').symm
      dsimp only at hb
      rw [h1, h2] at hb
      rw [← hb] at hn
      exact hn.1 hc
theorem full_nodup (W : Wd) (L : Addr) (h : Heap) : ((full W L h).map (·.1)).Nodup := full_fst _ List.nodup_range
theorem full_keep {W : Wd} {L : Addr} {h h' : Heap} {m : Str → Option Value} {l : List (Addr × Obj)} (hk : ∀ b o, W.h0.get? b = some o → h.get? b = some o) (F : Fr W.h0 L h' m) (N : News W.h0 L h' l) {b : Addr} {o : Obj} (hb : b ≠ L) (e : h.get? b = some o)
    (hl : (b, o) ∈ full W L h → (b, o) ∈ l) : h'.get? b = some o := by
  cases q : W.h0.get? b with
  | some o' =>
    have e' := hk _ _ q
    rw [e] at e'
    cases e'
    exact F.keep _ _ q
  | none => exact (N _ (hl (mem_full.mpr ⟨e, hb, q⟩))).1

theorem LRel.fr {W : Wd} {env : Env} {ρ : Rho} {β : List Addr} {h : Heap} {σ : Store} (L : LRel W env ρ β h) (S : SRel W σ β h) : ∃ m, Fr W.h0 env.locals h m ∧ ∀ x v, env.kindOf x = some .local → ρ x = some v → ∃ y, m x = some y ∧ VRel W β h v y := by
  obtain ⟨m, hn, hm⟩ := L.ns
  exact ⟨m, ⟨hn, S.keep, L.above⟩, hm⟩
end
section
theorem ns_not_tup {h : Heap} {L : Addr} {m : Str → Option Value} (hn : h.Ns L m) {xs : Array Value} {n : Nat} (e : h.get? L = some (tupO xs n)) : False := by
  obtain ⟨o, es, ep, ho, hd, _⟩ := hn
  rw [e] at ho; cases ho; cases hd

theorem LRel.ns_at {W : Wd} {env : Env} {ρ : Rho} {β β' : List Addr} {h h' : Heap} {m : Str → Option Value} (L : LRel W env ρ β h) (E : Ext [env.locals] β h β' h') (hn' : h'.Ns env.locals m)
    (hm : ∀ x v, env.kindOf x = some .local → ρ x = some v → ∃ y, m x = some y ∧ VRel W β h v y) : LRel W env ρ β' h' := by
  have mono : ∀ {v x}, VRel W β h v x → VRel W β' h' v x := fun r => r.mono E.pre E.tup
  have cl : ∀ {x c y}, env.cells.lookup x = some c → h.IsCell c y → h'.IsCell c y := fun e ⟨o, ho, hd⟩ => ⟨o, E.keep _ _ (L.cfresh _ (mem_of_lookup e)).1 (by simpa using (L.cfresh _ (mem_of_lookup e)).2.2.1) ho, hd⟩
  obtain ⟨m0, hn, _⟩ := L.ns
  obtain ⟨o, es, ep, ho, hd, hk, hf⟩ := hn
  refine ⟨⟨m, hn', fun x v a b => ?_⟩, fun x v a b => ?_, fun x a => ?_, ⟨E.notMem L.lfresh.1 ho, L.lfresh.2⟩, fun p hp => ?_, L.cinj, L.above⟩
  · obtain ⟨y, e, r⟩ := hm x v a b
    exact ⟨y, e, mono r⟩
  · obtain ⟨c, y, e, ic, r⟩ := L.cell x v a b
    exact ⟨c, y, e, cl e ic, mono r⟩
  · obtain ⟨c, y, e, ic⟩ := L.cells x a
    exact ⟨c, y, e, cl e ic⟩
  · obtain ⟨a1, a2, a3, y, o', ho', hd'⟩ := L.cfresh p hp
    exact ⟨E.notMem a1 ho', a2, a3, y, o', E.keep _ _ a1 (by simpa using a3) ho', hd'⟩

theorem step_alloc {W : Wd} {env : Env} {ρ : Rho} {σ : Store} {β : List Addr} {s : Shared} {h' : Heap} {m : Str → Option Value} {o : O} {ob : Obj} (S : SRel W σ β s.heap) (L : LRel W env ρ β s.heap) (F' : Fr W.h0 env.locals h' m)
    (hm : ∀ x v, env.kindOf x = some .local → ρ x = some v → ∃ y, m x = some y ∧ VRel W β s.heap v y) (N' : News W.h0 env.locals h' ((s.heap.objs.size, ob) :: full W env.locals s.heap))
    (r : (∀ a xs n, s.heap.get? a = some (tupO xs n) → h'.get? a = some (tupO xs n)) → ORel W (β ++ [s.heap.objs.size]) h' o ob) (tk : Nat) :
    PostE W env ρ β s (.ref σ.length) (σ ++ [o]) (.ref s.heap.objs.size) { s with heap := h', toks := tk } := by
  have hk : ∀ b o, b ≠ env.locals → s.heap.get? b = some o → h'.get? b = some o := fun b o hb e => full_keep S.keep F' N' hb e fun q => .tail _ q
  obtain ⟨m0, hn0, _⟩ := L.ns
  have ht : ∀ a xs n, s.heap.get? a = some (tupO xs n) → h'.get? a = some (tupO xs n) := fun a xs n e => hk _ _ (fun q => ns_not_tup hn0 (q ▸ e)) e
  have hbL : ∀ a ∈ β, a ≠ env.locals := fun a ha q => L.lfresh.1 (q ▸ ha)
  have E : Ext [env.locals] β s.heap (β ++ [s.heap.objs.size]) h' := by
    refine ⟨get_snoc_pre, fun a ha hn => ?_, fun b o _ h2 e => hk _ _ (by simpa using h2) e, ht, fun b o e => ?_⟩
    · rcases List.mem_append.mp ha with q | q
      · exact absurd q hn
      · rw [List.mem_singleton] at q; subst q; exact size_free _
    · by_cases q : b = env.locals
      · obtain ⟨o', _, _, ho', _⟩ := F'.ns
        exact ⟨o', q ▸ ho'⟩
      · exact ⟨o, hk _ _ q e⟩
  have S' : SRel W σ β h' := S.other (fun b o e => F'.keep _ _ e) (fun a ha o e => hk _ _ (hbL a ha) e) ht
  refine ⟨β ++ [s.heap.objs.size], ⟨E, ?_, rfl, rfl⟩, L.ns_at E F'.ns hm, S.newRef⟩
  refine ⟨S'.keep, by simp [S.len], ?_, fun a ha => ?_, S.low, fun a ha => ?_, fun i o' a e1 e2 => ?_⟩
  · rw [List.nodup_append]
    refine ⟨S.nodup, by simp, fun a ha b hb => ?_⟩
    rw [List.mem_singleton] at hb
    subst hb
    rintro rfl
    exact not_mem_size S ha
  · rcases List.mem_append.mp ha with q | q
    · exact S.fresh a q
    · rw [List.mem_singleton] at q; subst q; exact size_free0 S
  · rcases List.mem_append.mp ha with q | q
    · exact S.above a q
    · rw [List.mem_singleton] at q; subst q; exact S.big
  · by_cases hi : i < σ.length
    · rw [List.getElem?_append_left hi] at e1
      rw [List.getElem?_append_left (by rw [S.len]; exact hi)] at e2
      obtain ⟨ob', e, q⟩ := S'.obj i o' a e1 e2
      exact ⟨ob', e, q.mono get_snoc_pre fun _ _ _ e => e⟩
    · have hi' : i = σ.length := by
        have := (List.getElem?_eq_some_iff.mp e1).1
        simp at this; lia
      subst hi'
      rw [List.getElem?_append_right (Nat.le_refl _)] at e1
      rw [List.getElem?_append_right (by rw [S.len]; exact Nat.le_refl _), S.len] at e2
      simp at e1 e2
      subst e1 e2
      exact ⟨ob, (N' _ (.head _)).1, r ht⟩

theorem VRels.size {W : Wd} {β : List Addr} {h : Heap} {vs : List V} {xs : Array Value} (r : VRels W β h vs xs.toList) : xs.size = vs.length := by
  rw [← Array.length_toList]; exact r.length

theorem foldl_app {α : Type} : ∀ (l : List (Array α)) (acc : Array α), (l.foldl (fun x y => x ++ y) acc).toList = acc.toList ++ (l.map Array.toList).flatten
  | [], acc => by simp
  | a :: r, acc => by rw [List.foldl_cons, foldl_app r]; simp

section
variable {W : Wd} {T : Tab} {A : Around} {env : Env} {Γ : Scope} {ρ : Rho} {σ : Store} {β : List Addr} {s : Shared} {n : Nat} {C : Cfg} {I : Itp}

theorem binV_inv {op : Operator} {a b : V} {σ : Store} {r : V × Store} (e : binV op a b σ = some r) : (∃ x y, a = .int x ∧ b = .int y) ∨ (∃ i j, a = .ref i ∧ b = .ref j ∧ op = .Add) ∨ (∃ i k, a = .ref i ∧ b = .int k ∧ op = .Mult) := by
  cases a with
  | int x => cases b with
    | int y => exact .inl ⟨x, y, rfl, rfl⟩
    | _ => (first | exact oN e | refine oR3 e ?_ | refine oR2 e ?_ | cases e)
  | ref i => cases b with
    | ref j => cases op with
      | Add => exact .inr (.inl ⟨i, j, rfl, rfl, rfl⟩)
      | _ => (first | exact oN e | refine oR3 e ?_ | refine oR2 e ?_ | cases e)
    | int k => cases op with
      | Mult => exact .inr (.inr ⟨i, k, rfl, rfl, rfl⟩)
      | _ => (first | exact oN e | refine oR3 e ?_ | refine oR2 e ?_ | cases e)
    | _ => (first | exact oN e | refine oR3 e ?_ | refine oR2 e ?_ | cases e)
  | _ => (first | exact oN e | refine oR3 e ?_ | refine oR2 e ?_ | cases e)
theorem ite_some {α : Type} {p : Prop} [Decidable p] {a b : α} (e : (if p then some a else none) = some b) : p ∧ a = b := by
  by_cases h : p
  · rw [if_pos h] at e; exact ⟨h, Option.some.inj e⟩
  · rw [if_neg h] at e; (first | exact oN e | refine oR3 e ?_ | refine oR2 e ?_ | cases e)
theorem sound_binI {op : Operator} {i j : Int} {t u : Tok} {v : V} {σ' : Store} (e : binV op (.int i) (.int j) σ = some (v, σ')) (S : SRel W σ β s.heap) (L : LRel W env ρ β s.heap) :
    EvE W A env ρ β s (binaryOp op (.int i t) (.int j u)) v σ' := by
  have fin : ∀ {k : Int}, (V.int k, σ) = (v, σ') → PostE W env ρ β s v σ' (.int k s.toks) { s with toks := s.toks + 1 } := fun {k} q => by
    cases q; exact (Done.same S _).fin L (.int k _)
  cases op with
  | Add => exact add_int (fin (Option.some.inj e))
  | Sub => exact sub_int' (fin (Option.some.inj e))
  | Mult => exact mul_int (fin (ite_some e).2) (IntMulOk.of_left (intBits_le_64 (ite_some e).1.1 (ite_some e).1.2))
  | FloorDiv => exact floordiv_int (ite_some e).1.1 (fin (ite_some e).2) (.inl (PyProof.noPylong_small (ite_some e).1.2))
  | Mod => exact mod_int' (ite_some e).1 (fin (ite_some e).2)
  | BitAnd => exact and_int (fin (Option.some.inj e))
  | BitOr => exact or_int (fin (Option.some.inj e))
  | BitXor => exact xor_int (fin (Option.some.inj e))
  | LShift => exact lshift_int_small (ite_some e).1.1 (ite_some e).1.2.1 (ite_some e).1.2.2 (fin (ite_some e).2)
  | RShift => exact rshift_int (ite_some e).1 (fin (ite_some e).2)
  | _ => exact nomatch e
theorem lst_of {α : Type} {o : Option O} {f : List V → Option α} {r : α} (e : (match o with | some (.lst xs) => f xs | _ => none) = some r) : ∃ xs, o = some (.lst xs) ∧ f xs = some r := by
  match o, e with
  | some (.lst xs), e => exact ⟨xs, rfl, e⟩
theorem sound_binV {op : Operator} {a b : V} {x y : Value} {v : V} {σ' : Store} (e : binV op a b σ = some (v, σ')) (S : SRel W σ β s.heap) (L : LRel W env ρ β s.heap) (ra : VRel W β s.heap a x) (rb : VRel W β s.heap b y) :
    EvE W A env ρ β s (binaryOp op x y) v σ' := by
  rcases binV_inv e with ⟨i, j, rfl, rfl⟩ | ⟨i, j, rfl, rfl, rfl⟩ | ⟨i, k, rfl, rfl, rfl⟩
  · obtain ⟨t, rfl⟩ := ra.int_inv
    obtain ⟨u, rfl⟩ := rb.int_inv
    exact sound_binI e S L
  · obtain ⟨a, rfl, ea⟩ := ra.ref_inv
    obtain ⟨b, rfl, eb⟩ := rb.ref_inv
    have e2 : ∃ xs ys, σ[i]? = some (.lst xs) ∧ σ[j]? = some (.lst ys) ∧ xs.length + ys.length ≤ maxLen ∧ newO σ (.lst (xs ++ ys)) = (v, σ') := by
      change (match σ[i]?, σ[j]? with
          | some (.lst xs), some (.lst ys) => if xs.length + ys.length ≤ maxLen then some (newO σ (.lst (xs ++ ys))) else none
          | _, _ => none) = _ at e
      clear S L ra rb ea eb
      generalize σ[i]? = p at e ⊢
      generalize σ[j]? = q at e ⊢
      match p, q, e with
      | some (.lst xs), some (.lst ys), e => exact ⟨xs, ys, rfl, rfl, ite_some e⟩
    obtain ⟨xs, ys, hi, hj, hz, e3⟩ := e2
    (first | exact oN e3 | refine oR3 e3 ?_ | refine oR2 e3 ?_ | cases e3)
    obtain ⟨a', oba, ea', ha, ra⟩ := S.at hi
    obtain ⟨b', obb, eb', hb, rb⟩ := S.at hj
    rw [ea] at ea'; cases ea'
    rw [eb] at eb'; cases eb'
    obtain ⟨xa, na, rfl, qa⟩ := ra
    obtain ⟨xb, nb, rfl, qb⟩ := rb
    have d : Done W [] β s (σ ++ [.lst (xs ++ ys)]) (β ++ [s.heap.objs.size]) { s with heap := s.heap.push (lstO (xa ++ xb) 0), toks := s.toks } := Done.alloc (o := .lst (xs ++ ys)) (ob := lstO (xa ++ xb) 0) S rfl ⟨xa ++ xb, 0, rfl, by
      rw [Array.toList_append]
      exact (qa.mono get_snoc_pre fun _ _ _ e => Heap.get?_push_of_some _ e).append (qb.mono get_snoc_pre fun _ _ _ e => Heap.get?_push_of_some _ e)⟩ _
    exact P.add_list ha hb (d.fin L S.newRef) (by rw [qa.size, qb.size]; exact Nat.le_trans hz (by decide))
  · obtain ⟨a, rfl, ea⟩ := ra.ref_inv
    obtain ⟨u, rfl⟩ := rb.int_inv
    obtain ⟨xs, hi, e⟩ := lst_of (f := fun xs => if 0 ≤ k ∧ k ≤ maxLen ∧ xs.length = 1 then some (newO σ (.lst (List.replicate k.toNat xs).flatten)) else none) (show (match σ[i]? with
          | some (.lst xs) => if 0 ≤ k ∧ k ≤ maxLen ∧ xs.length = 1 then some (newO σ (.lst (List.replicate k.toNat xs).flatten)) else none
          | _ => none) = _ from e)
    obtain ⟨hz, e⟩ := ite_some e
    (first | exact oN e | refine oR3 e ?_ | refine oR2 e ?_ | cases e)
    obtain ⟨xa, na, ha, qa⟩ := S.lst hi ea
    obtain ⟨m, F, hm⟩ := L.fr S
    have hs : xa.size = 1 := by rw [qa.size]; exact hz.2.2
    have hmx : (maxLen : Int) = 1000 := rfl
    refine mul_list F (full_news W _ _) ha (by lia) (by lia) (by rw [hs]; lia) fun h' F' N' => ?_
    refine step_alloc (o := .lst (List.replicate k.toNat xs).flatten) S L F' hm N' (fun ht => ⟨_, _, rfl, ?_⟩) _
    have hne : xa.isEmpty = false := by rw [Array.isEmpty_eq_false_iff]; intro q; rw [q] at hs; cases hs
    rw [foldl_app, if_neg (by rw [hne]; decide)]
    simp only [List.map_replicate, List.nil_append]
    exact (qa.mono get_snoc_pre ht).flatten k.toNat
end
end
section
section
variable {W : Wd} {T : Tab} {A : Around} {env : Env} {Γ : Scope} {ρ : Rho} {σ : Store} {β : List Addr} {s : Shared} {n : Nat} {C : Cfg} {I : Itp}

theorem unV_inv {op : UnaryOp} {a v : V} (e : unV op a = some v) : (∃ b, op = .Not ∧ a = .bool b ∧ v = .bool !b) ∨ (∃ i, op = .Invert ∧ a = .int i ∧ v = .int (-i - 1)) ∨ (∃ i, op = .USub ∧ a = .int i ∧ v = .int (-i)) := by
  cases a with
  | bool b => cases op with
    | Not => exact .inl ⟨b, rfl, rfl, (Option.some.inj e).symm⟩
    | _ => (first | exact oN e | refine oR3 e ?_ | refine oR2 e ?_ | cases e)
  | int i => cases op with
    | Invert => exact .inr (.inl ⟨i, rfl, rfl, (Option.some.inj e).symm⟩)
    | USub => exact .inr (.inr ⟨i, rfl, rfl, (Option.some.inj e).symm⟩)
    | _ => (first | exact oN e | refine oR3 e ?_ | refine oR2 e ?_ | cases e)
  | _ => cases op <;> (first | exact oN e | refine oR3 e ?_ | refine oR2 e ?_ | cases e)
theorem sound_unV {op : UnaryOp} {a : V} {x : Value} {v : V} {Q : Value → Shared → Prop} (e : unV op a = some v) (ra : VRel W β s.heap a x) (h : ∀ y t, VRel W β s.heap v y → Q y { s with toks := t }) :
    wpAny (MM W) A (unaryOp op x) Q (fun _ _ => False) s := by
  rcases unV_inv e with ⟨b, rfl, rfl, rfl⟩ | ⟨i, rfl, rfl, rfl⟩ | ⟨i, rfl, rfl, rfl⟩
  · obtain rfl := ra.bool_inv
    exact not_value (wpAny_truthy_bool (h (.bool !b) s.toks (.bool _)))
  · obtain ⟨t, rfl⟩ := ra.int_inv
    exact invert_int (h (.int (-i - 1) s.toks) (s.toks + 1) (.int _ _))
  · obtain ⟨t, rfl⟩ := ra.int_inv
    exact neg_int (h (.int (-i) s.toks) (s.toks + 1) (.int _ _))

theorem sound_un (hI : Sound W n I) {x : Expr} {op : UnaryOp} {p : Pos} {v : V} {σ' : Store} (e : stepE C I Γ ρ σ (.UnaryOp op x p) = some (v, σ')) (hA : AOk n A) (O : EnvOK Γ env) (S : SRel W σ β s.heap) (L : LRel W env ρ β s.heap) :
    EvE W A env ρ β s (eval (.UnaryOp op x p) env) v σ' := by
  change ((I.e Γ ρ σ x).bind fun a => (unV op a.1).map fun v => (v, a.2)) = _ at e
  refine ob2 e fun a σ₁ e1 e => oM2 e fun v' hv => ?_
  refine wpAny_UnaryOp (EvE.then (hI.e e1 hA O S L) fun x s₁ β₁ d₁ L₁ r₁ => sound_unV hv r₁ fun y t r => ?_)
  exact ⟨β₁, d₁.trans (Done.same d₁.rel t), L₁, r⟩

theorem truth_of {v : V} {b : Bool} (e : truthV v = some b) : v = .bool b := by
  cases v <;> (first | exact oN e | refine oR3 e ?_ | refine oR2 e ?_ | cases e)
  rfl

theorem sound_bools (hI : Sound W n I) {op : BoolOp} {pos : Pos} (hA : AOk n A) (O : EnvOK Γ env) : ∀ {es : List Expr} {σ : Store} {β : List Addr} {s : Shared} {v : V} {σ' : Store}, boolV I Γ ρ op σ es = some (v, σ') → SRel W σ β s.heap → LRel W env ρ β s.heap →
    EvE W A env ρ β s (boolOp pos op (evalEach es env)) v σ'
  | [], _, _, _, _, _, e, _, _ => by (first | exact oN e | refine oR3 e ?_ | refine oR2 e ?_ | cases e)
  | [x], _, _, _, _, _, e, S, L => by
    show EvE W A env ρ _ _ (eval x env) _ _
    exact hI.e e hA O S L
  | x :: y :: r, σ, β, s, v, σ', e, S, L => by
    change ((I.e Γ ρ σ x).bind fun p => (truthV p.1).bind fun b => match op, b with
      | .And, false => some p
      | .Or, true => some p
      | _, _ => boolV I Γ ρ op p.2 (y :: r)) = _ at e
    refine ob2 e fun a σ₁ e1 e => ?_
    refine ob1 e fun b hb e => ?_
    have hb' := truth_of hb
    dsimp only at hb' e
    subst hb'
    show wpAny (MM W) A (eval x env >>= fun v => standAt pos >>= fun _ => holding [v] (truthy v) >>= fun t => match op, t with
      | .And, false | .Or, true => pure v
      | _, _ => boolOp pos op (evalEach (y :: r) env)) _ _ _
    refine wpAny_bind (EvE.then (hI.e e1 hA O S L) fun z s₁ β₁ d₁ L₁ r₁ => ?_)
    cases r₁
    refine wpAny_bind (wpAny_standAt (wpAny_bind (wpAny_holding (wpAny_truthy_bool ?_))))
    cases op <;> cases b
    · obtain ⟨rfl, rfl⟩ := Prod.mk.inj (Option.some.inj e)
      exact wpAny_pure ⟨β₁, d₁, L₁, .bool _⟩
    · exact EvE.from d₁ (sound_bools hI hA O (es := y :: r) e d₁.rel L₁)
    · exact EvE.from d₁ (sound_bools hI hA O (es := y :: r) e d₁.rel L₁)
    · obtain ⟨rfl, rfl⟩ := Prod.mk.inj (Option.some.inj e)
      exact wpAny_pure ⟨β₁, d₁, L₁, .bool _⟩

theorem sound_allT (hI : Sound W n I) {op : BoolOp} (hA : AOk n A) (O : EnvOK Γ env) : ∀ {es : List Expr} {σ : Store} {β : List Addr} {s : Shared} {b : Bool} {σ' : Store}, allT I Γ ρ op σ es = some (b, σ') → SRel W σ β s.heap → LRel W env ρ β s.heap →
    EvT W A env ρ β s (allTrue op es env) b σ'
  | [], σ, β, s, b, σ', e, S, L => by
    obtain ⟨rfl, rfl⟩ := Prod.mk.inj (Option.some.inj e)
    have d : Done W [env.locals] β s σ β s := Done.same' S
    cases op
    · exact wpAny_allTrue_And_nil ⟨rfl, β, d, L⟩
    · exact wpAny_allTrue_Or_nil ⟨rfl, β, d, L⟩
  | x :: r, σ, β, s, b, σ', e, S, L => by
    change ((I.t Γ ρ σ x).bind fun p => match op, p.1 with
      | .And, false => some (false, p.2)
      | .Or, true => some (true, p.2)
      | _, _ => allT I Γ ρ op p.2 r) = _ at e
    refine ob2 e fun a σ₁ e1 e => ?_
    have h1 := hI.t e1 hA O S L
    cases op
    · refine wpAny_allTrue_And_cons (EvT.then h1 fun s₁ β₁ d₁ L₁ => ?_)
      cases a
      · obtain ⟨rfl, rfl⟩ := Prod.mk.inj (Option.some.inj e)
        exact ⟨rfl, β₁, d₁, L₁⟩
      · exact EvT.from d₁ (sound_allT hI hA O e d₁.rel L₁)
    · refine wpAny_allTrue_Or_cons (EvT.then h1 fun s₁ β₁ d₁ L₁ => ?_)
      cases a
      · exact EvT.from d₁ (sound_allT hI hA O e d₁.rel L₁)
      · obtain ⟨rfl, rfl⟩ := Prod.mk.inj (Option.some.inj e)
        exact ⟨rfl, β₁, d₁, L₁⟩

theorem flat_reads {v : V} {x : Value} {d : PyData} (e : flatD v = some d) (r : VRel W β s.heap v x) : Reads s.heap x d [] := by
  cases v with
  | none => obtain rfl := r.none_inv; cases e; exact .none
  | bool b => obtain rfl := r.bool_inv; cases e; exact .bool _
  | int i => obtain ⟨t, rfl⟩ := r.int_inv; cases e; exact .int _ _
  | str i => obtain ⟨t, rfl⟩ := r.str_inv; cases e; exact .str _ _
  | _ => exact oN e
theorem flats_reads {vs : List V} : ∀ {xs : List Value} {ds : List PyData}, flatDs vs = some ds → VRels W β s.heap vs xs → ReadsAll s.heap xs ds [] := by
  induction vs with
  | nil => intro xs ds e r; obtain rfl := r.nil_inv; cases e; exact .nil
  | cons v vs ih =>
    intro xs ds e r
    obtain ⟨x, ys, rfl, a, b⟩ := r.cons_inv
    refine ob1 e fun d h1 e' => ob1 e' fun ds h2 e' => ?_
    cases e'
    exact .cons (as := []) (bs := []) (flat_reads h1 a) (ih h2 b)
theorem toDs_reads {k : Nat} (ih : ∀ {v : V} {x : Value} {d : PyData}, toD σ k v = some d → VRel W β s.heap v x → ∃ as, Reads s.heap x d as) {vs : List V} : ∀ {xs : List Value} {ds : List PyData}, toD.toDs σ k vs = some ds → VRels W β s.heap vs xs → ∃ as, ReadsAll s.heap xs ds as := by
  induction vs with
  | nil => intro xs ds e r; obtain rfl := r.nil_inv; cases e; exact ⟨_, .nil⟩
  | cons v vs ihs =>
    intro xs ds e r
    obtain ⟨x, ys, rfl, a, b⟩ := r.cons_inv
    refine ob1 e fun d h1 e' => ob1 e' fun ds h2 e' => ?_
    cases e'
    obtain ⟨as, q1⟩ := ih h1 a
    obtain ⟨bs, q2⟩ := ihs h2 b
    exact ⟨_, .cons q1 q2⟩
theorem om1 {α γ : Type} {o : Option α} {f : α → γ} {r : γ} {G : γ → Prop} (e : o.map f = some r) (k : ∀ a, o = some a → G (f a)) : G r := by
  obtain ⟨a, h, rfl⟩ := map_some e; exact k a h
theorem toD_reads (S : SRel W σ β s.heap) : ∀ (k : Nat) {v : V} {x : Value} {d : PyData}, toD σ k v = some d → VRel W β s.heap v x → ∃ as, Reads s.heap x d as
  | 0, v, _, _, e, _ => by cases v <;> exact oN e
  | k + 1, v, x, d, e, r => by
    cases v with
    | tup vs =>
      obtain ⟨a, xs, m, rfl, h, rs⟩ := r.tup_inv
      refine om1 (G := fun d => ∃ as, Reads s.heap (.ref a) d as) (show (toD.toDs σ k vs).map _ = _ from e) fun ds h1 => ?_
      obtain ⟨as, q⟩ := toDs_reads (toD_reads S k) h1 rs
      exact ⟨as, .tuple h rfl rfl q⟩
    | ref i =>
      obtain ⟨a, rfl, ea⟩ := r.ref_inv
      refine oL (f := fun vs => (flatDs vs).map PyData.list) e fun vs hi e => om1 (G := fun d => ∃ as, Reads s.heap (.ref a) d as) e fun ds h1 => ?_
      obtain ⟨xa, na, ha, qa⟩ := S.lst hi ea
      exact ⟨_, .list ha rfl rfl (flats_reads h1 qa)⟩
    | none => exact ⟨_, flat_reads (v := .none) e r⟩
    | bool b => exact ⟨_, flat_reads (v := .bool b) e r⟩
    | int i => exact ⟨_, flat_reads (v := .int i) e r⟩
    | str i => exact ⟨_, flat_reads (v := .str i) e r⟩
    | scr a => exact oN e

structure CmpOk (W : Wd) (A : Around) (s : Shared) (op op' : CmpOp) (x y : Value) (c : Bool) : Prop where
  pos : ∀ {Q : Value → Shared → Prop}, Q (.bool c) s → wpAny (MM W) A (compareOp op x y) Q (fun _ _ => False) s
  neg : ∀ {Q : Value → Shared → Prop}, Q (.bool (!c)) s → wpAny (MM W) A (compareOp op' x y) Q (fun _ _ => False) s
theorem sound_eqD {a b : V} {x y : Value} {c : Bool} (hA : AOk n A) (e : eqD σ a b = some c) (S : SRel W σ β s.heap) (ra : VRel W β s.heap a x) (rb : VRel W β s.heap b y) : CmpOk W A s .Eq .NotEq x y c := by
  have hu : A.units + 64 < cLine := by have := hA.units; lia
  refine ob1 e fun d h1 e => ob1 e fun d' h2 e => obI e fun h e => ?_
  rw [Bool.and_eq_true] at h
  obtain ⟨as, q1⟩ := toD_reads S 8 h1 ra
  obtain ⟨bs, q2⟩ := toD_reads S 8 h2 rb
  exact Option.some.inj e ▸ ⟨fun q => eq_dataH q1 q2 h.1 h.2 hu q, fun q => ne_dataH q1 q2 h.1 h.2 hu q⟩
theorem sound_eqV {a b : V} {x y : Value} {c : Bool} (hA : AOk n A) (e : eqV σ a b = some c) (S : SRel W σ β s.heap) (ra : VRel W β s.heap a x) (rb : VRel W β s.heap b y) : CmpOk W A s .Eq .NotEq x y c := by
  cases a with
  | int i =>
    cases b with
    | int j =>
      obtain ⟨t, rfl⟩ := ra.int_inv
      obtain ⟨u, rfl⟩ := rb.int_inv
      exact Option.some.inj e ▸ ⟨fun q => eq_int q, fun q => ne_int q⟩
    | _ => exact sound_eqD hA e S ra rb
  | str i =>
    cases b with
    | str j =>
      obtain ⟨t, rfl⟩ := ra.str_inv
      obtain ⟨u, rfl⟩ := rb.str_inv
      exact Option.some.inj e ▸ ⟨fun q => eq_str q, fun q => ne_str q⟩
    | _ => exact sound_eqD hA e S ra rb
  | _ => exact sound_eqD hA e S ra rb

noncomputable def eI (i : Int) : Value → Bool | .int j _ => j == i | _ => false
noncomputable def eS (i : Str) : Value → Bool | .str j _ => j == i | _ => false
theorem any_of {isK p : V → Bool} {f : Value → Bool} {P : Value → Prop} (one : ∀ v x, isK v = true → VRel W β s.heap v x → f x = p v ∧ P x) {vs : List V} : ∀ {xs : List Value}, VRels W β s.heap vs xs → vs.all isK = true → xs.any f = vs.any p ∧ ∀ y ∈ xs, P y := by
  induction vs with
  | nil => intro xs r _; obtain rfl := r.nil_inv; exact ⟨rfl, fun _ h => nomatch h⟩
  | cons v vs ih =>
    intro xs r h
    obtain ⟨x, ys, rfl, a, b⟩ := r.cons_inv
    rw [List.all_cons, Bool.and_eq_true] at h
    obtain ⟨q1, q2⟩ := ih b h.2
    obtain ⟨q3, q4⟩ := one v x h.1 a
    rw [List.any_cons, List.any_cons, q1, q3]
    exact ⟨rfl, fun y hy => (List.mem_cons.mp hy).elim (fun q => q ▸ q4) (q2 y)⟩
theorem isInt_inv {v : V} (h : isInt v = true) : ∃ i, v = .int i := by
  cases v <;> first | exact ⟨_, rfl⟩ | exact absurd h Bool.false_ne_true
theorem isStr_inv {v : V} (h : isStr v = true) : ∃ i, v = .str i := by
  cases v <;> first | exact ⟨_, rfl⟩ | exact absurd h Bool.false_ne_true
theorem any_eI {i : Int} {vs : List V} {xs : List Value} (r : VRels W β s.heap vs xs) (h : vs.all isInt = true) : xs.any (eI i) = vs.any (isI i) ∧ ∀ y ∈ xs, ∀ t, SeqAt.EqAt A s y (.int i t) (eI i y) :=
  any_of (P := fun y => ∀ t, SeqAt.EqAt A s y (.int i t) (eI i y)) (fun v x hv rv => by
    obtain ⟨j, rfl⟩ := isInt_inv hv
    obtain ⟨t, rfl⟩ := rv.int_inv
    exact ⟨rfl, fun u => SeqAt.EqAt.int_int j t i u⟩) r h
theorem any_eS {i : Str} {vs : List V} {xs : List Value} (r : VRels W β s.heap vs xs) (h : vs.all isStr = true) : xs.any (eS i) = vs.any (isS i) ∧ ∀ y ∈ xs, ∀ s' t, SeqAt.EqAt A s' y (.str i t) (eS i y) :=
  any_of (P := fun y => ∀ s' t, SeqAt.EqAt A s' y (.str i t) (eS i y)) (fun v x hv rv => by
    obtain ⟨j, rfl⟩ := isStr_inv hv
    obtain ⟨t, rfl⟩ := rv.str_inv
    exact ⟨rfl, fun s' u => SeqAt.EqAt.str_str j t i u⟩) r h

theorem in_key {a : V} {x : Value} {ys : List V} {c : Bool} (e : inV a ys = some c) (ra : VRel W β s.heap a x) {xa : Array Value} (r : VRels W β s.heap ys xa.toList) : ∃ f : Value → Bool, (∀ z ∈ xa, SeqAt.EqAt A.in1 s z x (f z)) ∧ xa.any f = c := by
  cases a with
  | int i =>
    obtain ⟨t, rfl⟩ := ra.int_inv
    refine obI e fun h e => ?_
    obtain ⟨q1, q2⟩ := any_eI (A := A.in1) (i := i) r h
    exact ⟨eI i, fun z hz => q2 z (by simpa using hz) t, by rw [← Array.any_toList]; exact q1.trans (Option.some.inj e)⟩
  | str i =>
    obtain ⟨t, rfl⟩ := ra.str_inv
    refine obI e fun h e => ?_
    obtain ⟨q1, q2⟩ := any_eS (A := A.in1) (i := i) r h
    exact ⟨eS i, fun z hz => q2 z (by simpa using hz) s t, by rw [← Array.any_toList]; exact q1.trans (Option.some.inj e)⟩
  | _ => exact oN e
theorem sound_inV {a b : V} {x y : Value} {ys : List V} {c : Bool} (e1 : itemsOf σ b = some ys) (e : inV a ys = some c) (S : SRel W σ β s.heap) (ra : VRel W β s.heap a x) (rb : VRel W β s.heap b y) : CmpOk W A s .In .NotIn x y c := by
  cases b with
  | tup vs =>
    obtain ⟨ad, xs, m, rfl, h, rs⟩ := rb.tup_inv
    obtain ⟨f, h1, rfl⟩ := in_key e ra (show VRels W β s.heap ys xs.toList from Option.some.inj e1 ▸ rs)
    exact ⟨fun q => SeqAt.in_tupleAt f ⟨_, h, rfl, _, rfl⟩ h1 q, fun q => SeqAt.notIn_tupleAt f ⟨_, h, rfl, _, rfl⟩ h1 q⟩
  | ref i =>
    obtain ⟨ad, rfl, ea⟩ := rb.ref_inv
    refine oL e1 fun vs hi e1 => ?_
    obtain ⟨xa, na, ha, qa⟩ := S.lst hi ea
    obtain ⟨f, h1, rfl⟩ := in_key e ra (show VRels W β s.heap ys xa.toList from Option.some.inj e1 ▸ qa)
    exact ⟨fun q => SeqAt.in_listAt f ⟨_, ha, rfl, _, rfl⟩ h1 q, fun q => SeqAt.notIn_listAt f ⟨_, ha, rfl, _, rfl⟩ h1 q⟩
  | _ => exact oN e1

theorem intOf_rel {a : V} {x : Value} {i : Int} (h : intOf a = some i) (r : VRel W β s.heap a x) : ∃ t, x = .int i t := by
  cases a with
  | int j => cases h; exact r.int_inv
  | _ => exact oN h
theorem cmp_inv {a b : V} {x y : Value} {c : Bool} {f : Int → Int → Bool} {G : Value → Value → Bool → Prop} (e : cmpI f a b = some c) (ra : VRel W β s.heap a x) (rb : VRel W β s.heap b y) (k : ∀ i j t u, G (.int i t) (.int j u) (f i j)) : G x y c := by
  refine ob1 e fun i hi e => ob1 e fun j hj e => ?_
  obtain ⟨t, rfl⟩ := intOf_rel hi ra
  obtain ⟨u, rfl⟩ := intOf_rel hj rb
  exact Option.some.inj e ▸ k i j t u
theorem isN_rel {b : V} {y : Value} (h : isN b = true) (r : VRel W β s.heap b y) : y = .none := by
  cases b with
  | none => exact r.none_inv
  | _ => exact absurd h Bool.false_ne_true
theorem noneV_rel {a : V} {x : Value} {c : Bool} (h : noneV a = some c) (r : VRel W β s.heap a x) : CmpOk W A s .Is .IsNot x .none c := by
  cases a with
  | none => cases h; obtain rfl := r.none_inv; exact ⟨fun q => is_none q, fun q => isNot_none q⟩
  | int i => cases h; obtain ⟨t, rfl⟩ := r.int_inv; exact ⟨fun q => is_none q, fun q => isNot_none q⟩
  | ref i => cases h; obtain ⟨ad, rfl, _⟩ := r.ref_inv; exact ⟨fun q => is_none q, fun q => isNot_none q⟩
  | tup vs => cases h; obtain ⟨ad, _, _, rfl, _⟩ := r.tup_inv; exact ⟨fun q => is_none q, fun q => isNot_none q⟩
  | _ => exact oN h
theorem sound_cmpV {op : CmpOp} {a b : V} {x y : Value} {c : Bool} {Q : Value → Shared → Prop} (hA : AOk n A) (e : cmpV op a b σ = some c) (S : SRel W σ β s.heap) (ra : VRel W β s.heap a x) (rb : VRel W β s.heap b y) (q : Q (.bool c) s) :
    wpAny (MM W) A (compareOp op x y) Q (fun _ _ => False) s := by
  revert q
  cases op with
  | Eq => exact (sound_eqV hA e S ra rb).pos
  | NotEq => exact om1 (G := fun c => Q (.bool c) s → wpAny (MM W) A (compareOp .NotEq x y) Q (fun _ _ => False) s) e fun c' h => (sound_eqV hA h S ra rb).neg
  | Lt => exact cmp_inv (G := fun x y c => Q (.bool c) s → wpAny (MM W) A (compareOp .Lt x y) Q (fun _ _ => False) s) e ra rb fun i j t u q => lt_int q
  | LtE => exact cmp_inv (G := fun x y c => Q (.bool c) s → wpAny (MM W) A (compareOp .LtE x y) Q (fun _ _ => False) s) e ra rb fun i j t u q => le_int q
  | Gt => exact cmp_inv (G := fun x y c => Q (.bool c) s → wpAny (MM W) A (compareOp .Gt x y) Q (fun _ _ => False) s) e ra rb fun i j t u q => gt_int q
  | GtE => exact cmp_inv (G := fun x y c => Q (.bool c) s → wpAny (MM W) A (compareOp .GtE x y) Q (fun _ _ => False) s) e ra rb fun i j t u q => ge_int q
  | Is =>
    refine obI e fun hb e => ?_
    obtain rfl := isN_rel hb rb
    exact (noneV_rel e ra).pos
  | IsNot =>
    refine obI e fun hb e => ?_
    obtain rfl := isN_rel hb rb
    exact om1 (G := fun c => Q (.bool c) s → wpAny (MM W) A (compareOp .IsNot x .none) Q (fun _ _ => False) s) e fun c' h => (noneV_rel h ra).neg
  | In => exact ob1 e fun ys h1 h2 => (sound_inV h1 h2 S ra rb).pos
  | NotIn => exact ob1 e fun ys h1 h2 => om1 (G := fun c => Q (.bool c) s → wpAny (MM W) A (compareOp .NotIn x y) Q (fun _ _ => False) s) h2 fun c' h => (sound_inV h1 h S ra rb).neg
end
end
section
theorem updF_of_mem {d : Addr} {o : Obj} : ∀ {l : List (Addr × Obj)}, (l.map (·.1)).Nodup → (d, o) ∈ l → ∃ u, UpdF d o l u ∧ (∀ o', (d, o') ∈ u o') ∧ ∀ o' p, p ∈ l → p.1 ≠ d → p ∈ u o'
  | p :: r, hn, hm => by
    rw [List.map_cons, List.nodup_cons] at hn
    by_cases hp : p.1 = d
    · have hr : ∀ q ∈ r, q.1 ≠ d := fun q hq e => hn.1 (List.mem_map.mpr ⟨q, hq, e.trans hp.symm⟩)
      have e : p = (d, o) := by
        rcases List.mem_cons.mp hm with e | e
        · exact e.symm
        · exact absurd rfl (hr _ e)
      subst e
      exact ⟨_, .head hr, fun _ => .head _, fun o' q hq hd => by
        rcases List.mem_cons.mp hq with rfl | hq
        · exact absurd rfl hd
        · exact .tail _ hq⟩
    · have hm' : (d, o) ∈ r := by
        rcases List.mem_cons.mp hm with e | e
        · rw [← e] at hp; exact absurd rfl hp
        · exact e
      obtain ⟨u, h1, h2, h3⟩ := updF_of_mem hn.2 hm'
      exact ⟨_, .tail hp h1, fun o' => .tail _ (h2 o'), fun o' q hq hd => by
        rcases List.mem_cons.mp hq with rfl | hq
        · exact .head _
        · exact .tail _ (h3 o' q hq hd)⟩

theorem UpdF.upd {d : Addr} {o o' : Obj} {l : List (Addr × Obj)} {u : Obj → List (Addr × Obj)} (U : UpdF d o l u) : Upd d o o' l (u o') := by
  induction U with
  | head h => exact .head h
  | tail h _ ih => exact .tail h ih

theorem step_turn {W : Wd} {env : Env} {ρ : Rho} {σ : Store} {β : List Addr} {s : Shared} {h' : Heap} {m : Str → Option Value} {o' : O} {ob ob' : Obj} {i : Nat} {a : Addr} {u : List (Addr × Obj)} (S : SRel W σ β s.heap) (L : LRel W env ρ β s.heap)
    (ei : β[i]? = some a) (hi : i < σ.length) (e0 : s.heap.get? a = some ob) (hnt : ∀ xs n, ob ≠ tupO xs n) (F' : Fr W.h0 env.locals h' m)
    (hm : ∀ x v, env.kindOf x = some .local → ρ x = some v → ∃ y, m x = some y ∧ VRel W β s.heap v y) (N' : News W.h0 env.locals h' u) (hu : (a, ob') ∈ u) (hk : ∀ p ∈ full W env.locals s.heap, p.1 ≠ a → p ∈ u)
    (r : (∀ x xs n, s.heap.get? x = some (tupO xs n) → h'.get? x = some (tupO xs n)) → ORel W β h' o' ob') (tk : Nat) :
    Done W [env.locals] β s (σ.set i o') β { s with heap := h', toks := tk } ∧ LRel W env ρ β h' := by
  have hkeep : ∀ b o, b ≠ a → b ≠ env.locals → s.heap.get? b = some o → h'.get? b = some o := fun b o ha hb e => full_keep S.keep F' N' hb e fun q => hk _ q ha
  obtain ⟨m0, hn0, _⟩ := L.ns
  have ha0 : W.h0.get? a = none := S.fresh _ (List.mem_of_getElem? ei)
  have ht : ∀ x xs n, s.heap.get? x = some (tupO xs n) → h'.get? x = some (tupO xs n) := fun x xs n e => by
    refine hkeep _ _ (fun q => ?_) (fun q => ns_not_tup hn0 (q ▸ e)) e
    subst q; rw [e0] at e; exact hnt _ _ (Option.some.inj e)
  have e' : h'.get? a = some ob' := (N' _ hu).1
  have E : Ext [env.locals] β s.heap β h' := by
    refine ⟨fun _ _ e => e, fun _ p q => absurd p q, fun b o h1 h2 e => hkeep _ _ (fun q => h1 (q ▸ List.mem_of_getElem? ei)) (by simpa using h2) e, ht, fun b o e => ?_⟩
    by_cases q : b = env.locals
    · obtain ⟨o', _, _, ho', _⟩ := F'.ns
      exact ⟨o', q ▸ ho'⟩
    · by_cases q' : b = a
      · exact ⟨_, q' ▸ e'⟩
      · exact ⟨o, hkeep _ _ q' q e⟩
  refine ⟨⟨E, ⟨fun b o e => F'.keep _ _ e, by simp [S.len], S.nodup, S.fresh, S.low, S.above, fun j o a' e1 e2 => ?_⟩, rfl, rfl⟩, L.ns_at E F'.ns hm⟩
  by_cases hij : i = j
  · subst hij
    rw [List.getElem?_set_self hi] at e1
    (first | exact oN e1 | refine oR3 e1 ?_ | refine oR2 e1 ?_ | cases e1)
    rw [ei] at e2; (first | exact oN e2 | refine oR3 e2 ?_ | refine oR2 e2 ?_ | cases e2)
    exact ⟨ob', e', r ht⟩
  · rw [List.getElem?_set_ne hij] at e1
    obtain ⟨ob₁, e₁, r₁⟩ := S.obj j o a' e1 e2
    have ha' : a' ≠ env.locals := fun q => L.lfresh.1 (q ▸ List.mem_of_getElem? e2)
    exact ⟨ob₁, hkeep _ _ (fun q => S.apart ei e2 hij q.symm) ha' e₁, r₁.mono (fun _ _ e => e) ht⟩

theorem idx_lt {α : Type} {l : List α} {i : Nat} {a : α} (e : l[i]? = some a) : i < l.length := (List.getElem?_eq_some_iff.mp e).1

theorem full_at {W : Wd} {env : Env} {ρ : Rho} {σ : Store} {β : List Addr} {h : Heap} (S : SRel W σ β h) (L : LRel W env ρ β h) {i : Nat} {a : Addr} {ob : Obj} (ei : β[i]? = some a) (e0 : h.get? a = some ob) :
    (a, ob) ∈ full W env.locals h := mem_full.mpr ⟨e0, fun q => L.lfresh.1 (q ▸ List.mem_of_getElem? ei), S.fresh _ (List.mem_of_getElem? ei)⟩

theorem step_same {W : Wd} {env : Env} {ρ : Rho} {σ : Store} {β : List Addr} {s : Shared} {h' : Heap} {o' : O} {ob ob' : Obj} {i : Nat} {a : Addr} (S : SRel W σ β s.heap) (L : LRel W env ρ β s.heap)
    (ei : β[i]? = some a) (e0 : s.heap.get? a = some ob) (hnt : ∀ xs n, ob ≠ tupO xs n) (hs : Heap.SameBut a s.heap h') (e' : h'.get? a = some ob')
    (r : (∀ x xs n, s.heap.get? x = some (tupO xs n) → h'.get? x = some (tupO xs n)) → ORel W β h' o' ob') (tk : Nat) :
    Done W [] β s (σ.set i o') β { s with heap := h', toks := tk } := by
  obtain ⟨p, q⟩ := S.turn (h' := h') ei e0 hnt (fun b o hb e => hs.extBut b o hb e) e' r
  exact ⟨q _, p, rfl, rfl⟩
end
section
section
variable {W : Wd} {T : Tab} {A : Around} {env : Env} {Γ : Scope} {ρ : Rho} {σ : Store} {β : List Addr} {s : Shared} {n : Nat} {C : Cfg} {I : Itp}

theorem marks_of {op : CmpOp} {r : Expr} (h : ¬ (isSet r = true)) : behindInMarks op r = false := by
  cases r <;> first | rfl | exact absurd rfl h

theorem sound_compare (hI : Sound W n I) {l r : Expr} {op : CmpOp} {p : Pos} {v : V} {σ' : Store} (e : stepE C I Γ ρ σ (.Compare l [op] [r] p) = some (v, σ')) (hA : AOk n A) (O : EnvOK Γ env) (S : SRel W σ β s.heap) (L : LRel W env ρ β s.heap) :
    EvE W A env ρ β s (eval (.Compare l [op] [r] p) env) v σ' := by
  change (if isSet r = true then none else (I.e Γ ρ σ l).bind fun a => (I.e Γ ρ a.2 r).bind fun b => (cmpV op a.1 b.1 b.2).map fun c => (V.bool c, b.2)) = _ at e
  split at e
  · (first | exact oN e | refine oR3 e ?_ | refine oR2 e ?_ | cases e)
  rename_i hs
  refine ob2 e fun a σ₁ e1 e => ?_
  refine ob2 e fun b σ₂ e2 e => ?_
  obtain ⟨c, hc, e⟩ := map_some e
  obtain ⟨rfl, rfl⟩ := Prod.mk.inj e
  refine wpAny_Compare1 (EvE.then (hI.e e1 hA O S L) fun x s₁ β₁ d₁ L₁ r₁ => EvE.then (hI.e e2 hA O d₁.rel L₁) fun y s₂ β₂ d₂ L₂ r₂ => ?_) (marks_of hs)
  exact sound_cmpV hA hc d₂.rel (d₂.vrel r₁) r₂ ⟨β₂, d₁.trans d₂, L₂, .bool _⟩

theorem sound_tcompare (hI : Sound W n I) {l r : Expr} {op : CmpOp} {p : Pos} {b : Bool} {σ' : Store} {whole : Sem Value} (e : stepT C I Γ ρ σ (.Compare l [op] [r] p) = some (b, σ')) (hA : AOk n A) (O : EnvOK Γ env) (S : SRel W σ β s.heap) (L : LRel W env ρ β s.heap) :
    EvT W A env ρ β s (isTrue (.Compare l [op] [r] p) env whole) b σ' := by
  change (if isSet r = true then none else (I.e Γ ρ σ l).bind fun a => (I.e Γ ρ a.2 r).bind fun b => (cmpV op a.1 b.1 b.2).map fun c => (c, b.2)) = _ at e
  split at e
  · (first | exact oN e | refine oR3 e ?_ | refine oR2 e ?_ | cases e)
  rename_i hs
  refine ob2 e fun a σ₁ e1 e => ?_
  refine ob2 e fun b' σ₂ e2 e => ?_
  obtain ⟨c, hc, e⟩ := map_some e
  obtain ⟨rfl, rfl⟩ := Prod.mk.inj e
  refine wpAny_isTrue_Compare1 (EvE.then (hI.e e1 hA O S L) fun x s₁ β₁ d₁ L₁ r₁ => EvE.then (hI.e e2 hA O d₁.rel L₁) fun y s₂ β₂ d₂ L₂ r₂ => ?_) (marks_of hs)
  exact sound_cmpV hA hc d₂.rel (d₂.vrel r₁) r₂ (wpAny_truthy_bool ⟨rfl, β₂, d₁.trans d₂, L₂⟩)

theorem sound_tchain (hI : Sound W n I) {l r r' : Expr} {op op' : CmpOp} {p : Pos} {b : Bool} {σ' : Store} {whole : Sem Value} (e : stepT C I Γ ρ σ (.Compare l [op, op'] [r, r'] p) = some (b, σ')) (hA : AOk n A) (O : EnvOK Γ env) (S : SRel W σ β s.heap) (L : LRel W env ρ β s.heap) :
    EvT W A env ρ β s (isTrue (.Compare l [op, op'] [r, r'] p) env whole) b σ' := by
  change (if (isSet r || isSet r') = true then none else (I.e Γ ρ σ l).bind fun a => (I.e Γ ρ a.2 r).bind fun b => (cmpV op a.1 b.1 b.2).bind fun c =>
      if c = true then (I.e Γ ρ b.2 r').bind fun d => (cmpV op' b.1 d.1 d.2).map fun c' => (c', d.2) else some (false, b.2)) = _ at e
  split at e
  · (first | exact oN e | refine oR3 e ?_ | refine oR2 e ?_ | cases e)
  rename_i hs
  have hs' : ¬ (isSet r' = true) := fun q => hs (by rw [q, Bool.or_true])
  refine ob2 e fun a σ₁ e1 e => ?_
  refine ob2 e fun b' σ₂ e2 e => ?_
  refine ob1 e fun c hc e => ?_
  refine isTrue_chain (EvE.then (hI.e e1 hA O S L) fun x s₁ β₁ d₁ L₁ r₁ => ?_) (by show behindInMarks op' r' = false; exact marks_of hs')
  show wpAny _ _ (do
    let rv ← holding [x] (eval r env)
    standAt p
    let c ← holding [x, rv] (compareOp op x rv)
    release [x, rv] [c]
    if ← holding [c, rv] (truthy c) then testChain p rv [op'] [eval r' env] else pure false) _ _ _
  refine wpAny_bind (wpAny_holding (EvE.then (hI.e e2 hA O d₁.rel L₁) fun y s₂ β₂ d₂ L₂ r₂ => wpAny_bind (wpAny_standAt (wpAny_bind (wpAny_holding ?_)))))
  refine sound_cmpV hA hc d₂.rel (d₂.vrel r₁) r₂ (wpAny_bind (wpAny_release' (wpAny_bind (wpAny_holding (wpAny_truthy_bool ?_)))))
  cases c
  · obtain ⟨rfl, rfl⟩ := Prod.mk.inj (Option.some.inj e)
    exact wpAny_pure ⟨rfl, β₂, d₁.trans d₂, L₂⟩
  · refine ob2 e fun d σ₃ e3 e => ?_
    obtain ⟨c', hc', e⟩ := map_some e
    obtain ⟨rfl, rfl⟩ := Prod.mk.inj e
    show wpAny _ _ (do
      let rv ← holding [y] (eval r' env)
      standAt p
      let c ← operate [y, rv] (compareOp op' y rv)
      holding [c] (truthy c)) _ _ _
    refine wpAny_bind (wpAny_holding (EvE.then (hI.e e3 hA O d₂.rel L₂) fun z s₃ β₃ d₃ L₃ r₃ => wpAny_bind (wpAny_standAt (wpAny_bind (wpAny_operating ?_)))))
    exact sound_cmpV hA hc' d₃.rel (d₃.vrel r₂) r₃ (wpAny_holding (wpAny_truthy_bool ⟨rfl, β₃, (d₁.trans d₂).trans d₃, L₃⟩))

theorem sound_ifexp (hI : Sound W n I) {c a b : Expr} {p : Pos} {v : V} {σ' : Store} (e : stepE C I Γ ρ σ (.IfExp c a b p) = some (v, σ')) (hA : AOk n A) (O : EnvOK Γ env) (S : SRel W σ β s.heap) (L : LRel W env ρ β s.heap) :
    EvE W A env ρ β s (eval (.IfExp c a b p) env) v σ' := by
  change ((I.t Γ ρ σ c).bind fun p => if p.1 = true then I.e Γ ρ p.2 a else I.e Γ ρ p.2 b) = _ at e
  refine ob2 e fun t σ₁ e1 e => ?_
  refine IfExp_ (EvT.then (hI.t e1 hA O S L) fun s₁ β₁ d₁ L₁ => ?_)
  cases t
  · exact EvE.from d₁ (hI.e e hA O d₁.rel L₁)
  · exact EvE.from d₁ (hI.e e hA O d₁.rel L₁)

theorem sound_tifexp (hI : Sound W n I) {c a b : Expr} {p : Pos} {v : Bool} {σ' : Store} {whole : Sem Value} (e : stepT C I Γ ρ σ (.IfExp c a b p) = some (v, σ')) (hA : AOk n A) (O : EnvOK Γ env) (S : SRel W σ β s.heap) (L : LRel W env ρ β s.heap) :
    EvT W A env ρ β s (isTrue (.IfExp c a b p) env whole) v σ' := by
  change ((I.t Γ ρ σ c).bind fun p => if p.1 = true then I.t Γ ρ p.2 a else I.t Γ ρ p.2 b) = _ at e
  refine ob2 e fun t σ₁ e1 e => ?_
  refine isTrue_IfExp (EvT.then (hI.t e1 hA O S L) fun s₁ β₁ d₁ L₁ => ?_)
  cases t
  · exact EvT.from d₁ (hI.t e hA O d₁.rel L₁)
  · exact EvT.from d₁ (hI.t e hA O d₁.rel L₁)

theorem sound_tnot (hI : Sound W n I) {x : Expr} {p : Pos} {v : Bool} {σ' : Store} {whole : Sem Value} (e : stepT C I Γ ρ σ (.UnaryOp .Not x p) = some (v, σ')) (hA : AOk n A) (O : EnvOK Γ env) (S : SRel W σ β s.heap) (L : LRel W env ρ β s.heap) :
    EvT W A env ρ β s (isTrue (.UnaryOp .Not x p) env whole) v σ' := by
  change ((I.t Γ ρ σ x).map fun p => (!p.1, p.2)) = _ at e
  obtain ⟨⟨t, σ₁⟩, e1, e⟩ := map_some e
  obtain ⟨rfl, rfl⟩ := Prod.mk.inj e
  exact isTrue_not (EvT.then (hI.t e1 hA O S L) fun s₁ β₁ d₁ L₁ => ⟨rfl, β₁, d₁, L₁⟩)

noncomputable def PostEs (W : Wd) (env : Env) (ρ : Rho) (β : List Addr) (s : Shared) (vs : List V) (σ' : Store) (xs : List Value) (s' : Shared) : Prop := ∃ β', Done W [env.locals] β s σ' β' s' ∧ LRel W env ρ β' s'.heap ∧ VRels W β' s'.heap vs xs

theorem starEach_cons {e : Expr} {r : List Expr} {env : Env} (h : notStar e = true) : starEach (e :: r) env = (false, eval e env) :: starEach r env := by
  cases e <;> first | rfl | (first | exact oN h | refine oR3 h ?_ | refine oR2 h ?_ | cases h)
theorem starEach_plain {env : Env} {pos : Pos} : ∀ {es : List Expr}, es.all notStar = true → (backTo pos (starEach es env)).any (·.1) = false
  | [], _ => rfl
  | e :: r, h => by
    rw [List.all_cons, Bool.and_eq_true] at h
    rw [starEach_cons h.1]
    show (false || (backTo pos (starEach r env)).any (·.1)) = false
    rw [starEach_plain h.2]; rfl

theorem sound_spliced (hI : Sound W n I) (hA : AOk n A) (O : EnvOK Γ env) {pos : Pos} : ∀ {es : List Expr} {σ : Store} {β : List Addr} {s : Shared} {vs : List V} {σ' : Store}, es.all notStar = true → evs I Γ ρ σ es = some (vs, σ') → SRel W σ β s.heap → LRel W env ρ β s.heap →
    wpAny (MM W) A (spliced (backTo pos (starEach es env))) (PostEs W env ρ β s vs σ') (fun _ _ => False) s
  | [], σ, β, s, vs, σ', _, e, S, L => by
    obtain ⟨rfl, rfl⟩ := Prod.mk.inj (Option.some.inj e)
    exact Calls.spliced_nil ⟨β, Done.same' S, L, .nil⟩
  | x :: r, σ, β, s, vs, σ', h, e, S, L => by
    rw [List.all_cons, Bool.and_eq_true] at h
    rw [starEach_cons h.1]
    change ((I.e Γ ρ σ x).bind fun p => (evs I Γ ρ p.2 r).bind fun q => some (p.1 :: q.1, q.2)) = _ at e
    refine ob2 e fun a σ₁ e1 e => ?_
    refine ob2 e fun ws σ₂ e2 e => ?_
    obtain ⟨rfl, rfl⟩ := Prod.mk.inj (Option.some.inj e)
    refine Calls.spliced_cons (EvE.then (hI.e e1 hA O S L) fun y s₁ β₁ d₁ L₁ r₁ => wpAny_mono (sound_spliced hI hA O h.2 e2 d₁.rel L₁) (fun ys s₂ ⟨β₂, d₂, L₂, r₂⟩ => ?_) fun _ _ q => q)
    exact ⟨β₂, d₁.trans d₂, L₂, .cons (d₂.vrel r₁) r₂⟩

theorem size_fits_of {m : Nat} (h : m ≤ maxLen) : m ≤ sizeLine := Nat.le_trans h (by decide)

theorem sound_list (hI : Sound W n I) {es : List Expr} {p : Pos} {v : V} {σ' : Store} (e : stepE C I Γ ρ σ (.List es p) = some (v, σ')) (hA : AOk n A) (O : EnvOK Γ env) (S : SRel W σ β s.heap) (L : LRel W env ρ β s.heap) :
    EvE W A env ρ β s (eval (.List es p) env) v σ' := by
  change (if es.all notStar = true then (evs I Γ ρ σ es).bind fun p => if p.1.length ≤ maxLen then some (newO p.2 (.lst p.1)) else none else none) = _ at e
  refine obI e fun h e => ?_
  refine ob2 e fun vs σ₁ e1 e => ?_
  dsimp only at e
  refine obI e fun hz e => ?_
  (first | exact oN e | refine oR3 e ?_ | refine oR2 e ?_ | cases e)
  refine List_ (wpAny_mono (sound_spliced hI hA O h e1 S L) (fun xs s₁ ⟨β₁, d₁, L₁, r₁⟩ => ?_) fun _ _ q => q)
  have d₂ : Done W [] β₁ s₁ (σ₁ ++ [.lst vs]) (β₁ ++ [s₁.heap.objs.size]) { s₁ with heap := s₁.heap.push (lstO xs.toArray 0), toks := s₁.toks } := Done.alloc (o := .lst vs) (ob := lstO xs.toArray 0) d₁.rel rfl
    ⟨_, _, rfl, r₁.mono get_snoc_pre fun _ _ _ e => Heap.get?_push_of_some _ e⟩ _
  refine wpAny_newObj_type ?_ (by show xs.toArray.size ≤ sizeLine; rw [List.size_toArray, r₁.length]; exact size_fits_of hz)
  exact ⟨_, d₁.trans (d₂.weak (by simp)), d₂.lrel L₁, d₁.rel.newRef⟩

theorem sound_tuple (hI : Sound W n I) {es : List Expr} {k : Nat} {p : Pos} {v : V} {σ' : Store} (e : stepE C I Γ ρ σ (.Tuple es k p) = some (v, σ')) (hA : AOk n A) (O : EnvOK Γ env) (S : SRel W σ β s.heap) (L : LRel W env ρ β s.heap) :
    EvE W A env ρ β s (eval (.Tuple es k p) env) v σ' := by
  change (if es.all notStar = true then (evs I Γ ρ σ es).bind fun p => if p.1.length ≤ maxLen then some (V.tup p.1, p.2) else none else none) = _ at e
  refine obI e fun h e => ?_
  refine ob2 e fun vs σ₁ e1 e => ?_
  dsimp only at e
  refine obI e fun hz e => ?_
  (first | exact oN e | refine oR3 e ?_ | refine oR2 e ?_ | cases e)
  refine Tuple_ (wpAny_mono (sound_spliced hI hA O h e1 S L) (fun xs s₁ ⟨β₁, d₁, L₁, r₁⟩ => ?_) fun _ _ q => q)
  have d₂ : Done W [] β₁ s₁ σ₁ β₁ { s₁ with heap := s₁.heap.push (tupO xs.toArray 0), toks := s₁.toks } := Done.push d₁.rel _ _
  refine wpAny_newObj_type ?_ (by show xs.toArray.size ≤ sizeLine; rw [List.size_toArray, r₁.length]; exact size_fits_of hz)
  exact ⟨_, d₁.trans (d₂.weak (by simp)), d₂.lrel L₁, .tup (n := 0) (xs := xs.toArray) (Heap.get?_push_size _ rfl) (d₂.vrels r₁)⟩

theorem getL_of {name : Str} {v : V} : ∀ {fs : List (Str × V)} {es : List DictEntry}, FRel W β s.heap fs es → fs.lookup name = some v → ∃ x, getL name es = some (some x) ∧ VRel W β s.heap v x
  | _, _, .nil, e => by (first | exact oN e | refine oR3 e ?_ | refine oR2 e ?_ | cases e)
  | _, _, .cons (n := m) (v := w) (e := en) ⟨t, hk⟩ r q, e => by
    rw [List.lookup_cons] at e
    unfold getL
    rw [List.find?_cons]
    have hks : en.key.isStr name = (m == name) := by rw [hk]; rfl
    rw [hks]
    cases hq : (name == m) with
    | true =>
      rw [hq] at e; (first | exact oN e | refine oR3 e ?_ | refine oR2 e ?_ | cases e)
      have := eq_of_beq hq
      subst this
      rw [beq_self_eq_true]
      exact ⟨_, rfl, r⟩
    | false =>
      rw [hq] at e
      have hmn : (m == name) = false := by
        cases h : (m == name) with
        | false => rfl
        | true => rw [eq_of_beq h, beq_self_eq_true] at hq; cases hq
      rw [hmn]
      obtain ⟨x, hx, rx⟩ := getL_of q e
      refine ⟨x, ?_, rx⟩
      unfold getL at hx
      split at hx
      · rename_i y hy
        rw [hy]; exact hx
      · split at hx <;> cases hx

theorem handed_of {v : V} {x : Value} (r : VRel W β s.heap v x) : handedIn x = true := by cases r <;> rfl

theorem instOf_inv {v : V} {Cl : Addr} {d : Nat} {fs : List (Str × V)} (e : instOf σ v = some (Cl, d, fs)) : ∃ i, v = .ref i ∧ σ[i]? = some (.inst Cl d) ∧ σ[d]? = some (.ns fs) := by
  cases v with
  | ref i =>
    refine ⟨i, rfl, ?_⟩
    change (match σ[i]? with
      | some (.inst C d) => (match σ[d]? with
        | some (.ns fs) => some (C, d, fs)
        | _ => none)
      | _ => none) = _ at e
    split at e
    · split at e
      · rename_i h1 _ _ h2
        cases e; exact ⟨h1, h2⟩
      · exact oN e
    · exact oN e
  | _ => exact oN e
@[elab_as_elim] theorem inst_at {v : V} {x : Value} {G : V → Value → Prop} (S : SRel W σ β s.heap) {Cl : Addr} {d : Nat} {fs : List (Str × V)} (e : instOf σ v = some (Cl, d, fs)) (r : VRel W β s.heap v x)
    (h : ∀ i a dx es k, β[i]? = some a → σ[i]? = some (.inst Cl d) → σ[d]? = some (.ns fs) → β[d]? = some dx → s.heap.get? a = some (instObj Cl dx) → s.heap.get? dx = some (dictOf es k) → FRel W β s.heap fs es → W.h0.get? a = none → G (.ref i) (.ref a)) : G v x := by
  obtain ⟨i, rfl, hi, hd⟩ := instOf_inv e
  obtain ⟨a, rfl, ea⟩ := r.ref_inv
  obtain ⟨ob, ha, dx, hdx, rfl⟩ := S.obj i _ a hi ea
  obtain ⟨ob, hd', es, k, rfl, rf⟩ := S.obj d _ dx hd hdx
  exact h i a dx es k ea hi hd hdx ha hd' rf (S.fresh _ (List.mem_of_getElem? ea))

theorem attrBase_plain {o : Expr} {name : Str} {env : Env} {t : Sem Value} (h : plainBase o = true) : attributeBase o name env t = t := by
  cases o <;> first | rfl | (first | exact oN h | refine oR3 h ?_ | refine oR2 h ?_ | cases h)

theorem getattr_sound (G : WOK W T) (hCa : C.attr = T.attr) (S : SRel W σ β s.heap) (L : LRel W env ρ β s.heap) {v : V} {x : Value} {Cl : Addr} {d : Nat} {fs : List (Str × V)} {name : Str} {y : V} (e : instOf σ v = some (Cl, d, fs)) (ha : C.attr Cl name = true) (hy : fs.lookup name = some y) (r : VRel W β s.heap v x)
    {Q : Value → Shared → Prop} (h : ∀ z t, VRel W β s.heap y z → Q z { s with toks := t }) : wpAny (MM W) A (getAttr x name true) Q (fun _ _ => False) s := by
  refine inst_at S e r fun i a dx es k ea hi hd hdx ha' hd' rf h0 => ?_
  obtain ⟨m, F, _⟩ := L.fr S
  obtain ⟨z, hz, rz⟩ := getL_of rf hy
  rw [hCa] at ha
  have X := G.attr Cl name ha
  obtain ⟨r', hr', hn'⟩ := X.attr
  exact get_own F G.inK (ox := instObj Cl dx) ⟨ha', rfl, rfl, hd'⟩ X.get X.dict hr' hn' hz (handed_of rz) (h z _ rz)

theorem sound_attribute (hI : Sound W n I) (G : WOK W T) (hCa : C.attr = T.attr) {o : Expr} {name : Str} {p : Pos} {v : V} {σ' : Store} (e : stepE C I Γ ρ σ (.Attribute o name p) = some (v, σ')) (hA : AOk n A) (O : EnvOK Γ env) (S : SRel W σ β s.heap) (L : LRel W env ρ β s.heap) :
    EvE W A env ρ β s (eval (.Attribute o name p) env) v σ' := by
  change (if plainBase o = true then (I.e Γ ρ σ o).bind fun p => (instOf p.2 p.1).bind fun i => if C.attr i.1 name = true then (i.2.2.lookup name).map fun v => (v, p.2) else none else none) = _ at e
  refine obI e fun hb e => ?_
  refine ob2 e fun a σ₁ e1 e => ?_
  refine ob3 e fun Cl d fs hi e => ?_
  dsimp only at e
  refine obI e fun hat e => ?_
  refine oM2 e fun y hy => ?_
  have he : eval (.Attribute o name p) env = (do
      let o' ← eval o env
      standAt p.atName
      let r ← holding [o'] (getAttr o' name true)
      letTemporaryGo o o' r
      pure r) := by
    show (do
      let o' ← attributeBase o name env (eval o env)
      standAt p.atName
      let r ← holding [o'] (getAttr o' name true)
      letTemporaryGo o o' r
      pure r) = _
    rw [attrBase_plain hb]
  refine Attribute_any_ (EvE.then (hI.e e1 hA O S L) fun x s₁ β₁ d₁ L₁ r₁ => ?_) he
  refine getattr_sound G hCa d₁.rel L₁ hi hat hy r₁ fun z t rz => ?_
  exact ⟨β₁, d₁.trans (Done.same d₁.rel t), L₁, rz⟩
end
end
section
section
variable {W : Wd} {T : Tab} {A : Around} {env : Env} {Γ : Scope} {ρ : Rho} {σ : Store} {β : List Addr} {s : Shared} {n : Nat} {C : Cfg} {I : Itp}

theorem subscripted_plain {slice : Expr} {o i : Value} (h : isSlice slice = false) : subscripted slice false o i = operate [o, i] (getItem o i) := by
  cases slice <;> first | rfl | (first | exact oN h | refine oR3 h ?_ | refine oR2 h ?_ | cases h)

theorem VRels.get' {vs : List V} {xs : Array Value} (r : VRels W β s.heap vs xs.toList) {i : Nat} {v : V} (e : vs[i]? = some v) : ∃ x, xs[i]? = some x ∧ VRel W β s.heap v x := by
  obtain ⟨x, hx, rx⟩ := r.get e
  exact ⟨x, by simpa using hx, rx⟩

theorem itemV_sound {a i v : V} {x y : Value} {value slice : Expr} {Q : Value → Shared → Prop} (e : itemV σ a i = some v) (S : SRel W σ β s.heap) (ra : VRel W β s.heap a x) (ri : VRel W β s.heap i y) (hs : isSlice slice = false)
    (h : ∀ z, VRel W β s.heap v z → Q z s) : wpAny (MM W) A (subscriptTail value slice x y) Q (fun _ _ => False) s := by
  cases i with
  | int k =>
    obtain ⟨t, rfl⟩ := ri.int_inv
    refine obI e fun hk e => ob1 e fun vs h1 h2 => ?_
    have hlt := idx_lt h2
    cases a with
    | tup ws =>
      obtain ⟨a', xs, m, rfl, ha, rs⟩ := ra.tup_inv
      have rs' : VRels W β s.heap vs xs.toList := Option.some.inj h1 ▸ rs
      obtain ⟨z, hz, rz⟩ := VRels.get' rs' h2
      have hsz := VRels.size rs'
      exact tail_any (ops := [.ref a', .int k t]) (T := "tuple") ⟨_, ha, rfl⟩ slot_tuple_getitem.lookup (getItem_tuple ⟨_, ha, rfl, _, rfl⟩ (by lia) (by lia) (seqIndex_of hk.1 (by lia)) hz (h z rz)) (subscripted_plain hs)
    | ref j =>
      obtain ⟨b, rfl, eb⟩ := ra.ref_inv
      refine oL h1 fun ws hi h1 => ?_
      obtain ⟨xa, na, hb, qa⟩ := S.lst hi eb
      have qa' : VRels W β s.heap vs xa.toList := Option.some.inj h1 ▸ qa
      obtain ⟨z, hz, rz⟩ := VRels.get' qa' h2
      have hsz := VRels.size qa'
      exact tail_any (ops := [.ref b, .int k t]) (T := "list") ⟨_, hb, rfl⟩ slot_list_getitem.lookup (wpAny_getItem_list ⟨_, hb, rfl, _, rfl⟩ hk.1 (by lia) hz (h z rz)) (subscripted_plain hs)
    | _ => exact oN h1
  | _ => exact oN e

noncomputable def PartOf : V → Value → Prop
  | .none, .none => True
  | .int i, .int j _ => i = j
  | _, _ => False
theorem part_of {v : V} {x : Value} {o : Option Int} (e : asInt v = some o) (r : VRel W β s.heap v x) : IsPart x o ∧ ∃ l : Option (Int × Tok), x = partValue l ∧ l.map (·.1) = o := by
  cases v with
  | none => cases e; obtain rfl := r.none_inv; exact ⟨.none, none, rfl, rfl⟩
  | int i => cases e; obtain ⟨t, rfl⟩ := r.int_inv; exact ⟨.int _ _, some (_, _), rfl, rfl⟩
  | _ => exact oN e

theorem VRels.arr {vs : List V} {xs : List Value} (r : VRels W β s.heap vs xs) : VRels W β s.heap vs xs.toArray.toList := by simpa using r

theorem bounds_lo {a : Int} (h : 0 ≤ a) (m : Nat) : sliceBounds (some a) none none m = sliceBounds (some ((min a.toNat m : Nat) : Int)) none none m := by
  have h1 : ¬ (a < 0) := by lia
  have h2 : ¬ (((min a.toNat m : Nat) : Int) < 0) := by lia
  simp only [sliceBounds, Option.getD_none, h1, h2, if_false, show (1 : Int) > 0 by decide, if_true]
  congr 1; lia
theorem bounds_hi {b : Int} (h : 0 ≤ b) (m : Nat) : sliceBounds none (some b) none m = sliceBounds none (some ((min b.toNat m : Nat) : Int)) none m := by
  have h1 : ¬ (b < 0) := by lia
  have h2 : ¬ (((min b.toNat m : Nat) : Int) < 0) := by lia
  simp only [sliceBounds, Option.getD_none, h1, h2, if_false, show (1 : Int) > 0 by decide, if_true]
  congr 1; congr 1; lia
theorem min_drop {α : Type} (l : List α) (k : Nat) : l.drop (min k l.length) = l.drop k := by
  rcases Nat.le_total k l.length with h | h
  · rw [Nat.min_eq_left h]
  · rw [Nat.min_eq_right h, List.drop_length, List.drop_of_length_le h]
theorem min_take {α : Type} (l : List α) (k : Nat) : l.take (min k l.length) = l.take k := by
  rcases Nat.le_total k l.length with h | h
  · rw [Nat.min_eq_left h]
  · rw [Nat.min_eq_right h, List.take_length, List.take_of_length_le h]

theorem pick_hi {xs : Array Value} {b : Int} (h0 : 0 ≤ b) : (slicePick xs none (some b) none).toList = xs.toList.take b.toNat := by
  have hl : xs.toList.length = xs.size := Array.length_toList
  unfold slicePick
  rw [bounds_hi h0]
  show (slicePick xs none (some ((min b.toNat xs.size : Nat) : Int)) none).toList = _
  rw [slicePick_upto _ _ (Nat.min_le_right _ _), ← hl]
  exact min_take _ _
theorem pick_lo {xs : Array Value} {a : Int} (h0 : 0 ≤ a) : (slicePick xs (some a) none none).toList = xs.toList.drop a.toNat := by
  have hl : xs.toList.length = xs.size := Array.length_toList
  unfold slicePick
  rw [bounds_lo h0]
  show (slicePick xs (some ((min a.toNat xs.size : Nat) : Int)) none none).toList = _
  rw [slicePick_from _ _ (Nat.min_le_right _ _), ← hl]
  exact min_drop _ _
theorem cut_inv {α : Type} {vs ws : List α} {l h : Option Int} {G : Option Int → Option Int → List α → Prop} (e : cutL vs l h = some ws) (k1 : ∀ b, 0 ≤ b → G none (some b) (vs.take b.toNat)) (k2 : ∀ a, 0 ≤ a → G (some a) none (vs.drop a.toNat)) : G l h ws := by
  cases l with
  | none =>
    cases h with
    | none => exact oN e
    | some b => exact obI e fun h0 e => Option.some.inj e ▸ k1 b h0
  | some a =>
    cases h with
    | none => exact obI e fun h0 e => Option.some.inj e ▸ k2 a h0
    | some b => exact oN e
theorem cutL_rel {vs : List V} {xs : Array Value} (r : VRels W β s.heap vs xs.toList) {l h : Option Int} {ws : List V} (e : cutL vs l h = some ws) : VRels W β s.heap ws (slicePick xs l h none).toList :=
  cut_inv (G := fun l h ws => VRels W β s.heap ws (slicePick xs l h none).toList) e (fun b h0 => by rw [pick_hi h0]; exact r.take _) fun a h0 => by rw [pick_lo h0]; exact r.drop _
theorem ints_rels : ∀ {ns : List Int} {xs : List Value}, IntsAre xs ns → VRels W β s.heap (ns.map .int) xs
  | _, _, .nil => .nil
  | _, _, .cons i t h => .cons (.int i t) (ints_rels h)
theorem ints_cut {xs : Array Value} {ns : List Int} (hI : IntsAre xs.toList ns) {l h : Option Int} {ms : List Int} (e : cutL ns l h = some ms) : IntsAre (slicePick xs l h none).toList ms :=
  cut_inv (G := fun l h ms => IntsAre (slicePick xs l h none).toList ms) e (fun b h0 => by rw [pick_hi h0]; exact hI.take _) fun a h0 => by rw [pick_lo h0]; exact hI.drop _

theorem sliceV_sound {a lo hi v : V} {x y z : Value} {value : Expr} {lower upper : Option Expr} {sp : Pos} {σ' : Store} (e : sliceV σ a lo hi = some (v, σ')) (S : SRel W σ β s.heap) (L : LRel W env ρ β s.heap) (ra : VRel W β s.heap a x) (rl : VRel W β s.heap lo y) (rh : VRel W β s.heap hi z) :
    wpAny (MM W) A (subscriptTail value (.Slice lower upper none sp) x (.ref s.heap.objs.size)) (PostE W env ρ β s v σ') (fun _ _ => False) { s with heap := s.heap.push { cls := .type "slice", data := .fields #[y, z, .none] } } := by
  refine ob1 e fun l hl e => ?_
  refine ob1 e fun h hh e => ?_
  obtain ⟨pl, ql, el, ol⟩ := part_of hl rl
  obtain ⟨ph, qh, eh, oh⟩ := part_of hh rh
  have d0 : Done W [] β s σ β { s with heap := s.heap.push { cls := .type "slice", data := .fields #[y, z, .none] }, toks := s.toks } := Done.push S _ _
  have listy : ∀ {b : Addr} {xa : Array Value} {ws : List V}, s.heap.IsList b xa → xa.size ≤ maxLen → VRels W β s.heap ws (slicePick xa l h none).toList →
      wpAny (MM W) A (subscriptTail value (.Slice lower upper none sp) (.ref b) (.ref s.heap.objs.size)) (PostE W env ρ β s (.ref σ.length) (σ ++ [.lst ws])) (fun _ _ => False) { s with heap := s.heap.push { cls := .type "slice", data := .fields #[y, z, .none] } } := by
    intro b xa ws hb hz r
    have d1 : Done W [] β { s with heap := s.heap.push { cls := .type "slice", data := .fields #[y, z, .none] } } (σ ++ [.lst ws]) (β ++ [(s.heap.push { cls := .type "slice", data := .fields #[y, z, .none] }).objs.size]) { s with heap := (s.heap.push { cls := .type "slice", data := .fields #[y, z, .none] }).push (lstO (slicePick xa l h none) 0), toks := s.toks } :=
      Done.alloc (o := .lst ws) (ob := lstO (slicePick xa l h none) 0) d0.rel rfl ⟨_, _, rfl, (d0.vrels r).mono get_snoc_pre fun _ _ _ e => Heap.get?_push_of_some _ e⟩ _
    refine tail_any (ops := [.ref s.heap.objs.size, .ref b]) (T := "list") (Heap.IsList.typeIs (hb.push _)) list_getitem_lookup (wpAny_getItem_list_slice (hb.push _) (Heap.IsSliceOf.new ..) pl ph .none (by simp) ?_ (size_fits_of hz)) rfl
    exact ⟨_, (d0.trans d1).weak (by simp), d1.lrel (d0.lrel L), d0.rel.newRef⟩
  cases a with
  | ref i =>
    obtain ⟨b, rfl, eb⟩ := ra.ref_inv
    refine oL e fun vs hi e => obI e fun hz e => ob1 e fun ws hw e => oR2 e ?_
    obtain ⟨xa, na, hb, qa⟩ := S.lst hi eb
    exact listy ⟨_, hb, rfl, _, rfl⟩ (by rw [VRels.size qa]; exact hz) (cutL_rel qa hw)
  | scr ns =>
    refine obI e fun hz e => ob1 e fun ws hw e => oR2 e ?_
    obtain ⟨b, xa, rfl, ⟨o, ho, hc, m, hd⟩, hI⟩ := ra.scr_inv
    exact listy ⟨o, S.keep _ _ ho, hc, m, hd⟩ (by rw [← Array.length_toList, IntsAre.length hI]; exact hz) (ints_rels (ints_cut hI hw))
  | str t =>
    refine obI e fun hz e => oR2 e ?_
    clear listy
    obtain ⟨tk, rfl⟩ := ra.str_inv
    have hz' : t.length ≤ sizeLine := size_fits_of hz
    subst el eh
    refine tail_any (ops := [.ref s.heap.objs.size, .str t tk]) (T := "str") (typeIs_str _ _ _) F.slot_str_getitem.lookup (wpAny_getItem_str_slice (l := ql) (u := qh) (st := none) ⟨_, Heap.get?_push_size _ rfl, rfl, rfl⟩ rfl
      (post_val_or_str ⟨?_, fun t' k => ?_⟩)) rfl
    · have := Txt.slice_le t l h
      rw [← ol, ← oh] at this
      exact Nat.le_trans this hz'
    · have d1 : Done W [] β s σ β { s with heap := s.heap.push { cls := .type "slice", data := .fields #[partValue ql, partValue qh, .none] }, toks := k } := Done.push S _ _
      refine ⟨β, d1.weak (by simp), d1.lrel L, ?_⟩
      rw [← ol, ← oh]
      exact .str _ _
  | _ => exact oN e
end
end
section
section
variable {W : Wd} {T : Tab} {A : Around} {env : Env} {Γ : Scope} {ρ : Rho} {σ : Store} {β : List Addr} {s : Shared} {n : Nat} {C : Cfg} {I : Itp}

theorem sound_slice (hI : Sound W n I) {o : Expr} {lower upper : Option Expr} {sp p : Pos} {v : V} {σ' σ₁ : Store} {a : V} (e1 : I.e Γ ρ σ o = some (a, σ₁))
    (H : ∀ {x : Value} {s₁ : Shared} {β₁ : List Addr}, SRel W σ₁ β₁ s₁.heap → LRel W env ρ β₁ s₁.heap → VRel W β₁ s₁.heap a x →
      wpAny (MM W) A (evalPart lower env) (fun y s₂ => wpAny (MM W) A (evalPart upper env) (fun z s₃ => ∃ lo hi σ₃ β₃, sliceV σ₃ a lo hi = some (v, σ') ∧ Done W [env.locals] β₁ s₁ σ₃ β₃ s₃ ∧ LRel W env ρ β₃ s₃.heap ∧ VRel W β₃ s₃.heap lo y ∧ VRel W β₃ s₃.heap hi z) (fun _ _ => False) s₂) (fun _ _ => False) s₁)
    (hA : AOk n A) (O : EnvOK Γ env) (S : SRel W σ β s.heap) (L : LRel W env ρ β s.heap) : EvE W A env ρ β s (eval (.Subscript o (.Slice lower upper none sp) p) env) v σ' := by
  refine Subscript_ (EvE.then (hI.e e1 hA O S L) fun x s₁ β₁ d₁ L₁ r₁ => wpAny_Slice (wpAny_mono (H d₁.rel L₁ r₁) (fun y s₂ h₂ => wpAny_mono h₂ (fun z s₃ h₃ => ?_) fun _ _ q => q) fun _ _ q => q))
  obtain ⟨lo, hi, σ₃, β₃, e, d, L₃, ry, rz⟩ := h₃
  rw [evalPart_none]
  refine wpAny_pure ?_
  refine wpAny_mono (sliceV_sound e d.rel L₃ (d.vrel r₁) ry rz) (fun v' s₄ ⟨β₄, d₄, L₄, r₄⟩ => ⟨β₄, (d₁.trans d).trans d₄, L₄, r₄⟩) fun _ _ q => q

theorem sound_item (hI : Sound W n I) {o i : Expr} {p : Pos} {v : V} {σ' : Store} (hs : isSlice i = false) {a : V} {σ₁ : Store} (e1 : I.e Γ ρ σ o = some (a, σ₁)) (e : ((I.e Γ ρ σ₁ i).bind fun q => (itemV q.2 a q.1).map fun v => (v, q.2)) = some (v, σ')) (hA : AOk n A) (O : EnvOK Γ env) (S : SRel W σ β s.heap) (L : LRel W env ρ β s.heap) :
    EvE W A env ρ β s (eval (.Subscript o i p) env) v σ' := by
  refine ob2 e fun b σ₂ e2 e => oM2 e fun v' hv => ?_
  refine Subscript_ (EvE.then (hI.e e1 hA O S L) fun x s₁ β₁ d₁ L₁ r₁ => EvE.then (hI.e e2 hA O d₁.rel L₁) fun y s₂ β₂ d₂ L₂ r₂ => ?_)
  exact itemV_sound hv d₂.rel (d₂.vrel r₁) r₂ hs fun z rz => ⟨β₂, d₁.trans d₂, L₂, rz⟩

theorem cutA_inv {p : V × Store} {i : Expr} {r : V × Store} {G : Expr → Prop} (e : cutA I Γ ρ p i = some r)
    (k1 : ∀ lo sp b σ₂, I.e Γ ρ p.2 lo = some (b, σ₂) → sliceV σ₂ p.1 b .none = some r → G (.Slice (some lo) none none sp))
    (k2 : ∀ hi sp b σ₂, I.e Γ ρ p.2 hi = some (b, σ₂) → sliceV σ₂ p.1 .none b = some r → G (.Slice none (some hi) none sp)) : G i := by
  cases i with
  | Slice lower upper step sp =>
    cases step with
    | some st => cases lower <;> cases upper <;> exact oN e
    | none =>
      cases lower with
      | none =>
        cases upper with
        | none => exact oN e
        | some hi => exact ob2 e fun b σ₂ e2 e => k2 hi sp b σ₂ e2 e
      | some lo =>
        cases upper with
        | none => exact ob2 e fun b σ₂ e2 e => k1 lo sp b σ₂ e2 e
        | some hi => exact oN e
  | _ => exact oN e
theorem sound_subscript (hI : Sound W n I) {o i : Expr} {p : Pos} {v : V} {σ' : Store} (e : stepE C I Γ ρ σ (.Subscript o i p) = some (v, σ')) (hA : AOk n A) (O : EnvOK Γ env) (S : SRel W σ β s.heap) (L : LRel W env ρ β s.heap) :
    EvE W A env ρ β s (eval (.Subscript o i p) env) v σ' := by
  by_cases hs : isSlice i = true
  · refine ob2 e fun a σ₁ e1 e => cutA_inv (G := fun i => EvE W A env ρ β s (eval (.Subscript o i p) env) v σ') ((if_pos hs).symm.trans e) (fun lo sp b σ₂ e2 e => ?_) fun hi sp b σ₂ e2 e => ?_
    · refine sound_slice hI e1 (fun {x s₁ β₁} S₁ L₁ r₁ => ?_) hA O S L
      rw [evalPart_none, evalPart_some]
      exact EvE.then (hI.e e2 hA O S₁ L₁) fun y s₂ β₂ d₂ L₂ r₂ => wpAny_pure ⟨b, .none, σ₂, β₂, e, d₂, L₂, r₂, .none⟩
    · refine sound_slice hI e1 (fun {x s₁ β₁} S₁ L₁ r₁ => ?_) hA O S L
      rw [evalPart_none, evalPart_some]
      exact wpAny_pure (EvE.then (hI.e e2 hA O S₁ L₁) fun z s₂ β₂ d₂ L₂ r₂ => ⟨.none, b, σ₂, β₂, e, d₂, L₂, .none, r₂⟩)
  · exact ob2 e fun a σ₁ e1 e => sound_item hI (by simpa using hs) e1 ((if_neg hs).symm.trans e) hA O S L

theorem setItem_list_exact {l : Addr} {xs : Array Value} {m : Nat} {k : Int} {t : Tok} {v : Value} {Q : Unit → Shared → Prop} (ho : s.heap.get? l = some (lstO xs m))
    (h0 : 0 ≤ k) (hfit : k < 2 ^ 63) (hn : k < xs.size) (hQ : Q () { s with heap := s.heap.update l (Obj.mapSeq (·.setIfInBounds k.toNat v)) }) :
    wpAny (MM W) A (setItem (.ref l) (.int k t) v) Q (fun _ _ => False) s := by
  have hl : s.heap.IsList l xs := ⟨_, ho, rfl, _, rfl⟩
  unfold setItem
  try with_reducible refine wpAny_holding ?_
  first | refine wpAny_bind (wpAny_pure ?_) | skip
  refine wpAny_bind (wpAny_sequenceKey hl.typeIs (by decide) ?_)
  refine wpAny_bind (wpAny_callSpecial?_slot (name := Str.ofString "__setitem__") hl.typeIs slot_list_setitem
    (wpAny_call_entry slot_list_setitem hl.typeIs entry_list_setitem ?_ (args_list_setitem _ _ _)))
  show wpAny _ _ (Builtin.List.listSubscript? (.int k t) >>= _) _ _ s
  refine wpAny_bind (wpAny_listSubscript_int (fitsIndex_of h0 hfit) ?_)
  clear hfit
  obtain ⟨j, rfl⟩ := Int.eq_ofNat_of_zero_le h0
  have hj : j < xs.size := by lia
  have hx' : xs[j]? = some xs[j] := Array.getElem?_eq_getElem hj
  show wpAny _ _ ((seqItemAt l j >>= fun r => pure (r.map (j, ·))) >>= _) _ _ s
  refine wpAny_bind (wpAny_bind (wpAny_seqItemAt ho rfl (wpAny_pure ?_)))
  rw [hx']
  show wpAny _ _ (setSeqItemAt l j v >>= _) _ _ s
  refine wpAny_bind (wpAny_setSeqItemAt ho rfl ?_)
  first
    | exact wpAny_bind (wpAny_pure (wpAny_pure ⟨.none, rfl, wpAny_pure hQ⟩))
    | exact wpAny_pure ⟨.none, rfl, wpAny_pure hQ⟩

theorem lst_ne_tup {xs : Array Value} {m : Nat} : ∀ ys k, lstO xs m ≠ tupO ys k := fun _ _ e => by
  have h := congrArg Obj.cls e
  injection h with h
  exact absurd h (by decide)

theorem list_turned {l : Nat} {a : Addr} {xs : Array Value} {m : Nat} {vs : List V} {f : Array Value → Array Value} {ws : List V} (S : SRel W σ β s.heap) (L : LRel W env ρ β s.heap) (ei : β[l]? = some a) (ho : s.heap.get? a = some (lstO xs m)) (_hl : σ[l]? = some (.lst vs))
    (r : VRels W β s.heap ws (f xs).toList) (tk : Nat) : Done W [] β s (σ.set l (.lst ws)) β { s with heap := s.heap.update a (Obj.mapSeq f), toks := tk } :=
  step_same (o' := .lst ws) S L ei ho lst_ne_tup (Heap.SameBut.update ..) (IsL.update ho f) (fun ht => ⟨_, _, rfl, r.mono (fun _ _ e => e) ht⟩) tk

theorem setV_inv {a i v : V} {σ' : Store} {G : V → V → V → Store → Prop} (e : setV σ a i v = some σ')
    (k1 : ∀ j k xs, σ[j]? = some (.lst xs) → (0 ≤ k ∧ k < (xs.length : Int) ∧ xs.length ≤ maxLen) → intOf i = some k → G (.ref j) i v (σ.set j (.lst (xs.set k.toNat v))))
    (k2 : ∀ j k c e', σ[j]? = some (.dct c) → c.length ≤ maxLen → intOf i = some k → intOf v = some e' → G (.ref j) i v (σ.set j (.dct (kdfPut c k e')))) : G a i v σ' := by
  cases a with
  | ref j =>
    refine ob1 e fun k hk e' => ?_
    clear e
    have k1 := k1 j k
    have k2 := k2 j k
    change setO σ j k v σ[j]? = some σ' at e'
    revert e' k1 k2
    generalize σ[j]? = q
    rcases q with _ | ⟨xs⟩ | _ | _ | ⟨c⟩
    · exact fun _ _ e => oN e
    · exact fun k1 _ e => obI e fun hz e => Option.some.inj e ▸ k1 xs rfl hz hk
    · exact fun _ _ e => oN e
    · exact fun _ _ e => oN e
    · exact fun _ k2 e => ob1 e fun e' he e => obI e fun hz e => Option.some.inj e ▸ k2 c e' rfl hz hk he
  | _ => exact oN e
theorem setV_sound {a i v : V} {x y z : Value} {σ' : Store} {Q : Unit → Shared → Prop} (e : setV σ a i v = some σ') (S : SRel W σ β s.heap) (L : LRel W env ρ β s.heap) (ra : VRel W β s.heap a x) (ri : VRel W β s.heap i y) (rv : VRel W β s.heap v z)
    (h : ∀ s', Done W [env.locals] β s σ' β s' → LRel W env ρ β s'.heap → Q () s') : wpAny (MM W) A (setItem x y z) Q (fun _ _ => False) s := by
  revert h ra
  refine setV_inv (G := fun a i v σ' => VRel W β s.heap a x → (∀ s', Done W [env.locals] β s σ' β s' → LRel W env ρ β s'.heap → Q () s') → wpAny (MM W) A (setItem x y z) Q (fun _ _ => False) s) e ?_ ?_
  · intro j k vs hi hz hk ra h
    obtain ⟨b, rfl, eb⟩ := ra.ref_inv
    obtain ⟨t, rfl⟩ := intOf_rel hk ri
    obtain ⟨xa, na, hb, qa⟩ := S.lst hi eb
    have hsz := VRels.size qa
    have hml : (maxLen : Int) = 1000 := rfl
    refine setItem_list_exact hb hz.1 (by lia) (by lia) ?_
    have d : Done W [] β s (σ.set j (.lst (vs.set k.toNat v))) β { s with heap := s.heap.update b (Obj.mapSeq (·.setIfInBounds k.toNat z)), toks := s.toks } := list_turned S L eb hb hi (by
      rw [Array.toList_setIfInBounds]; exact qa.set rv) _
    exact h _ (d.weak (by simp)) (d.lrel L)
  · intro j k c e' hi hz hk he ra h
    obtain ⟨b, rfl, eb⟩ := ra.ref_inv
    obtain ⟨t, rfl⟩ := intOf_rel hk ri
    obtain ⟨te, rfl⟩ := intOf_rel he rv
    obtain ⟨ob, hb, kvs, hd, hf⟩ := S.obj j _ b hi eb
    obtain ⟨m, F, hm⟩ := L.fr S
    obtain ⟨u, U, hu, hk⟩ := updF_of_mem (full_nodup W env.locals s.heap) (full_at S L eb hb)
    refine kdf_setItem F (full_news W _ _) U hd hf (Nat.le_trans hz (by decide)) fun h' o' kvs' F' N' a b => ?_
    have hnt : ∀ xs n, ob ≠ tupO xs n := fun xs n e => by
      obtain ⟨es, ep, hx, _⟩ := hd
      rw [e] at hx
      have h := hx.1
      injection h with h
      exact absurd h (by decide)
    obtain ⟨d, L'⟩ := step_turn (o' := .dct (kdfPut c k e')) (ob' := o') S L eb (idx_lt hi) hb hnt F' hm N' (hu o') (hk o') (fun _ => ⟨kvs', a, b⟩) (s.toks + 1)
    exact h _ d L'
end
end
section
section
variable {W : Wd} {T : Tab} {A : Around} {env : Env} {Γ : Scope} {ρ : Rho} {σ : Store} {β : List Addr} {s : Shared} {n : Nat} {C : Cfg} {I : Itp}

theorem tuple_index_loop {x : Value} {a : Addr} {f : Value → Bool} {Q : PySem.Fin → Shared → Prop} {xs : Array Value} {m : Nat} (he : ∀ y ∈ xs, ∀ s, SeqAt.EqAt A.in1 s y x (f y)) (j : Nat) (hj : j < xs.size) (hit : f xs[j] = true) (hno : ∀ m (hm : m < xs.size), m < j → f xs[m] = false)
    (hm : s.heap.get? a = some (tupO xs m)) (h : Q (.done (.ret (.int j s.toks))) { s with toks := s.toks + 1 }) :
    wpAny (MM W) A.in1 (Builtin.«tuple.index» ⟨[.ref a, x], []⟩) Q (fun _ _ => False) s := by
  obtain ⟨hp, g, d, tk, os⟩ := s
  unfold Builtin.«tuple.index»
  simp only [Std.Legacy.Range.forIn_eq_forIn_range']
  wp_walk using wpAny_loadPart' hm
  refine wpAny_forIn_list _ (fun rest b s' => b = (none, ()) ∧ s' = ⟨hp, g, d, tk, os⟩ ∧ ∃ k, rest = List.range' k (xs.size - k) ∧ k ≤ j) _ ?_ ?_ _ _ ?_
  · rintro i rest b s' ⟨rfl, rfl, k, hr, hk⟩
    have hlt : k < xs.size := by lia
    have e1 : xs.size - k = (xs.size - (k + 1)) + 1 := by lia
    rw [e1, List.range'_succ] at hr
    obtain ⟨rfl, rfl⟩ := List.cons.inj hr
    have hx : xs[i]? = some xs[i] := Array.getElem?_eq_getElem hlt
    simp only [hx]
    refine wpAny_bind (he _ (Array.getElem_mem hlt) _ _ _ _ _ ?_)
    by_cases hij : i = j
    · subst hij
      rw [hit]
      wp_walk
      exact h
    · rw [hno i hlt (by lia)]
      wp_walk
      exact ⟨rfl, rfl, i + 1, rfl, by lia⟩
  · rintro b s' ⟨rfl, rfl, k, hr, hk⟩
    have := congrArg List.length hr
    simp at this
    lia
  · exact ⟨rfl, rfl, 0, by simp, Nat.zero_le _⟩

theorem sound_args (hI : Sound W n I) (hA : AOk n A) (O : EnvOK Γ env) {pos : Pos} {f : Value} {es : List Expr} {vs : List V} {σ' : Store} (h : es.all notStar = true) (e : evs I Γ ρ σ es = some (vs, σ')) (S : SRel W σ β s.heap) (L : LRel W env ρ β s.heap) :
    wpAny (MM W) A (evalArgs f true (backTo pos (starEach es env)) []) (fun a s' => a.kw = [] ∧ PostEs W env ρ β s vs σ' a.pos s') (fun _ _ => False) s := by
  cases es with
  | nil =>
    obtain ⟨rfl, rfl⟩ := Prod.mk.inj (Option.some.inj e)
    exact evalArgs_nil3 ⟨rfl, β, Done.same' S, L, .nil⟩
  | cons x r =>
    have hsp := sound_spliced hI hA O (pos := pos) h e S L
    rw [List.all_cons, Bool.and_eq_true] at h
    rw [starEach_cons h.1] at hsp ⊢
    exact Calls.evalArgs_plain (wpAny_mono hsp (fun vs s' q => ⟨rfl, q⟩) fun _ _ q => q)

theorem sound_callWith (hI : Sound W n I) (hA : AOk n A) (O : EnvOK Γ env) {pos : Pos} {f : Value} {first : List Value} {es : List Expr} {vs : List V} {σ' : Store} {Q : Value → Shared → Prop} (h : es.all notStar = true) (e : evs I Γ ρ σ es = some (vs, σ')) (S : SRel W σ β s.heap) (L : LRel W env ρ β s.heap)
    (hk : ∀ h, (∀ b o, W.h0.get? b = some o → h.get? b = some o) → ∃ k, (k = Keeper.frame ∨ k = Keeper.machine ∨ k = Keeper.boundFrame) ∧ Looks (MM W) h (keeperOf f) k)
    (q : ∀ xs s', PostEs W env ρ β s vs σ' xs s' → wpAny (MM W) A (call f (first ++ xs)) Q (fun _ _ => False) s') : wpAny (MM W) A (callWith pos f first (backTo pos (starEach es env)) []) Q (fun _ _ => False) s := by
  refine callWith_of (P := fun h => ∀ b o, W.h0.get? b = some o → h.get? b = some o) (by rw [starEach_plain h]; rfl) hk (wpAny_mono (sound_args hI hA O h e S L) (fun a s' ⟨hkw, p⟩ => ?_) fun _ _ q => q)
  rw [hkw]
  obtain ⟨β', d, L', r⟩ := id p
  exact ⟨d.rel.keep, q _ _ p⟩

theorem keeps_builtin {id : String} (h : Heap) : ∃ k, (k = Keeper.frame ∨ k = Keeper.machine ∨ k = Keeper.boundFrame) ∧ Looks (MM W) h (keeperOf (.builtin id)) k := ⟨.machine, .inr (.inl rfl), Looks.of_pure rfl⟩
theorem keeps_type {id : String} (h : Heap) : ∃ k, (k = Keeper.frame ∨ k = Keeper.machine ∨ k = Keeper.boundFrame) ∧ Looks (MM W) h (keeperOf (.type id)) k := ⟨.machine, .inr (.inl rfl), Looks.of_pure rfl⟩

theorem VRels.one {v : V} {xs : List Value} (r : VRels W β s.heap [v] xs) : ∃ x, xs = [x] ∧ VRel W β s.heap v x := by
  cases r with
  | cons a b => cases b; exact ⟨_, rfl, a⟩
theorem VRels.none_ {xs : List Value} (r : VRels W β s.heap [] xs) : xs = [] := by cases r; rfl

theorem push_rel {vs : List V} {xs : Array Value} {v : V} {x : Value} (r : VRels W β s.heap vs xs.toList) (rv : VRel W β s.heap v x) : VRels W β s.heap (vs ++ [v]) (xs.push x).toList := by
  rw [Array.toList_push]; exact r.append (.cons rv .nil)
theorem erase_rel {vs : List V} {xs : Array Value} (r : VRels W β s.heap vs xs.toList) {k : Nat} (hk : k < xs.size) : VRels W β s.heap (vs.eraseIdx k) (xs.eraseIdxIfInBounds k).toList := by
  unfold Array.eraseIdxIfInBounds
  rw [dif_pos hk, Array.toList_eraseIdx]
  exact r.erase

theorem append_sound {l : Nat} {a : Addr} {xs : Array Value} {m : Nat} {vs : List V} {v : V} {x : Value} {Q : Value → Shared → Prop} (S : SRel W σ β s.heap) (L : LRel W env ρ β s.heap) (ei : β[l]? = some a) (ho : s.heap.get? a = some (lstO xs m)) (hl : σ[l]? = some (.lst vs)) (r : VRels W β s.heap vs xs.toList) (rv : VRel W β s.heap v x) (hz : vs.length ≤ maxLen)
    (h : ∀ s', Done W [] β s (σ.set l (.lst (vs ++ [v]))) β s' → Q .none s') : wpAny (MM W) A (call (.builtin "list.append") [.ref a, x]) Q (fun _ _ => False) s := by
  refine call_meets F.slot_list_append ⟨_, ho, rfl⟩ F.entry_list_append (F.args_list_append_2 _ _) (PySem.list_append a xs m x (by rw [VRels.size r]; exact size_fits_of hz)) ⟨ho, ?_⟩
  exact h _ (list_turned S L ei ho hl (push_rel r rv) _)


theorem pop_last_sound {i : Nat} {a : Addr} {xa : Array Value} {na : Nat} {ys : List V} {v : V} {Q : Value → Shared → Prop} (S : SRel W σ β s.heap) (L : LRel W env ρ β s.heap) (ea : β[i]? = some a) (ha : s.heap.get? a = some (lstO xa na)) (hi : σ[i]? = some (.lst ys)) (qa : VRels W β s.heap ys xa.toList) (hz : ys.length ≤ maxLen)
    (hw : ys[ys.length - 1]? = some v) (h : ∀ y s', Done W [] β s (σ.set i (.lst (ys.eraseIdx (ys.length - 1)))) β s' → VRel W β s'.heap v y → Q y s') : wpAny (MM W) A (call (.builtin "list.pop") [.ref a]) Q (fun _ _ => False) s := by
  obtain ⟨y, hy, ry⟩ := VRels.get' qa hw
  have hsz := VRels.size qa
  rw [← hsz] at hy
  have hlt : xa.size - 1 < xa.size := (Array.getElem?_eq_some_iff.mp hy).1
  refine call_meets F.slot_list_pop ⟨_, ha, rfl⟩ F.entry_list_pop (F.args_list_pop_1 _) (MeetsSeq.list_pop_last a xa na y hy (by rw [hsz]; exact size_fits_of hz)) ⟨ha, ?_⟩
  have d : Done W [] β s (σ.set i (.lst (ys.eraseIdx (ys.length - 1)))) β { s with heap := s.heap.update a (Obj.mapSeq fun xs => xs.eraseIdxIfInBounds (xa.size - 1)), toks := s.toks } := list_turned S L ea ha hi (by
    rw [← hsz]; exact erase_rel qa hlt) _
  exact h _ _ d (d.vrel ry)

theorem pop_first_sound {i : Nat} {a : Addr} {xa : Array Value} {na : Nat} {ys : List V} {v : V} {t : Tok} {Q : Value → Shared → Prop} (S : SRel W σ β s.heap) (L : LRel W env ρ β s.heap) (ea : β[i]? = some a) (ha : s.heap.get? a = some (lstO xa na)) (hi : σ[i]? = some (.lst ys)) (qa : VRels W β s.heap ys xa.toList) (hz : ys.length ≤ maxLen)
    (hw : ys[0]? = some v) (h : ∀ y s', Done W [] β s (σ.set i (.lst (ys.eraseIdx 0))) β s' → VRel W β s'.heap v y → Q y s') : wpAny (MM W) A (call (.builtin "list.pop") [.ref a, .int 0 t]) Q (fun _ _ => False) s := by
  obtain ⟨y, hy, ry⟩ := VRels.get' qa hw
  have hsz := VRels.size qa
  have hlt : 0 < xa.size := (Array.getElem?_eq_some_iff.mp hy).1
  refine call_meets F.slot_list_pop ⟨_, ha, rfl⟩ F.entry_list_pop (F.args_list_pop_2 _ _) (MeetsSeq.list_pop_at a xa na 0 t 0 y (by decide) (by rw [seqIndex_of (by decide) (by lia)]; rfl) hy (by rw [hsz]; exact size_fits_of hz)) ⟨ha, ?_⟩
  have d : Done W [] β s (σ.set i (.lst (ys.eraseIdx 0))) β { s with heap := s.heap.update a (Obj.mapSeq fun xs => xs.eraseIdxIfInBounds 0), toks := s.toks } := list_turned S L ea ha hi (erase_rel qa hlt) _
  exact h _ _ d (d.vrel ry)

theorem methV_inv {o : V} {name : Str} {vs : List V} {v : V} {σ' : Store} {G : V → Str → List V → V → Store → Prop} (e : methV σ o name vs = some (v, σ'))
    (k1 : ∀ i xs w, σ[i]? = some (.lst xs) → xs.length ≤ maxLen → G (.ref i) "append" [w] .none (σ.set i (.lst (xs ++ [w]))))
    (k2 : ∀ i xs w, σ[i]? = some (.lst xs) → xs.length ≤ maxLen → xs[xs.length - 1]? = some w → G (.ref i) "pop" [] w (σ.set i (.lst (xs.eraseIdx (xs.length - 1)))))
    (k3 : ∀ i xs w, σ[i]? = some (.lst xs) → xs.length ≤ maxLen → xs[0]? = some w → G (.ref i) "pop" [.int 0] w (σ.set i (.lst (xs.eraseIdx 0))))
    (k4 : ∀ i c k d, σ[i]? = some (.dct c) → G (.ref i) "get" [.int k, .int d] (.int (kdfLook c k d)) σ)
    (k5 : ∀ z t, G (.str z) "endswith" [.str t] (.bool (Txt.endswith z t)) σ) : G o name vs v σ' := by
  cases o with
  | ref i =>
    have k1 := k1 i
    have k2 := k2 i
    have k3 := k3 i
    have k4 := k4 i
    clear k5
    change methO σ i name vs σ[i]? = some (v, σ') at e
    revert e k1 k2 k3 k4
    generalize σ[i]? = q
    rcases q with _ | ⟨xs⟩ | _ | _ | ⟨c⟩
    · exact fun _ _ _ _ e => nomatch e
    · intro k1 k2 k3 _ e
      have k1 := fun w => k1 xs w rfl
      have k2 := fun w => k2 xs w rfl
      have k3 := fun w => k3 xs w rfl
      by_cases h1 : name = "append"
      · subst h1
        clear k2 k3
        rcases vs with _ | ⟨w, _ | _⟩
        · exact nomatch e
        · exact obI e fun hz e => oR2 e (k1 w hz)
        · exact nomatch e
      · have e' := (if_neg h1).symm.trans e
        clear k1 e
        refine obI e' fun h2 e => ?_
        clear e'
        subst h2
        match vs, e with
        | [], e => exact obI e fun hz e => oM2 e fun w hw => k2 w hz hw
        | [.int 0], e => exact obI e fun hz e => oM2 e fun w hw => k3 w hz hw
    · exact fun _ _ _ _ e => nomatch e
    · exact fun _ _ _ _ e => nomatch e
    · intro _ _ _ k4 e'
      refine obI e' fun h1 e => ?_
      clear e'
      subst h1
      match vs, e with
      | [.int k, .int d], e => exact oR2 e (k4 c k d rfl)
  | str z =>
    refine obI e fun h1 e' => ?_
    clear e
    subst h1
    match vs, e' with
    | [.str t], e => exact oR2 e (k5 z t)
  | _ => exact nomatch e

noncomputable def MethOk (W : Wd) (A : Around) (σ₁ σ : Store) (o : V) (name : Str) (vs : List V) (v : V) (σ' : Store) : Prop := ∃ id : String,
  (∀ {β : List Addr} {s : Shared} {x : Value} {pl : Sem Bool} {Q : Value × List Value → Shared → Prop}, SRel W σ₁ β s.heap → VRel W β s.heap o x → Q (.builtin id, [x]) s → wpAny (MM W) A (getMethod x name pl) Q (fun _ _ => False) s) ∧
  ∀ {env : Env} {ρ : Rho} {β : List Addr} {s : Shared} {x : Value} {xs : List Value}, SRel W σ β s.heap → LRel W env ρ β s.heap → VRel W β s.heap o x → VRels W β s.heap vs xs → wpAny (MM W) A (call (.builtin id) (x :: xs)) (PostE W env ρ β s v σ') (fun _ _ => False) s
theorem fin0 {v : V} {y : Value} {s' : Shared} {σ' : Store} (L : LRel W env ρ β s.heap) (d : Done W [] β s σ' β s') (r : VRel W β s'.heap v y) : PostE W env ρ β s v σ' y s' := d.fin L r
theorem getM_list {σ₁ : Store} {i : Nat} {ys : List V} {name : Str} {id : String} (hi : σ₁[i]? = some (.lst ys)) (slot : Slot "list" name id) (ty : typeOf (.builtin id) = pure (.type "method_descriptor")) {x : Value} {pl : Sem Bool} {Q : Value × List Value → Shared → Prop} (S : SRel W σ₁ β s.heap) (r : VRel W β s.heap (.ref i) x) (h : Q (.builtin id, [x]) s) :
    wpAny (MM W) A (getMethod x name pl) Q (fun _ _ => False) s := by
  obtain ⟨a, rfl, ea⟩ := r.ref_inv
  obtain ⟨xa, na, ha, _⟩ := S.lst hi ea
  exact getMethod_builtin ⟨_, ha, rfl⟩ F.plainAttrs_list slot ty (fun a e => by (first | exact oN e | refine oR3 e ?_ | refine oR2 e ?_ | cases e); exact ⟨_, ha, rfl⟩) h
theorem kind_lst {o : Option O} {xs : List V} (h : kindO o = kindO (some (.lst xs))) : ∃ ys, o = some (.lst ys) := by
  match o, h with
  | some (.lst ys), _ => exact ⟨ys, rfl⟩
theorem kind_dct {o : Option O} {c : List (Int × Int)} (h : kindO o = kindO (some (.dct c))) : ∃ d, o = some (.dct d) := by
  match o, h with
  | some (.dct d), _ => exact ⟨d, rfl⟩
theorem meth_append {σ₁ : Store} {i : Nat} {xs ys : List V} {w : V} (h1 : σ₁[i]? = some (.lst ys)) (hi : σ[i]? = some (.lst xs)) (hz : xs.length ≤ maxLen) : MethOk W A σ₁ σ (.ref i) "append" [w] .none (σ.set i (.lst (xs ++ [w]))) :=
  ⟨"list.append", fun S r h => getM_list h1 F.slot_list_append F.type_list_append S r h, fun S L ro r => by
    obtain ⟨a, rfl, ea⟩ := ro.ref_inv
    obtain ⟨y, rfl, ry⟩ := VRels.one r
    obtain ⟨xa, na, ha, qa⟩ := S.lst hi ea
    exact append_sound S L ea ha hi qa ry hz fun s' d => d.fin L .none⟩
theorem meth_pop {σ₁ : Store} {i : Nat} {xs ys : List V} {w : V} (h1 : σ₁[i]? = some (.lst ys)) (hi : σ[i]? = some (.lst xs)) (hz : xs.length ≤ maxLen) (hw : xs[xs.length - 1]? = some w) : MethOk W A σ₁ σ (.ref i) "pop" [] w (σ.set i (.lst (xs.eraseIdx (xs.length - 1)))) :=
  ⟨"list.pop", fun S r h => getM_list h1 F.slot_list_pop F.type_list_pop S r h, fun S L ro r => by
    obtain ⟨a, rfl, ea⟩ := ro.ref_inv
    obtain rfl := VRels.none_ r
    obtain ⟨xa, na, ha, qa⟩ := S.lst hi ea
    exact pop_last_sound S L ea ha hi qa hz hw fun y s' d r => d.fin L r⟩
theorem meth_pop0 {σ₁ : Store} {i : Nat} {xs ys : List V} {w : V} (h1 : σ₁[i]? = some (.lst ys)) (hi : σ[i]? = some (.lst xs)) (hz : xs.length ≤ maxLen) (hw : xs[0]? = some w) : MethOk W A σ₁ σ (.ref i) "pop" [.int 0] w (σ.set i (.lst (xs.eraseIdx 0))) :=
  ⟨"list.pop", fun S r h => getM_list h1 F.slot_list_pop F.type_list_pop S r h, fun S L ro r => by
    obtain ⟨a, rfl, ea⟩ := ro.ref_inv
    obtain ⟨y, rfl, ry⟩ := VRels.one r
    obtain ⟨t, rfl⟩ := ry.int_inv
    obtain ⟨xa, na, ha, qa⟩ := S.lst hi ea
    exact pop_first_sound S L ea ha hi qa hz hw fun y s' d r => d.fin L r⟩
theorem meth_get {σ₁ : Store} {i : Nat} {c c' : List (Int × Int)} {k d : Int} (h1 : σ₁[i]? = some (.dct c')) (hi : σ[i]? = some (.dct c)) : MethOk W A σ₁ σ (.ref i) "get" [.int k, .int d] (.int (kdfLook c k d)) σ :=
  ⟨"dict.get", fun S r h => by
    obtain ⟨a, rfl, ea⟩ := r.ref_inv
    obtain ⟨kvs, hD, _⟩ := S.dct h1 ea
    exact getMethod_builtin hD.typeIs F.plainAttrs_dict F.slot_dict_get F.type_dict_get hD.mapOf.noDict h, fun {env ρ β s x xs} S L ro r => by
    obtain ⟨a, rfl, ea⟩ := ro.ref_inv
    obtain ⟨kvs, hD, hf⟩ := S.dct hi ea
    cases r with
    | cons r1 r2 =>
      obtain ⟨t, rfl⟩ := r1.int_inv
      obtain ⟨z, rfl, rz⟩ := VRels.one r2
      obtain ⟨u, rfl⟩ := rz.int_inv
      exact kdf_get2 ⟨by have := S.above _ (List.mem_of_getElem? ea); simpa using Nat.ne_of_gt this, kvs, hD, hf⟩ fun t => (Done.same S _).fin L (.int _ t)⟩
theorem meth_ends {σ₁ : Store} {z t : Str} : MethOk W A σ₁ σ (.str z) "endswith" [.str t] (.bool (Txt.endswith z t)) σ :=
  ⟨"str.endswith", fun {β s x pl Q} S r h => by
    obtain ⟨u, rfl⟩ := r.str_inv
    have hr : ∀ a, Value.str z u = .ref a → ∃ o, s.heap.get? a = some o ∧ o.dict = none := fun a e => nomatch e
    have hty : s.TypeIs (.str z u) "str" := typeIs_str s z u
    with_reducible exact getMethod_builtin hty F.plainAttrs_str F.slot_str_endswith F.type_str_endswith hr h, fun S L ro r => by
    obtain ⟨u, rfl⟩ := ro.str_inv
    obtain ⟨y, rfl, ry⟩ := VRels.one r
    obtain ⟨u', rfl⟩ := ry.str_inv
    exact SC.endswith ((Done.same' S).fin L (.bool _))⟩
theorem methV_sound {σ₁ : Store} {o : V} {name : Str} {vs : List V} {v : V} {σ' : Store} (e : methV σ o name vs = some (v, σ')) : (∀ i, o = .ref i → kindO σ₁[i]? = kindO σ[i]?) → MethOk W A σ₁ σ o name vs v σ' := by
  refine methV_inv (G := fun o name vs v σ' => (∀ i, o = .ref i → kindO σ₁[i]? = kindO σ[i]?) → MethOk W A σ₁ σ o name vs v σ') e ?_ ?_ ?_ ?_ fun z t _ => meth_ends
  · intro i xs w hi hz hk
    obtain ⟨ys, h1⟩ := kind_lst ((hk i rfl).trans (congrArg kindO hi))
    exact meth_append h1 hi hz
  · intro i xs w hi hz hw hk
    obtain ⟨ys, h1⟩ := kind_lst ((hk i rfl).trans (congrArg kindO hi))
    exact meth_pop h1 hi hz hw
  · intro i xs w hi hz hw hk
    obtain ⟨ys, h1⟩ := kind_lst ((hk i rfl).trans (congrArg kindO hi))
    exact meth_pop0 h1 hi hz hw
  · intro i c k d hi hk
    obtain ⟨ys, h1⟩ := kind_dct ((hk i rfl).trans (congrArg kindO hi))
    exact meth_get h1 hi
end
end
section
noncomputable def CallOk (W : Wd) (n : Nat) (callee : Value) (args : List V) (σ : Store) (v : V) (σ' : Store) : Prop :=
  ∀ {A s β xs}, AOk n A → W.h0.objs.size ≤ s.heap.objs.size → SRel W σ β s.heap → VRels W β s.heap args xs → wpAny (MM W) A (call callee xs) (fun x s' => ∃ β', Done W [] β s σ' β' s' ∧ VRel W β' s'.heap v x) (fun _ _ => False) s

structure SoundF (W : Wd) (n : Nat) (C : Cfg) : Prop where
  glob : ∀ {g args σ v σ'}, C.Φ (.glob g) args σ = some (v, σ') → ∃ callee, W.mg g = some callee ∧ keepIn W.K callee = true ∧ CallOk W n callee args σ v σ'
  meth : ∀ {Cl m args σ v σ'}, C.meth Cl m = true → C.Φ (.meth Cl m) args σ = some (v, σ') → ∃ f, plainGet W.K Cl m = true ∧ findIn W.K (.ref Cl) m = some (some (.ref f)) ∧ isFn W.K (.ref f) = true ∧ keepIn W.K (.ref f) = true ∧ CallOk W n (.ref f) args σ v σ'

section
variable {W : Wd} {T : Tab} {A : Around} {env : Env} {Γ : Scope} {ρ : Rho} {σ : Store} {β : List Addr} {s : Shared} {n : Nat} {C : Cfg} {I : Itp}

theorem PostEs.then {vs : List V} {σ₁ σ' : Store} {xs : List Value} {s₁ : Shared} {v : V} {x : Value} {s' : Shared} (p : PostEs W env ρ β s vs σ₁ xs s₁) (k : ∀ β₁, SRel W σ₁ β₁ s₁.heap → LRel W env ρ β₁ s₁.heap → VRels W β₁ s₁.heap vs xs → PostE W env ρ β₁ s₁ v σ' x s') : PostE W env ρ β s v σ' x s' := by
  obtain ⟨β₁, d₁, L₁, r₁⟩ := p
  obtain ⟨β₂, d₂, L₂, r₂⟩ := k β₁ d₁.rel L₁ r₁
  exact ⟨β₂, d₁.trans d₂, L₂, r₂⟩
theorem EvE.args {vs : List V} {σ₁ σ' : Store} {xs : List Value} {s₁ : Shared} {v : V} {t : Sem Value} (p : PostEs W env ρ β s vs σ₁ xs s₁) (k : ∀ β₁, SRel W σ₁ β₁ s₁.heap → LRel W env ρ β₁ s₁.heap → VRels W β₁ s₁.heap vs xs → EvE W A env ρ β₁ s₁ t v σ') : wpAny (MM W) A t (PostE W env ρ β s v σ') (fun _ _ => False) s₁ := by
  obtain ⟨β₁, d₁, L₁, r₁⟩ := p
  exact EvE.from d₁ (k β₁ d₁.rel L₁ r₁)

theorem nameGlobal {f : Str} {fp : Pos} {v : Value} {Q : Value → Shared → Prop} (G : WOK W T) (O : EnvOK Γ env) (S : SRel W σ β s.heap) (hl : Γ.names.lookup f = some .globalImplicit) (hd : (f == ("__debug__" : Str)) = false) (hv : W.mg f = some v) (h : Q v s) :
    wpAny (MM W) A (eval (.Name f fp) env) Q (fun _ _ => False) s := by
  have hk : env.scope.kind = .function := by rw [O.scope]; exact O.kind
  have kd : env.kindOf f = Γ.names.lookup f := by unfold Env.kindOf; rw [O.scope]
  exact Calls.Name_function_global hk (kd.trans hl) (Calls.loadGlobal_global (by rw [O.glob]; exact G.globs.keeps S.keep) hv h) hd
theorem nameBuiltin {f : Str} {fp : Pos} {v : Value} {Q : Value → Shared → Prop} (G : WOK W T) (O : EnvOK Γ env) (S : SRel W σ β s.heap) (hl : Γ.names.lookup f = some .globalImplicit) (hd : (f == ("__debug__" : Str)) = false) (hv : W.mg f = none) (hb : W.mb f = some v) (h : Q v s) :
    wpAny (MM W) A (eval (.Name f fp) env) Q (fun _ _ => False) s := by
  have hk : env.scope.kind = .function := by rw [O.scope]; exact O.kind
  have kd : env.kindOf f = Γ.names.lookup f := by unfold Env.kindOf; rw [O.scope]
  exact Calls.Name_function_global hk (kd.trans hl) (Calls.loadGlobal_builtin (by rw [O.glob]; exact G.globs.keeps S.keep) hv (by rw [O.bi]; exact G.bis.keeps S.keep) hb h) hd

theorem len_sound {vs : List V} {xs : List Value} {v : V} {σ' : Store} (e : builtinV "len" vs σ = some (v, σ')) (S : SRel W σ β s.heap) (L : LRel W env ρ β s.heap) (r : VRels W β s.heap vs xs) : EvE W A env ρ β s (call (.builtin "len") xs) v σ' := by
  unfold builtinV at e
  (first | replace e := (if_pos rfl).symm.trans e | rw [if_pos rfl] at e)
  cases r with
  | nil => (first | exact oN e | refine oR3 e ?_ | refine oR2 e ?_ | cases e)
  | cons r1 r2 =>
    cases r2 with
    | cons _ _ => (first | exact oN e | refine oR3 e ?_ | refine oR2 e ?_ | cases e)
    | nil =>
      refine ob1 e fun ys h1 e => ?_
      refine obI e fun hz e => ?_
      (first | exact oN e | refine oR3 e ?_ | refine oR2 e ?_ | cases e)
      have hz' : ys.length ≤ 1000 := hz
      cases r1 with
      | tup ha rs =>
        cases h1
        have hsz := VRels.size rs
        exact len_tuple ⟨_, ha, rfl, _, rfl⟩ (by lia) (by rw [hsz]; exact (Done.same S _).fin L (.int _ _))
      | @ref i a ea =>
        unfold itemsOf at h1
        dsimp only at h1
        cases hi : σ[i]? with
        | none => rw [hi] at h1; cases h1
        | some ob =>
          rw [hi] at h1
          cases ob with
          | lst ws =>
            cases h1
            obtain ⟨xa, na, ha, qa⟩ := S.lst hi ea
            have hsz := VRels.size qa
            exact Calls.call_len_list ⟨_, ha, rfl, _, rfl⟩ (by lia) (by rw [hsz]; exact (Done.same S _).fin L (.int _ _))
          | _ => cases h1
      | _ => cases h1

theorem LRel.h0_le {env : Env} {h : Heap} (L : LRel W env ρ β h) : W.h0.objs.size ≤ h.objs.size := by
  obtain ⟨m, hn, _⟩ := L.ns
  exact Nat.le_trans L.above (Nat.le_of_lt hn.lt)

theorem new_list_done {h' : Heap} {ws : List V} {ys : Array Value} {c : Nat} {D : Addr} (S : SRel W σ β s.heap) (hge : s.heap.objs.size ≤ D) (hk : ∀ b o, s.heap.get? b = some o → h'.get? b = some o) (hD : h'.get? D = some (lstO ys c))
    (r : VRels W (β ++ [D]) h' ws ys.toList) (tk : Nat) : Done W [] β s (σ ++ [.lst ws]) (β ++ [D]) { s with heap := h', toks := tk } := by
  have S' : SRel W σ β h' := S.other (fun b o e => hk _ _ (S.keep _ _ e)) (fun _ _ _ e => hk _ _ e) fun _ _ _ e => hk _ _ e
  have free : s.heap.get? D = none := by
    cases q : s.heap.get? D with
    | none => rfl
    | some o => exact absurd (Heap.lt_size q) (Nat.not_lt.mpr hge)
  have notin : D ∉ β := fun q => by
    obtain ⟨i, hi⟩ := List.getElem?_of_mem q
    have hl : i < σ.length := by rw [← S.len]; exact (List.getElem?_eq_some_iff.mp hi).1
    obtain ⟨ob, e, _⟩ := S.obj i _ _ (List.getElem?_eq_getElem hl) hi
    rw [free] at e; (first | exact oN e | refine oR3 e ?_ | refine oR2 e ?_ | cases e)
  refine ⟨⟨get_snoc_pre, fun a ha hn => ?_, fun _ _ _ _ e => hk _ _ e, fun _ _ _ e => hk _ _ e, fun _ o' e => ⟨o', hk _ _ e⟩⟩, ⟨S'.keep, by simp [S.len], ?_, fun a ha => ?_, S.low, fun a ha => ?_, fun i o' a e1 e2 => ?_⟩, rfl, rfl⟩
  · rcases List.mem_append.mp ha with q | q
    · exact absurd q hn
    · rw [List.mem_singleton] at q; subst q; exact free
  · rw [List.nodup_append]
    refine ⟨S.nodup, by simp, fun a ha b hb => ?_⟩
    rw [List.mem_singleton] at hb
    subst hb
    rintro rfl
    exact notin ha
  · rcases List.mem_append.mp ha with q | q
    · exact S.fresh a q
    · rw [List.mem_singleton] at q; subst q
      cases q : W.h0.get? a with
      | none => rfl
      | some o => rw [S.keep _ _ q] at free; cases free
  · rcases List.mem_append.mp ha with q | q
    · exact S.above a q
    · rw [List.mem_singleton] at q; subst q; exact Nat.lt_of_lt_of_le S.big hge
  · by_cases hi : i < σ.length
    · rw [List.getElem?_append_left hi] at e1
      rw [List.getElem?_append_left (by rw [S.len]; exact hi)] at e2
      obtain ⟨ob', e, q⟩ := S'.obj i o' a e1 e2
      exact ⟨ob', e, q.mono get_snoc_pre fun _ _ _ e => e⟩
    · have hi' : i = σ.length := by
        have := (List.getElem?_eq_some_iff.mp e1).1
        simp at this; lia
      subst hi'
      rw [List.getElem?_append_right (Nat.le_refl _)] at e1
      rw [List.getElem?_append_right (by rw [S.len]; exact Nat.le_refl _), S.len] at e2
      simp at e1 e2
      subst e1 e2
      exact ⟨_, hD, ys, c, rfl, r⟩

theorem listcopy_sound {i : Nat} {x : Value} {ws : List V} (hi : σ[i]? = some (.lst ws)) (hz : ws.length ≤ maxLen) (S : SRel W σ β s.heap) (L : LRel W env ρ β s.heap) (r : VRel W β s.heap (.ref i) x) :
    EvE W A env ρ β s (call (.type "list") [x]) (.ref σ.length) (σ ++ [.lst ws]) := by
  cases r with
  | ref ea =>
    obtain ⟨xa, na, ha, qa⟩ := S.lst hi ea
    refine call_list_seq (hsz := by rw [VRels.size qa]; exact size_fits_of hz) _ (.inl rfl) ha rfl rfl fun h' c' hk hD => ?_
    have d := new_list_done (ws := ws) S (Nat.le_refl _) hk hD (qa.mono get_snoc_pre fun _ _ _ e => hk _ _ e) s.toks
    exact ⟨_, d.weak (by simp), d.lrel L, S.newRef⟩

theorem ints_of : ∀ {vs : List V} {ns : List Int} {xs : List Value}, intsOf vs = some ns → VRels W β s.heap vs xs → IntsAre xs ns ∧ vs = ns.map .int
  | [], ns, xs, e, r => by (first | exact oN e | refine oR3 e ?_ | refine oR2 e ?_ | cases e); cases r; exact ⟨.nil, rfl⟩
  | v :: vs, ns, xs, e, r => by
    obtain _ | ⟨a, b⟩ := r
    cases a with
    | int i t =>
      change ((intsOf vs).bind fun ns => some (i :: ns)) = _ at e
      refine ob1 e fun ms h1 e => ?_
      (first | exact oN e | refine oR3 e ?_ | refine oR2 e ?_ | cases e)
      obtain ⟨q1, q2⟩ := ints_of h1 b
      exact ⟨.cons _ _ q1, by rw [q2]; rfl⟩
    | _ => (first | exact oN e | refine oR3 e ?_ | refine oR2 e ?_ | cases e)

theorem sort_unique {ns ms : List Int} (hp : ms.Perm ns) (hs : ms.Pairwise (· ≤ ·)) : ms = sortI ns := by
  have h1 : (sortI ns).Perm ns := List.mergeSort_perm _ _
  have h2 : (sortI ns).Pairwise (· ≤ ·) := by
    have := List.pairwise_mergeSort (le := fun a b : Int => decide (a ≤ b)) (fun a b c h1 h2 => by simp at *; lia) (fun a b => by simp; lia) ns
    exact this.imp fun h => by simpa using h
  exact (hp.trans h1.symm).eq_of_pairwise (fun a b _ _ h1 h2 => Int.le_antisymm h1 h2) hs h2

theorem sorted_sound {i : Nat} {x : Value} {ws : List V} {ns : List Int} (hi : σ[i]? = some (.lst ws)) (hn : intsOf ws = some ns) (hz : ns.length < 64) (S : SRel W σ β s.heap) (L : LRel W env ρ β s.heap) (r : VRel W β s.heap (.ref i) x) :
    EvE W A env ρ β s (call (.builtin "sorted") [x]) (.ref σ.length) (σ ++ [.lst ((sortI ns).map .int)]) := by
  cases r with
  | ref ea =>
    obtain ⟨xa, na, ha, qa⟩ := S.lst hi ea
    obtain ⟨hI, rfl⟩ := ints_of hn qa
    have hl : xa.toList.toArray = xa := by simp
    refine sorted_ints (vs := xa.toList) (by rw [hl]; exact ⟨_, ha, rfl, _, rfl⟩) hI (by rw [IntsAre.length hI]; exact hz) fun out ns' a1 a2 a3 => ?_
    obtain ⟨e, he⟩ := sortedAll_at s.heap xa.toList out
    have hk : ∀ b o, s.heap.get? b = some o → (sortedAll s.heap xa.toList out).get? b = some o := fun _ _ => sortedAll_old
    have hs' := sort_unique a2 a3
    subst hs'
    have rr : ∀ β' h'', VRels W β' h'' ((sortI ns).map .int) out.toList := fun β' h'' => ints_rels (s := { s with heap := h'' }) a1
    revert he hk
    generalize sortedAll s.heap xa.toList out = H
    intro he hk
    have he' : H.get? (s.heap.objs.size + 1) = some (lstO out e) := he
    have d : Done W [] β s (σ ++ [.lst ((sortI ns).map .int)]) (β ++ [s.heap.objs.size + 1]) { s with heap := H, toks := s.toks } := new_list_done S (Nat.le_succ _) hk he' (rr _ _) s.toks
    refine ⟨_, d.weak (by simp), d.lrel L, .ref ?_⟩
    rw [← S.len]; simp
end
end
section
noncomputable def Off (env : Env) (β : List Addr) (r : Addr) : Prop := r ∉ β ∧ r ∉ foot env

section
variable {W : Wd} {T : Tab} {A : Around} {env : Env} {Γ : Scope} {ρ : Rho} {σ : Store} {β : List Addr} {s : Shared} {n : Nat} {C : Cfg} {I : Itp}

theorem LRel.locals_lt (L : LRel W env ρ β s.heap) : env.locals < s.heap.objs.size := by
  obtain ⟨m, hn, _⟩ := L.ns
  exact hn.lt
theorem off_size (S : SRel W σ β s.heap) (L : LRel W env ρ β s.heap) : Off env β s.heap.objs.size := by
  refine ⟨not_mem_size S, fun q => ?_⟩
  rcases List.mem_cons.mp q with q | q
  · exact absurd L.locals_lt (by rw [← q]; exact Nat.lt_irrefl _)
  · obtain ⟨p, hp, e⟩ := List.mem_map.mp q
    obtain ⟨_, _, _, y, o, ho, _⟩ := L.cfresh p hp
    exact absurd (Heap.lt_size ho) (by rw [e]; exact Nat.lt_irrefl _)
theorem Off.ext {X β' : List Addr} {h' : Heap} {r : Addr} {o : Obj} (h : Off env β r) (E : Ext X β s.heap β' h') (ho : s.heap.get? r = some o) : Off env β' r := ⟨E.notMem h.1 ho, h.2⟩

noncomputable def RangePost (W : Wd) (env : Env) (ρ : Rho) (β : List Addr) (s : Shared) (ns : List Int) (σ' : Store) (x : Value) (s' : Shared) : Prop :=
  ∃ β' r a b t u v, x = .ref r ∧ IsRange s'.heap r a b 1 t u v ∧ 0 ≤ a ∧ a ≤ 1000 ∧ -(2 ^ 62) ≤ b ∧ b ≤ 1000 ∧ ns = (List.range (b - a).toNat).map (fun (i : Nat) => a + (i : Int)) ∧ Done W [env.locals] β s σ' β' s' ∧ LRel W env ρ β' s'.heap ∧ Off env β' r

theorem range_made {a b : Int} {t u v : Tok} {k : Nat} (S : SRel W σ β s.heap) (L : LRel W env ρ β s.heap) (h1 : 0 ≤ a) (h2 : a ≤ 1000) (h3 : -(2 ^ 62) ≤ b) (h4 : b ≤ 1000) {ns : List Int} (hn : ns = (List.range (b - a).toNat).map (fun (i : Nat) => a + (i : Int))) :
    RangePost W env ρ β s ns σ (.ref s.heap.objs.size) { s with heap := s.heap.push { cls := .type "range", data := .fields #[.int a t, .int b u, .int 1 v] }, toks := k } := by
  have d : Done W [] β s σ β { s with heap := s.heap.push { cls := .type "range", data := .fields #[.int a t, .int b u, .int 1 v] }, toks := k } := Done.push S _ _
  exact ⟨β, _, a, b, t, u, v, rfl, IsRange.new .., h1, h2, h3, h4, hn, d.weak (by simp), d.lrel L, off_size S L⟩

theorem ints_map : ∀ {vs : List V} {ns : List Int}, intsOf vs = some ns → vs = ns.map .int
  | [], ns, e => by cases e; rfl
  | v :: r, ns, e => by
    cases v with
    | int i =>
      obtain ⟨is, h, e⟩ := bind_some (show (intsOf r).bind (fun ns => some (i :: ns)) = some ns from e)
      cases e
      exact congrArg (V.int i :: ·) (ints_map h)
    | _ => exact oN e
theorem range_inv {iter : Expr} {ns : List Int} {σ' : Store} {G : Expr → List Int → Store → Prop} (e : rangeOf I Γ ρ σ iter = some (ns, σ'))
    (k1 : ∀ fp args pos k σ₁, (Γ.names.lookup ("range" : Str) = some .globalImplicit ∧ args.all notStar = true) → evs I Γ ρ σ args = some ([.int k], σ₁) → (-(2 ^ 62) ≤ k ∧ k ≤ maxLen) → G (.Call (.Name "range" fp) args [] pos) ((List.range k.toNat).map fun (i : Nat) => (i : Int)) σ₁)
    (k2 : ∀ fp args pos a b σ₁, (Γ.names.lookup ("range" : Str) = some .globalImplicit ∧ args.all notStar = true) → evs I Γ ρ σ args = some ([.int a, .int b], σ₁) → (0 ≤ a ∧ a ≤ maxLen ∧ -(2 ^ 62) ≤ b ∧ b ≤ maxLen) → G (.Call (.Name "range" fp) args [] pos) ((List.range (b - a).toNat).map fun (i : Nat) => a + (i : Int)) σ₁) : G iter ns σ' := by
  cases iter with
  | Call fn args kws pos =>
    cases fn with
    | Name f fp =>
      cases kws with
      | cons _ _ => exact oN e
      | nil =>
        refine obI e fun hc e' => ?_
        clear e
        obtain ⟨rfl, hc⟩ := hc
        replace k1 := k1 fp args pos
        replace k2 := k2 fp args pos
        refine ob2 e' fun vs σ₁ e1 e => ?_
        clear e'
        refine ob1 e fun is hi e' => ?_
        clear e
        obtain rfl := ints_map hi
        clear hi
        rcases is with _ | ⟨a, _ | ⟨b, _ | _⟩⟩
        · exact oN e'
        · exact obI e' fun hz e => oR2 e (k1 a σ₁ hc e1 hz)
        · exact obI e' fun hz e => oR2 e (k2 a b σ₁ hc e1 hz)
        · exact oN e'
    | _ => exact oN e
  | _ => exact oN e
theorem RangePost.after {ns : List Int} {σ₁ σ' : Store} {β₁ : List Addr} {s₁ s₂ : Shared} {x : Value} (q : RangePost W env ρ β₁ s₁ ns σ' x s₂) (d₁ : Done W [env.locals] β s σ₁ β₁ s₁) : RangePost W env ρ β s ns σ' x s₂ := by
  obtain ⟨β₂, r, a, b, t, u, v, q1, q2, q3, q4, q5, q6, q7, d₂, L₂, o⟩ := q
  exact ⟨β₂, r, a, b, t, u, v, q1, q2, q3, q4, q5, q6, q7, d₁.trans d₂, L₂, o⟩
theorem range_call (hI : Sound W n I) (G : WOK W T) (hA : AOk n A) (O : EnvOK Γ env) {fp pos : Pos} {args : List Expr} {vs : List V} {σ₁ : Store} {Q : Value → Shared → Prop} (hc : Γ.names.lookup ("range" : Str) = some .globalImplicit ∧ args.all notStar = true) (e1 : evs I Γ ρ σ args = some (vs, σ₁)) (S : SRel W σ β s.heap) (L : LRel W env ρ β s.heap)
    (h : ∀ xs s₁ β₁, Done W [env.locals] β s σ₁ β₁ s₁ → LRel W env ρ β₁ s₁.heap → VRels W β₁ s₁.heap vs xs → wpAny (MM W) A (call (.type "range") xs) Q (fun _ _ => False) s₁) : wpAny (MM W) A (eval (.Call (.Name "range" fp) args [] pos) env) Q (fun _ _ => False) s :=
  wpAny_Call_Name_kw (nameBuiltin G O S hc.1 (by decide) (G.nob _ (by decide)) G.birange (sound_callWith hI hA O hc.2 e1 S L (fun h _ => keeps_type h) fun xs s₁ ⟨β₁, d₁, L₁, r₁⟩ => h xs s₁ β₁ d₁ L₁ r₁))
theorem range_sound (hI : Sound W n I) (G : WOK W T) {iter : Expr} {ns : List Int} {σ' : Store} (e : rangeOf I Γ ρ σ iter = some (ns, σ')) (hA : AOk n A) (O : EnvOK Γ env) (S : SRel W σ β s.heap) (L : LRel W env ρ β s.heap) :
    wpAny (MM W) A (eval iter env) (RangePost W env ρ β s ns σ') (fun _ _ => False) s := by
  have hml : (maxLen : Int) = 1000 := rfl
  refine range_inv (G := fun iter ns σ' => wpAny (MM W) A (eval iter env) (RangePost W env ρ β s ns σ') (fun _ _ => False) s) e ?_ ?_
  · refine fun fp args pos k σ₁ hc e1 hz => range_call hI G hA O hc e1 S L fun xs s₁ β₁ d₁ L₁ r₁ => ?_
    obtain ⟨x, rfl, rx⟩ := VRels.one r₁
    obtain ⟨t, rfl⟩ := rx.int_inv
    refine call_range_1 (RangePost.after (range_made d₁.rel L₁ (by decide) (by decide) hz.1 (by lia) ?_) d₁)
    rw [Int.sub_zero]
    exact List.map_congr_left fun i _ => by lia
  · refine fun fp args pos a b σ₁ hc e1 hz => range_call hI G hA O hc e1 S L fun xs s₁ β₁ d₁ L₁ r₁ => ?_
    obtain _ | ⟨ra, rb⟩ := r₁
    obtain ⟨y, rfl, ry⟩ := VRels.one rb
    obtain ⟨t, rfl⟩ := ra.int_inv
    obtain ⟨u, rfl⟩ := ry.int_inv
    exact call_range_2 (RangePost.after (range_made d₁.rel L₁ hz.1 (by lia) hz.2.2.1 (by lia) rfl) d₁)

theorem range_size {a b : Int} : Builtin.Range.rangeSize a b 1 = ((b - a).toNat : Int) := by
  rw [rangeSize_one]; split <;> lia

theorem rels_of_get {vs : List V} {xs : List Value} (hl : xs.length = vs.length) (h : ∀ (j : Nat) v x, vs[j]? = some v → xs[j]? = some x → VRel W β s.heap v x) : VRels W β s.heap vs xs := by
  induction vs generalizing xs with
  | nil => cases xs with
    | nil => exact .nil
    | cons _ _ => cases hl
  | cons v vs ih =>
    cases xs with
    | nil => cases hl
    | cons x xs => exact .cons (h 0 v x rfl rfl) (ih (by simpa using hl) fun j v x e1 e2 => h (j + 1) v x (by simpa using e1) (by simpa using e2))

theorem listrange_sound {x : Value} {s₁ : Shared} {ns : List Int} {σ' : Store} (hA : AOk n A) (p : RangePost W env ρ β s ns σ' x s₁) :
    wpAny (MM W) A (call (.type "list") [x]) (PostE W env ρ β s (.ref σ'.length) (σ' ++ [.lst (ns.map .int)])) (fun _ _ => False) s₁ := by
  obtain ⟨β', r, a, b, t, u, v, rfl, hr, h1, h2, h3, h4, rfl, d, L, o⟩ := p
  refine call_list_range hA.handled hr (small_one (by lia) (by lia) (by lia) (by lia)) range_size (by lia) fun h' tk acc c hk hD hacc => ?_
  have rr : VRels W (β' ++ [s₁.heap.objs.size]) h' (((List.range (b - a).toNat).map (fun (i : Nat) => a + (i : Int))).map .int) acc.toList := by
    refine rels_of_get (s := { s with heap := h' }) (by simp [hacc.1]) fun j v x e1 e2 => ?_
    have hx : acc[j]? = some x := by simpa using e2
    obtain ⟨tk, rfl⟩ := hacc.2 j x hx
    have hj : j < (b - a).toNat := by
      have := (Array.getElem?_eq_some_iff.mp hx).1
      rw [hacc.1] at this; exact this
    rw [List.getElem?_map, List.getElem?_map, List.getElem?_range hj] at e1
    cases e1
    rw [Int.mul_one]
    exact .int _ _
  have d₂ := new_list_done d.rel (Nat.le_refl _) hk hD rr tk
  exact ⟨_, d.trans (d₂.weak (by simp)), d₂.lrel L, d.rel.newRef⟩

theorem sound_emptydict {p : Pos} {v : V} {σ' : Store} (e : stepE C I Γ ρ σ (.Dict [] [] p) = some (v, σ')) (S : SRel W σ β s.heap) (L : LRel W env ρ β s.heap) : EvE W A env ρ β s (eval (.Dict [] [] p) env) v σ' := by
  (first | exact oN e | refine oR3 e ?_ | refine oR2 e ?_ | cases e)
  refine wpAny_Dict_empty ?_
  obtain ⟨o, ho, hd⟩ := Heap.dictOf_iff.mp (Heap.DictOf.new (knd := intKind W.prog W.w) s.heap)
  rw [Heap.get?_push_size _ rfl] at ho
  cases ho
  have d : Done W [] β s (σ ++ [.dct []]) (β ++ [s.heap.objs.size]) { s with heap := s.heap.push { cls := .type "dict", data := .dict #[] }, toks := s.toks } := Done.alloc (o := .dct []) S rfl ⟨[], hd, .nil⟩ _
  exact d.fin L S.newRef

theorem debug_of {f : Str} (h : isBuiltin f = true) : (f == ("__debug__" : Str)) = false := by
  unfold isBuiltin at h
  cases q : (f == ("__debug__" : Str)) with
  | false => rfl
  | true => rw [eq_of_beq q] at h; exact absurd h (by decide)

theorem callN_inv {f : Str} {args : List Expr} {v : V} {σ' : Store} {G : List Expr → V → Store → Prop} (e : callN C I Γ ρ σ f args = some (v, σ'))
    (k1 : ∀ vs σ₁, (Γ.names.lookup f = some .globalImplicit ∧ args.all notStar = true ∧ args.length ≤ 20) → isBuiltin f = true → f = "len" → evs I Γ ρ σ args = some (vs, σ₁) → builtinV f vs σ₁ = some (v, σ') → G args v σ')
    (k2 : ∀ a ns σ₁, (Γ.names.lookup f = some .globalImplicit ∧ [a].all notStar = true ∧ [a].length ≤ 20) → isBuiltin f = true → f = "list" → rangeOf I Γ ρ σ a = some (ns, σ₁) → G [a] (.ref σ₁.length) (σ₁ ++ [.lst (ns.map .int)]))
    (k3 : ∀ a i xs σ₁, (Γ.names.lookup f = some .globalImplicit ∧ [a].all notStar = true ∧ [a].length ≤ 20) → isBuiltin f = true → f = "list" → I.e Γ ρ σ a = some (.ref i, σ₁) → σ₁[i]? = some (.lst xs) → xs.length ≤ maxLen → G [a] (.ref σ₁.length) (σ₁ ++ [.lst xs]))
    (k4 : ∀ a i xs ns σ₁, (Γ.names.lookup f = some .globalImplicit ∧ [a].all notStar = true ∧ [a].length ≤ 20) → isBuiltin f = true → f = "sorted" → I.e Γ ρ σ a = some (.ref i, σ₁) → σ₁[i]? = some (.lst xs) → intsOf xs = some ns → ns.length < 64 → G [a] (.ref σ₁.length) (σ₁ ++ [.lst ((sortI ns).map .int)]))
    (k5 : ∀ vs σ₁, (Γ.names.lookup f = some .globalImplicit ∧ args.all notStar = true ∧ args.length ≤ 20) → evs I Γ ρ σ args = some (vs, σ₁) → C.Φ (.glob f) vs σ₁ = some (v, σ') → G args v σ') : G args v σ' := by
  refine obI e fun hc e' => ?_
  clear e
  by_cases hb : isBuiltin f = true
  · have e := (if_pos hb).symm.trans e'
    clear e' k5
    by_cases h1 : f = "len"
    · exact ob2 ((if_pos h1).symm.trans e) fun vs σ₁ e1 e => k1 vs σ₁ hc hb h1 e1 e
    have e' := (if_neg h1).symm.trans e
    clear e h1 k1
    by_cases h1 : f = "list"
    · have e := (if_pos h1).symm.trans e'
      clear e' k4
      rcases args with _ | ⟨a, _ | _⟩
      · exact oN e
      · by_cases hr : isRange a = true
        · exact ob2 ((if_pos hr).symm.trans e) fun ns σ₁ e1 e => oR2 e (k2 a ns σ₁ hc hb h1 e1)
        · refine ob2 ((if_neg hr).symm.trans e) fun b σ₁ e1 e => ?_
          cases b with
          | ref i => exact oL e fun xs hi e => obI e fun hz e => oR2 e (k3 a i xs σ₁ hc hb h1 e1 hi hz)
          | _ => exact oN e
      · exact oN e
    · refine obI ((if_neg h1).symm.trans e') fun h2 e => ?_
      clear e' h1 k2 k3
      rcases args with _ | ⟨a, _ | _⟩
      · exact oN e
      · refine ob2 e fun b σ₁ e1 e => ?_
        cases b with
        | ref i => exact oL e fun xs hi e => ob1 e fun ns hn e => obI e fun hz e => oR2 e (k4 a i xs ns σ₁ hc hb h2 e1 hi hn hz)
        | _ => exact oN e
      · exact oN e
  · exact ob2 ((if_neg hb).symm.trans e') fun vs σ₁ e1 e => k5 vs σ₁ hc e1 e
theorem evs_ref {a : Expr} {i : Nat} {σ₁ : Store} (e1 : I.e Γ ρ σ a = some (.ref i, σ₁)) : evs I Γ ρ σ [a] = some ([.ref i], σ₁) := by unfold evs; rw [e1]; rfl
theorem sound_callN (hI : Sound W n I) (G : WOK W T) (F : SoundF W n C) {f : Str} {fp pos : Pos} {args : List Expr} {v : V} {σ' : Store} (e : callN C I Γ ρ σ f args = some (v, σ')) (hd : (f == ("__debug__" : Str)) = false) (hA : AOk n A) (O : EnvOK Γ env) (S : SRel W σ β s.heap) (L : LRel W env ρ β s.heap) :
    EvE W A env ρ β s (eval (.Call (.Name f fp) args [] pos) env) v σ' := by
  refine callN_inv (G := fun args v σ' => EvE W A env ρ β s (eval (.Call (.Name f fp) args [] pos) env) v σ') e ?_ ?_ ?_ ?_ ?_
  · rintro vs σ₁ hc hb rfl e1 e
    exact wpAny_Call_Name_kw (nameBuiltin G O S hc.1 hd (G.nob _ hb) G.bilen (sound_callWith hI hA O hc.2.1 e1 S L (fun h _ => keeps_builtin h) fun xs s₁ p => EvE.args p fun β₁ S₁ L₁ r₁ => len_sound e S₁ L₁ r₁))
  · rintro a ns σ₁ hc hb rfl e1
    have hs1 : notStar a = true := by simpa using hc.2.1
    refine wpAny_Call_Name_kw (nameBuiltin G O S hc.1 hd (G.nob _ hb) G.bilist (callWith_of (P := fun _ => True) (by rw [starEach_plain (by simpa using hs1)]; rfl) (fun h _ => keeps_type h) ?_))
    rw [starEach_cons hs1]
    exact Calls.evalArgs_plain (Calls.spliced_cons (wpAny_mono (range_sound hI G e1 hA O S L) (fun x s₁ p => Calls.spliced_nil ⟨trivial, listrange_sound hA p⟩) fun _ _ q => q))
  · rintro a i xs σ₁ hc hb rfl e1 hi hz
    refine wpAny_Call_Name_kw (nameBuiltin G O S hc.1 hd (G.nob _ hb) G.bilist (sound_callWith hI hA O hc.2.1 (evs_ref e1) S L (fun h _ => keeps_type h) fun ys s₁ p => EvE.args p fun β₁ S₁ L₁ r₁ => ?_))
    obtain ⟨y, rfl, ry⟩ := VRels.one r₁
    exact listcopy_sound hi hz S₁ L₁ ry
  · rintro a i xs ns σ₁ hc hb rfl e1 hi hn hz
    refine wpAny_Call_Name_kw (nameBuiltin G O S hc.1 hd (G.nob _ hb) G.bisorted (sound_callWith hI hA O hc.2.1 (evs_ref e1) S L (fun h _ => keeps_builtin h) fun ys s₁ p => EvE.args p fun β₁ S₁ L₁ r₁ => ?_))
    obtain ⟨y, rfl, ry⟩ := VRels.one r₁
    exact sorted_sound hi hn hz S₁ L₁ ry
  · intro vs σ₁ hc e1 e
    obtain ⟨callee, hv, hk, ok⟩ := F.glob e
    refine wpAny_Call_Name_kw (nameGlobal G O S hc.1 hd hv (sound_callWith hI hA O hc.2.1 e1 S L (fun h k => keeps_K hk h (G.inK.keeps k)) fun xs s₁ p => EvE.args p fun β₁ S₁ L₁ r₁ => ?_))
    exact wpAny_mono (ok hA L₁.h0_le S₁ r₁) (fun x s₂ ⟨β₂, d₂, r₂⟩ => d₂.fin L₁ r₂) fun _ _ q => q
end
end
section
section
variable {W : Wd} {T : Tab} {A : Around} {env : Env} {Γ : Scope} {ρ : Rho} {σ : Store} {β : List Addr} {s : Shared} {n : Nat} {C : Cfg} {I : Itp}

theorem call_method {o : Expr} {name : Str} {ap p : Pos} {args : List Expr} {Q : Value → Shared → Prop} (hb : plainBase o = true) (hs : args.all notStar = true) (hl : args.length ≤ 20) (hline : (ap.endLine == p.line) = true)
    (h : wpAny (MM W) A (eval o env) (fun ov s₁ => ∀ pl, wpAny (MM W) A (getMethod ov name pl) (fun q s₂ => wpAny (MM W) A (callWith p q.1 q.2 (backTo p (starEach args env)) []) Q (fun _ _ => False) s₂) (fun _ _ => False) s₁) (fun _ _ => False) s) :
    wpAny (MM W) A (eval (.Call (.Attribute o name ap) args [] p) env) Q (fun _ _ => False) s := by
  show wpAny _ _ (do
    let ov ← attributeBase o name env (eval o env)
    standAt ap.atName
    methodCall o name ap p env ov (args.length + 0) (backTo p (starEach args env)) (backToKw p (keywordEach [] env))) _ _ _
  rw [attrBase_plain hb]
  refine wpAny_bind (wpAny_mono h (fun ov s₁ h₁ => wpAny_bind (wpAny_standAt ?_)) fun _ _ q => q)
  have hall : (backTo p (starEach args env)).all (fun x => !x.1) = true := by
    have q := starEach_plain (env := env) (pos := p) hs
    rw [List.any_eq_false] at q
    rw [List.all_eq_true]
    intro x hx
    have := q x hx
    simpa using this
  have hfew : methodCallForm (args.length + 0) (backTo p (starEach args env)) (backToKw p (keywordEach [] env)) = true := by
    unfold methodCallForm
    have : (backToKw p (keywordEach [] env)) = [] := rfl
    rw [this, hall]
    simp
    lia
  have hpos : methodCallPos true o env ap p = pure p := by unfold methodCallPos; simp [hline]
  unfold methodCall
  rw [hfew, hpos]
  unfold calleeOf
  refine wpAny_bind (wpAny_holding (wpAny_mono (h₁ _) (fun q s₂ h₂ => ?_) fun _ _ q => q))
  exact wpAny_bind (wpAny_pure h₂)

theorem FRel.none {name : Str} : ∀ {fs : List (Str × V)} {es : List DictEntry}, FRel W β s.heap fs es → fs.lookup name = none → getL name es = some none
  | _, _, .nil, _ => rfl
  | _, _, .cons (n := m) (v := w) (e := en) ⟨t, hk⟩ r q, e => by
    rw [List.lookup_cons] at e
    unfold getL
    rw [List.find?_cons, List.any_cons]
    have hks : en.key.isStr name = (m == name) := by rw [hk]; rfl
    have hrk : en.refKey = false := by unfold DictEntry.refKey; rw [hk]
    rw [hks, hrk]
    cases hq : (name == m) with
    | true => rw [hq] at e; (first | exact oN e | refine oR3 e ?_ | refine oR2 e ?_ | cases e)
    | false =>
      rw [hq] at e
      have hmn : (m == name) = false := by
        cases h : (m == name) with
        | false => rfl
        | true => rw [eq_of_beq h, beq_self_eq_true] at hq; cases hq
      rw [hmn]
      have := FRel.none q e
      unfold getL at this
      simpa using this

theorem findIdx_S {x : Str} : ∀ {ys : List V} {xs : List Value} {j : Nat}, VRels W β s.heap ys xs → ys.findIdx? (isS x) = some j → ∃ hj : j < xs.length, eS x xs[j] = true ∧ ∀ m (hm : m < xs.length), m < j → eS x xs[m] = false := by
  intro ys xs j r e
  rw [List.findIdx?_eq_some_iff_getElem] at e
  obtain ⟨hj, h1, h2⟩ := e
  have hl := r.length
  have at_ : ∀ m (hm : m < ys.length) (hm' : m < xs.length), eS x xs[m] = isS x ys[m] := by
    intro m hm hm'
    obtain ⟨y, hy, ry⟩ := r.get (List.getElem?_eq_getElem hm)
    rw [List.getElem?_eq_getElem hm'] at hy
    cases hy
    generalize ys[m] = w at ry ⊢
    generalize xs[m] = w' at ry ⊢
    cases ry <;> rfl
  refine ⟨by lia, by rw [at_ j hj (by lia)]; exact h1, fun m hm hmj => ?_⟩
  rw [at_ m (by lia) hm]
  have := h2 m hmj
  simpa using this

theorem tuple_index_sound {ys : List V} {x : Value} {z : Str} {y : Value} {j : Nat} (hall : ys.all isStr = true) (hz : ys.length ≤ maxLen) (hj : ys.findIdx? (isS z) = some j) (S : SRel W σ β s.heap) (L : LRel W env ρ β s.heap) (r : VRel W β s.heap (.tup ys) x) (rz : VRel W β s.heap (.str z) y) :
    EvE W A env ρ β s (call (.builtin "tuple.index") [x, y]) (.int j) σ := by
  cases r with
  | @tup _ a xs m ha rs =>
    cases rz with
    | str _ t =>
      obtain ⟨h1, h2, h3⟩ := findIdx_S rs hj
      have hpl : plainId "tuple.index" = true := F.slot_tuple_index.plain
      refine wpAny_call (codeAny_call_builtin hpl F.entry_tuple_index (F.slot_tuple_index.check (MM W) _ _ _ _ _ _ _ ⟨_, ha, rfl⟩ (F.args_tuple_index_2 _ _) ?_))
      have he : ∀ y ∈ xs, ∀ s', SeqAt.EqAt A.in1 s' y (.str z t) (eS z y) := fun y hy s' => (any_eS (i := z) rs hall).2 y (by simpa using hy) s' t
      exact tuple_index_loop he j (by simpa using h1) (by simpa using h2) (fun m hm hmj => by have q := h3 m (by simpa using hm) hmj; rwa [Array.getElem_toList] at q) ha ((Done.same S _).fin L (.int _ _))

theorem method_sound (G : WOK W T) (hCa : C.attr = T.attr) (S : SRel W σ β s.heap) (L : LRel W env ρ β s.heap) {v : V} {x : Value} {Cl : Addr} {d : Nat} {fs : List (Str × V)} {name : Str} {f : Addr} {pl : Sem Bool} (e : instOf σ v = some (Cl, d, fs)) (hn : fs.lookup name = none) (r : VRel W β s.heap v x)
    (hg : plainGet W.K Cl name = true) (hf : findIn W.K (.ref Cl) name = some (some (.ref f))) (ht : isFn W.K (.ref f) = true) {Q : Value × List Value → Shared → Prop} (h : Q (.ref f, [x]) s) : wpAny (MM W) A (getMethod x name pl) Q (fun _ _ => False) s := by
  revert h
  refine inst_at S e r fun i a dx es k ea hi hd hdx ha' hd' rf h0 h => ?_
  obtain ⟨m, F, _⟩ := L.fr S
  exact method_inst F G.inK (ox := instObj Cl dx) ⟨ha', rfl, rfl, hd'⟩ hg hf ht (FRel.none rf hn) h

theorem callM_inv {o : Expr} {name : Str} {args : List Expr} {v : V} {σ' : Store} {G : List Expr → V → Store → Prop} (e : callM C I Γ ρ σ o name args = some (v, σ'))
    (k1 : ∀ a σ₁ Cl d fs vs σ₂, (plainBase o = true ∧ args.all notStar = true ∧ args.length ≤ 20) → I.e Γ ρ σ o = some (a, σ₁) → instOf σ₁ a = some (Cl, d, fs) → (C.meth Cl name = true ∧ fs.lookup name = none) → evs I Γ ρ σ₁ args = some (vs, σ₂) → C.Φ (.meth Cl name) (a :: vs) σ₂ = some (v, σ') → G args v σ')
    (k2 : ∀ a σ₁ vs σ₂, (plainBase o = true ∧ args.all notStar = true ∧ args.length ≤ 20) → I.e Γ ρ σ o = some (a, σ₁) → evs I Γ ρ σ₁ args = some (vs, σ₂) → (∀ i, a = .ref i → kindO σ₁[i]? = kindO σ₂[i]?) → methV σ₂ a name vs = some (v, σ') → G args v σ')
    (k3 : ∀ ys σ₁ b z j σ₂, (plainBase o = true ∧ [b].all notStar = true ∧ [b].length ≤ 20) → I.e Γ ρ σ o = some (.tup ys, σ₁) → name = "index" → I.e Γ ρ σ₁ b = some (.str z, σ₂) → (ys.all isStr = true ∧ ys.length ≤ maxLen) → ys.findIdx? (isS z) = some j → G [b] (.int j) σ₂) : G args v σ' := by
  refine obI e fun hc e => ob2 e fun a σ₁ e1 e => ?_
  change callI C I Γ ρ (a, σ₁) name args (instOf σ₁ a) = some (v, σ') at e
  have k2 := k2 a σ₁
  have k1 := k1 a σ₁
  revert e k1
  generalize instOf σ₁ a = q
  intro e k1
  cases q with
  | some q => exact obI e fun hm e => ob2 e fun vs σ₂ e2 e => k1 q.1 q.2.1 q.2.2 vs σ₂ hc e1 rfl hm e2 e
  | none =>
    clear k1
    revert e e1 k2
    cases a with
    | ref i => exact fun e1 k2 e => ob2 e fun vs σ₂ e2 e => obI e fun hk e => k2 vs σ₂ hc e1 e2 (fun j hj => by cases hj; exact hk) e
    | str z => exact fun e1 k2 e => ob2 e fun vs σ₂ e2 e => k2 vs σ₂ hc e1 e2 (fun j hj => nomatch hj) e
    | tup ys =>
      refine fun e1 _ e => obI e fun hn e' => ?_
      clear e
      revert hc e'
      cases args with
      | nil => exact fun _ e => nomatch e
      | cons b r =>
        cases r with
        | cons _ _ => exact fun _ e => nomatch e
        | nil =>
          refine fun hc e => ob2 e fun w σ₂ e2 e => ?_
          cases w with
          | str z => exact obI e fun hz e => oM2 e fun j hj => k3 ys σ₁ b z j σ₂ hc e1 hn e2 hz hj
          | _ => exact nomatch e
    | _ => exact fun _ _ e => nomatch e

theorem tuple_typeIs {ys : List V} {x : Value} (r : VRel W β s.heap (.tup ys) x) : s.TypeIs x "tuple" ∧ ∀ a, x = .ref a → ∃ o, s.heap.get? a = some o ∧ o.dict = none := by
  cases r with
  | tup ha _ => exact ⟨⟨_, ha, rfl⟩, fun _ e => by (first | exact oN e | refine oR3 e ?_ | refine oR2 e ?_ | cases e); exact ⟨_, ha, rfl⟩⟩
theorem sound_callM (hI : Sound W n I) (G : WOK W T) (hCa : C.attr = T.attr) (Fd : SoundF W n C) {o : Expr} {name : Str} {ap p : Pos} {args : List Expr} {v : V} {σ' : Store} (e : callM C I Γ ρ σ o name args = some (v, σ')) (hline : (ap.endLine == p.line) = true) (hA : AOk n A) (O : EnvOK Γ env) (S : SRel W σ β s.heap) (L : LRel W env ρ β s.heap) :
    EvE W A env ρ β s (eval (.Call (.Attribute o name ap) args [] p) env) v σ' := by
  refine callM_inv (G := fun args v σ' => EvE W A env ρ β s (eval (.Call (.Attribute o name ap) args [] p) env) v σ') e ?_ ?_ ?_
  · intro a σ₁ Cl d fs vs σ₂ hc e1 hio hm e2 e
    refine call_method hc.1 hc.2.1 hc.2.2 hline (EvE.then (hI.e e1 hA O S L) fun x s₁ β₁ d₁ L₁ r₁ pl => ?_)
    obtain ⟨f, g1, g2, g3, g4, ok⟩ := Fd.meth hm.1 e
    refine method_sound G hCa d₁.rel L₁ hio hm.2 r₁ g1 g2 g3 ?_
    refine sound_callWith hI hA O hc.2.1 e2 d₁.rel L₁ (fun h k => keeps_K g4 h (G.inK.keeps k)) fun xs s₂ ⟨β₂, d₂, L₂, r₂⟩ => ?_
    exact wpAny_mono (ok hA L₂.h0_le d₂.rel (.cons (d₂.vrel r₁) r₂)) (fun y s₃ ⟨β₃, d₃, r₃⟩ => (d₃.fin L₂ r₃).after (d₁.trans d₂)) fun _ _ q => q
  · intro a σ₁ vs σ₂ hc e1 e2 hk e3
    obtain ⟨id, hg, hw⟩ := methV_sound (W := W) (A := A) e3 hk
    refine call_method hc.1 hc.2.1 hc.2.2 hline (EvE.then (hI.e e1 hA O S L) fun x s₁ β₁ d₁ L₁ r₁ pl => ?_)
    refine hg d₁.rel r₁ ?_
    refine sound_callWith hI hA O hc.2.1 e2 d₁.rel L₁ (fun h _ => keeps_builtin h) fun xs s₂ ⟨β₂, d₂, L₂, r₂⟩ => ?_
    exact wpAny_mono (hw d₂.rel L₂ (d₂.vrel r₁) r₂) (fun y s₃ q => q.after (d₁.trans d₂)) fun _ _ q => q
  · rintro ys σ₁ b z j σ₂ hc e1 rfl e2 hz hj
    refine call_method hc.1 hc.2.1 hc.2.2 hline (EvE.then (hI.e e1 hA O S L) fun x s₁ β₁ d₁ L₁ r₁ pl => ?_)
    refine getMethod_builtin (tuple_typeIs r₁).1 F.plainAttrs_tuple F.slot_tuple_index F.type_tuple_index (tuple_typeIs r₁).2 ?_
    refine sound_callWith hI hA O hc.2.1 (vs := [.str z]) (σ' := σ₂) (by unfold evs; rw [e2]; rfl) d₁.rel L₁ (fun h _ => keeps_builtin h) fun xs s₂ ⟨β₂, d₂, L₂, r₂⟩ => ?_
    obtain ⟨y, rfl, ry⟩ := VRels.one r₂
    exact wpAny_mono (tuple_index_sound hz.1 hz.2 hj d₂.rel L₂ (d₂.vrel r₁) ry) (fun y s₃ q => q.after (d₁.trans d₂)) fun _ _ q => q
end
end
section
section
variable {W : Wd} {T : Tab} {A : Around} {env : Env} {Γ : Scope} {ρ : Rho} {σ : Store} {β : List Addr} {s : Shared} {n : Nat} {C : Cfg} {I : Itp}

noncomputable def PostA (W : Wd) (env : Env) (ρ' : Rho) (β : List Addr) (s : Shared) (σ' : Store) (s' : Shared) : Prop := ∃ β', Done W (foot env) β s σ' β' s' ∧ LRel W env ρ' β' s'.heap
theorem PostA.after {ρ' : Rho} {σ₁ σ' : Store} {s₁ s' : Shared} {β₁ : List Addr} {X : List Addr} (d : Done W X β s σ₁ β₁ s₁) (hX : ∀ x ∈ X, x ∈ foot env) (p : PostA W env ρ' β₁ s₁ σ' s') : PostA W env ρ' β s σ' s' := by
  obtain ⟨β', d', L⟩ := p
  exact ⟨β', (d.weak hX).trans d', L⟩
theorem foot_l : ∀ x ∈ [env.locals], x ∈ foot env := fun x hx => by rw [List.mem_singleton] at hx; subst hx; exact .head _

theorem kind_hp (O : EnvOK Γ env) : (env.scope.kind == .class || (env.scope.kind == .module && env.locals != env.globals)) = false := by
  have hk : env.scope.kind = .function := by rw [O.scope]; exact O.kind
  rw [hk]; rfl

theorem frame_not {c : Addr} {y : Option Value} {o : Obj} {xs : Array Value} {k : Nat} (h : o.data = .cell y) (e : o = tupO xs k) : False := by subst e; (first | exact oN h | refine oR3 h ?_ | refine oR2 h ?_ | cases h)

theorem foot_done {h' : Heap} {c : Addr} {ob : Obj} {X : List Addr} (S : SRel W σ β s.heap) (hc : c ∈ X) (hb : c ∉ β) (h0 : W.h0.get? c = none) (ho : s.heap.get? c = some ob) (hnt : ∀ xs k, ob ≠ tupO xs k) (hs : Heap.SameBut c s.heap h') (he : ∃ o', h'.get? c = some o') (tk : Nat) :
    Done W X β s σ β { s with heap := h', toks := tk } := by
  have ht : ∀ x xs k, s.heap.get? x = some (tupO xs k) → h'.get? x = some (tupO xs k) := fun x xs k e => by
    refine (hs.extBut x _ (fun q => ?_) e)
    subst q; rw [ho] at e; exact hnt _ _ (Option.some.inj e)
  have hk : ∀ b o, b ≠ c → s.heap.get? b = some o → h'.get? b = some o := fun b o hb e => hs.extBut b o hb e
  refine ⟨⟨fun _ _ e => e, fun _ p q => absurd p q, fun b o _ h2 e => hk _ _ (fun q => h2 (q ▸ hc)) e, ht, fun b o e => ?_⟩, S.other (fun b o e => hk _ _ (fun q => by rw [q, h0] at e; (first | exact oN e | refine oR3 e ?_ | refine oR2 e ?_ | cases e)) (S.keep _ _ e)) (fun a ha o e => hk _ _ (fun q => hb (q ▸ ha)) e) ht, rfl, rfl⟩
  by_cases q : b = c
  · subst q; exact he
  · exact ⟨o, hk _ _ q e⟩

theorem store_local' {x : Str} {v : V} {y : Value} {Q : Unit → Shared → Prop} (O : EnvOK Γ env) (hl : Γ.names.lookup x = some .local) (S : SRel W σ β s.heap) (L : LRel W env ρ β s.heap) (r : VRel W β s.heap v y)
    (h : ∀ s', Done W [env.locals] β s σ β s' → LRel W env (ρ.set x v) β s'.heap → Q () s') : wpAny (MM W) A (storeName env x y) Q (fun _ _ => False) s := by
  have kd : env.kindOf x = some .local := by unfold Env.kindOf; rw [O.scope]; exact hl
  obtain ⟨m, hn, hm⟩ := L.ns
  refine wpAny_storeName_local kd hn (fun h' hn' hs => ?_) (kind_hp O)
  obtain ⟨o, es, ep, ho, hd, hk, hf⟩ := id hn
  obtain ⟨o', _, _, ho', _⟩ := id hn'
  have d : Done W [env.locals] β s σ β { s with heap := h', toks := s.toks + 1 } := foot_done S (.head _) L.lfresh.1 L.lfresh.2 ho (fun xs k e => by subst e; cases hd) hs ⟨o', ho'⟩ _
  have mono : ∀ {v x}, VRel W β s.heap v x → VRel W β h' v x := fun r => r.mono (fun _ _ e => e) d.ext.tup
  have cl : ∀ {p : Str × Addr} {y}, p ∈ env.cells → s.heap.IsCell p.2 y → h'.IsCell p.2 y := fun hp ⟨o, ho, hd⟩ => ⟨o, hs.extBut _ _ (L.cfresh _ hp).2.2.1 ho, hd⟩
  refine h _ d ⟨⟨_, hn', fun z w hz hw => ?_⟩, fun z w hz hw => ?_, fun z hz => ?_, L.lfresh, fun p hp => ?_, L.cinj, L.above⟩
  · unfold Rho.set at hw
    by_cases q : z = x
    · rw [if_pos q] at hw; cases hw
      exact ⟨y, if_pos q, mono r⟩
    · (first | replace hw := (if_neg q).symm.trans hw | rw [if_neg q] at hw)
      obtain ⟨y', h1, h2⟩ := hm z w hz hw
      exact ⟨y', by rw [if_neg q]; exact h1, mono h2⟩
  · have q : z ≠ x := by rintro rfl; rw [kd] at hz; cases hz
    unfold Rho.set at hw
    (first | replace hw := (if_neg q).symm.trans hw | rw [if_neg q] at hw)
    obtain ⟨c, y', h1, h2, h3⟩ := L.cell z w hz hw
    exact ⟨c, y', h1, cl (mem_of_lookup h1) h2, mono h3⟩
  · obtain ⟨c, y', h1, h2⟩ := L.cells z hz
    exact ⟨c, y', h1, cl (mem_of_lookup h1) h2⟩
  · obtain ⟨a1, a2, a3, y', h2⟩ := L.cfresh p hp
    exact ⟨a1, a2, a3, y', cl hp h2⟩

theorem store_local {x : Str} {v : V} {y : Value} {Q : Unit → Shared → Prop} (O : EnvOK Γ env) (hl : Γ.names.lookup x = some .local) (S : SRel W σ β s.heap) (L : LRel W env ρ β s.heap) (r : VRel W β s.heap v y)
    (h : ∀ s', PostA W env (ρ.set x v) β s σ s' → Q () s') : wpAny (MM W) A (storeName env x y) Q (fun _ _ => False) s :=
  store_local' O hl S L r fun s' d L' => h s' ⟨β, d.weak foot_l, L'⟩

theorem store_cell {x : Str} {v : V} {y : Value} {Q : Unit → Shared → Prop} (O : EnvOK Γ env) (hl : Γ.names.lookup x = some .cell) (S : SRel W σ β s.heap) (L : LRel W env ρ β s.heap) (r : VRel W β s.heap v y)
    (h : ∀ s', PostA W env (ρ.set x v) β s σ s' → Q () s') : wpAny (MM W) A (storeName env x y) Q (fun _ _ => False) s := by
  have kd : env.kindOf x = some .cell := by unfold Env.kindOf; rw [O.scope]; exact hl
  have hk : env.scope.kind = .function := by rw [O.scope]; exact O.kind
  obtain ⟨c, y₀, hc, ic⟩ := L.cells x kd
  refine wpAny_storeName_cell hk kd hc ic fun h' ic' hs => h _ ?_
  obtain ⟨f1, f2, f3, _⟩ := L.cfresh _ (mem_of_lookup hc)
  obtain ⟨o, ho, hd⟩ := id ic
  obtain ⟨o', ho', _⟩ := id ic'
  have d : Done W (foot env) β s σ β { s with heap := h', toks := s.toks } := foot_done S (.tail _ (List.mem_map_of_mem (mem_of_lookup hc))) f1 f2 ho (fun xs k e => by subst e; cases hd) hs ⟨o', ho'⟩ _
  have mono : ∀ {v x}, VRel W β s.heap v x → VRel W β h' v x := fun r => r.mono (fun _ _ e => e) d.ext.tup
  obtain ⟨m, hn, hm⟩ := L.ns
  have same : ∀ {z c' y'}, env.cells.lookup z = some c' → z ≠ x → s.heap.IsCell c' y' → h'.IsCell c' y' := fun {z c' y'} e q i => i.sameBut hs fun e' => q (L.cinj z x c (e' ▸ e) hc)
  refine ⟨β, d, ⟨⟨m, hn.sameBut hs (Ne.symm f3), fun z w hz hw => ?_⟩, fun z w hz hw => ?_, fun z hz => ?_, L.lfresh, fun p hp => ?_, L.cinj, L.above⟩⟩
  · have q : z ≠ x := by rintro rfl; rw [kd] at hz; cases hz
    unfold Rho.set at hw
    (first | replace hw := (if_neg q).symm.trans hw | rw [if_neg q] at hw)
    obtain ⟨y', h1, h2⟩ := hm z w hz hw
    exact ⟨y', h1, mono h2⟩
  · unfold Rho.set at hw
    by_cases q : z = x
    · rw [if_pos q] at hw; cases hw
      subst q
      exact ⟨c, y, hc, ic', mono r⟩
    · (first | replace hw := (if_neg q).symm.trans hw | rw [if_neg q] at hw)
      obtain ⟨c', y', h1, h2, h3⟩ := L.cell z w hz hw
      exact ⟨c', y', h1, same h1 q h2, mono h3⟩
  · by_cases q : z = x
    · subst q; exact ⟨c, _, hc, ic'⟩
    · obtain ⟨c', y', h1, h2⟩ := L.cells z hz
      exact ⟨c', y', h1, same h1 q h2⟩
  · obtain ⟨a1, a2, a3, y', h2⟩ := L.cfresh p hp
    refine ⟨a1, a2, a3, ?_⟩
    by_cases q : p.2 = c
    · rw [q]; exact ⟨_, ic'⟩
    · exact ⟨y', h2.sameBut hs q⟩

theorem FRel.put {name : Str} {v : V} {y : Value} {hsh : Int} {t : Tok} (r : VRel W β s.heap v y) : ∀ {fs : List (Str × V)} {es : List DictEntry}, FRel W β s.heap fs es → FRel W β s.heap (putF name v fs) (putL name hsh (.str name t) y es)
  | _, _, .nil => .cons ⟨t, rfl⟩ r .nil
  | _, _, .cons (n := m) (v := w) (fs := fs) (e := en) (es := es) ⟨t', hk⟩ q rest => by
    unfold putF putL
    have hks : en.key.isStr name = (m == name) := by rw [hk]; rfl
    rw [hks]
    by_cases h : m = name
    · subst h
      rw [if_pos rfl, if_pos (by simp)]
      exact .cons ⟨t', hk⟩ r rest
    · rw [if_neg h, if_neg (by simpa using h)]
      exact .cons ⟨t', hk⟩ q (FRel.put r rest)
theorem FRel.length {fs : List (Str × V)} {es : List DictEntry} (r : FRel W β s.heap fs es) : es.length = fs.length := by
  induction r with
  | nil => rfl
  | cons _ _ _ ih => simp [ih]
theorem putL_length {name : Str} {hsh : Int} {k v : Value} : ∀ es : List DictEntry, (putL name hsh k v es).length ≤ es.length + 1
  | [] => Nat.le_refl _
  | e :: r => by
    unfold putL
    split
    · simp
    · have := putL_length (name := name) (hsh := hsh) (k := k) (v := v) r
      simp; lia
theorem FRel.refKey {fs : List (Str × V)} {es : List DictEntry} (r : FRel W β s.heap fs es) : es.any (·.refKey) = false := by
  induction r with
  | nil => rfl
  | cons a _ _ ih =>
    obtain ⟨t, hk⟩ := a
    rw [List.any_cons, ih]
    unfold DictEntry.refKey; rw [hk]; rfl
theorem getL_some {name : Str} {es : List DictEntry} (h : es.any (·.refKey) = false) : (getL name es).isSome = true := by
  unfold getL
  split
  · rfl
  · rw [if_neg (by rw [h]; decide)]; rfl

theorem dict_ne_tup {es : List DictEntry} {k : Nat} : ∀ xs m, dictOf es k ≠ tupO xs m := fun _ _ e => by
  have h := congrArg Obj.cls e
  injection h with h
  exact absurd h (by decide)

theorem setattr_sound (G : WOK W T) (hCa : C.attr = T.attr) (S : SRel W σ β s.heap) (L : LRel W env ρ β s.heap) {v w : V} {x y : Value} {Cl : Addr} {d : Nat} {fs : List (Str × V)} {name : Str} (e : instOf σ v = some (Cl, d, fs)) (ha : C.attr Cl name = true) (hz : fs.length ≤ 100) (r : VRel W β s.heap v x) (rw_ : VRel W β s.heap w y)
    {Q : Unit → Shared → Prop} (h : ∀ s', Done W [env.locals] β s (σ.set d (.ns (putF name w fs))) β s' → LRel W env ρ β s'.heap → Q () s') : wpAny (MM W) A (setAttr x name y) Q (fun _ _ => False) s := by
  refine inst_at S e r fun i a dx es k ea hi hd hdx ha' hd' rf h0 => ?_
  obtain ⟨m, F, hm⟩ := L.fr S
  rw [hCa] at ha
  have X := G.attr Cl name ha
  obtain ⟨u, U, hu, hk⟩ := updF_of_mem (full_nodup W env.locals s.heap) (full_at S L hdx hd')
  refine set_dict F G.inK (full_news W _ _) (ox := instObj Cl dx) ⟨ha', rfl, rfl, hd'⟩ rfl X.set X.over X.take X.dict (getL_some rf.refKey) rfl (UpdF.upd U) ?_ fun h' F' N' => ?_
  · exact Nat.le_trans (putL_length es) (by rw [rf.length]; lia)
  · obtain ⟨d₁, L₁⟩ := step_turn (o' := .ns (putF name w fs)) (s := s) S L hdx (idx_lt hd) hd' dict_ne_tup F' hm N' (hu _) (hk _) (fun ht => ⟨_, _, rfl, (FRel.put rw_ rf).mono (fun _ _ e => e) ht⟩) (s.toks + 2)
    exact h _ d₁ L₁

theorem sound_asg1 (hI : Sound W n I) (G : WOK W T) (hCa : C.attr = T.attr) {t : Expr} {v : V} {y : Value} {ρ' : Rho} {σ' : Store} (e : asg1 C I Γ ρ σ t v = some (ρ', σ')) (hA : AOk n A) (O : EnvOK Γ env) (S : SRel W σ β s.heap) (L : LRel W env ρ β s.heap) (r : VRel W β s.heap v y) :
    wpAny (MM W) A (assign t env y) (fun _ s' => PostA W env ρ' β s σ' s') (fun _ _ => False) s := by
  cases t with
  | Name x p =>
    unfold asg1 at e
    dsimp only at e
    refine wpAny_assign_Name ?_
    split at e
    · rename_i hl; (first | exact oN e | refine oR3 e ?_ | refine oR2 e ?_ | cases e); exact store_local O hl S L r fun s' q => q
    · rename_i hl; (first | exact oN e | refine oR3 e ?_ | refine oR2 e ?_ | cases e); exact store_cell O hl S L r fun s' q => q
    · (first | exact oN e | refine oR3 e ?_ | refine oR2 e ?_ | cases e)
  | Attribute o name p =>
    unfold asg1 at e
    dsimp only at e
    refine ob2 e fun a σ₁ e1 e => ?_
    refine ob3 e fun Cl d fs hi e => ?_
    dsimp only at e
    split at e
    case isFalse => (first | exact oN e | refine oR3 e ?_ | refine oR2 e ?_ | cases e)
    rename_i hc
    (first | exact oN e | refine oR3 e ?_ | refine oR2 e ?_ | cases e)
    show wpAny _ _ (do
      let ov ← holding [y] (eval o env)
      standAt p.atName
      holding [y, ov] (setAttr ov name y)
      release [y, ov] []) _ _ _
    refine wpAny_bind (wpAny_holding (EvE.then (hI.e e1 hA O S L) fun x s₁ β₁ d₁ L₁ r₁ => wpAny_bind (wpAny_standAt (wpAny_bind (wpAny_holding ?_)))))
    refine setattr_sound G hCa d₁.rel L₁ hi hc.1 hc.2 r₁ (d₁.vrel r) fun s' d₂ L₂ => wpAny_release' ?_
    exact ⟨β₁, (d₁.trans d₂).weak foot_l, L₂⟩
  | Subscript o i p =>
    unfold asg1 at e
    dsimp only at e
    split at e
    · (first | exact oN e | refine oR3 e ?_ | refine oR2 e ?_ | cases e)
    rename_i hs
    refine ob2 e fun a σ₁ e1 e => ?_
    refine ob2 e fun b σ₂ e2 e => ?_
    obtain ⟨σ₃, e3, e⟩ := map_some e
    (first | exact oN e | refine oR3 e ?_ | refine oR2 e ?_ | cases e)
    show wpAny _ _ (do
      let ov ← holding [y] (eval o env)
      let iv ← holding [y, ov] (eval i env)
      standAt p
      holding [y, ov, iv] (setItem ov iv y)
      release (match (generalizing := false) i with | .Slice _ _ none _ => [iv, y, ov] | _ => [y, ov, iv]) []) _ _ _
    refine wpAny_bind (wpAny_holding (EvE.then (hI.e e1 hA O S L) fun x s₁ β₁ d₁ L₁ r₁ => wpAny_bind (wpAny_holding (EvE.then (hI.e e2 hA O d₁.rel L₁) fun z s₂ β₂ d₂ L₂ r₂ => wpAny_bind (wpAny_standAt (wpAny_bind (wpAny_holding ?_)))))))
    refine setV_sound e3 d₂.rel L₂ (d₂.vrel r₁) r₂ (d₂.vrel (d₁.vrel r)) fun s' d₃ L₃ => wpAny_release' ?_
    exact ⟨β₂, ((d₁.trans d₂).trans d₃).weak foot_l, L₃⟩
  | _ => (first | exact oN e | refine oR3 e ?_ | refine oR2 e ?_ | cases e)

theorem assignEach_cons {t : Expr} {ts : List Expr} (h : notStar t = true) : assignEach (t :: ts) env = (false, assign t env) :: assignEach ts env := by
  cases t <;> first | rfl | (first | exact oN h | refine oR3 h ?_ | refine oR2 h ?_ | cases h)
theorem assignEach_len : ∀ {ts : List Expr}, ts.all notStar = true → (assignEach ts env).length = ts.length
  | [], _ => rfl
  | t :: ts, h => by
    rw [List.all_cons, Bool.and_eq_true] at h
    rw [assignEach_cons h.1]; exact congrArg Nat.succ (assignEach_len h.2)
theorem assignEach_star : ∀ {ts : List Expr}, ts.all notStar = true → (assignEach ts env).findIdx? (·.1) = none
  | [], _ => rfl
  | t :: ts, h => by
    rw [List.all_cons, Bool.and_eq_true] at h
    rw [assignEach_cons h.1, List.findIdx?_cons, assignEach_star h.2]
    rfl

theorem sound_asgs (hI : Sound W n I) (G : WOK W T) (hCa : C.attr = T.attr) (hA : AOk n A) (O : EnvOK Γ env) : ∀ {ts : List Expr} {vs : List V} {ys : List Value} {ρ ρ' : Rho} {σ σ' : Store} {β : List Addr} {s : Shared}, ts.all notStar = true → asgs C I Γ ρ σ ts vs = some (ρ', σ') → SRel W σ β s.heap → LRel W env ρ β s.heap → VRels W β s.heap vs ys →
    ts.length = ys.length ∧ wpAny (MM W) A (assignInOrder ((assignEach ts env).map (·.2)) ys) (fun _ s' => PostA W env ρ' β s σ' s') (fun _ _ => False) s
  | [], [], _, ρ, ρ', σ, σ', β, s, _, e, S, L, r => by
    (first | exact oN e | refine oR3 e ?_ | refine oR2 e ?_ | cases e)
    cases r
    exact ⟨rfl, wpAny_pure ⟨β, Done.same' S, L⟩⟩
  | [], _ :: _, _, _, _, _, _, _, _, _, e, _, _, _ => by (first | exact oN e | refine oR3 e ?_ | refine oR2 e ?_ | cases e)
  | _ :: _, [], _, _, _, _, _, _, _, _, e, _, _, _ => by (first | exact oN e | refine oR3 e ?_ | refine oR2 e ?_ | cases e)
  | t :: ts, v :: vs, ys, ρ, ρ', σ, σ', β, s, h, e, S, L, r => by
    rw [List.all_cons, Bool.and_eq_true] at h
    change ((asg1 C I Γ ρ σ t v).bind fun p => asgs C I Γ p.1 p.2 ts vs) = _ at e
    refine ob2 e fun ρ₁ σ₁ e1 e => ?_
    obtain _ | ⟨a, b⟩ := r
    rename_i y ys
    have hlen : ∀ β₁ (s₁ : Shared), SRel W σ₁ β₁ s₁.heap → LRel W env ρ₁ β₁ s₁.heap → VRels W β₁ s₁.heap vs ys → ts.length = ys.length := fun β₁ s₁ S₁ L₁ r₁ => (sound_asgs hI G hCa hA O h.2 e S₁ L₁ r₁).1
    have hl : ts.length = ys.length := by
      have q := b.length
      have : ∀ {ts : List Expr} {vs : List V} {ρ ρ' : Rho} {σ σ' : Store}, asgs C I Γ ρ σ ts vs = some (ρ', σ') → ts.length = vs.length := by
        intro ts
        induction ts with
        | nil => intro vs ρ ρ' σ σ' e; cases vs with
          | nil => rfl
          | cons _ _ => (first | exact oN e | refine oR3 e ?_ | refine oR2 e ?_ | cases e)
        | cons t ts ih =>
          intro vs ρ ρ' σ σ' e
          cases vs with
          | nil => (first | exact oN e | refine oR3 e ?_ | refine oR2 e ?_ | cases e)
          | cons v vs =>
            refine ob1 e fun p _ e => ?_
            simp [ih e]
      rw [this e, q]
    refine ⟨by simp [hl], ?_⟩
    rw [assignEach_cons h.1]
    show wpAny _ _ (do holding ys (assign t env y); assignInOrder ((assignEach ts env).map (·.2)) ys) _ _ _
    refine wpAny_bind (wpAny_holding (wpAny_mono (sound_asg1 hI G hCa e1 hA O S L a) (fun _ s₁ ⟨β₁, d₁, L₁⟩ => ?_) fun _ _ q => q))
    exact wpAny_mono (sound_asgs hI G hCa hA O h.2 e d₁.rel L₁ (d₁.vrels b)).2 (fun _ s₂ p => p.after d₁ fun _ h => h) fun _ _ q => q

theorem sound_asg (hI : Sound W n I) (G : WOK W T) (hCa : C.attr = T.attr) {t : Expr} {v : V} {y : Value} {ρ' : Rho} {σ' : Store} (e : asg C I Γ ρ σ t v = some (ρ', σ')) (hA : AOk n A) (O : EnvOK Γ env) (S : SRel W σ β s.heap) (L : LRel W env ρ β s.heap) (r : VRel W β s.heap v y) :
    wpAny (MM W) A (assign t env y) (fun _ s' => PostA W env ρ' β s σ' s') (fun _ _ => False) s := by
  cases t with
  | Tuple ts k p =>
    unfold asg at e
    dsimp only at e
    refine obI e fun hs e => ?_
    cases r with
    | @tup vs a xs m ha rs =>
      dsimp only at e
      refine obI e fun hz e => ?_
      show wpAny _ _ (do standAt p; unpack (.ref a) (assignEach ts env)) _ _ _
      refine wpAny_bind (wpAny_standAt ?_)
      unfold unpack
      rw [assignEach_star hs, assignEach_len hs]
      have hl := (sound_asgs (β := β) (s := s) hI G hCa hA O hs e S L rs).1
      have hl' : ts.length = xs.size := hl.trans Array.length_toList
      rw [hl']
      refine wpAny_bind (wpAny_holding (unpackItems_tuple hA.handled ⟨_, ha, rfl, _, rfl⟩ fun h' hx => ?_))
      have hk : ∀ b o, s.heap.get? b = some o → h'.get? b = some o := fun b o e => hx b o (Nat.ne_of_lt (Heap.lt_size e)) e
      have d : Done W [] β s σ β { s with heap := h', toks := s.toks } := ⟨⟨fun _ _ e => e, fun _ p q => absurd p q, fun b o _ _ e => hk b o e, fun _ _ _ e => hk _ _ e, fun _ o e => ⟨o, hk _ _ e⟩⟩, S.other (fun b o e => hk _ _ (S.keep _ _ e)) (fun _ _ _ e => hk _ _ e) fun _ _ _ e => hk _ _ e, rfl, rfl⟩
      exact wpAny_mono (sound_asgs hI G hCa hA O hs e d.rel (d.lrel L) (d.vrels rs)).2 (fun _ s₂ p => p.after d (by simp)) fun _ _ q => q
    | _ => (first | exact oN e | refine oR3 e ?_ | refine oR2 e ?_ | cases e)
  | _ => exact sound_asg1 hI G hCa e hA O S L r
end
end
section
inductive Src where
  | rng (ns : List Int) | lst (l rem k : Nat)
noncomputable def Src.size : Src → Nat
  | .rng ns => ns.length
  | .lst _ rem _ => rem
noncomputable def nextL (σ : Store) (l rem k : Nat) : Option (Option (V × Src)) := match σ[l]? with
  | some (.lst ws) => (match rem with
    | 0 => if ws.length = k then some none else none
    | rem + 1 => if ws.length = k + rem + 1 ∧ ws.length ≤ maxLen then (ws[k]?).map fun v => some (v, .lst l rem (k + 1)) else none)
  | _ => none
noncomputable def nextS (σ : Store) : Src → Option (Option (V × Src))
  | .rng [] => some none
  | .rng (i :: r) => some (some (.int i, .rng r))
  | .lst l rem k => nextL σ l rem k
theorem nextL_zero {σ : Store} {l k : Nat} {r : Option (V × Src)} (e : nextL σ l 0 k = some r) : ∃ ws, σ[l]? = some (.lst ws) ∧ ws.length = k ∧ r = none := by
  unfold nextL at e
  cases h : σ[l]? with
  | none => rw [h] at e; (first | exact oN e | refine oR3 e ?_ | refine oR2 e ?_ | cases e)
  | some o =>
    rw [h] at e
    cases o with
    | lst ws =>
      dsimp only at e
      split at e
      · (first | exact oN e | refine oR3 e ?_ | refine oR2 e ?_ | cases e); exact ⟨ws, rfl, by assumption, rfl⟩
      · (first | exact oN e | refine oR3 e ?_ | refine oR2 e ?_ | cases e)
    | _ => (first | exact oN e | refine oR3 e ?_ | refine oR2 e ?_ | cases e)
theorem nextL_succ {σ : Store} {l rem k : Nat} {r : Option (V × Src)} (e : nextL σ l (rem + 1) k = some r) : ∃ ws v, σ[l]? = some (.lst ws) ∧ ws.length = k + rem + 1 ∧ ws.length ≤ maxLen ∧ ws[k]? = some v ∧ r = some (v, .lst l rem (k + 1)) := by
  unfold nextL at e
  cases h : σ[l]? with
  | none => rw [h] at e; (first | exact oN e | refine oR3 e ?_ | refine oR2 e ?_ | cases e)
  | some o =>
    rw [h] at e
    cases o with
    | lst ws =>
      dsimp only at e
      refine obI e fun hk e => ?_
      · obtain ⟨v, hv, e⟩ := map_some e
        exact ⟨ws, v, rfl, hk.1, hk.2, hv, e.symm⟩
    | _ => (first | exact oN e | refine oR3 e ?_ | refine oR2 e ?_ | cases e)
theorem nextS_size {σ : Store} {src src' : Src} {v : V} (e : nextS σ src = some (some (v, src'))) : src'.size < src.size := by
  cases src with
  | rng ns =>
    cases ns with
    | nil => (first | exact oN e | refine oR3 e ?_ | refine oR2 e ?_ | cases e)
    | cons i r => cases e; exact Nat.lt_succ_self _
  | lst l rem k =>
    cases rem with
    | zero => obtain ⟨_, _, _, h⟩ := nextL_zero e; (first | exact oN h | refine oR3 h ?_ | refine oR2 h ?_ | cases h)
    | succ rem => obtain ⟨_, _, _, _, _, _, h⟩ := nextL_succ e; cases h; exact Nat.lt_succ_self _

noncomputable def SrcAt (β : List Addr) (h : Heap) (it : Addr) : Src → Prop
  | .rng ns => ∃ a : Int, IsRangeIter h it a ns.length 1 ∧ ns = (List.range ns.length).map fun (i : Nat) => a + (i : Int)
  | .lst l _ k => ∃ a, β[l]? = some a ∧ h.IsListIter it a k

theorem SrcAt.isAt {β : List Addr} {h : Heap} {it : Addr} {src : Src} (x : SrcAt β h it src) : ∃ o, h.get? it = some o ∧ ∀ xs k, o ≠ tupO xs k := by
  cases src with
  | rng ns =>
    obtain ⟨a, h1, _⟩ := x
    exact ⟨_, h1, fun xs k e => by have h := congrArg Obj.cls e; injection h with h; exact absurd h (by decide)⟩
  | lst l rem k =>
    obtain ⟨a, _, o, ho, hc, hd⟩ := x
    exact ⟨o, ho, fun xs k e => by subst e; cases hd⟩
theorem SrcAt.keep {β β' : List Addr} {h h' : Heap} {it : Addr} {src : Src} (x : SrcAt β h it src) (hp : ∀ (n : Nat) (a : Addr), β[n]? = some a → β'[n]? = some a) (hk : ∀ o, h.get? it = some o → h'.get? it = some o) : SrcAt β' h' it src := by
  cases src with
  | rng ns => obtain ⟨a, h1, h2⟩ := x; exact ⟨a, hk _ h1, h2⟩
  | lst l rem k => obtain ⟨a, h1, o, ho, r⟩ := x; exact ⟨a, hp _ _ h1, o, hk _ ho, r⟩

theorem range_cons {i a : Int} {r : List Int} (h : i :: r = (List.range (r.length + 1)).map fun (j : Nat) => a + (j : Int)) : i = a ∧ r = (List.range r.length).map fun (j : Nat) => (a + 1) + (j : Int) := by
  rw [List.range_succ_eq_map, List.map_cons, List.map_map] at h
  obtain ⟨h1, h2⟩ := List.cons.inj h
  refine ⟨by simpa using h1, h2.trans ?_⟩
  exact List.map_congr_left fun j _ => by simp; lia

section
variable {W : Wd} {T : Tab} {A : Around} {env : Env} {Γ : Scope} {ρ : Rho} {σ : Store} {β : List Addr} {s : Shared} {n : Nat} {C : Cfg} {I : Itp}

theorem SrcAt.nt {h : Heap} {it : Addr} {src : Src} (x : SrcAt β h it src) : ∀ xs k, h.get? it ≠ some (tupO xs k) := fun xs k q => by
  obtain ⟨ob, hob, hnt⟩ := x.isAt
  rw [hob] at q; exact hnt _ _ (Option.some.inj q)
theorem src_next {src : Src} {it : Addr} {r : Option (V × Src)} {Q : Option Value → Shared → Prop} (hA : AOk n A) (x : SrcAt β s.heap it src) (hit : it ∉ β) (S : SRel W σ β s.heap) (e : nextS σ src = some r)
    (h0 : r = none → ∀ h', Heap.ExtBut it s.heap h' → Q none { s with heap := h' })
    (h1 : ∀ v src', r = some (v, src') → ∀ h' y tk, Heap.ExtBut it s.heap h' → SrcAt β h' it src' → VRel W β s.heap v y → Q (some y) { s with heap := h', toks := tk }) : wpAny (MM W) A (pyNext (.ref it)) Q (fun _ _ => False) s := by
  cases src with
  | rng ns =>
    obtain ⟨a, q1, q2⟩ := x
    cases ns with
    | nil =>
      (first | exact oN e | refine oR3 e ?_ | refine oR2 e ?_ | cases e)
      exact wpAny_pyNext_range_end hA.handled q1 (by simp) (h0 rfl)
    | cons i r =>
      (first | exact oN e | refine oR3 e ?_ | refine oR2 e ?_ | cases e)
      obtain ⟨e1, e2⟩ := range_cons q2
      subst e1
      refine wpAny_pyNext_range_item q1 (by simp) fun h' hi hs => ?_
      refine h1 _ _ rfl h' _ _ hs.extBut ⟨i + 1, ?_, e2⟩ (.int _ _)
      have : (((i :: r).length : Nat) : Int) - 1 = (r.length : Int) := by simp
      rw [this] at hi; exact hi
  | lst l rem k =>
    obtain ⟨a, ha, q1⟩ := x
    have at_ : ∀ ws, σ[l]? = some (.lst ws) → ∃ xs m, s.heap.get? a = some (lstO xs m) ∧ VRels W β s.heap ws xs.toList := by
      intro ws hw
      obtain ⟨xa, na, ho, qa⟩ := S.lst hw ha
      exact ⟨xa, na, ho, qa⟩
    cases rem with
    | zero =>
      obtain ⟨ws, hw, hk, rfl⟩ := nextL_zero e
      obtain ⟨xs, m, ho, qa⟩ := at_ ws hw
      have hsz := VRels.size qa
      exact wpAny_pyNext_list_end hA.handled q1 ⟨_, ho, rfl, _, rfl⟩ (Array.getElem?_eq_none (by lia)) (h0 rfl)
    | succ rem =>
      obtain ⟨ws, v, hw, hk, hz, hv, rfl⟩ := nextL_succ e
      obtain ⟨xs, m, ho, qa⟩ := at_ ws hw
      obtain ⟨y, hy, ry⟩ := VRels.get' qa hv
      exact wpAny_pyNext_list_item q1 ⟨_, ho, rfl, _, rfl⟩ hy fun h' hi hs => h1 _ _ rfl h' y s.toks hs.extBut ⟨a, ha, hi⟩ ry

theorem liftE {α : Type} {M : Model} {t : Sem α} {Q : α → Shared → Prop} {E : Value → Shared → Prop} (h : wpAny M A t Q (fun _ _ => False) s) : wpAny M A t Q E s := wpAny_mono h (fun _ _ q => q) fun _ _ q => q.elim

theorem Done.but {X : List Addr} {σ' : Store} {β' : List Addr} {s' : Shared} {h' : Heap} {c : Addr} (S : SRel W σ β s.heap) (d : Done W X β s σ' β' s') (hc : s.heap.get? c = none) (hb : c ∉ β') (hnt : ∀ xs k, s'.heap.get? c ≠ some (tupO xs k)) (hx : Heap.ExtBut c s'.heap h') (tk : Nat) :
    Done W X β s σ' β' { s' with heap := h', toks := tk } := by
  have ht : ∀ x xs k, s'.heap.get? x = some (tupO xs k) → h'.get? x = some (tupO xs k) := fun x xs k e => hx x _ (fun q => hnt xs k (q ▸ e)) e
  refine ⟨⟨d.ext.pre, d.ext.new, fun b o h1 h2 e => hx b o (fun q => by rw [q, hc] at e; (first | exact oN e | refine oR3 e ?_ | refine oR2 e ?_ | cases e)) (d.ext.keep b o h1 h2 e), fun x xs k e => ht _ _ _ (d.ext.tup _ _ _ e), fun b o e => ?_⟩, ?_, d.gens, d.os⟩
  · obtain ⟨o', ho'⟩ := d.ext.dom b o e
    exact ⟨o', hx b o' (fun q => by rw [q, hc] at e; (first | exact oN e | refine oR3 e ?_ | refine oR2 e ?_ | cases e)) ho'⟩
  · refine d.rel.other (fun b o e => hx b o (fun q => ?_) (d.rel.keep b o e)) (fun a ha o e => hx a o (fun q => hb (q ▸ ha)) e) ht
    rw [q] at e
    rw [S.keep _ _ e] at hc; cases hc
theorem Done.drop {X : List Addr} {σ' : Store} {β' : List Addr} {s' : Shared} {c : Addr} (d : Done W (c :: X) β s σ' β' s') (hc : s.heap.get? c = none) : Done W X β s σ' β' s' :=
  ⟨⟨d.ext.pre, d.ext.new, fun b o h1 h2 e => d.ext.keep b o h1 (fun q => by
    rcases List.mem_cons.mp q with q | q
    · rw [q, hc] at e; (first | exact oN e | refine oR3 e ?_ | refine oR2 e ?_ | cases e)
    · exact h2 q) e, d.ext.tup, d.ext.dom⟩, d.rel, d.gens, d.os⟩

theorem LRel.but {h h' : Heap} {c : Addr} (L : LRel W env ρ β h) (hc : c ∉ foot env) (hx : Heap.ExtBut c h h') (hnt : ∀ xs k, h.get? c ≠ some (tupO xs k)) : LRel W env ρ β h' := by
  have ht : ∀ x xs k, h.get? x = some (tupO xs k) → h'.get? x = some (tupO xs k) := fun x xs k e => hx x _ (fun q => hnt xs k (q ▸ e)) e
  have mono : ∀ {v x}, VRel W β h v x → VRel W β h' v x := fun r => r.mono (fun _ _ e => e) ht
  have hcl : ∀ {p : Str × Addr}, p ∈ env.cells → p.2 ≠ c := fun hp q => hc (.tail _ (q ▸ List.mem_map_of_mem hp))
  have cl : ∀ {p : Str × Addr} {y}, p ∈ env.cells → h.IsCell p.2 y → h'.IsCell p.2 y := fun hp ⟨o, ho, hd⟩ => ⟨o, hx _ _ (hcl hp) ho, hd⟩
  obtain ⟨m, hn, hm⟩ := L.ns
  refine ⟨⟨m, ?_, fun z w a b => let ⟨y, e, r⟩ := hm z w a b; ⟨y, e, mono r⟩⟩, fun z w a b => ?_, fun z a => ?_, L.lfresh, fun p hp => ?_, L.cinj, L.above⟩
  · obtain ⟨o, es, ep, ho, r⟩ := hn
    exact ⟨o, es, ep, hx _ _ (fun q => hc (q ▸ .head _)) ho, r⟩
  · obtain ⟨c', y, e, ic, r⟩ := L.cell z w a b
    exact ⟨c', y, e, cl (mem_of_lookup e) ic, mono r⟩
  · obtain ⟨c', y, e, ic⟩ := L.cells z a
    exact ⟨c', y, e, cl (mem_of_lookup e) ic⟩
  · obtain ⟨a1, a2, a3, y, i⟩ := L.cfresh p hp
    exact ⟨a1, a2, a3, y, cl hp i⟩
end
end
section
section
variable {W : Wd} {T : Tab} {A : Around} {env : Env} {Γ : Scope} {ρ : Rho} {σ : Store} {β : List Addr} {s : Shared} {n : Nat} {C : Cfg} {I : Itp}

theorem codeAny_forLoop' {R : Result → Shared → Prop} {target it body orelse} (J : Nat → Shared → Prop)
    (turn : ∀ n s, J n s → wpAny (MM W) A (pyNext it) (fun r s₁ => match r with
      | none => wpAny (MM W) A (execs orelse env) (fun f s₃ => R (.ok f) s₃) (notedBy (MM W) A env fun e s' => R (.error e) s') s₁
      | some v => wpAny (MM W) A (letOwnedTupleGo target it v) (fun _ s₀ => wpAny (MM W) A (assign target env v) (fun _ s₂ => wpAny (MM W) A (execs body env) (fun f s₃ => match f with
          | .next | .cont => ∃ m, m < n ∧ J m s₃
          | .brk => R (.ok .next) s₃
          | .ret v => R (.ok (.ret v)) s₃) (notedBy (MM W) A env fun e s' => R (.error e) s') s₂) (notedBy (MM W) A env fun e s' => R (.error e) s') s₀) (notedBy (MM W) A env fun e s' => R (.error e) s') s₁) (notedBy (MM W) A env fun e s' => R (.error e) s') s)
    (n : Nat) (h : J n s) : codeAny (MM W) A (.forLoop target it body orelse env) R s := by
  refine codeAny_loop' rfl J (fun n s hI => ?_) n h
  show wpAny _ _ ((forTurn target it body orelse env).onRaise (fun x => do noteFrame x env; theTreesLotGoes x)) _ _ s
  refine wpAny_noted ?_
  simp only [forTurn]
  refine wpAny_bind (wpAny_standAt (wpAny_bind (wpAny_onRaise (wpAny_mono (turn n s hI) (fun r s₁ h₁ => ?_) fun _ _ h' => wpAny_standAt h'))))
  cases r with
  | none => exact wpAny_pure (.inr ⟨rfl, codeAny_block h₁⟩)
  | some v =>
    refine wpAny_bind (wpAny_mono h₁ (fun _ s₀ h₀ => ?_) fun _ _ h' => h')
    refine wpAny_bind (wpAny_mono h₀ (fun _ s₂ h₂ => wpAny_bind (wpAny_mono h₂ (fun f s₃ h₃ => ?_) fun _ _ h' => h')) fun _ _ h' => h')
    cases f with
    | next => exact wpAny_pure (.inl ⟨rfl, h₃⟩)
    | cont => exact wpAny_pure (.inl ⟨rfl, h₃⟩)
    | brk => exact wpAny_pure h₃
    | ret v => exact wpAny_pure h₃

noncomputable def plainIter (o : Obj) : Prop := o.cls = .type "list_iterator" ∨ o.cls = .type "range_iterator"
theorem owned_go {target : Expr} {it : Addr} {v : Value} {o : Obj} {Q : Unit → Shared → Prop} (ho : s.heap.get? it = some o) (hp : plainIter o) (h : Q () s) : wpAny (MM W) A (letOwnedTupleGo target (.ref it) v) Q (fun _ _ => False) s := by
  have key : wpAny (MM W) A (do
      let (.ref r, .ref a) := (Value.ref it, v) | return
      let o ← load r
      match o.cls, o.data with
      | .type n, .fields vs =>
        if ["enumerate", "zip", "dict_itemiterator", "dict_reverseitemiterator", "odict_iterator", "itertools.zip_longest", "itertools.pairwise"].contains n && vs[0]? == some (rawInt a) then
          rule "for.unpacks-the-owned-tuple"
          updateField r 0 .none
      | _, _ => pure ()) Q (fun _ _ => False) s := by
    cases v with
    | ref a =>
      refine wpAny_bind (wpAny_load ho ?_)
      obtain ⟨oc, od, odt, osl⟩ := o
      rcases hp with hp | hp <;> (dsimp only at hp; subst hp; cases odt <;> first | exact wpAny_pure h | skip)
    | _ => exact wpAny_pure h
  cases target <;> first | exact key | exact wpAny_pure h

theorem SrcAt.plain {h : Heap} {it : Addr} {src : Src} (x : SrcAt β h it src) : ∃ o, h.get? it = some o ∧ plainIter o := by
  cases src with
  | rng ns => obtain ⟨a, h1, _⟩ := x; exact ⟨_, h1, .inr rfl⟩
  | lst l rem k => obtain ⟨a, _, o, ho, hc, hd⟩ := x; exact ⟨o, ho, .inl hc⟩

noncomputable def forR (C : Cfg) (I : Itp) (Γ : Scope) (t : Expr) (body : List Stmt) : Src → Rho → Store → Option (FlowA × Rho × Store)
  | .rng ns, ρ, σ => forI C I Γ t body ρ σ ns
  | .lst l rem k, ρ, σ => forL C I Γ t body l rem k ρ σ

noncomputable def flowR (x : Option (FlowA × Rho × Store)) (f : FlowA) (ρ : Rho) (σ : Store) (r : FlowA × Rho × Store) : Prop := match f with
  | .next => x = some r
  | .cont => x = some r
  | .brk => r = (.next, ρ, σ)
  | .ret v => r = (.ret v, ρ, σ)
theorem flowR_of {x : Option (FlowA × Rho × Store)} {f : FlowA} {r : FlowA × Rho × Store} (e : (match f with
      | .next => x
      | .cont => x
      | .brk => some (.next, ρ, σ)
      | .ret v => some (.ret v, ρ, σ)) = some r) : flowR x f ρ σ r := by
  cases f with
  | next => exact e
  | cont => exact e
  | brk => exact (Option.some.inj e).symm
  | ret v => exact (Option.some.inj e).symm
theorem forR_step {t : Expr} {body : List Stmt} {src : Src} {r : FlowA × Rho × Store} {G : Prop} (e : forR C I Γ t body src ρ σ = some r) (k1 : nextS σ src = some none → r = (.next, ρ, σ) → G)
    (k2 : ∀ v src' ρ₁ σ₁ f ρ₂ σ₂, nextS σ src = some (some (v, src')) → asg C I Γ ρ σ t v = some (ρ₁, σ₁) → I.ss Γ ρ₁ σ₁ body = some (f, ρ₂, σ₂) → flowR (forR C I Γ t body src' ρ₂ σ₂) f ρ₂ σ₂ r → G) : G := by
  rcases src with ⟨_ | ⟨i, ns⟩⟩ | ⟨l, _ | rem, k⟩
  · exact k1 rfl (Option.some.inj e).symm
  · exact ob2 e fun ρ₁ σ₁ e1 e => ob3 e fun f ρ₂ σ₂ e2 e => k2 _ (.rng ns) ρ₁ σ₁ f ρ₂ σ₂ rfl e1 e2 (flowR_of e)
  · exact oL e fun ws h e => obI e fun hk e => k1 (by show nextL σ l 0 k = _; unfold nextL; rw [h]; exact if_pos hk) (Option.some.inj e).symm
  · exact oL e fun ws h e => obI e fun hk e => ob1 e fun v hv e => ob2 e fun ρ₁ σ₁ e1 e => ob3 e fun f ρ₂ σ₂ e2 e => k2 v (.lst l rem (k + 1)) ρ₁ σ₁ f ρ₂ σ₂ (by
      show nextL σ l (rem + 1) k = _
      unfold nextL; rw [h]; refine (if_pos hk).trans ?_; rw [hv]; rfl) e1 e2 (flowR_of e)
theorem forL_lst {t : Expr} {body : List Stmt} {l rem k : Nat} {r : FlowA × Rho × Store} (e : forL C I Γ t body l rem k ρ σ = some r) : ∃ ws, σ[l]? = some (.lst ws) := by
  cases rem with
  | zero => exact oL e fun ws h _ => ⟨ws, h⟩
  | succ rem => exact oL e fun ws h _ => ⟨ws, h⟩

theorem loop_end {x : Option (FlowA × Rho × Store)} {r : FlowA × Rho × Store} {f : FlowA} {c : Flow} {h : Heap} {R : Flow → Prop} {P : Prop} (e : flowR x f ρ σ r) (q : flowRel W β h f c) (again : x = some r → P) (out : ∀ f c, r = (f, ρ, σ) → flowRel W β h f c → R c) :
    (match (generalizing := false) c with | .next | .cont => P | .brk => R .next | .ret v => R (.ret v)) := by
  cases f <;> cases c <;> first | exact again e | exact q.elim | exact out _ _ e trivial | exact out _ _ e q

noncomputable def forJ (W : Wd) (env : Env) (C : Cfg) (I : Itp) (Γ : Scope) (t : Expr) (body : List Stmt) (it : Addr) (β₁ : List Addr) (s₁ : Shared) (r : FlowA × Rho × Store) (m : Nat) (s : Shared) : Prop :=
  ∃ src ρ σ β, m = src.size ∧ forR C I Γ t body src ρ σ = some r ∧ SrcAt β s.heap it src ∧ Off env β it ∧ Done W (foot env) β₁ s₁ σ β s ∧ LRel W env ρ β s.heap
theorem forJ.elim {t : Expr} {body : List Stmt} {it : Addr} {β₁ : List Addr} {s₁ : Shared} {r : FlowA × Rho × Store} {m : Nat} {G : Prop} (h : forJ W env C I Γ t body it β₁ s₁ r m s)
    (k : ∀ src ρ σ β, m = src.size → forR C I Γ t body src ρ σ = some r → SrcAt β s.heap it src → Off env β it → Done W (foot env) β₁ s₁ σ β s → LRel W env ρ β s.heap → G) : G := by
  obtain ⟨src, ρ, σ, β, h1, h2, h3, h4, h5, h6⟩ := h; exact k src ρ σ β h1 h2 h3 h4 h5 h6
theorem for_loop (hI : Sound W n I) (G : WOK W T) (hCa : C.attr = T.attr) (hA : AOk n A) (O : EnvOK Γ env) {t : Expr} {body : List Stmt} {it : Addr} {src : Src} {r : FlowA × Rho × Store} {β₁ : List Addr} {s₁ : Shared} {σ₁ : Store} {R : Result → Shared → Prop}
    (S₁ : SRel W σ₁ β₁ s₁.heap) (hit : s₁.heap.get? it = none) (e : forR C I Γ t body src ρ σ = some r) (x : SrcAt β s.heap it src) (o : Off env β it) (d : Done W (foot env) β₁ s₁ σ β s) (L : LRel W env ρ β s.heap)
    (hR : ∀ f ρ' σ' c s', r = (f, ρ', σ') → PostS W env β₁ s₁ f ρ' σ' c s' → R (.ok c) s') : codeAny (MM W) A (.forLoop t (.ref it) body [] env) R s := by
  refine codeAny_forLoop' (forJ W env C I Γ t body it β₁ s₁ r) ?_ _ ⟨src, ρ, σ, β, rfl, e, x, o, d, L⟩
  clear e x o d L
  refine fun m s J => J.elim fun src ρ σ β hm e x o d L => ?_
  have hntt := x.nt
  refine forR_step e (fun hn hr => ?_) fun v src' ρ₁ σ₂ fl ρ₂ σ₃ hn e1 e2 e3 => ?_
  · exact liftE (src_next hA x o.1 d.rel hn (fun _ h' hx => wpAny_execs_nil (hR _ _ _ _ _ hr ⟨β, d.but S₁ hit o.1 hntt hx _, L.but o.2 hx hntt, trivial⟩)) fun _ _ q => nomatch q)
  · refine liftE (src_next hA x o.1 d.rel hn (fun q => nomatch q) fun v' src'' hv h' y tk hx x' ry => ?_)
    cases hv
    have d' := d.but S₁ hit o.1 hntt hx tk
    have ry' : VRel W β h' v y := ry.mono (fun _ _ e => e) fun a xs k q => hx a _ (fun q' => hntt xs k (q' ▸ q)) q
    refine xE11 x'.plain fun oi hoi hpl => liftE (owned_go hoi hpl (liftE (wpAny_mono (sound_asg hI G hCa e1 hA O d'.rel (L.but o.2 hx hntt) ry') (fun _ s₂ ⟨β₂, d₂, L₂⟩ => ?_) fun _ _ q => q)))
    refine liftE (wpAny_mono (hI.ss e2 hA O d₂.rel L₂) (fun c s₃ ⟨β₃, d₃, L₃, r₃⟩ => ?_) fun _ _ q => q)
    have o₂ : Off env β₂ it := o.ext (s := { s with heap := h', toks := tk }) d₂.ext hoi
    have dd := (d'.trans d₂).trans d₃
    exact loop_end (R := fun c => R (.ok c) s₃) e3 r₃ (fun q => ⟨_, hm ▸ nextS_size hn, src', ρ₂, σ₃, β₃, rfl, q, x'.keep (fun n a q => d₃.ext.pre _ _ (d₂.ext.pre _ _ q)) (fun ob' q =>
      d₃.ext.keep _ _ o₂.1 o₂.2 (d₂.ext.keep _ _ o.1 o.2 q)), o₂.ext d₃.ext (d₂.ext.keep _ _ o.1 o.2 hoi), dd, L₃⟩) fun f c h q => hR _ _ _ _ _ h ⟨β₃, dd, L₃, q⟩

theorem folded_of {e : Expr} {x : Value} (h : isSet e = false) : foldedSetIterable e env x = pure x := by
  cases e <;> first | rfl | (first | exact oN h | refine oR3 h ?_ | refine oR2 h ?_ | cases h)

theorem iter_range {r : Addr} {a b : Int} {t u v : Tok} {Q : Value → Shared → Prop} {X : List Addr} (S : SRel W σ β s.heap) (L : LRel W env ρ β s.heap) (hr : IsRange s.heap r a b 1 t u v) (h1 : 0 ≤ a) (h2 : a ≤ 1000) (h3 : -(2 ^ 62) ≤ b) (h4 : b ≤ 1000)
    (h : ∀ it s', s.heap.get? it = none → Done W X β s σ β s' → LRel W env ρ β s'.heap → Off env β it → SrcAt β s'.heap it (.rng ((List.range (b - a).toNat).map fun (i : Nat) => a + (i : Int))) → s.heap.objs.size ≤ s'.heap.objs.size → Q (.ref it) s') : wpAny (MM W) A (pyIter (.ref r)) Q (fun _ _ => False) s := by
  refine wpAny_pyIter_range hr (small_one (by lia) (by lia) (by lia) (by lia)) ?_
  have d : Done W [] β s σ β { s with heap := s.heap.push { cls := .type "range_iterator", data := .fields #[rawInt a, rawInt (Builtin.Range.rangeSize a b 1), rawInt 1] }, toks := s.toks } := Done.push S _ _
  refine h _ _ (size_free _) (d.weak (by simp)) (d.lrel L) (off_size S L) ⟨a, ?_, ?_⟩ (by rw [Heap.size_push]; exact Nat.le_succ _)
  · rw [List.length_map, List.length_range]
    have q : IsRangeIter (s.heap.push { cls := .type "range_iterator", data := .fields #[rawInt a, rawInt (Builtin.Range.rangeSize a b 1), rawInt 1] }) s.heap.objs.size a (Builtin.Range.rangeSize a b 1) 1 := Heap.get?_push_size _ rfl
    have q2 : ∀ m, Builtin.Range.rangeSize a b 1 = m → IsRangeIter (s.heap.push { cls := .type "range_iterator", data := .fields #[rawInt a, rawInt (Builtin.Range.rangeSize a b 1), rawInt 1] }) s.heap.objs.size a m 1 := fun m e => e ▸ q
    exact q2 _ range_size
  · rw [List.length_map, List.length_range]

theorem range_start {X : List Addr} {ns : List Int} {σ₁ : Store} {y : Value} {s₁ : Shared} {Q : Value → Shared → Prop} (q : RangePost W env ρ β s ns σ₁ y s₁)
    (h : ∀ β₁ it s', Done W [env.locals] β s σ₁ β₁ s₁ → LRel W env ρ β₁ s₁.heap → s₁.heap.get? it = none → Done W X β₁ s₁ σ₁ β₁ s' → LRel W env ρ β₁ s'.heap → Off env β₁ it → SrcAt β₁ s'.heap it (.rng ns) → s₁.heap.objs.size ≤ s'.heap.objs.size → Q (.ref it) s') : wpAny (MM W) A (pyIter y) Q (fun _ _ => False) s₁ := by
  obtain ⟨β₁, r, a, b, t', u, v, rfl, hr, h1, h2, h3, h4, rfl, d₁, L₁, o₁⟩ := q
  exact iter_range d₁.rel L₁ hr h1 h2 h3 h4 fun it s' => h β₁ it s' d₁ L₁
theorem iter_list {l : Nat} {y : Value} {ws : List V} {Q : Value → Shared → Prop} {X : List Addr} (S : SRel W σ β s.heap) (L : LRel W env ρ β s.heap) (hl : σ[l]? = some (.lst ws)) (r : VRel W β s.heap (.ref l) y)
    (h : ∀ it s' rem, s.heap.get? it = none → Done W X β s σ β s' → LRel W env ρ β s'.heap → Off env β it → SrcAt β s'.heap it (.lst l rem 0) → s.heap.objs.size ≤ s'.heap.objs.size → Q (.ref it) s') : wpAny (MM W) A (pyIter y) Q (fun _ _ => False) s := by
  obtain ⟨a, rfl, ea⟩ := r.ref_inv
  obtain ⟨xa, na, ho, qa⟩ := S.lst hl ea
  refine wpAny_pyIter_list ⟨_, ho, rfl, _, rfl⟩ ?_
  have d : Done W [] β s σ β { s with heap := s.heap.push { cls := .type "list_iterator", data := .fields #[.ref a, .int 0 0] }, toks := s.toks } := Done.push S _ _
  exact h _ _ 0 (size_free _) (d.weak (by simp)) (d.lrel L) (off_size S L) ⟨a, ea, _, Heap.get?_push_size _ rfl, rfl, rfl⟩ (by rw [Heap.size_push]; exact Nat.le_succ _)

theorem PostS.after {f : FlowA} {ρ' : Rho} {σ₁ σ' : Store} {s₁ s' : Shared} {β₁ : List Addr} {X : List Addr} {c : Flow} (d : Done W X β s σ₁ β₁ s₁) (hX : ∀ x ∈ X, x ∈ foot env) (p : PostS W env β₁ s₁ f ρ' σ' c s') : PostS W env β s f ρ' σ' c s' := by
  obtain ⟨β', d', L, r⟩ := p
  exact ⟨β', (d.weak hX).trans d', L, r⟩

theorem SrcAt.anyRem {h : Heap} {it : Addr} {l rem rem' k : Nat} (x : SrcAt β h it (.lst l rem k)) : SrcAt β h it (.lst l rem' k) := x

theorem sound_for (hI : Sound W n I) (G : WOK W T) (hCa : C.attr = T.attr) {t iter : Expr} {body : List Stmt} {p : Pos} {f : FlowA} {ρ' : Rho} {σ' : Store} (e : stepS C I Γ ρ σ (.For t iter body [] p) = some (f, ρ', σ')) (hA : AOk n A) (O : EnvOK Γ env) (S : SRel W σ β s.heap) (L : LRel W env ρ β s.heap) :
    EvS W A env β s (exec (.For t iter body [] p) env) f ρ' σ' := by
  refine obE e fun hs e => ?_
  by_cases hr : isRange iter = true
  · refine ob2 ((if_pos hr).symm.trans e) fun ns σ₁ e1 e => ?_
    exact wpAny_For (wpAny_mono (range_sound hI G e1 hA O S L) (fun y s₁ q => range_start (X := foot env) q fun β₁ it s₂ d₁ L₁ hit d₂ L₂ o₂ x₂ _ =>
      for_loop hI G hCa hA O (src := .rng _) d₁.rel hit e x₂ o₂ d₂ L₂ fun f ρ' σ' c s₃ h q => by (first | exact oN h | refine oR3 h ?_ | refine oR2 h ?_ | cases h); exact q.after d₁ foot_l) fun _ _ q => q) fun x => folded_of hs
  · refine ob2 ((if_neg hr).symm.trans e) fun a σ₁ e1 e => ?_
    cases a with
    | ref l =>
      obtain ⟨ws, hw⟩ := forL_lst e
      exact wpAny_For (EvE.then (hI.e e1 hA O S L) fun y s₁ β₁ d₁ L₁ r₁ => iter_list (X := foot env) d₁.rel L₁ hw r₁ fun it s₂ rem hit d₂ L₂ o₂ x₂ _ =>
        for_loop hI G hCa hA O (src := .lst l (lenAt σ₁ l) 0) d₁.rel hit e x₂.anyRem o₂ d₂ L₂ fun f ρ' σ' c s₃ h q => by (first | exact oN h | refine oR3 h ?_ | refine oR2 h ?_ | cases h); exact q.after d₁ foot_l) fun x => folded_of hs
    | _ => (first | exact oN e | refine oR3 e ?_ | refine oR2 e ?_ | cases e)
end
end
section
section
variable {W : Wd} {T : Tab} {A : Around} {env cenv : Env} {Γ : Scope} {ρ : Rho} {σ : Store} {β : List Addr} {s : Shared} {n : Nat} {C : Cfg} {I : Itp}

noncomputable def compR (I : Itp) (Γ : Scope) (x : Str) (na : Nat) (elt : Expr) (ifs : List Expr) : Src → Rho → Store → Option (Rho × Store)
  | .rng ns, ρ, σ => compI I Γ x na elt ifs ρ σ ns
  | .lst l rem k, ρ, σ => compL I Γ x na elt ifs l rem k ρ σ

theorem compR_step {x : Str} {na : Nat} {elt : Expr} {ifs : List Expr} {src : Src} {r : Rho × Store} {G : Prop} (e : compR I Γ x na elt ifs src ρ σ = some r) (k1 : nextS σ src = some none → r = (ρ, σ) → G)
    (k2 : ∀ v src' σ', nextS σ src = some (some (v, src')) → compBody I Γ na elt ifs (ρ.set x v) σ = some σ' → compR I Γ x na elt ifs src' (ρ.set x v) σ' = some r → G) : G := by
  rcases src with ⟨_ | ⟨i, ns⟩⟩ | ⟨l, _ | rem, k⟩
  · exact k1 rfl (Option.some.inj e).symm
  · exact ob1 e fun σ' e1 e => k2 _ (.rng ns) σ' rfl e1 e
  · exact oL e fun ws h e => obI e fun hk e => k1 (by show nextL σ l 0 k = _; unfold nextL; rw [h]; exact if_pos hk) (Option.some.inj e).symm
  · exact oL e fun ws h e => obI e fun hk e => ob1 e fun v hv e => ob1 e fun σ' e1 e => k2 v (.lst l rem (k + 1)) σ' (by
      show nextL σ l (rem + 1) k = _
      unfold nextL; rw [h]; refine (if_pos hk).trans ?_; rw [hv]; rfl) e1 e
theorem compL_lst {x : Str} {na : Nat} {elt : Expr} {ifs : List Expr} {l rem k : Nat} {r : Rho × Store} (e : compL I Γ x na elt ifs l rem k ρ σ = some r) : ∃ ws, σ[l]? = some (.lst ws) := by
  cases rem with
  | zero => exact oL e fun ws h _ => ⟨ws, h⟩
  | succ rem => exact oL e fun ws h _ => ⟨ws, h⟩

theorem accPush_sound {na : Nat} {v : V} {y : Value} {σ' : Store} {acc : Addr} {Q : Value → Shared → Prop} (e : accPush na v σ = some σ') (S : SRel W σ β s.heap) (L : LRel W env ρ β s.heap) (hacc : β[na]? = some acc) (r : VRel W β s.heap v y) (h : ∀ s', Done W [] β s σ' β s' → Q .none s') :
    wpAny (MM W) A (call (.builtin "list.append") [.ref acc, y]) Q (fun _ _ => False) s := by
  refine oL e fun xs hx e => obI e fun hz e => ?_
  obtain ⟨xa, m, ho, qa⟩ := S.lst hx hacc
  exact append_sound S L hacc ho hx qa r hz fun s' d => h s' (Option.some.inj e ▸ d)

theorem comp_turn (hI : Sound W n I) (hA : AOk n A) (O : EnvOK Γ cenv) {x : Str} {px : Pos} {na : Nat} {elt : Expr} {ifs : List Expr} {v : V} {y : Value} {ρ₁ : Rho} {σ' : Store} {acc : Addr} {P : Shared → Prop} {E : Value → Shared → Prop} (hx : Γ.names.lookup x = some .local)
    (e : compBody I Γ na elt ifs (ρ.set x v) σ = some σ') (S : SRel W σ β s.heap) (L : LRel W cenv ρ₁ β s.heap) (hρ : ρ₁.set x v = ρ.set x v) (r : VRel W β s.heap v y) (hacc : β[na]? = some acc)
    (k : ∀ s' β', Done W [cenv.locals] β s σ' β' s' → LRel W cenv (ρ.set x v) β' s'.heap → P s') :
    wpAny (MM W) A (assign (.Name x px) cenv y) (fun _ s₂ => wpAny (MM W) A (forIn ifs true fun c r => if r = true then do let ok ← isTrue c cenv (eval c cenv); pure (ForInStep.yield ok) else pure (ForInStep.yield r)) (fun ok s₃ =>
      if ok = true then wpAny (MM W) A (eval elt cenv) (fun z s₄ => wpAny (MM W) A (call (.builtin "list.append") [.ref acc, z]) (fun _ s₅ => P s₅) E s₄) E s₃ else P s₃) E s₂) E s := by
  refine liftE (wpAny_assign_Name (store_local' O hx S L r fun s₂ d₂ L₂ => ?_))
  rw [hρ] at L₂
  have hacc₂ := d₂.ext.pre _ _ hacc
  have elt_ok : ∀ {σ : Store} {s₂ : Shared} {β : List Addr}, ((I.e Γ (ρ.set x v) σ elt).bind fun p => accPush na p.1 p.2) = some σ' → SRel W σ β s₂.heap → LRel W cenv (ρ.set x v) β s₂.heap → β[na]? = some acc → (∀ s' β', Done W [cenv.locals] β s₂ σ' β' s' → LRel W cenv (ρ.set x v) β' s'.heap → P s') →
      wpAny (MM W) A (eval elt cenv) (fun z s₄ => wpAny (MM W) A (call (.builtin "list.append") [.ref acc, z]) (fun _ s₅ => P s₅) E s₄) E s₂ := fun e S L ha k =>
    ob2 e fun w σ₁ e1 e => liftE (EvE.then (hI.e e1 hA O S L) fun z s₃ β₃ d₃ L₃ r₃ => liftE (accPush_sound e d₃.rel L₃ (d₃.ext.pre _ _ ha) r₃ fun s₄ d₄ => k _ _ (d₃.trans (d₄.weak (by simp))) (d₄.lrel L₃)))
  cases ifs with
  | nil =>
    refine wpAny_tests_nil ?_
    rw [if_pos rfl]
    exact elt_ok e d₂.rel L₂ hacc₂ fun s' β' d L => k _ _ (d₂.trans d) L
  | cons c r =>
    cases r with
    | cons _ _ => (first | exact oN e | refine oR3 e ?_ | refine oR2 e ?_ | cases e)
    | nil =>
      refine ob2 e fun b σ₁ e0 e => ?_
      refine wpAny_tests_one (liftE (EvT.then (hI.t e0 hA O d₂.rel L₂) fun s₃ β₃ d₃ L₃ => ?_))
      cases b with
      | true =>
        rw [if_pos rfl]
        exact elt_ok e d₃.rel L₃ (d₃.ext.pre _ _ hacc₂) fun s' β' d L => k _ _ ((d₂.trans d₃).trans d) L
      | false =>
        rw [if_neg (by decide)]
        exact k _ _ (Option.some.inj e ▸ d₂.trans d₃) L₃

theorem owned_name {x : Str} {px : Pos} {it v : Value} : letOwnedTupleGo (.Name x px) it v = pure () := rfl

noncomputable def compJ (W : Wd) (cenv : Env) (I : Itp) (Γ : Scope) (x : Str) (na : Nat) (elt : Expr) (ifs : List Expr) (it acc : Addr) (β₁ : List Addr) (s₁ : Shared) (r : Rho × Store) (m : Nat) (s : Shared) : Prop :=
  ∃ src ρ σ β, m = src.size ∧ compR I Γ x na elt ifs src ρ σ = some r ∧ SrcAt β s.heap it src ∧ Off cenv β it ∧ Done W [] β₁ s₁ σ β s ∧ LRel W cenv ρ β s.heap ∧ β[na]? = some acc
theorem compJ.elim {x : Str} {na : Nat} {elt : Expr} {ifs : List Expr} {it acc : Addr} {β₁ : List Addr} {s₁ : Shared} {r : Rho × Store} {m : Nat} {G : Prop} (h : compJ W cenv I Γ x na elt ifs it acc β₁ s₁ r m s)
    (k : ∀ src ρ σ β, m = src.size → compR I Γ x na elt ifs src ρ σ = some r → SrcAt β s.heap it src → Off cenv β it → Done W [] β₁ s₁ σ β s → LRel W cenv ρ β s.heap → β[na]? = some acc → G) : G := by
  obtain ⟨src, ρ, σ, β, h1, h2, h3, h4, h5, h6, h7⟩ := h; exact k src ρ σ β h1 h2 h3 h4 h5 h6 h7
theorem comp_loop (hI : Sound W n I) (hA : AOk n A) (O : EnvOK Γ cenv) {x : Str} {px : Pos} {na : Nat} {elt iter : Expr} {ifs : List Expr} {scope : Scope} {pos : Pos} {it acc : Addr} {src : Src} {r : Rho × Store} {β₁ : List Addr} {s₁ : Shared} {σ₁ : Store} {R : Result → Shared → Prop}
    (hx : Γ.names.lookup x = some .local) (S₁ : SRel W σ₁ β₁ s₁.heap) (hit : s₁.heap.get? it = none) (hC : s₁.heap.get? cenv.locals = none) (e : compR I Γ x na elt ifs src ρ σ = some r) (sx : SrcAt β s.heap it src) (o : Off cenv β it) (d : Done W [] β₁ s₁ σ β s) (L : LRel W cenv ρ β s.heap) (hacc : β[na]? = some acc)
    (hR : ∀ s' β', Done W [] β₁ s₁ r.2 β' s' → LRel W cenv r.1 β' s'.heap → β'[na]? = some acc → R (.ok .next) s') :
    codeAny (MM W) A (.compLoop (.ListComp elt [⟨.Name x px, iter, ifs, 0⟩] scope pos) 0 (.ref it) (.ref acc) cenv) R s := by
  refine codeAny_compLoop_tests (compJ W cenv I Γ x na elt ifs it acc β₁ s₁ r) ?_ _ ⟨src, ρ, σ, β, rfl, e, sx, o, d, L, hacc⟩ fun _ => rfl
  clear e sx o d L hacc
  refine fun m s J => J.elim fun src ρ σ β hm e sx o d L hacc => ?_
  have hntt := sx.nt
  refine compR_step e (fun hn hr => ?_) fun v src' σ₂ hn e1 e2 => ?_
  · exact liftE (src_next hA sx o.1 d.rel hn (fun _ h' hx' => hr ▸ hR _ _ (hr ▸ d.but S₁ hit o.1 hntt hx' _) (hr ▸ L.but o.2 hx' hntt) hacc) fun _ _ q => nomatch q)
  · refine liftE (src_next hA sx o.1 d.rel hn (fun q => nomatch q) fun v' src'' hv h' y tk hx' x' ry => ?_)
    cases hv
    have d' := d.but S₁ hit o.1 hntt hx' tk
    have ry' : VRel W β h' v y := ry.mono (fun _ _ e => e) fun a xs k q => hx' a _ (fun q' => hntt xs k (q' ▸ q)) q
    refine xE11 x'.plain fun oi hoi hpl => comp_turn (s := { s with heap := h', toks := tk }) hI hA O hx e1 d'.rel (L.but o.2 hx' hntt) rfl ry' hacc fun s₃ β₃ d₃ L₃ => ?_
    exact ⟨_, hm ▸ nextS_size hn, src', _, σ₂, β₃, rfl, e2, x'.keep (fun n a q => d₃.ext.pre _ _ q) (fun ob' q => d₃.ext.keep _ _ o.1 (fun q => o.2 (foot_l _ q)) q), o.ext (s := { s with heap := h', toks := tk }) d₃.ext hoi,
      ((d'.weak (Y := [cenv.locals]) (by simp)).trans d₃).drop hC, L₃, d₃.ext.pre _ _ hacc⟩

theorem closure_of : ∀ {names : List (Str × NameKind)} (acc : List (Str × Addr)), (∀ y, (y, NameKind.free) ∈ names → ∃ c, env.cells.lookup y = some c) →
    ∃ cl, (forIn names acc fun (p : Str × NameKind) (cs : List (Str × Addr)) => if (p.2 == NameKind.free) = true then (do let a ← cellOf env p.1; pure (ForInStep.yield ((p.1, a) :: cs)) : Sem _) else pure (ForInStep.yield cs)) = pure cl ∧
      (∀ p ∈ cl, p ∈ acc ∨ env.cells.lookup p.1 = some p.2) ∧ (∀ p ∈ acc, p ∈ cl) ∧ ∀ y, (y, NameKind.free) ∈ names → ∃ c, (y, c) ∈ cl
  | [], acc, _ => ⟨acc, rfl, fun p hp => .inl hp, fun p hp => hp, fun _ h => nomatch h⟩
  | (y, k) :: r, acc, h => by
    by_cases hk : k = .free
    · subst hk
      obtain ⟨c, hc⟩ := h y (.head _)
      obtain ⟨cl, h1, h2, h3, h4⟩ := closure_of (names := r) ((y, c) :: acc) fun z hz => h z (.tail _ hz)
      refine ⟨cl, ?_, fun p hp => ?_, fun p hp => h3 p (.tail _ hp), fun z hz => ?_⟩
      · rw [List.forIn_cons]
        have hcell : cellOf env y = pure c := by unfold cellOf; rw [hc]
        show (do let st ← (if (NameKind.free == NameKind.free) = true then (do let a ← cellOf env y; pure (ForInStep.yield ((y, a) :: acc)) : Sem _) else pure (ForInStep.yield acc)); _) = _
        rw [if_pos (by decide), hcell]
        exact h1
      · rcases h2 p hp with q | q
        · rcases List.mem_cons.mp q with q | q
          · subst q; exact .inr hc
          · exact .inl q
        · exact .inr q
      · rcases List.mem_cons.mp hz with q | q
        · cases q; exact ⟨c, h3 _ (.head _)⟩
        · exact h4 z q
    · obtain ⟨cl, h1, h2, h3, h4⟩ := closure_of (names := r) acc fun z hz => h z (.tail _ hz)
      refine ⟨cl, ?_, h2, h3, fun z hz => ?_⟩
      · rw [List.forIn_cons]
        show (do let st ← (if (k == NameKind.free) = true then (do let a ← cellOf env y; pure (ForInStep.yield ((y, a) :: acc)) : Sem _) else pure (ForInStep.yield acc)); _) = _
        rw [if_neg (by simpa using hk)]
        exact h1
      · rcases List.mem_cons.mp hz with q | q
        · cases q; exact absurd rfl hk
        · exact h4 z q
theorem closureFor_of {scope : Scope} (h : ∀ y, (y, NameKind.free) ∈ scope.names → ∃ c, env.cells.lookup y = some c) :
    ∃ cl, closureFor scope env = pure cl ∧ (∀ p ∈ cl, env.cells.lookup p.1 = some p.2) ∧ ∀ y, (y, NameKind.free) ∈ scope.names → ∃ c, (y, c) ∈ cl := by
  obtain ⟨cl, h1, h2, h3, h4⟩ := closure_of (env := env) (names := scope.names) [] h
  refine ⟨cl, ?_, fun p hp => (h2 p hp).resolve_left (by simp), h4⟩
  simp only [closureFor]
  rw [h1]
  rfl

theorem mem_of_lk {α : Type} {x : Str} {c : α} : ∀ {l : List (Str × α)}, l.lookup x = some c → (x, c) ∈ l
  | [], e => by (first | exact oN e | refine oR3 e ?_ | refine oR2 e ?_ | cases e)
  | (y, d) :: r, e => by
    rw [List.lookup_cons] at e
    cases q : (x == y) with
    | true => rw [q] at e; (first | exact oN e | refine oR3 e ?_ | refine oR2 e ?_ | cases e); rw [eq_of_beq q]; exact .head _
    | false => rw [q] at e; exact .tail _ (mem_of_lk e)
theorem lk_of_mem {α : Type} {x : Str} {c : α} : ∀ {l : List (Str × α)}, (x, c) ∈ l → ∃ d, l.lookup x = some d
  | (y, d) :: r, h => by
    rw [List.lookup_cons]
    cases q : (x == y) with
    | true => exact ⟨d, rfl⟩
    | false =>
      rcases List.mem_cons.mp h with e | e
      · (first | exact oN e | refine oR3 e ?_ | refine oR2 e ?_ | cases e); simp at q
      · exact lk_of_mem e

theorem relabel_cell {x : Str} : ∀ {names : List (Str × NameKind)}, (∀ y ∈ names, y.2 ≠ .cell) →
    (names.map fun (n, k) => if (k == .free && Γ.kind == .function && Γ.names.lookup n == some .cell) = true then (n, NameKind.cell) else (n, k)).lookup x = some .cell → (x, NameKind.free) ∈ names ∧ Γ.names.lookup x = some .cell
  | [], _, e => by (first | exact oN e | refine oR3 e ?_ | refine oR2 e ?_ | cases e)
  | (n, k) :: r, h, e => by
    rw [List.map_cons, List.lookup_cons] at e
    by_cases hc : (k == .free && Γ.kind == .function && Γ.names.lookup n == some .cell) = true
    · simp only [hc, if_true] at e
      cases q : (x == n) with
      | true =>
        have hn := eq_of_beq q
        subst hn
        simp only [Bool.and_eq_true, beq_iff_eq] at hc
        rw [hc.1.1]
        exact ⟨.head _, hc.2⟩
      | false =>
        rw [q] at e
        obtain ⟨a, b⟩ := relabel_cell (fun y hy => h y (.tail _ hy)) e
        exact ⟨.tail _ a, b⟩
    · simp only [hc, Bool.false_eq_true, if_false] at e
      cases q : (x == n) with
      | true =>
        rw [q] at e
        have e' : k = NameKind.cell := by simpa using e
        exact absurd e' (h (n, k) (.head _))
      | false =>
        rw [q] at e
        obtain ⟨a, b⟩ := relabel_cell (fun y hy => h y (.tail _ hy)) (by simpa using e)
        exact ⟨.tail _ a, b⟩
theorem relabel_free {x : Str} : ∀ {names : List (Str × NameKind)},
    ((names.map fun (n, k) => if (k == NameKind.free && Γ.kind == ScopeKind.function && Γ.names.lookup n == some NameKind.cell) = true then (n, NameKind.cell) else (n, k)).all fun (y : Str × NameKind) => y.2 != NameKind.free) = true → (x, NameKind.free) ∈ names → Γ.names.lookup x = some .cell
  | (n, k) :: r, h, hm => by
    rw [List.map_cons, List.all_cons, Bool.and_eq_true] at h
    rcases List.mem_cons.mp hm with e | e
    · (first | exact oN e | refine oR3 e ?_ | refine oR2 e ?_ | cases e)
      have h1 := h.1
      by_cases hc : (NameKind.free == NameKind.free && Γ.kind == ScopeKind.function && Γ.names.lookup x == some NameKind.cell) = true
      · simp only [Bool.and_eq_true, beq_iff_eq] at hc
        exact hc.2
      · simp only [hc, Bool.false_eq_true, if_false] at h1
        simp at h1
    · exact relabel_free h.2 e

theorem comp_block (hI : Sound W n I) (hA : AOk n A) (O : EnvOK Γ env) {x : Str} {px : Pos} {elt iter : Expr} {ifs : List Expr} {scope : Scope} {pos : Pos} {src : Src} {r : Rho × Store} {it : Addr} {s₁ : Shared} {β₁ : List Addr} {σ₁ : Store} {cl : List (Str × Addr)} {RR : Value → Addr → Result → Shared → Prop}
    (hk : scope.kind = .function) (hx : (relabelS scope Γ).names.lookup x = some .local) (hcell : ∀ y ∈ scope.names, y.2 ≠ .cell) (hcl : ∀ p ∈ cl, env.cells.lookup p.1 = some p.2) (hfr : ∀ y, (y, NameKind.free) ∈ scope.names → ∃ c, (y, c) ∈ cl)
    (S₁ : SRel W σ₁ β₁ s₁.heap) (hit : s₁.heap.get? it = none) (S : SRel W σ₁ β₁ s.heap) (d : Done W [] β₁ s₁ σ₁ β₁ s) (L : LRel W env ρ β₁ s.heap) (hlt : s₁.heap.objs.size ≤ s.heap.objs.size) (o : Off env β₁ it) (sx : SrcAt β₁ s.heap it src)
    (e : compR I (relabelS scope Γ) x σ₁.length elt ifs src (hideL (relabelS scope Γ) ρ) (σ₁ ++ [.lst []]) = some r)
    (self : ∀ {s₂ : Shared} {β₂ : List Addr} {Q : Value → Shared → Prop}, SrcAt β₂ s₂.heap it src → Q (.ref it) s₂ → wpAny (MM W) A (pyIter (.ref it)) Q (fun _ _ => False) s₂)
    (hR : ∀ acc Cd s' β', Done W [] β₁ s₁ r.2 β' s' → s₁.heap.get? Cd = none → Cd ∉ β' → (∀ a ∈ foot env, a ≠ Cd) → (∃ m, s'.heap.Ns Cd m) → β'[σ₁.length]? = some acc → RR (.ref acc) Cd (.ok .next) s') :
    wpAny (MM W) A (newList []) (fun acc s₃ => wpAny (MM W) A (newFunctionEnv scope env.globals cl [] env.qual none .none (some env)) (fun cenv s₄ =>
      codeAny (MM W) A (.compStart (.ListComp elt [⟨.Name x px, iter, ifs, 0⟩] scope pos) 0 (.ref it) acc { cenv with scope := relabel scope env }) (RR acc cenv.locals) s₄) (fun _ _ => False) s₃) (fun _ _ => False) s := by
  have dacc : Done W [] β₁ s (σ₁ ++ [.lst []]) (β₁ ++ [s.heap.objs.size]) { s with heap := s.heap.push (lstO #[] 0), toks := s.toks } := Done.alloc (o := .lst []) (ob := lstO #[] 0) S rfl ⟨_, _, rfl, .nil⟩ _
  refine wpAny_newObj_type (wpAny_newFunctionEnv hcell (by intro y hy; simp at hy) (fun h₁ hns₁ hsb₁ => ?_) hk) (by size_fits)
  have hk' : env.scope.kind = .function := by rw [O.scope]; exact O.kind
  have hrel : relabel scope env = relabelS scope Γ := by
    unfold relabel relabelS Env.kindOf
    rw [O.scope]
  dsimp only at hns₁ hsb₁ ⊢
  generalize hH : s.heap.push { cls := .type "list", dict := none, data := .seq ([] : List Value).toArray } = H at hns₁ hsb₁ ⊢
  have hHs : H.objs.size = s.heap.objs.size + 1 := by rw [← hH, Heap.size_push]
  have hHl : s.heap.objs.size < H.objs.size := by rw [hHs]; exact Nat.lt_succ_self _
  have dacc' : Done W [] β₁ s (σ₁ ++ [.lst []]) (β₁ ++ [s.heap.objs.size]) { s with heap := H, toks := s.toks } := hH ▸ dacc
  have d3 := d.trans dacc'
  have d4 := d3.trans (Done.push (X := []) d3.rel { cls := .type "dict", data := .dict #[] } s.toks)
  have hCd : s₁.heap.get? H.objs.size = none := by
    cases q : s₁.heap.get? H.objs.size with
    | none => rfl
    | some o => exact absurd (Heap.lt_size q) (Nat.not_lt.mpr (Nat.le_trans hlt (Nat.le_of_lt hHl)))
  have hCs : s.heap.get? H.objs.size = none := by
    cases q : s.heap.get? H.objs.size with
    | none => rfl
    | some o => exact absurd (Heap.lt_size q) (Nat.not_lt.mpr (Nat.le_of_lt hHl))
  have hCβ : H.objs.size ∉ β₁ ++ [s.heap.objs.size] := not_mem_size d3.rel
  have hnt4 : ∀ xs k, (H.push { cls := .type "dict", data := .dict #[] }).get? H.objs.size ≠ some (tupO xs k) := fun xs k q => by
    rw [Heap.get?_push_size _ rfl] at q
    have h := congrArg Obj.cls (Option.some.inj q)
    injection h with h
    exact absurd h (by decide)
  have d5 : Done W [] β₁ s₁ (σ₁ ++ [.lst []]) (β₁ ++ [s.heap.objs.size]) { s with heap := h₁, toks := s.toks + ([] : List (Str × Value)).length } := d4.but S₁ hCd hCβ hnt4 hsb₁.extBut _
  have old : ∀ b o, s.heap.get? b = some o → h₁.get? b = some o := fun b o e => hsb₁.extBut b o (fun q => by rw [q, hCs] at e; (first | exact oN e | refine oR3 e ?_ | refine oR2 e ?_ | cases e)) (Heap.get?_push_of_some _ (hH ▸ Heap.get?_push_of_some _ e))
  have eext : ∀ {v y}, VRel W β₁ s.heap v y → VRel W (β₁ ++ [s.heap.objs.size]) h₁ v y := fun r => r.mono get_snoc_pre fun _ _ _ e => old _ _ e
  have hff : ∀ a ∈ foot env, a ≠ H.objs.size := fun a ha q => by
    rcases List.mem_cons.mp ha with q' | q'
    · have h1 := L.locals_lt
      rw [← q', q] at h1
      exact absurd h1 (Nat.not_lt.mpr (Nat.le_of_lt hHl))
    · obtain ⟨p, hp, e⟩ := List.mem_map.mp q'
      obtain ⟨_, _, _, y, o, ho, _⟩ := L.cfresh p hp
      rw [e, q, hCs] at ho; cases ho
  have Lc : LRel W { newEnv scope H.objs.size env.globals cl env.qual none .none (some env) builtinsNs with scope := relabel scope env } (hideL (relabelS scope Γ) ρ) (β₁ ++ [s.heap.objs.size]) h₁ := by
    have kd : ∀ y, Env.kindOf { newEnv scope H.objs.size env.globals cl env.qual none .none (some env) builtinsNs with scope := relabel scope env } y = (relabelS scope Γ).names.lookup y := fun y => by show (relabel scope env).names.lookup y = _; rw [hrel]
    have cellAt : ∀ y, (relabelS scope Γ).names.lookup y = some .cell → ∃ c, cl.lookup y = some c ∧ env.cells.lookup y = some c ∧ env.kindOf y = some .cell := fun y hy => by
      obtain ⟨h1, h2⟩ := relabel_cell hcell hy
      obtain ⟨c, hc⟩ := hfr y h1
      obtain ⟨c', hc'⟩ := lk_of_mem hc
      exact ⟨c', hc', hcl _ (mem_of_lk hc'), by unfold Env.kindOf; rw [O.scope]; exact h2⟩
    refine ⟨⟨_, hns₁, fun y v hy hv => ?_⟩, fun y v hy hv => ?_, fun y hy => ?_, ⟨hCβ, ?_⟩, fun p hp => ?_, fun y z c h1 h2 => ?_, ?_⟩
    · rw [kd] at hy
      unfold hideL at hv
      rw [if_pos hy] at hv; cases hv
    · rw [kd] at hy
      obtain ⟨c, h1, h2, h3⟩ := cellAt y hy
      unfold hideL at hv
      split at hv
      · cases hv
      obtain ⟨c', w, e1, ic, r⟩ := L.cell y v h3 hv
      rw [h2] at e1; (first | exact oN e1 | refine oR3 e1 ?_ | refine oR2 e1 ?_ | cases e1)
      exact ⟨c, w, h1, ic.keeps old, eext r⟩
    · rw [kd] at hy
      obtain ⟨c, h1, h2, h3⟩ := cellAt y hy
      obtain ⟨c', w, e1, ic⟩ := L.cells y h3
      rw [h2] at e1; (first | exact oN e1 | refine oR3 e1 ?_ | refine oR2 e1 ?_ | cases e1)
      exact ⟨c, w, h1, ic.keeps old⟩
    · cases q : W.h0.get? H.objs.size with
      | none => exact q
      | some o => have := S.keep _ _ q; rw [hCs] at this; cases this
    · have hp' := mem_of_lookup (hcl p hp)
      obtain ⟨a1, a2, a3, y, ic⟩ := L.cfresh _ hp'
      refine ⟨fun q => ?_, a2, hff _ (.tail _ (List.mem_map_of_mem hp')), y, ic.keeps old⟩
      rcases List.mem_append.mp q with q | q
      · exact a1 q
      · rw [List.mem_singleton] at q
        obtain ⟨o, ho, _⟩ := ic
        exact absurd (Heap.lt_size ho) (by rw [q]; exact Nat.lt_irrefl _)
    · exact L.cinj y z c (hcl _ (mem_of_lk h1)) (hcl _ (mem_of_lk h2))
    · show W.h0.objs.size ≤ H.objs.size
      have h1 := L.locals_lt
      have h2 := L.above
      exact Nat.le_trans h2 (Nat.le_trans (Nat.le_of_lt h1) (Nat.le_of_lt hHl))
  have Oc : EnvOK (relabelS scope Γ) { newEnv scope H.objs.size env.globals cl env.qual none .none (some env) builtinsNs with scope := relabel scope env } := ⟨hrel, hk, O.glob, O.bi⟩
  obtain ⟨oi, hoi, _⟩ := sx.isAt
  have oc : Off { newEnv scope H.objs.size env.globals cl env.qual none .none (some env) builtinsNs with scope := relabel scope env } (β₁ ++ [s.heap.objs.size]) it := by
    refine ⟨fun q => ?_, fun q => ?_⟩
    · rcases List.mem_append.mp q with q | q
      · exact o.1 q
      · rw [List.mem_singleton] at q
        exact absurd (Heap.lt_size hoi) (by rw [q]; exact Nat.lt_irrefl _)
    · rcases List.mem_cons.mp q with q | q
      · have q' : it = H.objs.size := q
        rw [q', hCs] at hoi; cases hoi
      · obtain ⟨p, hp, e'⟩ := List.mem_map.mp q
        have e2 : p.2 = it := e'
        exact o.2 (.tail _ (e2 ▸ List.mem_map_of_mem (mem_of_lookup (hcl p hp))))
  have sx' : SrcAt (β₁ ++ [s.heap.objs.size]) h₁ it src := sx.keep get_snoc_pre fun o e => old _ _ e
  have hacc : (β₁ ++ [s.heap.objs.size])[σ₁.length]? = some s.heap.objs.size := by rw [← S.len]; simp
  have loop : ∀ s₂ : Shared, s₂ = { s with heap := h₁, toks := s.toks + ([] : List (Str × Value)).length } →
      codeAny (MM W) A (.compLoop (.ListComp elt [⟨.Name x px, iter, ifs, 0⟩] scope pos) 0 (.ref it) (.ref s.heap.objs.size) { newEnv scope H.objs.size env.globals cl env.qual none .none (some env) builtinsNs with scope := relabel scope env }) (RR (.ref s.heap.objs.size) H.objs.size) s₂ := by
    rintro s₂ rfl
    refine comp_loop hI hA Oc hx S₁ hit hCd e sx' oc d5 Lc hacc fun s' β' d' L' ha' => ?_
    obtain ⟨m, hn, _⟩ := L'.ns
    exact hR _ _ _ _ d' hCd L'.lfresh.1 hff ⟨m, hn⟩ ha'
  exact codeAny_compStart_list (loop _ rfl) (liftE (self sx' (loop _ rfl)))

noncomputable def CompOk (Γ scope : Scope) (x : Str) (iter : Expr) : Prop := scope.kind = .function ∧ Γ.kind = .function ∧ scope.names.lookup x = some .local ∧ (scope.names.all fun y => y.2 != .local || scope.names.lookup y.1 == some .local) = true ∧ ((relabelS scope Γ).names.all fun y => y.2 != .free) = true ∧ (scope.names.all fun y => y.2 != .cell) = true ∧ isSet iter = false
theorem compV_inv {elt : Expr} {gens : List Comprehension} {scope : Scope} {pos : Pos} {v : V} {σ' : Store} {G : List Comprehension → V → Store → Prop} (e : compV I Γ ρ σ (.ListComp elt gens scope pos) = some (v, σ'))
    (k1 : ∀ x px iter ifs ns σ₁ r, CompOk Γ scope x iter → rangeOf I Γ ρ σ iter = some (ns, σ₁) → compI I (relabelS scope Γ) x σ₁.length elt ifs (hideL (relabelS scope Γ) ρ) (σ₁ ++ [.lst []]) ns = some r → G [⟨.Name x px, iter, ifs, 0⟩] (.ref σ₁.length) r.2)
    (k2 : ∀ x px iter ifs l σ₁ r, CompOk Γ scope x iter → I.e Γ ρ σ iter = some (.ref l, σ₁) → compL I (relabelS scope Γ) x σ₁.length elt ifs l (lenAt σ₁ l) 0 (hideL (relabelS scope Γ) ρ) (σ₁ ++ [.lst []]) = some r → G [⟨.Name x px, iter, ifs, 0⟩] (.ref σ₁.length) r.2) : G gens v σ' := by
  rcases gens with _ | ⟨⟨target, iter, ifs, as⟩, _ | _⟩
  · (first | exact oN e | refine oR3 e ?_ | refine oR2 e ?_ | cases e)
  · refine ob1 e fun x hx e' => ?_
    clear e
    obtain rfl := nameOf_inv hx
    clear hx
    refine obI e' fun has e => ?_
    clear e'
    subst has
    refine obI e fun hc e => ?_
    by_cases hr : isRange iter = true
    · exact ob2 ((if_pos hr).symm.trans e) fun ns σ₁ e1 e => ob1 e fun r e2 e => oR2 e (k1 x.1 x.2 iter ifs ns σ₁ r hc e1 e2)
    · refine ob2 ((if_neg hr).symm.trans e) fun a σ₁ e1 e => ?_
      cases a with
      | ref l => exact ob1 e fun r e2 e => oR2 e (k2 x.1 x.2 iter ifs l σ₁ r hc e1 e2)
        | _ => exact oN e
  · exact oN e

theorem comp_scopes {scope : Scope} {x : Str} {iter : Expr} (O : EnvOK Γ env) (L : LRel W env ρ β s.heap) (hc : CompOk Γ scope x iter) : (relabelS scope Γ).names.lookup x = some .local ∧ (∀ y ∈ scope.names, y.2 ≠ .cell) ∧ (∀ y ∈ scope.names, y.2 = .local → scope.names.lookup y.1 = some .local) ∧ ∀ y, (y, NameKind.free) ∈ scope.names → ∃ c, env.cells.lookup y = some c := by
  obtain ⟨hk, hk2, hx, hloc, hfree, hcell, hset⟩ := hc
  refine ⟨?_, fun y hy => ?_, fun y hy hl => ?_, fun y hy => ?_⟩
  · have hrel : relabel scope env = relabelS scope Γ := by
      unfold relabel relabelS Env.kindOf
      rw [O.scope]
    rw [← hrel]; exact lookup_relabel_local hx
  · have := List.all_eq_true.mp hcell y hy
    simpa using this
  · have := List.all_eq_true.mp hloc y hy
    rw [hl] at this
    simpa using this
  · obtain ⟨c, _, h, _⟩ := L.cells y (by unfold Env.kindOf; rw [O.scope]; exact relabel_free hfree hy)
    exact ⟨c, h⟩
noncomputable def CompQ (W : Wd) (A : Around) (env : Env) (ρ : Rho) (β : List Addr) (s : Shared) (use : Option (Value → Sem Unit)) (Q : Value → Shared → Prop) (v : V) (σ' : Store) : Prop :=
  ∀ acc Cd s₁ β₁ σ₁ s' β', Done W [env.locals] β s σ₁ β₁ s₁ → LRel W env ρ β₁ s₁.heap → v = .ref σ₁.length → Done W [] β₁ s₁ σ' β' s' → s₁.heap.get? Cd = none → Cd ∉ β' → (∀ a ∈ foot env, a ≠ Cd) → (∃ m, s'.heap.Ns Cd m) → β'[σ₁.length]? = some acc → compPost (MM W) A (fun _ _ => False) use Q (.ref acc) Cd (.ok .next) s'
theorem comp_sound (hI : Sound W n I) (G : WOK W T) (hA : AOk n A) (O : EnvOK Γ env) {elt : Expr} {gens : List Comprehension} {scope : Scope} {pos cpos : Pos} {v : V} {σ' : Store} {use : Option (Value → Sem Unit)} {Q : Value → Shared → Prop} (e : compV I Γ ρ σ (.ListComp elt gens scope pos) = some (v, σ')) (S : SRel W σ β s.heap) (L : LRel W env ρ β s.heap)
    (hQ : CompQ W A env ρ β s use Q v σ') :
    wpAny (MM W) A (comprehension (.ListComp elt gens scope pos) scope env cpos (newList []) (firstAsync gens) (firstIter gens env) use) Q (fun _ _ => False) s := by
  revert hQ
  refine compV_inv (G := fun gens v σ' => CompQ W A env ρ β s use Q v σ' → wpAny (MM W) A (comprehension (.ListComp elt gens scope pos) scope env cpos (newList []) (firstAsync gens) (firstIter gens env) use) Q (fun _ _ => False) s) e ?_ ?_
  · intro x px iter ifs ns σ₁ r hc e1 e2 hQ
    obtain ⟨hx', hcell', hnames, hcells⟩ := comp_scopes O L hc
    obtain ⟨cl, hcl, h1, h2⟩ := closureFor_of hcells
    refine wpAny_comprehension_free (cl := cl) rfl (fun _ => folded_of hc.2.2.2.2.2.2) hcl hc.1 hnames (wpAny_mono (range_sound hI G e1 hA O S L) (fun y s₁ q => range_start (X := []) q fun β₁ it s₂ d₁ L₁ hit d₂ L₂ o₂ x₂ hlt => ?_) fun _ _ q => q)
    exact comp_block hI hA O hc.1 hx' hcell' h1 h2 d₁.rel hit d₂.rel d₂ L₂ hlt o₂ x₂ e2 (fun {s₂ β₂ Q} hs q => by obtain ⟨a', h3, _⟩ := hs; exact wpAny_pyIter_rangeiter h3 q) fun acc Cd s' β' d' c1 c2 c3 c4 c5 => hQ acc Cd s₁ β₁ σ₁ s' β' d₁ L₁ rfl d' c1 c2 c3 c4 c5
  · intro x px iter ifs l σ₁ r hc e1 e2 hQ
    obtain ⟨hx', hcell', hnames, hcells⟩ := comp_scopes O L hc
    obtain ⟨cl, hcl, h1, h2⟩ := closureFor_of hcells
    refine wpAny_comprehension_free (cl := cl) rfl (fun _ => folded_of hc.2.2.2.2.2.2) hcl hc.1 hnames (EvE.then (hI.e e1 hA O S L) fun y s₁ β₁ d₁ L₁ r₁ => ?_)
    obtain ⟨ws, hw⟩ := compL_lst e2
    have hl : l < σ₁.length := by obtain ⟨a, _, ea⟩ := r₁.ref_inv; rw [← d₁.rel.len]; exact idx_lt ea
    rw [List.getElem?_append_left hl] at hw
    refine iter_list (X := []) d₁.rel L₁ hw r₁ fun it s₂ rem hit d₂ L₂ o₂ x₂ hlt => ?_
    exact comp_block hI hA O hc.1 hx' hcell' h1 h2 d₁.rel hit d₂.rel d₂ L₂ hlt o₂ (x₂.anyRem (rem' := lenAt σ₁ l)) e2 (fun {s₂ β₂ Q} hs q => by obtain ⟨a', _, h3⟩ := hs; exact wpAny_pyIter_listiter h3 q) fun acc Cd s' β' d' c1 c2 c3 c4 c5 => hQ acc Cd s₁ β₁ σ₁ s' β' d₁ L₁ rfl d' c1 c2 c3 c4 c5

theorem ns_nt {h : Heap} {c : Addr} {m : Str → Option Value} (hn : h.Ns c m) : ∀ xs k, h.get? c ≠ some (tupO xs k) := fun xs k q => ns_not_tup hn q

theorem sound_comp (hI : Sound W n I) (G : WOK W T) {elt : Expr} {gens : List Comprehension} {scope : Scope} {pos : Pos} {v : V} {σ' : Store} (e : stepE C I Γ ρ σ (.ListComp elt gens scope pos) = some (v, σ')) (hA : AOk n A) (O : EnvOK Γ env) (S : SRel W σ β s.heap) (L : LRel W env ρ β s.heap) :
    EvE W A env ρ β s (eval (.ListComp elt gens scope pos) env) v σ' := by
  change compV I Γ ρ σ (.ListComp elt gens scope pos) = _ at e
  unfold EvE
  rw [eval_ListComp]
  refine comp_sound hI G hA O (use := none) e S L fun acc Cd s₁ β₁ σ₁ s' β' d₁ L₁ hv d' c1 c2 c3 c4 c5 => ?_
  obtain ⟨m, hn⟩ := c4
  refine ⟨m, hn, fun h' hs => ?_⟩
  have d2 : Done W [] β₁ s₁ σ' β' { s' with heap := h', toks := s'.toks } := d'.but d₁.rel c1 c2 (ns_nt hn) hs.extBut _
  subst hv
  exact ⟨β', d₁.trans (d2.weak (by simp)), d2.lrel L₁, .ref c5⟩

theorem sound_comp_used (hI : Sound W n I) (G : WOK W T) {y : Str} {py pos spos : Pos} {elt : Expr} {gens : List Comprehension} {scope : Scope} {v : V} {σ' : Store} (e : I.e Γ ρ σ (.ListComp elt gens scope pos) = some (v, σ')) (he : ∀ {Γ ρ σ e r}, I.e Γ ρ σ e = some r → ∃ I', Sound W n I' ∧ stepE C I' Γ ρ σ e = some r)
    (hl : Γ.names.lookup y = some .local) (hline : py.line = pos.line) (hf : compFree y (.ListComp elt gens scope pos) = true) (hA : AOk n A) (O : EnvOK Γ env) (S : SRel W σ β s.heap) (L : LRel W env ρ β s.heap) :
    EvS W A env β s (exec (.Assign [.Name y py] (.ListComp elt gens scope pos) spos) env) .next (ρ.set y v) σ' := by
  obtain ⟨I', hI', e⟩ := he e
  change compV I' Γ ρ σ (.ListComp elt gens scope pos) = _ at e
  have hk : env.scope.kind = .function := by rw [O.scope]; exact O.kind
  have kd : env.kindOf y = some .local := by unfold Env.kindOf; rw [O.scope]; exact hl
  have hsw : swapsWith (.ListComp elt gens scope pos) (some (.Name y py)) spos.line env = pure true := by
    unfold swapsWith
    have h1 : (scope.names.any fun (n, k) => n == y && (k == .local || k == .cell)) = false := by
      unfold compFree at hf
      simpa using hf
    show (pure (env.blockKind == .function && env.kindOf y == some .local && py.line == pos.line && !(scope.names.any fun (n, k) => n == y && (k == .local || k == .cell))) : Sem Bool) = _
    rw [h1, kd, hline]
    unfold Env.blockKind
    rw [hk]
    simp [ScopeKind.isAnnotationScope]
  unfold EvS
  rw [exec_Assign_Name_used _ _ _ _ hsw]
  refine wpAny_bind (wpAny_standAt (wpAny_bind ?_))
  show wpAny _ A (do let _ ← comprehension (.ListComp elt gens scope pos) scope env (firstIterPos gens pos) (newList []) (firstAsync gens) (firstIter gens env) (some (assign (.Name y py) env))) _ _ s
  refine wpAny_bind (wpAny_mono (comp_sound (Q := fun _ s' => PostS W env β s .next (ρ.set y v) σ' .next s') hI' G hA O (use := some (assign (.Name y py) env)) e S L fun acc Cd s₁ β₁ σ₁ s' β' d₁ L₁ hv d' c1 c2 c3 c4 c5 => ?_) (fun _ s' hq => wpAny_pure (wpAny_pure hq)) fun _ _ q => q)
  show wpAny _ A (assign (.Name y py) env (.ref acc)) _ _ _
  obtain ⟨m, hn⟩ := c4
  subst hv
  refine wpAny_assign_Name (store_local' O hl d'.rel (d'.lrel L₁) (.ref c5) fun s₂ d₂ L₂ => ?_)
  have hCl : Cd ∉ [env.locals] := fun q => c3 env.locals (.head _) (by rw [List.mem_singleton] at q; exact q.symm)
  obtain ⟨oC, es, ep, ho, hd, r⟩ := id hn
  have hn2 : s₂.heap.Ns Cd m := ⟨oC, es, ep, d₂.ext.keep _ _ c2 hCl ho, hd, r⟩
  refine ⟨m, hn2, fun h' hs => ?_⟩
  have dd : Done W [env.locals] β₁ s₁ σ' β' s₂ := (d'.weak (by simp)).trans d₂
  have d3 : Done W [env.locals] β₁ s₁ σ' β' { s₂ with heap := h', toks := s₂.toks } := dd.but d₁.rel c1 c2 (ns_nt hn2) hs.extBut _
  exact ⟨β', (d₁.trans d3).weak foot_l, L₂.but (fun q => c3 _ q rfl) hs.extBut (ns_nt hn2), trivial⟩
end
end
section
section
variable {W : Wd} {T : Tab} {A : Around} {env cenv : Env} {Γ : Scope} {ρ : Rho} {σ : Store} {β : List Addr} {s : Shared} {n : Nat} {C : Cfg} {I : Itp}

theorem EvS.ofE {v : V} {σ₁ : Store} {t : Sem Value} {Q : Value → Shared → Prop} (h : EvE W A env ρ β s t v σ₁) (k : ∀ x s' β', Done W [env.locals] β s σ₁ β' s' → LRel W env ρ β' s'.heap → VRel W β' s'.heap v x → Q x s') : wpAny (MM W) A t Q (fun _ _ => False) s := h.then k

theorem not_interactive (O : EnvOK Γ env) : interactive env = false := by
  unfold interactive
  rw [O.scope, O.kind]; rfl

theorem swaps_none {e : Expr} {t : Option Expr} {l : Nat} (h : isComp e = false) : swapsWith e t l env = pure false := by
  cases e <;> first | rfl | (first | exact oN h | refine oR3 h ?_ | refine oR2 h ?_ | cases h)

theorem sound_expr (hI : Sound W n I) {e : Expr} {p : Pos} {f : FlowA} {ρ' : Rho} {σ' : Store} (e0 : stepS C I Γ ρ σ (.Expr e p) = some (f, ρ', σ')) (hA : AOk n A) (O : EnvOK Γ env) (S : SRel W σ β s.heap) (L : LRel W env ρ β s.heap) :
    EvS W A env β s (exec (.Expr e p) env) f ρ' σ' := by
  change (if isComp e = true then none else (I.e Γ ρ σ e).bind fun q => match q.1 with
    | .none => some (FlowA.next, ρ, q.2)
    | _ => none) = _ at e0
  split at e0
  · (first | exact oN e0 | refine oR3 e0 ?_ | refine oR2 e0 ?_ | cases e0)
  rename_i hc
  refine ob2 e0 fun a σ₁ e1 e0 => ?_
  cases a with
  | none =>
    (first | exact oN e0 | refine oR3 e0 ?_ | refine oR2 e0 ?_ | cases e0)
    refine wpAny_Expr (EvE.then (hI.e e1 hA O S L) fun x s₁ β₁ d₁ L₁ r₁ => ?_) (not_interactive O) (swaps_none (by simpa using hc))
    cases r₁
    exact ⟨β₁, d₁.weak foot_l, L₁, trivial⟩
  | _ => (first | exact oN e0 | refine oR3 e0 ?_ | refine oR2 e0 ?_ | cases e0)

theorem sound_return (hI : Sound W n I) {e : Option Expr} {p : Pos} {f : FlowA} {ρ' : Rho} {σ' : Store} (e0 : stepS C I Γ ρ σ (.Return e p) = some (f, ρ', σ')) (hA : AOk n A) (O : EnvOK Γ env) (S : SRel W σ β s.heap) (L : LRel W env ρ β s.heap) :
    EvS W A env β s (exec (.Return e p) env) f ρ' σ' := by
  cases e with
  | none =>
    (first | exact oN e0 | refine oR3 e0 ?_ | refine oR2 e0 ?_ | cases e0)
    exact wpAny_Return_none ⟨β, Done.same' S, L, VRel.none⟩
  | some e =>
    refine ob2 e0 fun a σ₁ e1 e0 => ?_
    (first | exact oN e0 | refine oR3 e0 ?_ | refine oR2 e0 ?_ | cases e0)
    exact wpAny_Return_some (EvE.then (hI.e e1 hA O S L) fun x s₁ β₁ d₁ L₁ r₁ => ⟨β₁, d₁.weak foot_l, L₁, r₁⟩)

theorem sound_if (hI : Sound W n I) {c : Expr} {a b : List Stmt} {p : Pos} {f : FlowA} {ρ' : Rho} {σ' : Store} (e0 : stepS C I Γ ρ σ (.If c a b p) = some (f, ρ', σ')) (hA : AOk n A) (O : EnvOK Γ env) (S : SRel W σ β s.heap) (L : LRel W env ρ β s.heap) :
    EvS W A env β s (exec (.If c a b p) env) f ρ' σ' := by
  change ((I.t Γ ρ σ c).bind fun p => if p.1 = true then I.ss Γ ρ p.2 a else I.ss Γ ρ p.2 b) = _ at e0
  refine ob2 e0 fun t σ₁ e1 e0 => ?_
  refine wpAny_If (EvT.then (hI.t e1 hA O S L) fun s₁ β₁ d₁ L₁ => ?_)
  cases t with
  | true => exact wpAny_mono (hI.ss e0 hA O d₁.rel L₁) (fun c s₂ q => q.after d₁ foot_l) fun _ _ q => q
  | false => exact wpAny_mono (hI.ss e0 hA O d₁.rel L₁) (fun c s₂ q => q.after d₁ foot_l) fun _ _ q => q

noncomputable def whlJ (W : Wd) (env : Env) (I : Itp) (Γ : Scope) (c : Expr) (body : List Stmt) (β₁ : List Addr) (s₁ : Shared) (r : FlowA × Rho × Store) (m : Nat) (s : Shared) : Prop :=
  ∃ ρ σ β, whileA I Γ c body m ρ σ = some r ∧ Done W (foot env) β₁ s₁ σ β s ∧ LRel W env ρ β s.heap
theorem whlJ.elim {c : Expr} {body : List Stmt} {β₁ : List Addr} {s₁ : Shared} {r : FlowA × Rho × Store} {m : Nat} {G : Prop} (h : whlJ W env I Γ c body β₁ s₁ r m s) (k : ∀ ρ σ β, whileA I Γ c body m ρ σ = some r → Done W (foot env) β₁ s₁ σ β s → LRel W env ρ β s.heap → G) : G := by
  obtain ⟨ρ, σ, β, h1, h2, h3⟩ := h; exact k ρ σ β h1 h2 h3
theorem while_step {c : Expr} {body : List Stmt} {m : Nat} {r : FlowA × Rho × Store} {G : Prop} (e : whileA I Γ c body m ρ σ = some r) (k1 : ∀ σ₁, I.t Γ ρ σ c = some (false, σ₁) → r = (.next, ρ, σ₁) → G)
    (k2 : ∀ m' σ₁ f ρ₂ σ₂, m = m' + 1 → I.t Γ ρ σ c = some (true, σ₁) → I.ss Γ ρ σ₁ body = some (f, ρ₂, σ₂) → flowR (whileA I Γ c body m' ρ₂ σ₂) f ρ₂ σ₂ r → G) : G := by
  cases m with
  | zero => exact oN e
  | succ m =>
    refine ob2 e fun t σ₁ e1 e => ?_
    cases t with
    | false => exact k1 σ₁ e1 (Option.some.inj e).symm
    | true => exact ob3 e fun f ρ₂ σ₂ e2 e => k2 m σ₁ f ρ₂ σ₂ rfl e1 e2 (flowR_of e)
theorem while_loop (hI : Sound W n I) (hA : AOk n A) (O : EnvOK Γ env) {c : Expr} {body : List Stmt} {k : Nat} {r : FlowA × Rho × Store} {β₁ : List Addr} {s₁ : Shared} {R : Result → Shared → Prop}
    (e : whileA I Γ c body k ρ σ = some r) (d : Done W (foot env) β₁ s₁ σ β s) (L : LRel W env ρ β s.heap) (hR : ∀ f ρ' σ' c s', r = (f, ρ', σ') → PostS W env β₁ s₁ f ρ' σ' c s' → R (.ok c) s') : codeAny (MM W) A (.whileLoop c body [] env) R s := by
  refine codeAny_whileLoop (whlJ W env I Γ c body β₁ s₁ r) ?_ k ⟨ρ, σ, β, e, d, L⟩
  clear e d L
  refine fun m s J => J.elim fun ρ σ β e d L => while_step e (fun σ₁ e1 hr => ?_) fun m' σ₁ fl ρ₂ σ₂ hm e1 e2 e3 => ?_
  · refine liftE (EvT.then (hI.t e1 hA O d.rel L) fun s₂ β₂ d₂ L₂ => ?_)
    rw [if_neg (by decide)]
    exact wpAny_execs_nil (hR _ _ _ _ _ hr ⟨β₂, d.trans (d₂.weak foot_l), L₂, trivial⟩)
  · refine liftE (EvT.then (hI.t e1 hA O d.rel L) fun s₂ β₂ d₂ L₂ => ?_)
    rw [if_pos rfl]
    refine liftE (wpAny_mono (hI.ss e2 hA O d₂.rel L₂) (fun c' s₃ ⟨β₃, d₃, L₃, r₃⟩ => ?_) fun _ _ q => q)
    have d3 := (d.trans (d₂.weak foot_l)).trans d₃
    exact loop_end (R := fun c => R (.ok c) s₃) e3 r₃ (fun q => ⟨m', hm ▸ Nat.lt_succ_self _, ρ₂, σ₂, β₃, q, d3, L₃⟩) fun f c h q => hR _ _ _ _ _ h ⟨β₃, d3, L₃, q⟩

theorem sound_while (hI : Sound W n I) {c : Expr} {body : List Stmt} {p : Pos} {f : FlowA} {ρ' : Rho} {σ' : Store} (e0 : stepS C I Γ ρ σ (.While c body [] p) = some (f, ρ', σ')) (hA : AOk n A) (O : EnvOK Γ env) (S : SRel W σ β s.heap) (L : LRel W env ρ β s.heap) :
    EvS W A env β s (exec (.While c body [] p) env) f ρ' σ' := by
  change whileA I Γ c body whileMax ρ σ = _ at e0
  exact wpAny_While (while_loop hI hA O e0 (Done.same' S) L fun f ρ' σ' c s' h q => by cases h; exact q)

theorem sound_try (hI : Sound W n I) {body : List Stmt} {hs : List ExceptHandler} {p : Pos} {f : FlowA} {ρ' : Rho} {σ' : Store} (e0 : stepS C I Γ ρ σ (.Try body hs [] [] p) = some (f, ρ', σ')) (hA : AOk n A) (O : EnvOK Γ env) (S : SRel W σ β s.heap) (L : LRel W env ρ β s.heap) :
    EvS W A env β s (exec (.Try body hs [] [] p) env) f ρ' σ' := by
  change I.ss Γ ρ σ body = _ at e0
  show wpAny _ _ (do standAt p; tryStmt false (execs body env) hs (execs [] env) [] env) _ _ _
  refine wpAny_bind (wpAny_standAt ?_)
  show wpAny _ _ (do
    match ← (execs body env).attempt with
    | .ok .next => execs [] env
    | .ok f => pure f
    | .error e =>
      noteFrame e env
      if hs.isEmpty then throw e
      setFlight e none
      if false && hs.any (fun | .ExceptHandler none .. => true | _ => false) then unsupported "internal:except-star-without-type"
      if false then runOwn (.starHandlers e e (← newList []) hs env) env (some e) else handleBy e env hs) _ _ _
  refine wpAny_bind (wpAny_attempt (wpAny_mono (hI.ss e0 hA O S L) (fun c s' q => ?_) fun _ _ q => q.elim))
  cases c with
  | next => exact wpAny_execs_nil q
  | _ => exact wpAny_pure q

theorem foot_r : ∀ x ∈ foot env, x ∈ foot env := fun _ h => h

theorem sound_assign_gen (hI : Sound W n I) (G : WOK W T) (hCa : C.attr = T.attr) {t e : Expr} {p : Pos} {ρ' : Rho} {σ' : Store} (hc : isComp e = false) (ht : (isTuple t && isTuple e) = false)
    {v : V} {σ₁ : Store} (e1 : I.e Γ ρ σ e = some (v, σ₁)) (e2 : asg C I Γ ρ σ₁ t v = some (ρ', σ')) (hA : AOk n A) (O : EnvOK Γ env) (S : SRel W σ β s.heap) (L : LRel W env ρ β s.heap) :
    EvS W A env β s (exec (.Assign [t] e p) env) .next ρ' σ' := by
  have hstar : notStar t = true := by
    cases t <;> first | rfl | (cases e2)
  have hsw : swappedStores [t] e env = pure none := by
    cases t <;> first | rfl | (cases e2; done) | skip
    cases e <;> first | rfl | cases ht
  unfold EvS
  rw [exec_Assign]
  refine wpAny_bind (wpAny_standAt ?_)
  have h1 : swapsWithSole [t] e p.line env = pure false := swaps_none hc
  rw [h1]
  refine wpAny_bind (wpAny_pure ?_)
  rw [if_neg (by decide)]
  refine wpAny_bind (EvE.then (hI.e e1 hA O S L) fun y s₁ β₁ d₁ L₁ r₁ => ?_)
  rw [hsw]
  refine wpAny_bind (wpAny_pure ?_)
  rw [assignEach_cons hstar]
  show wpAny _ _ (do assignAll y [assign t env]; pure Flow.next) _ _ _
  refine wpAny_bind (wpAny_mono (sound_asg hI G hCa e2 hA O d₁.rel L₁ r₁) (fun _ s₂ ⟨β₂, d₂, L₂⟩ => wpAny_pure ?_) fun _ _ q => q)
  exact ⟨β₂, (d₁.weak foot_l).trans d₂, L₂, trivial⟩

theorem sound_assign_pair (hI : Sound W n I) {x y : Str} {px py tp vp p : Pos} {k k' : Nat} {vs : List Expr} {a b : V} {σ' : Store} (hxy : x ≠ y) (hx : Γ.names.lookup x = some .local) (hy : Γ.names.lookup y = some .local) (hl : px.line = py.line) (hv : vs.length = 2) (hs : vs.all notStar = true) (hf : vs.all (foldedForSure 8) = false) (hc : vs.all (constantsAlone 8) = false)
    (e1 : I.e Γ ρ σ (.Tuple vs k' vp) = some (.tup [a, b], σ')) (hA : AOk n A) (O : EnvOK Γ env) (S : SRel W σ β s.heap) (L : LRel W env ρ β s.heap) :
    EvS W A env β s (exec (.Assign [.Tuple [.Name x px, .Name y py] k tp] (.Tuple vs k' vp) p) env) .next ((ρ.set y b).set x a) σ' := by
  have hk : env.scope.kind = .function := by rw [O.scope]; exact O.kind
  have kd : ∀ z, env.kindOf z = Γ.names.lookup z := fun z => by unfold Env.kindOf; rw [O.scope]
  have hst : (vs.any fun | .Starred .. => true | _ => false) = false := by
    rw [List.any_eq_false]
    intro e he
    have := List.all_eq_true.mp hs e he
    cases e <;> first | (intro q; cases q; done) | cases this
  have hsw : swappedStores [.Tuple [.Name x px, .Name y py] k tp] (.Tuple vs k' vp) env = pure (some [x, y]) := by
    unfold swappedStores
    dsimp only
    have hbk : env.blockKind = .function := by unfold Env.blockKind; rw [hk]; simp [ScopeKind.isAnnotationScope]
    have h1 : (env.kindOf x == some NameKind.local && px.line == px.line) = true := by rw [kd, hx]; simp
    have h2 : (env.kindOf y == some NameKind.local && py.line == px.line) = true := by rw [kd, hy, hl]; simp
    have hnm : ([Expr.Name x px, Expr.Name y py].filterMap fun
      | .Name id pos => if (env.kindOf id == some NameKind.local && pos.line == px.line) = true then some id else none
      | _ => none) = [x, y] := by
      simp only [List.filterMap_cons, h1, h2, if_true, List.filterMap_nil]
    have hd : [x, y].eraseDups.length = 2 := by
      simp [List.eraseDups_cons, Ne.symm hxy]
    split
    · rename_i q
      rw [hbk, hv] at q
      exact absurd q (by simp)
    · split
      · rename_i q; exact absurd (hst.symm.trans q) (by decide)
      · split
        · rename_i q
          have q' : (([x, y].length != [Expr.Name x px, Expr.Name y py].length || [x, y].eraseDups.length != [x, y].length) = true) := by
            have := hnm
            exact (by rw [← this]; exact q)
          rw [hd] at q'
          exact absurd q' (by simp)
        · rw [hf, hc]
          show pure (some _) = _
          exact congrArg (fun z => pure (some z)) hnm
  refine Assign_Tuple_swapped (names := [x, y]) (EvE.then (hI.e e1 hA O S L) fun z s₁ β₁ d₁ L₁ r₁ => ?_) rfl hsw
  cases r₁ with
  | @tup _ ad xs m ha rs =>
    have hsz := VRels.size rs
    have hsz' : [x, y].length = xs.size := by rw [hsz]; rfl
    rw [hsz']
    refine unpackItems_tuple hA.handled ⟨_, ha, rfl, _, rfl⟩ fun h' hx' => ?_
    have hkp : ∀ b o, s₁.heap.get? b = some o → h'.get? b = some o := fun b o e => hx' b o (Nat.ne_of_lt (Heap.lt_size e)) e
    have d2 : Done W [] β₁ s₁ σ' β₁ { s₁ with heap := h', toks := s₁.toks } := ⟨⟨fun _ _ e => e, fun _ p q => absurd p q, fun b o _ _ e => hkp b o e, fun _ _ _ e => hkp _ _ e, fun _ o e => ⟨o, hkp _ _ e⟩⟩, d₁.rel.other (fun b o e => hkp _ _ (d₁.rel.keep _ _ e)) (fun _ _ _ e => hkp _ _ e) fun _ _ _ e => hkp _ _ e, rfl, rfl⟩
    have rs' := d2.vrels rs
    revert rs'
    generalize xs.toList = l
    intro rs'
    cases rs' with
    | @cons _ xa _ xs' ra rb =>
      obtain ⟨yb, hyb, rb'⟩ := VRels.one rb
      subst hyb
      show wpAny _ _ (do holding [xa] (bindName env y yb); (do holding [] (bindName env x xa); pure ())) _ _ _
      refine wpAny_bind (wpAny_holding (wpAny_bindName (store_local' O hy d2.rel (d2.lrel L₁) rb' fun s₃ d₃ L₃ => ?_)))
      refine wpAny_bind (wpAny_holding (wpAny_bindName (store_local' O hx d₃.rel L₃ (d₃.vrel ra) fun s₄ d₄ L₄ => wpAny_pure ?_)))
      exact ⟨β₁, ((d₁.trans (d2.weak (by simp))).trans (d₃.trans d₄)).weak foot_l, L₄, trivial⟩

theorem aug_inv {o e : Expr} {name : Str} {f : FlowA} {ρ' : Rho} {σ' : Store} {G : FlowA → Rho → Store → Prop} (e0 : augA C I Γ ρ σ o name e = some (f, ρ', σ'))
    (k : ∀ v σ₁ Cl d fs a σ₂ Cl' d' fs' b, I.e Γ ρ σ o = some (v, σ₁) → instOf σ₁ v = some (Cl, d, fs) → C.attr Cl name = true → fs.lookup name = some (.int a) → I.e Γ ρ σ₁ e = some (.int b, σ₂) → instOf σ₂ v = some (Cl', d', fs') → (C.attr Cl' name = true ∧ fs'.length ≤ 100) → G .next ρ (σ₂.set d' (.ns (putF name (.int (a + b)) fs')))) : G f ρ' σ' := by
  refine obI e0 fun _ e0 => ob2 e0 fun v σ₁ e1 e0 => ob3 e0 fun Cl d fs hi e0 => obI e0 fun hat e0 => ob1 e0 fun old ho e0 => ob2 e0 fun r σ₂ e2 e0 => ?_
  have k := k v σ₁ Cl d fs
  cases old with
  | int a =>
    cases r with
    | int b => exact ob3 e0 fun Cl' d' fs' hi' e0 => obI e0 fun hat' e0 => oR3 e0 (k a σ₂ Cl' d' fs' b e1 hi hat ho e2 hi' hat')
    | _ => exact oN e0
  | _ => exact oN e0
theorem sound_augattr (hI : Sound W n I) (G : WOK W T) (hCa : C.attr = T.attr) {o e : Expr} {name : Str} {tp p : Pos} {f : FlowA} {ρ' : Rho} {σ' : Store} (e0 : stepS C I Γ ρ σ (.AugAssign (.Attribute o name tp) .Add e p) = some (f, ρ', σ')) (hA : AOk n A) (O : EnvOK Γ env) (S : SRel W σ β s.heap) (L : LRel W env ρ β s.heap) :
    EvS W A env β s (exec (.AugAssign (.Attribute o name tp) .Add e p) env) f ρ' σ' := by
  refine aug_inv (G := fun f ρ' σ' => EvS W A env β s (exec (.AugAssign (.Attribute o name tp) .Add e p) env) f ρ' σ') (show augA C I Γ ρ σ o name e = _ from e0) fun v σ₁ Cl d fs a σ₂ Cl' d' fs' b e1 hi hat ho e2 hi' hat' => ?_
  refine wpAny_AugAssign_AttributeAny (EvE.then (hI.e e1 hA O S L) fun x s₁ β₁ d₁ L₁ r₁ => getattr_sound G hCa d₁.rel L₁ hi hat ho r₁ fun z t rz => ?_)
  have ds : Done W [env.locals] β₁ s₁ σ₁ β₁ { s₁ with toks := t } := Done.same d₁.rel t
  refine EvE.then (hI.e e2 hA O ds.rel (s := { s₁ with toks := t }) L₁) fun y s₂ β₂ d₂ L₂ r₂ => ?_
  obtain ⟨ta, rfl⟩ := rz.int_inv
  obtain ⟨tb, rfl⟩ := r₂.int_inv
  refine AutoIntOps.iadd_0 ?_
  have ds2 : Done W [env.locals] β₂ s₂ σ₂ β₂ { s₂ with toks := s₂.toks + 1 } := Done.same d₂.rel _
  exact setattr_sound (s := { s₂ with toks := s₂.toks + 1 }) G hCa ds2.rel L₂ hi' hat'.1 hat'.2 (d₂.vrel (s := { s₁ with toks := t }) r₁) (.int _ _) fun s₃ d₃ L₃ =>
    ⟨β₂, ((d₁.trans (ds.trans d₂)).trans (ds2.trans d₃)).weak foot_l, L₃, trivial⟩
end
end
section
section
variable {W : Wd} {T : Tab} {A : Around} {env cenv : Env} {Γ : Scope} {ρ : Rho} {σ : Store} {β : List Addr} {s : Shared} {n : Nat} {C : Cfg} {I : Itp}

theorem sound_stepE (hI : Sound W n I) (G : WOK W T) (hCG : C.G = T.G) (hCa : C.attr = T.attr) (Fd : SoundF W n C) {e : Expr} {v : V} {σ' : Store} (h : stepE C I Γ ρ σ e = some (v, σ')) (hA : AOk n A) (O : EnvOK Γ env) (S : SRel W σ β s.heap) (L : LRel W env ρ β s.heap) :
    EvE W A env ρ β s (eval e env) v σ' := by
  cases e with
  | Constant c k p => exact sound_const h S L
  | Name x p => exact sound_name G hCG h O S L
  | BinOp l op r p => exact sound_binop hI (fun e S L ra rb => sound_binV e S L ra rb) h hA O S L
  | UnaryOp op x p => exact sound_un hI h hA O S L
  | BoolOp op vs p => exact sound_bools hI hA O h S L
  | Compare l ops rs p =>
    cases ops with
    | nil => (first | exact oN h | refine oR3 h ?_ | refine oR2 h ?_ | cases h)
    | cons op ops =>
      cases ops with
      | cons _ _ => (first | exact oN h | refine oR3 h ?_ | refine oR2 h ?_ | cases h)
      | nil =>
        cases rs with
        | nil => (first | exact oN h | refine oR3 h ?_ | refine oR2 h ?_ | cases h)
        | cons r rs =>
          cases rs with
          | cons _ _ => (first | exact oN h | refine oR3 h ?_ | refine oR2 h ?_ | cases h)
          | nil => exact sound_compare hI h hA O S L
  | IfExp c a b p => exact sound_ifexp hI h hA O S L
  | List es p => exact sound_list hI h hA O S L
  | Tuple es k p => exact sound_tuple hI h hA O S L
  | Dict ks vs p =>
    cases ks with
    | cons _ _ => (first | exact oN h | refine oR3 h ?_ | refine oR2 h ?_ | cases h)
    | nil =>
      cases vs with
      | cons _ _ => (first | exact oN h | refine oR3 h ?_ | refine oR2 h ?_ | cases h)
      | nil => exact sound_emptydict h S L
  | Attribute o name p => exact sound_attribute hI G hCa h hA O S L
  | Subscript o i p => exact sound_subscript hI h hA O S L
  | ListComp elt gens scope p => exact sound_comp hI G h hA O S L
  | Call fn args kws p =>
    cases kws with
    | cons _ _ => cases fn <;> (first | exact oN h | refine oR3 h ?_ | refine oR2 h ?_ | cases h)
    | nil =>
      cases fn with
      | Name f fp =>
        change callN C I Γ ρ σ f args = _ at h
        by_cases hd : (f == ("__debug__" : Str)) = true
        · have hf := eq_of_beq hd
          subst hf
          unfold callN at h
          split at h
          case isFalse => (first | exact oN h | refine oR3 h ?_ | refine oR2 h ?_ | cases h)
          split at h
          · rename_i hb; exact absurd hb (by decide)
          · refine ob2 h fun vs σ₁ e1 h => ?_
            obtain ⟨callee, hv, hk, ok⟩ := Fd.glob h
            exact absurd hv (by rw [G.nodebug]; exact fun q => by cases q)
        · exact sound_callN hI G Fd h (by simpa using hd) hA O S L
      | Attribute o name ap =>
        change (if (ap.endLine == p.line) = true then callM C I Γ ρ σ o name args else none) = _ at h
        refine obI h fun hl h => ?_
        · exact sound_callM hI G hCa Fd h hl hA O S L
      | _ => (first | exact oN h | refine oR3 h ?_ | refine oR2 h ?_ | cases h)
  | _ => (first | exact oN h | refine oR3 h ?_ | refine oR2 h ?_ | cases h)

theorem sound_tplain (hI : Sound W n I) {e : Expr} {b : Bool} {σ' : Store} (h : ((I.e Γ ρ σ e).bind fun p => (truthV p.1).bind fun b => some (b, p.2)) = some (b, σ')) (he : isTrue e env (eval e env) = (do let v ← eval e env; standAt e.pos; holding [v] (truthy v))) (hA : AOk n A) (O : EnvOK Γ env) (S : SRel W σ β s.heap) (L : LRel W env ρ β s.heap) :
    EvT W A env ρ β s (isTrue e env (eval e env)) b σ' := by
  refine ob2 h fun a σ₁ e1 h => ?_
  refine ob1 h fun c hc h => ?_
  (first | exact oN h | refine oR3 h ?_ | refine oR2 h ?_ | cases h)
  have := truth_of hc
  dsimp only at this
  subst this
  refine isTrue_plain (EvE.then (hI.e e1 hA O S L) fun x s₁ β₁ d₁ L₁ r₁ => ?_) he
  cases r₁
  exact wpAny_truthy_bool ⟨rfl, β₁, d₁, L₁⟩

theorem map_bind {α γ : Type} {o : Option α} {f : α → γ} : o.map f = o.bind fun a => some (f a) := by cases o <;> rfl

theorem sound_stepT (hI : Sound W n I) {e : Expr} {b : Bool} {σ' : Store} (h : stepT C I Γ ρ σ e = some (b, σ')) (hA : AOk n A) (O : EnvOK Γ env) (S : SRel W σ β s.heap) (L : LRel W env ρ β s.heap) :
    EvT W A env ρ β s (isTrue e env (eval e env)) b σ' := by
  have plain : ((I.e Γ ρ σ e).bind fun p => (truthV p.1).map fun b => (b, p.2)) = some (b, σ') → isTrue e env (eval e env) = (do let v ← eval e env; standAt e.pos; holding [v] (truthy v)) → EvT W A env ρ β s (isTrue e env (eval e env)) b σ' := by
    intro h he
    refine sound_tplain hI ?_ he hA O S L
    refine ob1 h fun p e1 h => ?_
    rw [e1]
    rw [map_bind] at h
    exact h
  cases e with
  | UnaryOp op x p =>
    cases op with
    | Not => exact sound_tnot hI h hA O S L
    | _ => exact plain h rfl
  | BoolOp op vs p => exact sound_allT hI hA O h S L
  | IfExp c a b p => exact sound_tifexp hI h hA O S L
  | Compare l ops rs p =>
    cases ops with
    | nil => (first | exact oN h | refine oR3 h ?_ | refine oR2 h ?_ | cases h)
    | cons op ops =>
      cases ops with
      | nil =>
        cases rs with
        | nil => (first | exact oN h | refine oR3 h ?_ | refine oR2 h ?_ | cases h)
        | cons r rs =>
          cases rs with
          | cons _ _ => (first | exact oN h | refine oR3 h ?_ | refine oR2 h ?_ | cases h)
          | nil => exact sound_tcompare hI h hA O S L
      | cons op' ops =>
        cases ops with
        | cons _ _ => cases rs <;> (first | exact oN h | refine oR3 h ?_ | refine oR2 h ?_ | cases h)
        | nil =>
          cases rs with
          | nil => (first | exact oN h | refine oR3 h ?_ | refine oR2 h ?_ | cases h)
          | cons r rs =>
            cases rs with
            | nil => (first | exact oN h | refine oR3 h ?_ | refine oR2 h ?_ | cases h)
            | cons r' rs =>
              cases rs with
              | cons _ _ => (first | exact oN h | refine oR3 h ?_ | refine oR2 h ?_ | cases h)
              | nil => exact sound_tchain hI h hA O S L
  | _ => exact plain h rfl

theorem compFree_inv {x : Str} {e : Expr} (h : compFree x e = true) : ∃ elt gens scope pos, e = .ListComp elt gens scope pos := by
  cases e <;> first | exact ⟨_, _, _, _, rfl⟩ | exact absurd h Bool.false_ne_true
theorem assign_inv {t e : Expr} {f : FlowA} {ρ' : Rho} {σ' : Store} {G : Expr → Expr → FlowA → Rho → Store → Prop} (h : assignA C I Γ ρ σ t e = some (f, ρ', σ'))
    (k1 : ∀ x q elt gens scope pos v σ₁, (Γ.names.lookup x = some .local ∧ q.line = pos.line ∧ compFree x (.ListComp elt gens scope pos) = true) → I.e Γ ρ σ (.ListComp elt gens scope pos) = some (v, σ₁) → G (.Name x q) (.ListComp elt gens scope pos) .next (ρ.set x v) σ₁)
    (k2 : ∀ x px y py k tp vs k' vp a b σ₁, (x ≠ y ∧ Γ.names.lookup x = some .local ∧ Γ.names.lookup y = some .local ∧ px.line = py.line ∧ vs.length = 2 ∧ vs.all notStar = true ∧ vs.all (foldedForSure 8) = false ∧ vs.all (constantsAlone 8) = false) → I.e Γ ρ σ (.Tuple vs k' vp) = some (.tup [a, b], σ₁) → G (.Tuple [.Name x px, .Name y py] k tp) (.Tuple vs k' vp) .next ((ρ.set y b).set x a) σ₁)
    (k3 : ∀ v σ₁ ρ₁ σ₂, isComp e = false → (isTuple t && isTuple e) = false → I.e Γ ρ σ e = some (v, σ₁) → asg C I Γ ρ σ₁ t v = some (ρ₁, σ₂) → G t e .next ρ₁ σ₂) : G t e f ρ' σ' := by
  by_cases hc : isComp e = true
  · clear k2 k3
    refine ob1 ((if_pos hc).symm.trans h) fun x hx h' => obI h' fun hcond h' => ob2 h' fun v σ₁ e1 h' => oR3 h' ?_
    obtain rfl := nameOf_inv hx
    obtain ⟨elt, gens, scope, pos, rfl⟩ := compFree_inv hcond.2.2
    exact k1 x.1 x.2 elt gens scope pos v σ₁ hcond e1
  · have h' := (if_neg hc).symm.trans h
    clear h k1
    by_cases ht : (isTuple t && isTuple e) = true
    · clear k3
      refine ob1 ((if_pos ht).symm.trans h') fun ts hts h => ?_
      obtain ⟨k, tp, rfl⟩ := tupOf_inv hts
      clear h' hts ht
      rcases ts with _ | ⟨t1, _ | ⟨t2, _ | _⟩⟩
      · exact oN h
      · exact oN h
      · refine ob1 h fun x hx h' => ob1 h' fun y hy h' => ob1 h' fun vs hvs h' => obI h' fun hcond h' => ob2 h' fun v σ₁ e1 h' => ob1 h' fun q hq h' => oR3 h' ?_
        clear h h'
        obtain rfl := nameOf_inv hx
        obtain rfl := nameOf_inv hy
        obtain ⟨k', vp, rfl⟩ := tupOf_inv hvs
        obtain rfl := pairV_inv hq
        exact k2 x.1 x.2 y.1 y.2 k tp vs k' vp q.1 q.2 σ₁ hcond e1
      · exact oN h
    · exact ob2 ((if_neg ht).symm.trans h') fun v σ₁ e1 h => ob2 h fun ρ₁ σ₂ e2 h => oR3 h (k3 v σ₁ ρ₁ σ₂ (by simpa using hc) (by simpa using ht) e1 e2)
theorem sound_assign (hI : Sound W n I) (hlow : ∀ {Γ ρ σ e r}, I.e Γ ρ σ e = some r → ∃ I', Sound W n I' ∧ stepE C I' Γ ρ σ e = some r) (G : WOK W T) (hCa : C.attr = T.attr) {ts : List Expr} {e : Expr} {p : Pos} {f : FlowA} {ρ' : Rho} {σ' : Store} (h : stepS C I Γ ρ σ (.Assign ts e p) = some (f, ρ', σ')) (hA : AOk n A) (O : EnvOK Γ env) (S : SRel W σ β s.heap) (L : LRel W env ρ β s.heap) :
    EvS W A env β s (exec (.Assign ts e p) env) f ρ' σ' := by
  rcases ts with _ | ⟨t, _ | _⟩
  · exact oN h
  · exact assign_inv (G := fun t e f ρ' σ' => EvS W A env β s (exec (.Assign [t] e p) env) f ρ' σ') (show assignA C I Γ ρ σ t e = _ from h)
      (fun x q elt gens scope pos v σ₁ hcond e1 => sound_comp_used (T := T) hI G e1 hlow hcond.1 hcond.2.1 hcond.2.2 hA O S L)
      (fun x px y py k tp vs k' vp a b σ₁ hc e1 => sound_assign_pair hI hc.1 hc.2.1 hc.2.2.1 hc.2.2.2.1 hc.2.2.2.2.1 hc.2.2.2.2.2.1 hc.2.2.2.2.2.2.1 hc.2.2.2.2.2.2.2 e1 hA O S L)
      fun v σ₁ ρ₁ σ₂ hc ht e1 e2 => sound_assign_gen hI G hCa hc ht e1 e2 hA O S L
  · exact oN h

inductive SView : Stmt → Prop
  | expr (e p) : SView (.Expr e p)
  | ret (e p) : SView (.Return e p)
  | asg (ts e p) : SView (.Assign ts e p)
  | aug (o name tp e p) : SView (.AugAssign (.Attribute o name tp) .Add e p)
  | ife (c a b p) : SView (.If c a b p)
  | whl (c b p) : SView (.While c b [] p)
  | fr (t it b p) : SView (.For t it b [] p)
  | brk (p) : SView (.Break p)
  | cont (p) : SView (.Continue p)
  | pass (p) : SView (.Pass p)
  | tr (b hs p) : SView (.Try b hs [] [] p)
theorem attrOf_inv {t : Expr} {q : Expr × Str} (h : attrOf t = some q) : ∃ p, t = .Attribute q.1 q.2 p := by
  cases t <;> first | (cases h; exact ⟨_, rfl⟩) | (first | exact oN h | refine oR3 h ?_ | refine oR2 h ?_ | cases h)
theorem aug_view {t e : Expr} {op : Operator} {p : Pos} {r : FlowA × Rho × Store} (h : stepS C I Γ ρ σ (.AugAssign t op e p) = some r) : SView (.AugAssign t op e p) := by
  cases op with
  | Add =>
    refine ob1 h fun q hq _ => ?_
    obtain ⟨tp, rfl⟩ := attrOf_inv hq
    exact .aug ..
  | _ => (first | exact oN h | refine oR3 h ?_ | refine oR2 h ?_ | cases h)
theorem sview : ∀ {st : Stmt} {r : FlowA × Rho × Store}, stepS C I Γ ρ σ st = some r → SView st := fun {st} r h => by
  cases st with
  | Expr e p => exact .expr ..
  | Return e p => exact .ret ..
  | Assign ts e p => exact .asg ..
  | AugAssign t op e p => exact aug_view h
  | If c a b p => exact .ife ..
  | While c body orelse p => cases orelse with
    | nil => exact .whl ..
    | cons _ _ => (first | exact oN h | refine oR3 h ?_ | refine oR2 h ?_ | cases h)
  | For t iter body orelse p => cases orelse with
    | nil => exact .fr ..
    | cons _ _ => (first | exact oN h | refine oR3 h ?_ | refine oR2 h ?_ | cases h)
  | Break p => exact .brk p
  | Continue p => exact .cont p
  | Pass p => exact .pass p
  | Try body hs orelse fin p => cases orelse with
    | nil => cases fin with
      | nil => exact .tr ..
      | cons _ _ => (first | exact oN h | refine oR3 h ?_ | refine oR2 h ?_ | cases h)
    | cons _ _ => (first | exact oN h | refine oR3 h ?_ | refine oR2 h ?_ | cases h)
  | _ => (first | exact oN h | refine oR3 h ?_ | refine oR2 h ?_ | cases h)
theorem sound_stepS (hI : Sound W n I) (hlow : ∀ {Γ ρ σ e r}, I.e Γ ρ σ e = some r → ∃ I', Sound W n I' ∧ stepE C I' Γ ρ σ e = some r) (G : WOK W T) (hCa : C.attr = T.attr) {st : Stmt} {f : FlowA} {ρ' : Rho} {σ' : Store} (h : stepS C I Γ ρ σ st = some (f, ρ', σ')) (hA : AOk n A) (O : EnvOK Γ env) (S : SRel W σ β s.heap) (L : LRel W env ρ β s.heap) :
    EvS W A env β s (exec st env) f ρ' σ' := by
  cases sview h with
  | expr e p => exact sound_expr hI h hA O S L
  | ret e p => exact sound_return hI h hA O S L
  | asg ts e p => exact sound_assign hI hlow G hCa h hA O S L
  | aug o name tp e p => exact sound_augattr hI G hCa h hA O S L
  | ife c a b p => exact sound_if hI h hA O S L
  | whl c b p => exact sound_while hI h hA O S L
  | fr t it b p => exact sound_for hI G hCa h hA O S L
  | brk p => (first | exact oN h | refine oR3 h ?_ | refine oR2 h ?_ | cases h); exact wpAny_bind (wpAny_standAt (wpAny_pure ⟨β, Done.same' S, L, trivial⟩))
  | cont p => (first | exact oN h | refine oR3 h ?_ | refine oR2 h ?_ | cases h); exact wpAny_bind (wpAny_standAt (wpAny_pure ⟨β, Done.same' S, L, trivial⟩))
  | pass p => (first | exact oN h | refine oR3 h ?_ | refine oR2 h ?_ | cases h); exact wpAny_Pass ⟨β, Done.same' S, L, trivial⟩
  | tr b hs p => exact sound_try hI h hA O S L

theorem sound_stepSS (hI : Sound W n I) {sts : List Stmt} {f : FlowA} {ρ' : Rho} {σ' : Store} (h : stepSS I Γ ρ σ sts = some (f, ρ', σ')) (hA : AOk n A) (O : EnvOK Γ env) (S : SRel W σ β s.heap) (L : LRel W env ρ β s.heap) :
    EvS W A env β s (execs sts env) f ρ' σ' := by
  cases sts with
  | nil => (first | exact oN h | refine oR3 h ?_ | refine oR2 h ?_ | cases h); exact wpAny_execs_nil ⟨β, Done.same' S, L, trivial⟩
  | cons st r =>
    change ((I.s Γ ρ σ st).bind fun p => match p.1 with
      | .next => I.ss Γ p.2.1 p.2.2 r
      | f => some (f, p.2.1, p.2.2)) = _ at h
    refine ob3 h fun fl ρ₁ σ₁ e1 h => ?_
    refine wpAny_execs_cons (wpAny_mono (hI.s e1 hA O S L) (fun c s₁ ⟨β₁, d₁, L₁, r₁⟩ => ?_) fun _ _ q => q)
    cases fl with
    | next =>
      cases c <;> first | exact r₁.elim | skip
      exact wpAny_mono (hI.ss h hA O d₁.rel L₁) (fun c s₂ q => q.after d₁ fun _ h => h) fun _ _ q => q
    | brk =>
      cases c <;> first | exact r₁.elim | skip
      (first | exact oN h | refine oR3 h ?_ | refine oR2 h ?_ | cases h)
      exact ⟨β₁, d₁, L₁, r₁⟩
    | cont =>
      cases c <;> first | exact r₁.elim | skip
      (first | exact oN h | refine oR3 h ?_ | refine oR2 h ?_ | cases h)
      exact ⟨β₁, d₁, L₁, r₁⟩
    | ret w =>
      cases c <;> first | exact r₁.elim | skip
      (first | exact oN h | refine oR3 h ?_ | refine oR2 h ?_ | cases h)
      exact ⟨β₁, d₁, L₁, r₁⟩

theorem sound_ev (G : WOK W T) (hCG : C.G = T.G) (hCa : C.attr = T.attr) (Fd : SoundF W n C) : ∀ m, Sound W n (ev C m)
  | 0 => ⟨fun h => (by (first | exact oN h | refine oR3 h ?_ | refine oR2 h ?_ | cases h)), fun h => (by (first | exact oN h | refine oR3 h ?_ | refine oR2 h ?_ | cases h)), fun h => (by (first | exact oN h | refine oR3 h ?_ | refine oR2 h ?_ | cases h)), fun h => (by (first | exact oN h | refine oR3 h ?_ | refine oR2 h ?_ | cases h))⟩
  | m + 1 => by
    have hI := sound_ev G hCG hCa Fd m
    have hlow : ∀ {Γ ρ σ e r}, (ev C m).e Γ ρ σ e = some r → ∃ I', Sound W n I' ∧ stepE C I' Γ ρ σ e = some r := by
      intro Γ ρ σ e r h
      match m with
      | 0 => (first | exact oN h | refine oR3 h ?_ | refine oR2 h ?_ | cases h)
      | k + 1 => exact ⟨ev C k, sound_ev G hCG hCa Fd k, h⟩
    exact ⟨fun h _ _ _ _ hA O S L => sound_stepE hI G hCG hCa Fd h hA O S L, fun h _ _ _ _ hA O S L => sound_stepT (C := C) hI h hA O S L,
      fun h _ _ _ _ hA O S L => sound_stepS hI hlow G hCa h hA O S L, fun h _ _ _ _ hA O S L => sound_stepSS hI h hA O S L⟩
end
end
section
structure ROk (n : Nat) (A : Around) : Prop where
  handled : A.handled = none
  depth : A.depth + 1 + 4 * n < recursionLimit
  units : A.units + 3 + 300 + 30 * n < cLine

section
variable {W : Wd} {T : Tab} {A : Around} {env cenv : Env} {Γ : Scope} {ρ : Rho} {σ : Store} {β : List Addr} {s : Shared} {n : Nat} {C : Cfg} {I : Itp}

theorem Done.dropAll {X : List Addr} {σ' : Store} {β' : List Addr} {s' : Shared} (d : Done W X β s σ' β' s') (hc : ∀ c ∈ X, s.heap.get? c = none) : Done W [] β s σ' β' s' :=
  ⟨⟨d.ext.pre, d.ext.new, fun b o h1 _ e => d.ext.keep b o h1 (fun q => by rw [hc _ q] at e; (first | exact oN e | refine oR3 e ?_ | refine oR2 e ?_ | cases e)) e, d.ext.tup, d.ext.dom⟩, d.rel, d.gens, d.os⟩

theorem zipR_rel {β : List Addr} {h : Heap} : ∀ {ps : List Str} {vs : List V} {xs : List Value}, VRels W β h vs xs → vs.length = ps.length → ∀ x v, zipR ps vs x = some v → ∃ y, (x, y) ∈ ps.zip xs ∧ VRel W β h v y
  | [], _, _, _, _, x, v, e => by (first | exact oN e | refine oR3 e ?_ | refine oR2 e ?_ | cases e)
  | p :: ps, [], _, _, hl, _, _, _ => by cases hl
  | p :: ps, v' :: vs, _, .cons (x := y) (xs := ys) a b, hl, x, v, e => by
    unfold zipR Rho.set at e
    by_cases hx : x = p
    · rw [if_pos hx] at e; (first | exact oN e | refine oR3 e ?_ | refine oR2 e ?_ | cases e)
      subst hx
      exact ⟨y, .head _, a⟩
    · (first | replace e := (if_neg hx).symm.trans e | rw [if_neg hx] at e)
      obtain ⟨y', h1, h2⟩ := zipR_rel b (by simpa using hl) x v e
      exact ⟨y', .tail _ h1, h2⟩

theorem bindL_other {kf : Str → Option NameKind} {x : Str} : ∀ {binds : List (Str × Value)} {m : Str → Option Value}, (∀ p ∈ binds, p.1 ≠ x) → bindL kf binds m x = m x
  | [], _, _ => rfl
  | (y, v) :: r, m, h => by
    unfold bindL
    rw [bindL_other fun p hp => h p (.tail _ hp)]
    split
    · have := h (y, v) (.head _)
      show (if x = y then some v else m x) = m x
      rw [if_neg (Ne.symm this)]
    · rfl
theorem bindL_get {kf : Str → Option NameKind} {x : Str} {v : Value} (hk : kf x = some .local) : ∀ {binds : List (Str × Value)} {m : Str → Option Value}, (binds.map (·.1)).Nodup → (x, v) ∈ binds → bindL kf binds m x = some v
  | (y, w) :: r, m, hn, h => by
    rw [List.map_cons, List.nodup_cons] at hn
    unfold bindL
    rcases List.mem_cons.mp h with e | e
    · (first | exact oN e | refine oR3 e ?_ | refine oR2 e ?_ | cases e)
      rw [bindL_other (x := x) fun p hp (q : p.1 = x) => hn.1 (List.mem_map.mpr ⟨p, hp, q⟩), if_pos hk]
      show (if x = x then some v else m x) = _
      rw [if_pos rfl]
    · exact bindL_get hk hn.2 e
theorem bindC_other {kf : Str → Option NameKind} {x : Str} : ∀ {binds : List (Str × Value)} {m : Str → Option Value}, (∀ p ∈ binds, p.1 ≠ x) → bindC kf binds m x = m x
  | [], _, _ => rfl
  | (y, v) :: r, m, h => by
    unfold bindC
    rw [bindC_other fun p hp => h p (.tail _ hp)]
    split
    · rfl
    · have := h (y, v) (.head _)
      show (if x = y then some v else m x) = m x
      rw [if_neg (Ne.symm this)]
theorem bindC_get {kf : Str → Option NameKind} {x : Str} {v : Value} (hk : kf x ≠ some .local) : ∀ {binds : List (Str × Value)} {m : Str → Option Value}, (binds.map (·.1)).Nodup → (x, v) ∈ binds → bindC kf binds m x = some v
  | (y, w) :: r, m, hn, h => by
    rw [List.map_cons, List.nodup_cons] at hn
    unfold bindC
    rcases List.mem_cons.mp h with e | e
    · (first | exact oN e | refine oR3 e ?_ | refine oR2 e ?_ | cases e)
      rw [bindC_other (x := x) fun p hp (q : p.1 = x) => hn.1 (List.mem_map.mpr ⟨p, hp, q⟩), if_neg hk]
      show (if x = x then some v else m x) = _
      rw [if_pos rfl]
    · exact bindC_get hk hn.2 e

theorem zip_names {ps : List Str} : ∀ {xs : List Value}, xs.length = ps.length → (ps.zip xs).map (·.1) = ps := by
  induction ps with
  | nil => intro xs h; rfl
  | cons p ps ih =>
    intro xs h
    cases xs with
    | nil => (first | exact oN h | refine oR3 h ?_ | refine oR2 h ?_ | cases h)
    | cons x xs => rw [List.zip_cons_cons, List.map_cons, ih (by simpa using h)]

theorem cellsFrom_some' {x : Str} : ∀ (names : List (Str × NameKind)) (k : Nat) (acc : List (Str × Addr)), names.lookup x = some .cell ∨ (acc.lookup x).isSome = true → ((cellsFrom k names acc).lookup x).isSome = true := cellsFrom_some

theorem fn_code (G : WOK W T) {f : Addr} {D : FDef} (Fn : FnAt W f D) (hS : Sound W n (ev C deep)) {args : List V} {v : V} {σ' : Store} (e : runF C D args σ = some (v, σ')) (hA : ROk n A) (hge : W.h0.objs.size ≤ s.heap.objs.size) (S : SRel W σ β s.heap) {xs : List Value} (r : VRels W β s.heap args xs) {R : Result → Shared → Prop}
    (hR : ∀ x s' β', Done W [] β s σ' β' s' → VRel W β' s'.heap v x → R (.ok (.ret x)) s') : codeAny (MM W) A (.call (.ref f) ⟨xs, []⟩) R s := by
  obtain @⟨oc, od, osl, name, qual, params, dV, kV, doc, pm, an, cdv, ct, hf, hcd, hb⟩ := Fn.obj
  unfold runF at e
  refine obI e fun hlen e => ?_
  refine ob3 e fun fl ρ' σ₁ e1 e => ?_
  have hxl := r.length
  obtain ⟨ds, hds, hbind⟩ := hb s xs S.keep (by rw [hxl]; exact hlen.1) (by rw [hxl]; exact hlen.2)
  have hdl : ds.length = (D.dflt.drop (xs.length + D.dflt.length - D.params.length)).length := (hds β s.heap).length
  have hXK : W.K.In s.heap := G.inK.keeps S.keep
  have hall : (xs ++ ds).length = D.params.length := by
    rw [List.length_append, hdl, List.length_drop, hxl]
    lia
  have hkinds : ∀ x ∈ D.params.zip (xs ++ ds), D.scope.names.lookup x.1 = some .local ∨ (D.scope.names.lookup x.1 = some .cell ∧ ((cellsFrom (s.heap.objs.size + 1) D.scope.names []).lookup x.1).isSome = true) := fun x hx => by
    have hm : x.1 ∈ D.params := (List.of_mem_zip hx).1
    rcases Fn.kinds _ hm with q | q
    · exact .inl q
    · exact .inr ⟨q, cellsFrom_some _ _ _ (.inl q)⟩
  refine codeAny_call_function (fd := fnOf name qual params D.body D.scope dV kV doc pm an cdv ct) (body := D.body) (by have := hA.depth; lia) (hXK _ _ hf) rfl Fn.co Fn.gen rfl (codeRec_of hXK hcd) (hbind _ _ _ _ ?_)
  refine wpAny_newFunctionEnv_cells Fn.kind hkinds fun env he s₁ x => ?_
  refine ⟨(G.nolimit.keeps S.keep).keeps x.toInCall.keep, codeAny_func ?_⟩
  have hL : env.locals = s.heap.objs.size := by rw [he]; rfl
  have hsc : env.scope = D.scope := by rw [he]; rfl
  have hcs : env.cells = cellsFrom (s.heap.objs.size + 1) D.scope.names [] := by rw [he]; rfl
  have O : EnvOK D.scope env := ⟨hsc, Fn.kind, by rw [he]; rfl, by rw [he]; rfl⟩
  have hA' : AOk n (A.deeper env) := ⟨hA.handled, by show A.depth + 1 + 4 * n < _; exact hA.depth, by show A.units + 3 + 300 + 30 * n < _; exact hA.units⟩
  obtain ⟨h₁, tk, rfl, hk⟩ := x.done
  have kd : ∀ z, env.kindOf z = D.scope.names.lookup z := fun z => by unfold Env.kindOf; rw [hsc]
  have S₁ : SRel W σ β h₁ := S.other (fun b o e => hk _ _ (S.keep _ _ e)) (fun _ _ _ e => hk _ _ e) fun _ _ _ e => hk _ _ e
  have d₁ : Done W [] β s σ β { s with heap := h₁, toks := tk } := ⟨⟨fun _ _ e => e, fun _ p q => absurd p q, fun _ _ _ _ e => hk _ _ e, fun _ _ _ e => hk _ _ e, fun _ o e => ⟨o, hk _ _ e⟩⟩, S₁, rfl, rfl⟩
  have none_ge : ∀ c, s.heap.objs.size ≤ c → s.heap.get? c = none := fun c hc => by
    cases q : s.heap.get? c with
    | none => rfl
    | some o => exact absurd (Heap.lt_size q) (Nat.not_lt.mpr hc)
  have notin : ∀ c, s.heap.objs.size ≤ c → c ∉ β ∧ W.h0.get? c = none := fun c hc => by
    refine ⟨fun q => ?_, ?_⟩
    · obtain ⟨i, hi⟩ := List.getElem?_of_mem q
      have hl : i < σ.length := by rw [← S.len]; exact (List.getElem?_eq_some_iff.mp hi).1
      obtain ⟨ob, e, _⟩ := S.obj i _ _ (List.getElem?_eq_getElem hl) hi
      rw [none_ge c hc] at e; (first | exact oN e | refine oR3 e ?_ | refine oR2 e ?_ | cases e)
    · cases q : W.h0.get? c with
      | none => rfl
      | some o => have := S.keep _ _ q; rw [none_ge c hc] at this; cases this
  have above : ∀ p ∈ env.cells, s.heap.objs.size < p.2 := fun p hp => by have := x.above p.1 p.2 hp; rw [hL] at this; exact this
  have hvs : VRels W β h₁ (args ++ D.dflt.drop (args.length + D.dflt.length - D.params.length)) (xs ++ ds) := by
    have := hds β h₁
    rw [hxl] at this
    exact (d₁.vrels r).append this
  have hvl : (args ++ D.dflt.drop (args.length + D.dflt.length - D.params.length)).length = D.params.length := by rw [← hvs.length]; exact hall
  have hnd : ((D.params.zip (xs ++ ds)).map (·.1)).Nodup := by rw [zip_names hall]; exact Fn.nodup
  have L₁ : LRel W env (zipR D.params (args ++ D.dflt.drop (args.length + D.dflt.length - D.params.length))) β h₁ := by
    refine ⟨⟨_, x.toInCall.ns, fun z w hz hw => ?_⟩, fun z w hz hw => ?_, fun z hz => ?_, ?_, fun p hp => ?_, fun a b c h1 h2 => ?_, by rw [hL]; exact hge⟩
    · obtain ⟨y, h1, h2⟩ := zipR_rel hvs hvl z w hw
      exact ⟨y, bindL_get hz hnd h1, h2⟩
    · obtain ⟨y, h1, h2⟩ := zipR_rel hvs hvl z w hw
      have hs : (env.cells.lookup z).isSome = true := by
        rw [hcs]; exact cellsFrom_some _ _ _ (.inl ((kd z).symm.trans hz))
      obtain ⟨c, hc⟩ := Option.isSome_iff_exists.mp hs
      refine ⟨c, y, hc, ?_, h2⟩
      have := x.cell z c hc
      rw [bindC_get (by rw [hz]; decide) hnd h1] at this
      exact this
    · have hs : (env.cells.lookup z).isSome = true := by
        rw [hcs]; exact cellsFrom_some _ _ _ (.inl ((kd z).symm.trans hz))
      obtain ⟨c, hc⟩ := Option.isSome_iff_exists.mp hs
      exact ⟨c, _, hc, x.cell z c hc⟩
    · rw [hL]; exact notin _ (Nat.le_refl _)
    · have ha := above p hp
      obtain ⟨a1, a2⟩ := notin p.2 (Nat.le_of_lt ha)
      refine ⟨a1, a2, by rw [hL]; exact Nat.ne_of_gt ha, _, x.cell p.1 p.2 ?_⟩
      have hn : (env.cells.map (·.1)).Nodup := by
        rw [hcs, cellsFrom_names D.scope.names (s.heap.objs.size + 1) 0 [] [] rfl]; exact Fn.cells
      exact lookup_of_mem_nodup hn hp
    · exact name_of_addr x.apart (mem_of_lk h1) (mem_of_lk h2)
  refine wpAny_mono (hS.ss e1 hA' O S₁ L₁) (fun c s₂ ⟨β₂, d₂, L₂, r₂⟩ => ?_) fun _ _ q => q.elim
  have dd : Done W [] β s σ₁ β₂ s₂ := ((d₁.weak (Y := foot env) (by simp)).trans d₂).dropAll fun c hc => by
    rcases List.mem_cons.mp hc with q | q
    · rw [q, hL]; exact none_ge _ (Nat.le_refl _)
    · obtain ⟨p, hp, e'⟩ := List.mem_map.mp q
      rw [← e']; exact none_ge _ (Nat.le_of_lt (above p hp))
  cases fl with
  | next => cases c <;> first | exact r₂.elim | (cases e; exact hR _ _ _ dd .none)
  | ret w => cases c <;> first | exact r₂.elim | (cases e; exact hR _ _ _ dd r₂)
  | brk => (first | exact oN e | refine oR3 e ?_ | refine oR2 e ?_ | cases e)
  | cont => (first | exact oN e | refine oR3 e ?_ | refine oR2 e ?_ | cases e)
end
end
section
section
variable {W : Wd} {T : Tab} {A : Around} {σ : Store} {β : List Addr} {s : Shared} {n : Nat} {C : Cfg}

theorem ROk.of {A : Around} (h : AOk (n + 1) A) : ROk n A := ⟨h.handled, by have := h.depth; lia, by have := h.units; lia⟩

theorem makeUnits (A : Around) (C : Addr) (vals : List Value) : (A.under (.builtin "type.__call__" ⟨.ref C :: vals, []⟩)).units ≤ A.units + 10 := by
  show A.units + (Code.builtin "type.__call__" ⟨.ref C :: vals, []⟩).cUnits ≤ _
  have : (Code.builtin "type.__call__" ⟨.ref C :: vals, []⟩).cUnits ≤ 10 := by
    show 1 + 3 * 0 ≤ 10
    decide
  lia
theorem makeDepth (A : Around) (C : Addr) (vals : List Value) : (A.under (.builtin "type.__call__" ⟨.ref C :: vals, []⟩)).depth = A.depth + 1 := rfl

theorem ROk.make {A : Around} (h : AOk (n + 1) A) (C : Addr) (vals : List Value) : ROk n (A.under (.builtin "type.__call__" ⟨.ref C :: vals, []⟩)) :=
  ⟨h.handled, by rw [makeDepth]; have := h.depth; lia, by have := makeUnits A C vals; have := h.units; lia⟩

theorem sound_make (G : WOK W T) (hS : Sound W n (ev C deep)) {Cl : Addr} {D : FDef} {f : Addr} {args : List V} {xs : List Value} {σ₁ : Store} (Fn : FnAt W f D) (hmk : makesIn W.K Cl = true) (hfi : findIn W.K (.ref Cl) "__init__" = some (some (.ref f))) (e1 : runF C D (V.ref (σ.length + 1) :: args) (σ ++ [O.ns [], O.inst Cl σ.length]) = some (.none, σ₁))
    (hA : AOk (n + 1) A) (hge : W.h0.objs.size ≤ s.heap.objs.size) (S : SRel W σ β s.heap) (r : VRels W β s.heap args xs) :
    wpAny (MM W) A (call (.ref Cl) xs) (fun x s' => ∃ β', Done W [] β s σ₁ β' s' ∧ VRel W β' s'.heap (.ref (σ.length + 1)) x) (fun _ _ => False) s := by
  obtain ⟨hh, gg, dd, tt, os⟩ := s
  have X : W.K.In hh := G.inK.keeps S.keep
  refine wpAny_call (make_core (makes_of X hmk) (looks_findIn X hfi) (fun self => bind_fn X self (beq_iff_eq.mp Fn.isFn)) (.inl rfl) ?_)
  have d1 : Done W [] β ⟨hh, gg, dd, tt, os⟩ (σ ++ [.ns []]) (β ++ [hh.objs.size]) ⟨hh.push (dictOf [] 0), gg, dd, tt, os⟩ := Done.alloc (s := ⟨hh, gg, dd, tt, os⟩) (o := .ns []) (ob := dictOf [] 0) S rfl ⟨[], 0, rfl, .nil⟩ tt
  have hz : (hh.push (dictOf [] 0)).objs.size = hh.objs.size + 1 := Heap.size_push ..
  have d2 : Done W [] (β ++ [hh.objs.size]) ⟨hh.push (dictOf [] 0), gg, dd, tt, os⟩ (σ ++ [.ns []] ++ [.inst Cl σ.length]) (β ++ [hh.objs.size] ++ [(hh.push (dictOf [] 0)).objs.size]) ⟨(hh.push (dictOf [] 0)).push (instObj Cl hh.objs.size), gg, dd, tt, os⟩ :=
    Done.alloc (s := ⟨hh.push (dictOf [] 0), gg, dd, tt, os⟩) (o := .inst Cl σ.length) (ob := instObj Cl hh.objs.size) d1.rel rfl ⟨hh.objs.size, by rw [← S.len]; simp, rfl⟩ tt
  have d3 := d1.trans d2
  have eσ : σ ++ [.ns []] ++ [.inst Cl σ.length] = σ ++ [.ns [], .inst Cl σ.length] := by simp
  rw [eσ, hz] at d3
  have rx : VRels W (β ++ [hh.objs.size] ++ [hh.objs.size + 1]) ((hh.push (dictOf [] 0)).push (instObj Cl hh.objs.size)) (.ref (σ.length + 1) :: args) (.ref (hh.objs.size + 1) :: xs) :=
    .cons (.ref (by rw [← S.len]; simp)) (d3.vrels r)
  refine fn_code (s := ⟨(hh.push (dictOf [] 0)).push (instObj Cl hh.objs.size), gg, dd, tt, os⟩) G Fn hS e1 (.make hA Cl xs) (Nat.le_trans hge (by
    show hh.objs.size ≤ ((hh.push (dictOf [] 0)).push (instObj Cl hh.objs.size)).objs.size
    rw [Heap.size_push, Heap.size_push]; exact Nat.le_trans (Nat.le_succ _) (Nat.le_succ _))) d3.rel rx fun x s' β' d r' => ?_
  cases r'
  refine ⟨rfl, β', d3.trans d, .ref (d.ext.pre _ _ ?_)⟩
  rw [← S.len]; simp
theorem phiF_inv {C : Cfg} {args : List V} {o : Option FDef} {r : V × Store} (e : phiF C args σ o = some r) : ∃ D, o = some D ∧ runF C D args σ = some r := by
  cases o with
  | none => (first | exact oN e | refine oR3 e ?_ | refine oR2 e ?_ | cases e)
  | some D => exact ⟨D, rfl, e⟩
theorem phiC_inv {C : Cfg} {args : List V} {Cl : Addr} {o : Option FDef} {v : V} {σ' : Store} (e : phiC C args σ Cl o = some (v, σ')) : ∃ D, o = some D ∧ v = .ref (σ.length + 1) ∧ runF C D (V.ref (σ.length + 1) :: args) (σ ++ [O.ns [], O.inst Cl σ.length]) = some (.none, σ') := by
  cases o with
  | none => (first | exact oN e | refine oR3 e ?_ | refine oR2 e ?_ | cases e)
  | some D =>
    refine ob2 e fun w σ₁ e1 e => ?_
    cases w with
    | none => (first | exact oN e | refine oR3 e ?_ | refine oR2 e ?_ | cases e); exact ⟨D, rfl, rfl, e1⟩
    | _ => (first | exact oN e | refine oR3 e ?_ | refine oR2 e ?_ | cases e)
theorem sound_phi (G : WOK W T) : ∀ n, SoundF W n ⟨T.G, T.attr, T.meth, phi T n⟩
  | 0 => ⟨fun h => (nomatch h), fun _ h => (nomatch h)⟩
  | n + 1 => by
    have hS := sound_ev G rfl rfl (sound_phi G n) deep
    refine ⟨fun {g args σ v σ'} h => ?_, fun {Cl m args σ v σ'} hm h => ?_⟩
    · change phiN T ⟨T.G, T.attr, T.meth, phi T n⟩ g args σ (T.cls g) = _ at h
      cases hc : T.cls g with
      | none =>
        rw [hc] at h
        obtain ⟨D, hD, h⟩ := phiF_inv h
        obtain ⟨f, hf, Fn⟩ := G.glob g D hc hD
        exact ⟨.ref f, hf, Fn.keep, fun hA hge S r => wpAny_call (fn_code G Fn hS h (.of hA) hge S r fun x s' β' d r' => ⟨β', d, r'⟩)⟩
      | some Cl =>
        rw [hc] at h
        obtain ⟨D, hD, rfl, e1⟩ := phiC_inv h
        obtain ⟨hg, hmk, hkp, f, hfi, Fn⟩ := G.cls g Cl D hc hD
        exact ⟨.ref Cl, hg, hkp, fun hA hge S r => sound_make G hS Fn hmk hfi e1 hA hge S r⟩
    · obtain ⟨D, hD, h⟩ := phiF_inv h
      obtain ⟨hp, f, hfi, Fn⟩ := G.meth Cl m D hm hD
      exact ⟨f, hp, hfi, Fn.isFn, Fn.keep, fun hA hge S r => wpAny_call (fn_code G Fn hS h (.of hA) hge S r fun x s' β' d r' => ⟨β', d, r'⟩)⟩
end
end
section
noncomputable def wV (x : Option (V × Store)) (Q : V → Store → Prop) : Prop := ∃ v σ, x = some (v, σ) ∧ Q v σ
noncomputable def wB (x : Option (Bool × Store)) (Q : Bool → Store → Prop) : Prop := ∃ v σ, x = some (v, σ) ∧ Q v σ
noncomputable def wF (x : Option (FlowA × Rho × Store)) (Q : FlowA → Rho → Store → Prop) : Prop := ∃ f ρ σ, x = some (f, ρ, σ) ∧ Q f ρ σ
noncomputable def wR (x : Option (Rho × Store)) (Q : Rho → Store → Prop) : Prop := ∃ ρ σ, x = some (ρ, σ) ∧ Q ρ σ
noncomputable def wL (x : Option (List V × Store)) (Q : List V → Store → Prop) : Prop := ∃ v σ, x = some (v, σ) ∧ Q v σ
noncomputable def wI (x : Option (List Int × Store)) (Q : List Int → Store → Prop) : Prop := ∃ v σ, x = some (v, σ) ∧ Q v σ
noncomputable def wS (x : Option Store) (Q : Store → Prop) : Prop := ∃ σ, x = some σ ∧ Q σ
noncomputable def wC (x : Option Bool) (Q : Bool → Prop) : Prop := ∃ b, x = some b ∧ Q b

theorem wV.mono {x : Option (V × Store)} {P Q : V → Store → Prop} (h : wV x P) (k : ∀ v σ, P v σ → Q v σ) : wV x Q := by
  obtain ⟨v, σ, e, p⟩ := h; exact ⟨v, σ, e, k v σ p⟩
noncomputable def wP {α : Type} (x : Option (α × Store)) (Q : α → Store → Prop) : Prop := ∃ v σ, x = some (v, σ) ∧ Q v σ
noncomputable def wO {α : Type} (x : Option α) (Q : α → Prop) : Prop := ∃ v, x = some v ∧ Q v
section
variable {α γ : Type} {σ : Store} {P : α → Store → Prop} {Q : γ → Store → Prop} {R : FlowA → Rho → Store → Prop} {S : Store → Prop} {p : Prop} {b : Bool}
theorem wP.mono {P' : α → Store → Prop} {x : Option (α × Store)} (h : wP x P) (k : ∀ v σ, P v σ → P' v σ) : wP x P' := by
  obtain ⟨v, σ, e, p⟩ := h; exact ⟨v, σ, e, k v σ p⟩
theorem b22 {x : Option (α × Store)} {f : α × Store → Option (γ × Store)} (h : wP x P) (k : ∀ a σ, P a σ → wP (f (a, σ)) Q) : wP (x.bind f) Q := by
  obtain ⟨a, σ, rfl, p⟩ := h; exact k a σ p
theorem b23 {x : Option (α × Store)} {f : α × Store → Option (FlowA × Rho × Store)} (h : wP x P) (k : ∀ a σ, P a σ → wF (f (a, σ)) R) : wF (x.bind f) R := by
  obtain ⟨a, σ, rfl, p⟩ := h; exact k a σ p
theorem b33 {R' : FlowA → Rho → Store → Prop} {x : Option (FlowA × Rho × Store)} {f : FlowA × Rho × Store → Option (FlowA × Rho × Store)} (h : wF x R') (k : ∀ a ρ σ, R' a ρ σ → wF (f (a, ρ, σ)) R) : wF (x.bind f) R := by
  obtain ⟨a, ρ, σ, rfl, p⟩ := h; exact k a ρ σ p
theorem b32 {x : Option (FlowA × Rho × Store)} {f : FlowA × Rho × Store → Option (γ × Store)} (h : wF x R) (k : ∀ a ρ σ, R a ρ σ → wP (f (a, ρ, σ)) Q) : wP (x.bind f) Q := by
  obtain ⟨a, ρ, σ, rfl, p⟩ := h; exact k a ρ σ p
theorem b21 {x : Option (α × Store)} {f : α × Store → Option Store} (h : wP x P) (k : ∀ a σ, P a σ → wS (f (a, σ)) S) : wS (x.bind f) S := by
  obtain ⟨a, σ, rfl, p⟩ := h; exact k a σ p
theorem m22 {x : Option (α × Store)} {f : α × Store → γ × Store} (h : wP x P) (k : ∀ a σ, P a σ → Q (f (a, σ)).1 (f (a, σ)).2) : wP (x.map f) Q := by
  obtain ⟨a, σ, rfl, p⟩ := h; exact ⟨_, _, rfl, k a σ p⟩
theorem bO2 {δ : Type} {D : δ → Prop} {x : Option δ} {f : δ → Option (γ × Store)} (h : wO x D) (k : ∀ a, D a → wP (f a) Q) : wP (x.bind f) Q := by
  obtain ⟨a, rfl, p⟩ := h; exact k a p
theorem mO2 {δ : Type} {x : Option δ} {f : δ → γ × Store} (h : wO x fun a => Q (f a).1 (f a).2) : wP (x.map f) Q := by
  obtain ⟨a, rfl, p⟩ := h; exact ⟨_, _, rfl, p⟩
theorem bS2 {δ : Type} {x : Option δ} {a : δ} {f : δ → Option (γ × Store)} (h : x = some a) (k : wP (f a) Q) : wP (x.bind f) Q := by subst h; exact k
theorem bS3 {δ : Type} {x : Option δ} {a : δ} {f : δ → Option (FlowA × Rho × Store)} (h : x = some a) (k : wF (f a) R) : wF (x.bind f) R := by subst h; exact k
theorem mS2 {δ : Type} {x : Option δ} {a : δ} {f : δ → γ × Store} (h : x = some a) (k : Q (f a).1 (f a).2) : wP (x.map f) Q := by subst h; exact ⟨_, _, rfl, k⟩
theorem rt2 {a : γ} (h : Q a σ) : wP (some (a, σ)) Q := ⟨_, _, rfl, h⟩
theorem rt3 {a : FlowA} {ρ : Rho} (h : R a ρ σ) : wF (some (a, ρ, σ)) R := ⟨_, _, _, rfl, h⟩
theorem rt1 (h : S σ) : wS (some σ) S := ⟨_, rfl, h⟩
theorem iT2 [Decidable p] {x y : Option (γ × Store)} (hp : p) (h : wP x Q) : wP (ite p x y) Q := by rw [if_pos hp]; exact h
theorem iN2 [Decidable p] {x y : Option (γ × Store)} (hp : ¬ p) (h : wP y Q) : wP (ite p x y) Q := by rw [if_neg hp]; exact h
theorem iF2 {x y : Option (γ × Store)} (hp : b = false) (h : wP y Q) : wP (ite (b = true) x y) Q := by subst hp; exact h
theorem iT3 [Decidable p] {x y : Option (FlowA × Rho × Store)} (hp : p) (h : wF x R) : wF (ite p x y) R := by rw [if_pos hp]; exact h
theorem iF3 {x y : Option (FlowA × Rho × Store)} (hp : b = false) (h : wF y R) : wF (ite (b = true) x y) R := by subst hp; exact h
theorem iT1 [Decidable p] {x y : Option Store} (hp : p) (h : wS x S) : wS (ite p x y) S := by rw [if_pos hp]; exact h
theorem nF (h : (!b) = true) : b = false := by cases b; rfl; exact absurd h (by decide)
theorem an1 {c : Bool} (h : (b && c) = true) : b = true := by cases b; exact h; rfl
theorem an2 {c : Bool} (h : (b && c) = true) : c = true := by cases b; exact nomatch h; exact h
theorem an3 [Decidable p] (h : (b && decide p) = true) : p := of_decide_eq_true (an2 h)
theorem x33 {A B C : Type} {G : Prop} {p q r : A → B → C → Prop} (h : ∃ a b c, p a b c ∧ q a b c ∧ r a b c) (k : ∀ a b c, p a b c → q a b c → r a b c → G) : G := by
  obtain ⟨a, b, c, h1, h2, h3⟩ := h; exact k a b c h1 h2 h3
theorem x34 {A B C : Type} {G : Prop} {p q r s : A → B → C → Prop} (h : ∃ a b c, p a b c ∧ q a b c ∧ r a b c ∧ s a b c) (k : ∀ a b c, p a b c → q a b c → r a b c → s a b c → G) : G := by
  obtain ⟨a, b, c, h1, h2, h3, h4⟩ := h; exact k a b c h1 h2 h3 h4
theorem x44 {A B C D : Type} {G : Prop} {p q r s : A → B → C → D → Prop} (h : ∃ a b c d, p a b c d ∧ q a b c d ∧ r a b c d ∧ s a b c d) (k : ∀ a b c d, p a b c d → q a b c d → r a b c d → s a b c d → G) : G := by
  obtain ⟨a, b, c, d, h1, h2, h3, h4⟩ := h; exact k a b c d h1 h2 h3 h4
theorem x24 {A B : Type} {G : Prop} {p q r s : A → B → Prop} (h : ∃ a b, p a b ∧ q a b ∧ r a b ∧ s a b) (k : ∀ a b, p a b → q a b → r a b → s a b → G) : G := by
  obtain ⟨a, b, h1, h2, h3, h4⟩ := h; exact k a b h1 h2 h3 h4
end
theorem wF.mono {x : Option (FlowA × Rho × Store)} {P Q : FlowA → Rho → Store → Prop} (h : wF x P) (k : ∀ v ρ σ, P v ρ σ → Q v ρ σ) : wF x Q := by
  obtain ⟨v, ρ, σ, e, p⟩ := h; exact ⟨v, ρ, σ, e, k v ρ σ p⟩
theorem wV.of {x : Option (V × Store)} {v : V} {σ : Store} {Q : V → Store → Prop} (h : x = some (v, σ)) (q : Q v σ) : wV x Q := ⟨v, σ, h, q⟩

noncomputable def nm (Γ : Scope) (x : Str) (k : NameKind) : Bool := decide (x ≠ "__debug__") && (Γ.names.lookup x == some k)
theorem kind_eq {o : Option NameKind} {k : NameKind} (h : (o == some k) = true) : o = some k := by
  cases o with
  | none => exact nomatch h
  | some k' => exact congrArg some (by revert h; cases k <;> cases k' <;> decide)
theorem nm_spec {Γ : Scope} {x : Str} {k : NameKind} (h : nm Γ x k = true) : x ≠ "__debug__" ∧ Γ.names.lookup x = some k :=
  ⟨of_decide_eq_true (an1 h), kind_eq (an2 h)⟩

section
variable {C : Cfg} {n : Nat} {Γ : Scope} {ρ : Rho} {σ : Store}

theorem ev_e {e} : (ev C (n + 1)).e Γ ρ σ e = stepE C (ev C n) Γ ρ σ e := rfl
noncomputable def isB (v : V) (P : Bool → Prop) : Prop := ∃ b, v = .bool b ∧ P b
theorem isB.of {b : Bool} {P : Bool → Prop} (h : P b) : isB (.bool b) P := ⟨b, rfl, h⟩
theorem isB.map {α : Type} {v : V} {P : Bool → Prop} {f : Bool → α × Store} {Q : α → Store → Prop} (h : isB v P) (k : ∀ b, P b → Q (f b).1 (f b).2) : wP ((truthV v).map f) Q := by
  obtain ⟨b, rfl, p⟩ := h; exact ⟨_, _, rfl, k b p⟩
theorem cT {X Y : Prop} (h : X) : cond true X Y := h
theorem cF {X Y : Prop} (h : Y) : cond false X Y := h
theorem cD {p : Prop} [Decidable p] {X Y : Prop} (h : p → X) (h' : ¬ p → Y) : cond (decide p) X Y := by
  by_cases hp : p
  · rw [decide_eq_true hp]; exact h hp
  · rw [decide_eq_false hp]; exact h' hp
theorem cB {b : Bool} {X Y : Prop} (h : b = true → X) (h' : b = false → Y) : cond b X Y := by cases b; exact h' rfl; exact h rfl

noncomputable def nameA (C : Cfg) (ρ : Rho) (σ : Store) (x : Str) : NameKind → Option (V × Store)
  | .local | .cell => (ρ x).map fun v => (v, σ)
  | .globalImplicit => (C.G x).map fun v => (v, σ)
  | _ => none
theorem name_ev {x : Str} {p} {k : NameKind} (h : nm Γ x k = true) : (ev C (n + 1)).e Γ ρ σ (.Name x p) = nameA C ρ σ x k := by
  refine (if_neg (nm_spec h).1).trans ?_
  rw [(nm_spec h).2]
  cases k <;> rfl
theorem wN {x : Str} {p} {k : NameKind} {v : V} {Q : V → Store → Prop} (h : nm Γ x k = true) (e : nameA C ρ σ x k = some (v, σ)) (q : Q v σ) : wV ((ev C (n + 1)).e Γ ρ σ (.Name x p)) Q := ⟨v, σ, (name_ev h).trans e, q⟩
theorem e_const {c : Const} {k p} {v : V} {Q : V → Store → Prop} (h : constV c = some v) (q : Q v σ) : wV ((ev C (n + 1)).e Γ ρ σ (.Constant c k p)) Q := mS2 h q
theorem e_loc {x : Str} {p} {v : V} {Q : V → Store → Prop} (h : nm Γ x .local = true) (hr : ρ x = some v) (q : Q v σ) : wV ((ev C (n + 1)).e Γ ρ σ (.Name x p)) Q := wN h (congrArg (Option.map _) hr) q
theorem e_cell {x : Str} {p} {v : V} {Q : V → Store → Prop} (h : nm Γ x .cell = true) (hr : ρ x = some v) (q : Q v σ) : wV ((ev C (n + 1)).e Γ ρ σ (.Name x p)) Q := wN h (congrArg (Option.map _) hr) q
theorem e_glo {x : Str} {p} {v : V} {Q : V → Store → Prop} (h : nm Γ x .globalImplicit = true) (hr : C.G x = some v) (q : Q v σ) : wV ((ev C (n + 1)).e Γ ρ σ (.Name x p)) Q := wN h (congrArg (Option.map _) hr) q
theorem e_bin {l r : Expr} {op p} {Q} (h : wV ((ev C n).e Γ ρ σ l) fun a σ1 => wV ((ev C n).e Γ ρ σ1 r) fun b σ2 => wV (binV op a b σ2) Q) : wV ((ev C (n + 1)).e Γ ρ σ (.BinOp l op r p)) Q :=
  b22 h fun _ _ h => b22 h fun _ _ h => h
theorem e_un {x : Expr} {op p} {Q} (h : wV ((ev C n).e Γ ρ σ x) fun a σ1 => ∃ v, unV op a = some v ∧ Q v σ1) : wV ((ev C (n + 1)).e Γ ρ σ (.UnaryOp op x p)) Q :=
  b22 h fun _ _ h => mO2 h
theorem e_bool {op : BoolOp} {vs p} {Q} (h : wV (boolV (ev C n) Γ ρ op σ vs) Q) : wV ((ev C (n + 1)).e Γ ρ σ (.BoolOp op vs p)) Q := h
theorem bool_one {I : Itp} {op : BoolOp} {e} {Q} (h : wV (I.e Γ ρ σ e) Q) : wV (boolV I Γ ρ op σ [e]) Q := h
theorem bool_and {I : Itp} {e e' r} {Q} (h : wV (I.e Γ ρ σ e) fun v σ1 => isB v fun b => cond b (wV (boolV I Γ ρ .And σ1 (e' :: r)) Q) (Q (.bool false) σ1)) : wV (boolV I Γ ρ .And σ (e :: e' :: r)) Q :=
  b22 h fun v σ1 h => by
    obtain ⟨b, rfl, h⟩ := h
    cases b; exact rt2 h; exact h
theorem e_cmp {l r : Expr} {op p} {Q} (hs : isSet r = false) (h : wV ((ev C n).e Γ ρ σ l) fun a σ1 => wV ((ev C n).e Γ ρ σ1 r) fun b σ2 => wC (cmpV op a b σ2) fun c => Q (.bool c) σ2) : wV ((ev C (n + 1)).e Γ ρ σ (.Compare l [op] [r] p)) Q :=
  iF2 hs (b22 h fun _ _ h => b22 h fun _ _ h => mO2 h)
theorem t_cmp {l r : Expr} {op p} {Q} (hs : isSet r = false) (h : wV ((ev C n).e Γ ρ σ l) fun a σ1 => wV ((ev C n).e Γ ρ σ1 r) fun b σ2 => wC (cmpV op a b σ2) fun c => Q c σ2) : wB ((ev C (n + 1)).t Γ ρ σ (.Compare l [op] [r] p)) Q :=
  iF2 hs (b22 h fun _ _ h => b22 h fun _ _ h => mO2 h)
theorem t_cmp2 {l r r' : Expr} {op op' p} {Q} (hs : isSet r = false) (hs' : isSet r' = false) (h : wV ((ev C n).e Γ ρ σ l) fun a σ1 => wV ((ev C n).e Γ ρ σ1 r) fun b σ2 => wC (cmpV op a b σ2) fun c => cond c (wV ((ev C n).e Γ ρ σ2 r') fun d σ3 => wC (cmpV op' b d σ3) fun c' => Q c' σ3) (Q false σ2)) : wB ((ev C (n + 1)).t Γ ρ σ (.Compare l [op, op'] [r, r'] p)) Q :=
  iF2 (Bool.or_eq_false_iff.mpr ⟨hs, hs'⟩) (b22 h fun _ _ h => b22 h fun _ _ h => bO2 h fun c h => by cases c; exact rt2 h; exact b22 h fun _ _ h => mO2 h)
theorem e_ife {c a b p} {Q} (h : wB ((ev C n).t Γ ρ σ c) fun t σ1 => cond t (wV ((ev C n).e Γ ρ σ1 a) Q) (wV ((ev C n).e Γ ρ σ1 b) Q)) : wV ((ev C (n + 1)).e Γ ρ σ (.IfExp c a b p)) Q :=
  b22 h fun c _ h => by cases c <;> exact h
theorem e_ifk {c p} {x y : Int} {k k' p1 p2} {Q : V → Store → Prop} (h : wB ((ev C (n + 1)).t Γ ρ σ c) fun t σ1 => Q (.int (if t then x else y)) σ1) : wV ((ev C (n + 2)).e Γ ρ σ (.IfExp c (.Constant (.int x) k p1) (.Constant (.int y) k' p2) p)) Q :=
  e_ife (wP.mono h fun t _ q => by cases t; exact e_const rfl q; exact e_const rfl q)
theorem t_not {x p} {Q : Bool → Store → Prop} (h : wB ((ev C n).t Γ ρ σ x) fun b σ1 => Q (!b) σ1) : wB ((ev C (n + 1)).t Γ ρ σ (.UnaryOp .Not x p)) Q := m22 h fun _ _ h => h
theorem t_bool {op : BoolOp} {vs p} {Q} (h : wB (allT (ev C n) Γ ρ op σ vs) Q) : wB ((ev C (n + 1)).t Γ ρ σ (.BoolOp op vs p)) Q := h
theorem all_and {I : Itp} {e r} {Q} (h : wB (I.t Γ ρ σ e) fun b σ1 => cond b (wB (allT I Γ ρ .And σ1 r) Q) (Q false σ1)) : wB (allT I Γ ρ .And σ (e :: r)) Q :=
  b22 h fun c _ h => by cases c; exact rt2 h; exact h
theorem all_or {I : Itp} {e r} {Q} (h : wB (I.t Γ ρ σ e) fun b σ1 => cond b (Q true σ1) (wB (allT I Γ ρ .Or σ1 r) Q)) : wB (allT I Γ ρ .Or σ (e :: r)) Q :=
  b22 h fun c _ h => by cases c; exact h; exact rt2 h
theorem t_vC {f a k p} {Q : Bool → Store → Prop} (h : wV ((ev C n).e Γ ρ σ (.Call f a k p)) fun v σ1 => isB v fun b => Q b σ1) : wB ((ev C (n + 1)).t Γ ρ σ (.Call f a k p)) Q := b22 h fun _ _ h => h.map fun _ h => h
theorem t_vN {f p} {Q : Bool → Store → Prop} (h : wV ((ev C n).e Γ ρ σ (.Name f p)) fun v σ1 => isB v fun b => Q b σ1) : wB ((ev C (n + 1)).t Γ ρ σ (.Name f p)) Q := b22 h fun _ _ h => h.map fun _ h => h
theorem t_vS {f a p} {Q : Bool → Store → Prop} (h : wV ((ev C n).e Γ ρ σ (.Subscript f a p)) fun v σ1 => isB v fun b => Q b σ1) : wB ((ev C (n + 1)).t Γ ρ σ (.Subscript f a p)) Q := b22 h fun _ _ h => h.map fun _ h => h
theorem t_vK {f a p} {Q : Bool → Store → Prop} (h : wV ((ev C n).e Γ ρ σ (.Constant f a p)) fun v σ1 => isB v fun b => Q b σ1) : wB ((ev C (n + 1)).t Γ ρ σ (.Constant f a p)) Q := b22 h fun _ _ h => h.map fun _ h => h
theorem evs_nil {I : Itp} {Q : List V → Store → Prop} (h : Q [] σ) : wL (evs I Γ ρ σ []) Q := rt2 h
theorem evs_cons {I : Itp} {e r} {Q : List V → Store → Prop} (h : wV (I.e Γ ρ σ e) fun v σ1 => wL (evs I Γ ρ σ1 r) fun vs σ2 => Q (v :: vs) σ2) : wL (evs I Γ ρ σ (e :: r)) Q :=
  b22 h fun _ _ h => b22 h fun _ _ h => rt2 h
theorem evs_one {I : Itp} {a : Expr} {P : V → Store → Prop} (h : wV (I.e Γ ρ σ a) P) : wL (evs I Γ ρ σ [a]) fun vs σ => ∃ v, vs = [v] ∧ P v σ := evs_cons (wP.mono h fun v _ p => rt2 ⟨v, rfl, p⟩)
theorem evs_two {I : Itp} {a b : Expr} {P : V → V → Store → Prop} (h : wV (I.e Γ ρ σ a) fun v σ1 => wV (I.e Γ ρ σ1 b) fun w σ2 => P v w σ2) : wL (evs I Γ ρ σ [a, b]) fun vs σ => ∃ v w, vs = [v, w] ∧ P v w σ := evs_cons (wP.mono h fun v _ h => evs_cons (wP.mono h fun w _ p => rt2 ⟨v, w, rfl, p⟩))
theorem evs_l {I : Itp} : ∀ {es : List Expr} {σ : Store} {Q : List V → Store → Prop}, wL (evs I Γ ρ σ es) Q → wL (evs I Γ ρ σ es) fun vs σ => vs.length = es.length ∧ Q vs σ
  | [], _, _, h => by obtain ⟨v, σ, e, q⟩ := h; cases e; exact rt2 ⟨rfl, q⟩
  | e :: r, σ, Q, h => by
    obtain ⟨vs, σ', e1, q⟩ := h
    obtain ⟨p, h1, e1⟩ := Option.bind_eq_some_iff.mp e1
    obtain ⟨q', h2, e1⟩ := Option.bind_eq_some_iff.mp e1
    cases e1
    exact evs_cons ⟨p.1, p.2, h1, wP.mono (evs_l ⟨q'.1, q'.2, h2, q⟩) fun _ _ h => ⟨congrArg Nat.succ h.1, h.2⟩⟩
theorem e_tup {es : List Expr} {c p} {Q : V → Store → Prop} (hn : (es.all notStar && decide (es.length ≤ maxLen)) = true) (h : wL (evs (ev C n) Γ ρ σ es) fun vs σ1 => Q (.tup vs) σ1) : wV ((ev C (n + 1)).e Γ ρ σ (.Tuple es c p)) Q :=
  iT2 (an1 hn) (b22 (evs_l h) fun _ _ h => iT2 (Nat.le_trans (Nat.le_of_eq h.1) (an3 hn)) (rt2 h.2))
theorem e_lst {es : List Expr} {p} {Q : V → Store → Prop} (hn : (es.all notStar && decide (es.length ≤ maxLen)) = true) (h : wL (evs (ev C n) Γ ρ σ es) fun vs σ1 => Q (.ref σ1.length) (σ1 ++ [.lst vs])) : wV ((ev C (n + 1)).e Γ ρ σ (.List es p)) Q :=
  iT2 (an1 hn) (b22 (evs_l h) fun _ _ h => iT2 (Nat.le_trans (Nat.le_of_eq h.1) (an3 hn)) (rt2 h.2))
theorem e_dct {p} {Q : V → Store → Prop} (q : Q (.ref σ.length) (σ ++ [.dct []])) : wV ((ev C (n + 1)).e Γ ρ σ (.Dict [] [] p)) Q := rt2 q
theorem e_attr {o : Expr} {x p} {Q : V → Store → Prop} (hp : plainBase o = true) (h : wV ((ev C n).e Γ ρ σ o) fun v σ1 => ∃ cl d fs w, instOf σ1 v = some (cl, d, fs) ∧ C.attr cl x = true ∧ fs.lookup x = some w ∧ Q w σ1) : wV ((ev C (n + 1)).e Γ ρ σ (.Attribute o x p)) Q :=
  iT2 hp (b22 h fun _ _ h => x44 h fun _ _ _ _ e2 e3 e4 q => bS2 e2 (iT2 e3 (mS2 e4 q)))
theorem e_item {o i : Expr} {p} {Q : V → Store → Prop} (hp : isSlice i = false) (h : wV ((ev C n).e Γ ρ σ o) fun v σ1 => wV ((ev C n).e Γ ρ σ1 i) fun k σ2 => ∃ w, itemV σ2 v k = some w ∧ Q w σ2) : wV ((ev C (n + 1)).e Γ ρ σ (.Subscript o i p)) Q :=
  b22 h fun _ _ h => iF2 hp (b22 h fun _ _ h => mO2 h)
theorem e_cutL {o lo : Expr} {p p'} {Q} (h : wV ((ev C n).e Γ ρ σ o) fun v σ1 => wV ((ev C n).e Γ ρ σ1 lo) fun k σ2 => wV (sliceV σ2 v k .none) Q) : wV ((ev C (n + 1)).e Γ ρ σ (.Subscript o (.Slice (some lo) none none p') p)) Q :=
  b22 h fun _ _ h => b22 h fun _ _ h => h
theorem e_cutR {o hi : Expr} {p p'} {Q} (h : wV ((ev C n).e Γ ρ σ o) fun v σ1 => wV ((ev C n).e Γ ρ σ1 hi) fun k σ2 => wV (sliceV σ2 v .none k) Q) : wV ((ev C (n + 1)).e Γ ρ σ (.Subscript o (.Slice none (some hi) none p') p)) Q :=
  b22 h fun _ _ h => b22 h fun _ _ h => h

noncomputable def builOk (Γ : Scope) (f : Str) (args : List Expr) : Bool := decide (Γ.names.lookup f = some .globalImplicit ∧ args.all notStar ∧ args.length ≤ 20)
noncomputable def callOk (Γ : Scope) (f : Str) (args : List Expr) : Bool := builOk Γ f args && !isBuiltin f
theorem e_call {f : Str} {q' p} {args : List Expr} {Q} (ho : callOk Γ f args = true) (h : wL (evs (ev C n) Γ ρ σ args) fun vs σ1 => wV (C.Φ (.glob f) vs σ1) Q) : wV ((ev C (n + 1)).e Γ ρ σ (.Call (.Name f q') args [] p)) Q :=
  iT2 (of_decide_eq_true (an1 ho)) (iF2 (nF (an2 ho)) (b22 h fun _ _ h => h))
theorem e_len {q' p} {a : Expr} {Q : V → Store → Prop} (ho : builOk Γ "len" [a] = true) (h : wV ((ev C n).e Γ ρ σ a) fun v σ1 => ∃ xs, itemsOf σ1 v = some xs ∧ xs.length ≤ maxLen ∧ Q (.int xs.length) σ1) : wV ((ev C (n + 1)).e Γ ρ σ (.Call (.Name "len" q') [a] [] p)) Q :=
  iT2 (of_decide_eq_true ho) (iT2 (by decide +kernel) (iT2 rfl (b22 (evs_one h) fun _ _ h => by
    obtain ⟨_, rfl, xs, e2, e3, q⟩ := h
    exact iT2 rfl (bS2 e2 (iT2 e3 (rt2 q))))))
theorem e_listr {q' p} {a : Expr} {Q : V → Store → Prop} (ho : builOk Γ "list" [a] = true) (hr : isRange a = true) (h : wI (rangeOf (ev C n) Γ ρ σ a) fun is σ1 => Q (.ref σ1.length) (σ1 ++ [.lst (is.map .int)])) : wV ((ev C (n + 1)).e Γ ρ σ (.Call (.Name "list" q') [a] [] p)) Q :=
  iT2 (of_decide_eq_true ho) (iT2 (by decide +kernel) (iN2 (by decide +kernel) (iT2 rfl (iT2 hr (b22 h fun _ _ h => rt2 h)))))
noncomputable def lstA (o : Option O) (f : List V → Option (V × Store)) : Option (V × Store) := match o with
  | some (.lst xs) => f xs
  | _ => none
theorem e_listl {q' p} {a : Expr} {Q : V → Store → Prop} (ho : builOk Γ "list" [a] = true) (hr : isRange a = false) (h : wV ((ev C n).e Γ ρ σ a) fun v σ1 => ∃ i xs, v = .ref i ∧ σ1[i]? = some (.lst xs) ∧ xs.length ≤ maxLen ∧ Q (.ref σ1.length) (σ1 ++ [.lst xs])) : wV ((ev C (n + 1)).e Γ ρ σ (.Call (.Name "list" q') [a] [] p)) Q :=
  iT2 (of_decide_eq_true ho) (iT2 (by decide +kernel) (iN2 (by decide +kernel) (iT2 rfl (iF2 hr (b22 h fun v σ1 h => x24 h fun i xs e1 e2 e3 q => by
    subst e1
    show wP (lstA σ1[i]? fun xs => if xs.length ≤ maxLen then some (newO σ1 (.lst xs)) else none) Q
    rw [e2]; exact iT2 e3 (rt2 q))))))
theorem e_sorted {q' p} {a : Expr} {Q : V → Store → Prop} (ho : builOk Γ "sorted" [a] = true) (h : wV ((ev C n).e Γ ρ σ a) fun v σ1 => ∃ i xs ns, v = .ref i ∧ σ1[i]? = some (.lst xs) ∧ intsOf xs = some ns ∧ ns.length < 64 ∧ Q (.ref σ1.length) (σ1 ++ [.lst ((sortI ns).map .int)])) : wV ((ev C (n + 1)).e Γ ρ σ (.Call (.Name "sorted" q') [a] [] p)) Q :=
  iT2 (of_decide_eq_true ho) (iT2 (by decide +kernel) (iN2 (by decide +kernel) (iN2 (by decide +kernel) (iT2 rfl (b22 h fun v σ1 h => x34 h fun i xs ns e1 e2 e3 q => by
    subst e1
    show wP (lstA σ1[i]? fun xs => (intsOf xs).bind fun ns => if ns.length < 64 then some (newO σ1 (.lst ((sortI ns).map .int))) else none) Q
    rw [e2]; exact bS2 e3 (iT2 q.1 (rt2 q.2)))))))
theorem meth_base {o : Expr} {args : List Expr} (h : (plainBase o && args.all notStar && decide (args.length ≤ 20)) = true) : plainBase o = true ∧ args.all notStar = true ∧ args.length ≤ 20 := ⟨an1 (an1 h), an2 (an1 h), an3 h⟩
theorem e_methI {o : Expr} {name : Str} {ap p} {args : List Expr} {Q} (hl : (ap.endLine == p.line) = true) (hb : (plainBase o && args.all notStar && decide (args.length ≤ 20)) = true)
    (h : wV ((ev C n).e Γ ρ σ o) fun v σ1 => ∃ cl d fs, instOf σ1 v = some (cl, d, fs) ∧ C.meth cl name = true ∧ fs.lookup name = none ∧ wL (evs (ev C n) Γ ρ σ1 args) fun vs σ2 => wV (C.Φ (.meth cl name) (v :: vs) σ2) Q) : wV ((ev C (n + 1)).e Γ ρ σ (.Call (.Attribute o name ap) args [] p)) Q :=
  iT2 hl (iT2 (meth_base hb) (b22 h fun v σ1 h => x34 h fun cl d fs e2 e3 e4 h => by
    show wP (callI C (ev C n) Γ ρ (v, σ1) name args (instOf σ1 v)) Q
    rw [e2]; exact iT2 ⟨e3, e4⟩ (b22 h fun _ _ h => h)))
theorem e_methB {o : Expr} {name : Str} {ap p} {args : List Expr} {Q} (hl : (ap.endLine == p.line) = true) (hb : (plainBase o && args.all notStar && decide (args.length ≤ 20)) = true)
    (h : wV ((ev C n).e Γ ρ σ o) fun v σ1 => ∃ i, v = .ref i ∧ instOf σ1 v = none ∧ wL (evs (ev C n) Γ ρ σ1 args) fun vs σ2 => kindO σ1[i]? = kindO σ2[i]? ∧ wV (methV σ2 v name vs) Q) : wV ((ev C (n + 1)).e Γ ρ σ (.Call (.Attribute o name ap) args [] p)) Q :=
  iT2 hl (iT2 (meth_base hb) (b22 h fun v σ1 h => by
    obtain ⟨i, rfl, e2, h⟩ := h
    show wP (callI C (ev C n) Γ ρ (.ref i, σ1) name args (instOf σ1 (.ref i))) Q
    rw [e2]; exact b22 h fun _ _ h => iT2 h.1 h.2))
end
end
section
section
variable {C : Cfg} {n : Nat} {Γ : Scope} {ρ : Rho} {σ : Store} {I : Itp}

theorem b_add {x y : Int} {Q} (q : Q (.int (x + y)) σ) : wV (binV .Add (.int x) (.int y) σ) Q := ⟨_, _, rfl, q⟩
theorem b_sub {x y : Int} {Q} (q : Q (.int (x - y)) σ) : wV (binV .Sub (.int x) (.int y) σ) Q := ⟨_, _, rfl, q⟩
theorem b_mul {x y : Int} {Q} (h : -(2 ^ 64) < x ∧ x < 2 ^ 64) (q : Q (.int (x * y)) σ) : wV (binV .Mult (.int x) (.int y) σ) Q := ⟨_, _, if_pos h, q⟩
theorem b_div {x y : Int} {Q} (h : y ≠ 0 ∧ y.natAbs < 1073741824) (q : Q (.int (x.fdiv y)) σ) : wV (binV .FloorDiv (.int x) (.int y) σ) Q := ⟨_, _, if_pos h, q⟩
theorem b_mod {x y : Int} {Q} (h : y ≠ 0) (q : Q (.int (x.fmod y)) σ) : wV (binV .Mod (.int x) (.int y) σ) Q := ⟨_, _, if_pos h, q⟩
theorem b_and {x y : Int} {Q} (q : Q (.int (Builtin.bitAnd x y)) σ) : wV (binV .BitAnd (.int x) (.int y) σ) Q := ⟨_, _, rfl, q⟩
theorem b_or {x y : Int} {Q} (q : Q (.int (Builtin.bitOr x y)) σ) : wV (binV .BitOr (.int x) (.int y) σ) Q := ⟨_, _, rfl, q⟩
theorem b_xor {x y : Int} {Q} (q : Q (.int (Builtin.bitXor x y)) σ) : wV (binV .BitXor (.int x) (.int y) σ) Q := ⟨_, _, rfl, q⟩
theorem b_shl {x y : Int} {Q} (h : 0 ≤ y ∧ y ≤ 1000000 ∧ x.natAbs < 2 ^ 64) (q : Q (.int (x * 2 ^ y.toNat)) σ) : wV (binV .LShift (.int x) (.int y) σ) Q := ⟨_, _, if_pos h, q⟩
theorem b_shr {x y : Int} {Q} (h : 0 ≤ y) (q : Q (.int (x.fdiv (2 ^ y.toNat))) σ) : wV (binV .RShift (.int x) (.int y) σ) Q := ⟨_, _, if_pos h, q⟩
theorem b_cat {i j : Nat} {xs ys : List V} {Q : V → Store → Prop} (h1 : σ[i]? = some (.lst xs)) (h2 : σ[j]? = some (.lst ys)) (h3 : xs.length + ys.length ≤ maxLen) (q : Q (.ref σ.length) (σ ++ [.lst (xs ++ ys)])) : wV (binV .Add (.ref i) (.ref j) σ) Q := by
  show wP (match σ[i]?, σ[j]? with
    | some (.lst xs), some (.lst ys) => if xs.length + ys.length ≤ maxLen then some (newO σ (.lst (xs ++ ys))) else none
    | _, _ => none) Q
  rw [h1, h2]; exact iT2 h3 (rt2 q)
theorem rep1 {k : Nat} {x : V} : (List.replicate k [x]).flatten = List.replicate k x := by
  induction k with
  | zero => rfl
  | succ m ih => rw [List.replicate_succ, List.flatten_cons, ih]; rfl
theorem b_rep {i : Nat} {k : Int} {x : V} {Q : V → Store → Prop} (h1 : σ[i]? = some (.lst [x])) (h3 : 0 ≤ k ∧ k ≤ maxLen) (q : Q (.ref σ.length) (σ ++ [.lst (List.replicate k.toNat x)])) : wV (binV .Mult (.ref i) (.int k) σ) Q := by
  show wP (lstA σ[i]? fun xs => if 0 ≤ k ∧ k ≤ maxLen ∧ xs.length = 1 then some (newO σ (.lst (List.replicate k.toNat xs).flatten)) else none) Q
  rw [h1]; exact iT2 ⟨h3.1, h3.2, rfl⟩ (rt2 (rep1 ▸ q))

theorem c_val {op : CmpOp} {a b : V} {c : Bool} {P} (h : cmpV op a b σ = some c) (p : P c) : wC (cmpV op a b σ) P := ⟨c, h, p⟩
theorem c_lt {x y : Int} {P} (p : P (decide (x < y))) : wC (cmpV .Lt (.int x) (.int y) σ) P := ⟨_, rfl, p⟩
theorem c_le {x y : Int} {P} (p : P (decide (x ≤ y))) : wC (cmpV .LtE (.int x) (.int y) σ) P := ⟨_, rfl, p⟩
theorem c_gt {x y : Int} {P} (p : P (decide (y < x))) : wC (cmpV .Gt (.int x) (.int y) σ) P := ⟨_, rfl, p⟩
theorem c_ge {x y : Int} {P} (p : P (decide (y ≤ x))) : wC (cmpV .GtE (.int x) (.int y) σ) P := ⟨_, rfl, p⟩
theorem beq_dec (x y : Int) : (x == y) = decide (x = y) := rfl
theorem c_eq {x y : Int} {P} (p : P (decide (x = y))) : wC (cmpV .Eq (.int x) (.int y) σ) P := ⟨_, rfl, p⟩
theorem c_ne {x y : Int} {P} (p : P (!decide (x = y))) : wC (cmpV .NotEq (.int x) (.int y) σ) P := ⟨_, rfl, p⟩

noncomputable def seqK (f : FlowA) (X Y : Prop) : Prop := match f with | .next => X | _ => Y
theorem sqN {X Y : Prop} (h : X) : seqK .next X Y := h
theorem sqB {X Y : Prop} (h : Y) : seqK .brk X Y := h
theorem sqC {X Y : Prop} (h : Y) : seqK .cont X Y := h
theorem sqR {X Y : Prop} {v} (h : Y) : seqK (.ret v) X Y := h
theorem ss_nil {Q : FlowA → Rho → Store → Prop} (q : Q .next ρ σ) : wF ((ev C (n + 1)).ss Γ ρ σ []) Q := rt3 q
theorem ss_cons {s : Stmt} {r : List Stmt} {Q : FlowA → Rho → Store → Prop} (h : wF ((ev C n).s Γ ρ σ s) fun f ρ1 σ1 => seqK f (wF ((ev C n).ss Γ ρ1 σ1 r) Q) (Q f ρ1 σ1)) : wF ((ev C (n + 1)).ss Γ ρ σ (s :: r)) Q :=
  b33 h fun f _ _ h => by
    cases f with
    | next => exact h
    | _ => exact rt3 h
theorem s_expr {e : Expr} {p} {Q : FlowA → Rho → Store → Prop} (hc : isComp e = false) (h : wV ((ev C n).e Γ ρ σ e) fun v σ1 => v = .none ∧ Q .next ρ σ1) : wF ((ev C (n + 1)).s Γ ρ σ (.Expr e p)) Q :=
  iF3 hc (b23 h fun v _ h => by obtain ⟨rfl, h⟩ := h; exact rt3 h)
theorem s_ret {e : Expr} {p} {Q : FlowA → Rho → Store → Prop} (h : wV ((ev C n).e Γ ρ σ e) fun v σ1 => Q (.ret v) ρ σ1) : wF ((ev C (n + 1)).s Γ ρ σ (.Return (some e) p)) Q := b23 h fun _ _ h => rt3 h
theorem s_ret0 {p} {Q : FlowA → Rho → Store → Prop} (q : Q (.ret .none) ρ σ) : wF ((ev C (n + 1)).s Γ ρ σ (.Return none p)) Q := rt3 q
theorem s_asg {t e : Expr} {p} {Q : FlowA → Rho → Store → Prop} (hc : isComp e = false) (ht : (isTuple t && isTuple e) = false) (h : wV ((ev C n).e Γ ρ σ e) fun v σ1 => wR (asg C (ev C n) Γ ρ σ1 t v) fun ρ1 σ2 => Q .next ρ1 σ2) : wF ((ev C (n + 1)).s Γ ρ σ (.Assign [t] e p)) Q :=
  iF3 hc (iF3 ht (b23 h fun _ _ h => b23 h fun _ _ h => rt3 h))
theorem s_asgC {x : Str} {q' p} {e : Expr} {Q : FlowA → Rho → Store → Prop} (hc : isComp e = true) (hx : (Γ.names.lookup x == some .local) = true) (hq : (decide (q'.line = e.pos.line) && compFree x e) = true) (h : wV ((ev C n).e Γ ρ σ e) fun v σ1 => Q .next (ρ.set x v) σ1) : wF ((ev C (n + 1)).s Γ ρ σ (.Assign [.Name x q'] e p)) Q :=
  iT3 hc (iT3 ⟨kind_eq hx, of_decide_eq_true (an1 hq), an2 hq⟩ (b23 h fun _ _ h => rt3 h))
theorem s_asgT {x y : Str} {px py tp k k' vp p} {vs : List Expr} {Q : FlowA → Rho → Store → Prop} (hk : decide (x ≠ y ∧ Γ.names.lookup x = some .local ∧ Γ.names.lookup y = some .local ∧ px.line = py.line ∧ vs.length = 2 ∧ vs.all notStar = true ∧ vs.all (foldedForSure 8) = false ∧ vs.all (constantsAlone 8) = false) = true)
    (h : wV ((ev C n).e Γ ρ σ (.Tuple vs k' vp)) fun v σ1 => ∃ a b, v = .tup [a, b] ∧ Q .next ((ρ.set y b).set x a) σ1) : wF ((ev C (n + 1)).s Γ ρ σ (.Assign [.Tuple [.Name x px, .Name y py] k tp] (.Tuple vs k' vp) p)) Q :=
  iT3 (of_decide_eq_true hk) (b23 h fun _ _ h => by obtain ⟨a, b, rfl, h⟩ := h; exact rt3 h)
theorem s_aug {o e : Expr} {x : Str} {q' p} {Q : FlowA → Rho → Store → Prop} (hp : plainBase o = true) (h : wV ((ev C n).e Γ ρ σ o) fun v σ1 => ∃ cl d fs a, instOf σ1 v = some (cl, d, fs) ∧ C.attr cl x = true ∧ fs.lookup x = some (.int a) ∧ wV ((ev C n).e Γ ρ σ1 e) fun w σ2 => ∃ cl' d' fs' b, w = .int b ∧ instOf σ2 v = some (cl', d', fs') ∧ C.attr cl' x = true ∧ fs'.length ≤ 100 ∧ Q .next ρ (σ2.set d' (.ns (putF x (.int (a + b)) fs')))) : wF ((ev C (n + 1)).s Γ ρ σ (.AugAssign (.Attribute o x q') .Add e p)) Q :=
  iT3 hp (b23 h fun _ _ h => x44 h fun _ _ _ _ e2 e3 e4 h => bS3 e2 (iT3 e3 (bS3 e4 (b23 h fun _ _ h => by
    obtain ⟨_, _, _, _, rfl, e6, e7, e8, q⟩ := h
    exact bS3 e6 (iT3 ⟨e7, e8⟩ (rt3 q))))))
theorem s_if {c : Expr} {a b : List Stmt} {p} {Q : FlowA → Rho → Store → Prop} (h : wB ((ev C n).t Γ ρ σ c) fun t σ1 => cond t (wF ((ev C n).ss Γ ρ σ1 a) Q) (wF ((ev C n).ss Γ ρ σ1 b) Q)) : wF ((ev C (n + 1)).s Γ ρ σ (.If c a b p)) Q :=
  b23 h fun t _ h => by cases t <;> exact h
theorem s_while {c : Expr} {body : List Stmt} {p} {Q} (h : wF (whileA (ev C n) Γ c body whileMax ρ σ) Q) : wF ((ev C (n + 1)).s Γ ρ σ (.While c body [] p)) Q := h
theorem s_forR {t iter : Expr} {body : List Stmt} {p} {Q : FlowA → Rho → Store → Prop} (hs : (!isSet iter && isRange iter) = true) (h : wI (rangeOf (ev C n) Γ ρ σ iter) fun is σ1 => wF (forI C (ev C n) Γ t body ρ σ1 is) Q) : wF ((ev C (n + 1)).s Γ ρ σ (.For t iter body [] p)) Q :=
  iF3 (nF (an1 hs)) (iT3 (an2 hs) (b23 h fun _ _ h => h))
theorem s_forL {t iter : Expr} {body : List Stmt} {p} {Q : FlowA → Rho → Store → Prop} (hs : (!isSet iter && !isRange iter) = true) (h : wV ((ev C n).e Γ ρ σ iter) fun v σ1 => ∃ l, v = .ref l ∧ wF (forL C (ev C n) Γ t body l (lenAt σ1 l) 0 ρ σ1) Q) : wF ((ev C (n + 1)).s Γ ρ σ (.For t iter body [] p)) Q :=
  iF3 (nF (an1 hs)) (iF3 (nF (an2 hs)) (b23 h fun _ _ h => by obtain ⟨l, rfl, h⟩ := h; exact h))
theorem s_brk {p} {Q : FlowA → Rho → Store → Prop} (q : Q .brk ρ σ) : wF ((ev C (n + 1)).s Γ ρ σ (.Break p)) Q := rt3 q
theorem s_cont {p} {Q : FlowA → Rho → Store → Prop} (q : Q .cont ρ σ) : wF ((ev C (n + 1)).s Γ ρ σ (.Continue p)) Q := rt3 q
theorem s_try {body : List Stmt} {hd} {p} {Q} (h : wF ((ev C n).ss Γ ρ σ body) Q) : wF ((ev C (n + 1)).s Γ ρ σ (.Try body hd [] [] p)) Q := h

theorem asg_n {x : Str} {q'} {v : V} {k : NameKind} {r : Option (Rho × Store)} (h : nm Γ x k = true) (e : (match some k with | some .local => some (ρ.set x v, σ) | some .cell => some (ρ.set x v, σ) | _ => none) = r) : asg C I Γ ρ σ (.Name x q') v = r := by
  show (match Γ.names.lookup x with | some .local => some (ρ.set x v, σ) | some .cell => some (ρ.set x v, σ) | _ => none) = r
  rw [(nm_spec h).2]; exact e
theorem a_loc {x : Str} {q'} {v : V} {Q : Rho → Store → Prop} (h : nm Γ x .local = true) (q : Q (ρ.set x v) σ) : wR (asg C I Γ ρ σ (.Name x q') v) Q := ⟨_, _, asg_n h rfl, q⟩
theorem a_cell {x : Str} {q'} {v : V} {Q : Rho → Store → Prop} (h : nm Γ x .cell = true) (q : Q (ρ.set x v) σ) : wR (asg C I Γ ρ σ (.Name x q') v) Q := ⟨_, _, asg_n h rfl, q⟩
theorem ss_asg {x : Str} {q'} {e : Expr} {p} {r : List Stmt} {Q : FlowA → Rho → Store → Prop} (hx : nm Γ x .local = true) (hc : isComp e = false) (h : wV ((ev C n).e Γ ρ σ e) fun v σ1 => wF ((ev C (n + 1)).ss Γ (ρ.set x v) σ1 r) Q) : wF ((ev C (n + 2)).ss Γ ρ σ (.Assign [.Name x q'] e p :: r)) Q :=
  ss_cons (s_asg hc rfl (wP.mono h fun _ _ h => a_loc hx h))
theorem ss_ret {e : Expr} {p} {r : List Stmt} {Q : FlowA → Rho → Store → Prop} (h : wV ((ev C n).e Γ ρ σ e) fun v σ1 => Q (.ret v) ρ σ1) : wF ((ev C (n + 2)).ss Γ ρ σ (.Return (some e) p :: r)) Q := ss_cons (s_ret h)
theorem ss_expr {e : Expr} {p} {r : List Stmt} {Q : FlowA → Rho → Store → Prop} (hc : isComp e = false) (h : wV ((ev C n).e Γ ρ σ e) fun v σ1 => v = .none ∧ wF ((ev C (n + 1)).ss Γ ρ σ1 r) Q) : wF ((ev C (n + 2)).ss Γ ρ σ (.Expr e p :: r)) Q := ss_cons (s_expr hc h)
theorem ss_ifR {c e : Expr} {p p'} {r : List Stmt} {Q : FlowA → Rho → Store → Prop} (h : wB ((ev C (n + 2)).t Γ ρ σ c) fun t σ1 => cond t (wV ((ev C n).e Γ ρ σ1 e) fun v σ1 => Q (.ret v) ρ σ1) (wF ((ev C (n + 3)).ss Γ ρ σ1 r) Q)) : wF ((ev C (n + 4)).ss Γ ρ σ (.If c [.Return (some e) p'] [] p :: r)) Q :=
  ss_cons (s_if (wP.mono h fun t _ h => by cases t; exact ss_nil h; exact ss_ret h))
theorem ss_if0 {c : Expr} {a : List Stmt} {p} {r : List Stmt} {Q : FlowA → Rho → Store → Prop} (h : wB ((ev C (n + 1)).t Γ ρ σ c) fun t σ1 => cond t (wF ((ev C (n + 1)).ss Γ ρ σ1 a) fun f ρ1 σ1 => seqK f (wF ((ev C (n + 2)).ss Γ ρ1 σ1 r) Q) (Q f ρ1 σ1)) (wF ((ev C (n + 2)).ss Γ ρ σ1 r) Q)) : wF ((ev C (n + 3)).ss Γ ρ σ (.If c a [] p :: r)) Q :=
  ss_cons (s_if (wP.mono h fun t _ h => by cases t; exact ss_nil h; exact h))
theorem a_attr {o : Expr} {x : Str} {q'} {v : V} {Q : Rho → Store → Prop} (h : wV (I.e Γ ρ σ o) fun w σ1 => ∃ cl d fs, instOf σ1 w = some (cl, d, fs) ∧ C.attr cl x = true ∧ fs.length ≤ 100 ∧ Q ρ (σ1.set d (.ns (putF x v fs)))) : wR (asg C I Γ ρ σ (.Attribute o x q') v) Q :=
  b22 h fun _ _ h => x34 h fun _ _ _ e2 e3 e4 q => bS2 e2 (iT2 ⟨e3, e4⟩ (rt2 q))
theorem a_item {o i : Expr} {q'} {v : V} {Q : Rho → Store → Prop} (hs : isSlice i = false) (h : wV (I.e Γ ρ σ o) fun w σ1 => wV (I.e Γ ρ σ1 i) fun k σ2 => wS (setV σ2 w k v) fun σ3 => Q ρ σ3) : wR (asg C I Γ ρ σ (.Subscript o i q') v) Q :=
  iF2 hs (b22 h fun _ _ h => b22 h fun _ _ h => mO2 h)
theorem as_nil {Q : Rho → Store → Prop} (q : Q ρ σ) : wR (asgs C I Γ ρ σ [] []) Q := rt2 q
theorem as_cons {x : Str} {q'} {ts v vs} {Q : Rho → Store → Prop} (h : wR (asg C I Γ ρ σ (.Name x q') v) fun ρ1 σ1 => wR (asgs C I Γ ρ1 σ1 ts vs) Q) : wR (asgs C I Γ ρ σ (.Name x q' :: ts) (v :: vs)) Q :=
  b22 h fun _ _ h => h
theorem as_consA {o : Expr} {x : Str} {q'} {ts v vs} {Q : Rho → Store → Prop} (h : wR (asg C I Γ ρ σ (.Attribute o x q') v) fun ρ1 σ1 => wR (asgs C I Γ ρ1 σ1 ts vs) Q) : wR (asgs C I Γ ρ σ (.Attribute o x q' :: ts) (v :: vs)) Q :=
  b22 h fun _ _ h => h
theorem a_tup {ts : List Expr} {c p} {vs : List V} {Q : Rho → Store → Prop} (hn : (ts.all notStar && decide (vs.length ≤ maxLen)) = true) (h : wR (asgs C I Γ ρ σ ts vs) Q) : wR (asg C I Γ ρ σ (.Tuple ts c p) (.tup vs)) Q :=
  iT2 (an1 hn) (iT2 (an3 hn) h)

noncomputable def loopK (f : FlowA) (X Y : Prop) (Z : V → Prop) : Prop := match f with | .next => X | .cont => X | .brk => Y | .ret v => Z v
theorem lkN {X Y Z} (h : X) : loopK .next X Y Z := h
theorem lkC {X Y Z} (h : X) : loopK .cont X Y Z := h
theorem lkB {X Y : Prop} {Z} (h : Y) : loopK .brk X Y Z := h
theorem lkR {X Y Z v} (h : Z v) : loopK (.ret v) X Y Z := h
theorem lk {f : FlowA} {X : Prop} {Q : FlowA → Rho → Store → Prop} {y : Option (FlowA × Rho × Store)} (h : loopK f X (Q .next ρ σ) fun v => Q (.ret v) ρ σ) (k : X → wF y Q) :
    wF (match (generalizing := false) f with
      | .next => y
      | .cont => y
      | .brk => some (.next, ρ, σ)
      | .ret v => some (.ret v, ρ, σ)) Q := by
  cases f with
  | next => exact k h
  | cont => exact k h
  | _ => exact rt3 h

theorem range1 {f q' p} {a : Expr} {Q : List Int → Store → Prop} (hf : (decide (f = ("range" : Str)) && builOk Γ f [a]) = true) (h : wV (I.e Γ ρ σ a) fun v σ1 => ∃ k : Int, v = .int k ∧ -(2 ^ 62) ≤ k ∧ k ≤ maxLen ∧ Q ((List.range k.toNat).map fun (i : Nat) => (i : Int)) σ1) : wI (rangeOf I Γ ρ σ (.Call (.Name f q') [a] [] p)) Q :=
  iT2 ⟨of_decide_eq_true (an1 hf), (of_decide_eq_true (an2 hf)).1, (of_decide_eq_true (an2 hf)).2.1⟩ (b22 (evs_one h) fun _ _ h => by
    obtain ⟨_, rfl, k, rfl, h3, h4, q⟩ := h
    exact iT2 ⟨h3, h4⟩ (rt2 q))
theorem range2 {f q' p} {a b : Expr} {Q : List Int → Store → Prop} (hf : (decide (f = ("range" : Str)) && builOk Γ f [a, b]) = true) (h : wV (I.e Γ ρ σ a) fun v σ1 => wV (I.e Γ ρ σ1 b) fun w σ2 => ∃ k m : Int, v = .int k ∧ w = .int m ∧ (0 ≤ k ∧ k ≤ maxLen ∧ -(2 ^ 62) ≤ m ∧ m ≤ maxLen) ∧ Q ((List.range (m - k).toNat).map fun (i : Nat) => k + (i : Int)) σ2) : wI (rangeOf I Γ ρ σ (.Call (.Name f q') [a, b] [] p)) Q :=
  iT2 ⟨of_decide_eq_true (an1 hf), (of_decide_eq_true (an2 hf)).1, (of_decide_eq_true (an2 hf)).2.1⟩ (b22 (evs_two h) fun _ _ h => by
    obtain ⟨_, _, rfl, k, m, rfl, rfl, h3, q⟩ := h
    exact iT2 h3 (rt2 q))

theorem m3 {o : Option O} {ws : List V} {f : List V → Option (FlowA × Rho × Store)} {Q : FlowA → Rho → Store → Prop} (h : o = some (.lst ws)) (k : wF (f ws) Q) : wF (match (generalizing := false) o with | some (.lst ws) => f ws | _ => none) Q := by subst h; exact k
theorem m2 {α : Type} {o : Option O} {ws : List V} {f : List V → Option (α × Store)} {Q : α → Store → Prop} (h : o = some (.lst ws)) (k : wP (f ws) Q) : wP (match (generalizing := false) o with | some (.lst ws) => f ws | _ => none) Q := by subst h; exact k
theorem m1 {o : Option O} {ws : List V} {f : List V → Option Store} {Q : Store → Prop} (h : o = some (.lst ws)) (k : wS (f ws) Q) : wS (match (generalizing := false) o with | some (.lst ws) => f ws | _ => none) Q := by subst h; exact k

theorem forI_inv {t : Expr} {body : List Stmt} {Q : FlowA → Rho → Store → Prop} (P : Nat → Rho → Store → Prop) : ∀ (is : List Int) (k0 : Nat) (ρ : Rho) (σ : Store), P k0 ρ σ →
    (∀ k i ρ σ, is[k]? = some i → P (k0 + k) ρ σ → wR (asg C I Γ ρ σ t (.int i)) fun ρ1 σ1 => wF (I.ss Γ ρ1 σ1 body) fun f ρ2 σ2 => loopK f (P (k0 + k + 1) ρ2 σ2) (Q .next ρ2 σ2) (fun v => Q (.ret v) ρ2 σ2)) →
    (∀ ρ σ, P (k0 + is.length) ρ σ → Q .next ρ σ) → wF (forI C I Γ t body ρ σ is) Q
  | [], k0, ρ, σ, p, _, fin => rt3 (fin _ _ p)
  | i :: r, k0, ρ, σ, p, st, fin => b23 (st 0 i ρ σ rfl p) fun _ _ h => b33 h fun _ _ _ h => lk h fun p2 =>
      forI_inv P r (k0 + 1) _ _ p2 (fun k j ρ σ e p => Nat.add_right_comm k0 k 1 ▸ st (k + 1) j ρ σ e (Nat.add_right_comm k0 1 k ▸ p)) fun ρ σ p => fin ρ σ (Nat.add_right_comm k0 1 r.length ▸ p)

theorem forL_go {t : Expr} {body : List Stmt} {l : Nat} {ws : List V} {Q : FlowA → Rho → Store → Prop} (P : Nat → Rho → Store → Prop) (hl : ws.length ≤ maxLen) (hk : ∀ k ρ σ, P k ρ σ → σ[l]? = some (.lst ws))
    (st : ∀ k v ρ σ, ws[k]? = some v → P k ρ σ → wR (asg C I Γ ρ σ t v) fun ρ1 σ1 => wF (I.ss Γ ρ1 σ1 body) fun f ρ2 σ2 => loopK f (P (k + 1) ρ2 σ2) (Q .next ρ2 σ2) (fun v => Q (.ret v) ρ2 σ2))
    (fin : ∀ ρ σ, P ws.length ρ σ → Q .next ρ σ) : ∀ (rem k : Nat) (ρ : Rho) (σ : Store), ws.length = k + rem → P k ρ σ → wF (forL C I Γ t body l rem k ρ σ) Q
  | 0, k, ρ, σ, e, p => m3 (hk k ρ σ p) (iT3 e (rt3 (fin _ _ (e.symm ▸ p : P ws.length ρ σ))))
  | rem + 1, k, ρ, σ, e, p => m3 (hk k ρ σ p) (iT3 ⟨e, hl⟩ (bS3 (List.getElem?_eq_getElem (by lia : k < ws.length)) (b23 (st k _ ρ σ (List.getElem?_eq_getElem _) p) fun _ _ h => b33 h fun _ _ _ h => lk h fun p2 =>
      forL_go P hl hk st fin rem (k + 1) _ _ (e.trans (Nat.add_right_comm k rem 1)) p2)))
theorem forL_inv {t : Expr} {body : List Stmt} {l : Nat} {ws : List V} {Q : FlowA → Rho → Store → Prop} (P : Nat → Rho → Store → Prop) (hl : ws.length ≤ maxLen) (hk : ∀ k ρ σ, P k ρ σ → σ[l]? = some (.lst ws)) (p : P 0 ρ σ)
    (st : ∀ k v ρ σ, ws[k]? = some v → P k ρ σ → wR (asg C I Γ ρ σ t v) fun ρ1 σ1 => wF (I.ss Γ ρ1 σ1 body) fun f ρ2 σ2 => loopK f (P (k + 1) ρ2 σ2) (Q .next ρ2 σ2) (fun v => Q (.ret v) ρ2 σ2))
    (fin : ∀ ρ σ, P ws.length ρ σ → Q .next ρ σ) : wF (forL C I Γ t body l (lenAt σ l) 0 ρ σ) Q :=
  forL_go P hl hk st fin _ 0 ρ σ (by unfold lenAt; rw [hk 0 ρ σ p]; exact (Nat.zero_add _).symm) p

theorem while_inv {c : Expr} {body : List Stmt} {Q : FlowA → Rho → Store → Prop} (P : Nat → Rho → Store → Prop)
    (st : ∀ k ρ σ, P k ρ σ → wB (I.t Γ ρ σ c) fun b σ1 => cond b (k ≠ 0 ∧ wF (I.ss Γ ρ σ1 body) fun f ρ2 σ2 => loopK f (P (k - 1) ρ2 σ2) (Q .next ρ2 σ2) (fun v => Q (.ret v) ρ2 σ2)) (Q .next ρ σ1)) : ∀ (N k : Nat) (ρ : Rho) (σ : Store), k < N → P k ρ σ → wF (whileA I Γ c body N ρ σ) Q
  | 0, k, ρ, σ, h, p => absurd h (Nat.not_lt_zero _)
  | N + 1, k, ρ, σ, h, p => b23 (st k ρ σ p) fun b _ h' => by
    cases b with
    | false => exact rt3 h'
    | true => exact b33 h'.2 fun _ _ _ h2 => lk h2 fun p2 => while_inv P st N (k - 1) _ _ (Nat.lt_of_lt_of_le (Nat.sub_one_lt h'.1) (Nat.le_of_lt_succ h)) p2
theorem lkM {f : FlowA} {X Y : Prop} {Z : V → Prop} (h : loopK f X False fun _ => False) : loopK f X Y Z := by
  cases f with
  | next => exact h
  | cont => exact h
  | _ => exact h.elim
theorem forI_n {t : Expr} {body : List Stmt} {Q : FlowA → Rho → Store → Prop} (P : Nat → Rho → Store → Prop) (is : List Int) (k0 : Nat) (ρ : Rho) (σ : Store) (p : P k0 ρ σ)
    (st : ∀ k i ρ σ, is[k]? = some i → P (k0 + k) ρ σ → wR (asg C I Γ ρ σ t (.int i)) fun ρ1 σ1 => wF (I.ss Γ ρ1 σ1 body) fun f ρ2 σ2 => loopK f (P (k0 + k + 1) ρ2 σ2) False fun _ => False)
    (fin : ∀ ρ σ, P (k0 + is.length) ρ σ → Q .next ρ σ) : wF (forI C I Γ t body ρ σ is) Q :=
  forI_inv P is k0 ρ σ p (fun k i ρ σ e p => wP.mono (st k i ρ σ e p) fun _ _ h => wF.mono h fun _ _ _ h => lkM h) fin
theorem forL_n {t : Expr} {body : List Stmt} {l : Nat} {ws : List V} {Q : FlowA → Rho → Store → Prop} (P : Nat → Rho → Store → Prop) (hl : ws.length ≤ maxLen) (hk : ∀ k ρ σ, P k ρ σ → σ[l]? = some (.lst ws)) (p : P 0 ρ σ)
    (st : ∀ k v ρ σ, ws[k]? = some v → P k ρ σ → wR (asg C I Γ ρ σ t v) fun ρ1 σ1 => wF (I.ss Γ ρ1 σ1 body) fun f ρ2 σ2 => loopK f (P (k + 1) ρ2 σ2) False fun _ => False)
    (fin : ∀ ρ σ, P ws.length ρ σ → Q .next ρ σ) : wF (forL C I Γ t body l (lenAt σ l) 0 ρ σ) Q :=
  forL_inv P hl hk p (fun k v ρ σ e p => wP.mono (st k v ρ σ e p) fun _ _ h => wF.mono h fun _ _ _ h => lkM h) fin
theorem while_n {c : Expr} {body : List Stmt} {Q : FlowA → Rho → Store → Prop} (P : Nat → Rho → Store → Prop)
    (st : ∀ k ρ σ, P k ρ σ → wB (I.t Γ ρ σ c) fun b σ1 => cond b (k ≠ 0 ∧ wF (I.ss Γ ρ σ1 body) fun f ρ2 σ2 => loopK f (P (k - 1) ρ2 σ2) False fun _ => False) (k = 0 ∧ P 0 ρ σ1))
    (fin : ∀ ρ σ, P 0 ρ σ → Q .next ρ σ) (N k : Nat) (ρ : Rho) (σ : Store) (h : k < N) (p : P k ρ σ) : wF (whileA I Γ c body N ρ σ) Q :=
  while_inv P (fun k ρ σ p => wP.mono (st k ρ σ p) fun b σ1 h => by
    cases b with
    | false => exact fin ρ σ1 h.2
    | true => exact ⟨h.1, wF.mono h.2 fun _ _ _ h => lkM h⟩) N k ρ σ h p
theorem acc_push {a : Nat} {xs : List V} {v : V} {Q : Store → Prop} (h : σ[a]? = some (.lst xs)) (hl : xs.length ≤ maxLen) (q : Q (σ.set a (.lst (xs ++ [v])))) : wS (accPush a v σ) Q := m1 h (iT1 hl (rt1 q))
theorem body0 {a : Nat} {elt : Expr} {Q} (h : wV (I.e Γ ρ σ elt) fun v σ1 => wS (accPush a v σ1) Q) : wS (compBody I Γ a elt [] ρ σ) Q := b21 h fun _ _ h => h
theorem body1 {a : Nat} {elt c : Expr} {Q : Store → Prop} (h : wB (I.t Γ ρ σ c) fun b σ0 => cond b (wV (I.e Γ ρ σ0 elt) fun v σ1 => wS (accPush a v σ1) Q) (Q σ0)) : wS (compBody I Γ a elt [c] ρ σ) Q :=
  b21 h fun b _ h => by cases b; exact rt1 h; exact b21 h fun _ _ h => h
theorem compI_inv {x : Str} {a : Nat} {elt : Expr} {ifs : List Expr} {Q : Rho → Store → Prop} (P : Nat → Store → Prop) : ∀ (is : List Int) (k0 : Nat) (ρ ρ0 : Rho) (σ : Store), (∀ y, y ≠ x → ρ y = ρ0 y) → P k0 σ →
    (∀ (k : Nat) (i : Int) (ρ : Rho) (σ : Store), is[k]? = some i → (∀ y, y ≠ x → ρ y = ρ0 y) → P (k0 + k) σ → wS (compBody I Γ a elt ifs (ρ.set x (.int i)) σ) fun σ1 => P (k0 + k + 1) σ1) →
    (∀ ρ σ, P (k0 + is.length) σ → Q ρ σ) → wR (compI I Γ x a elt ifs ρ σ is) Q
  | [], k0, ρ, ρ0, σ, hr, p, _, fin => rt2 (fin _ _ p)
  | i :: r, k0, ρ, ρ0, σ, hr, p, st, fin => bO2 (st 0 i ρ σ rfl hr p) fun _ k =>
    compI_inv P r (k0 + 1) _ ρ0 _ (fun y hy => (if_neg hy).trans (hr y hy)) k (fun k j ρ σ e hr p => Nat.add_right_comm k0 k 1 ▸ st (k + 1) j ρ σ e hr (Nat.add_right_comm k0 1 k ▸ p)) fun ρ σ p => fin ρ σ (Nat.add_right_comm k0 1 r.length ▸ p)
theorem compL_go {x : Str} {a l : Nat} {elt : Expr} {ifs : List Expr} {ws : List V} {Q : Rho → Store → Prop} (P : Nat → Store → Prop) (ρ0 : Rho) (hl : ws.length ≤ maxLen) (hk : ∀ k σ, P k σ → σ[l]? = some (.lst ws))
    (st : ∀ (k : Nat) (v : V) (ρ : Rho) (σ : Store), ws[k]? = some v → (∀ y, y ≠ x → ρ y = ρ0 y) → P k σ → wS (compBody I Γ a elt ifs (ρ.set x v) σ) fun σ1 => P (k + 1) σ1)
    (fin : ∀ ρ σ, P ws.length σ → Q ρ σ) : ∀ (rem k : Nat) (ρ : Rho) (σ : Store), ws.length = k + rem → (∀ y, y ≠ x → ρ y = ρ0 y) → P k σ → wR (compL I Γ x a elt ifs l rem k ρ σ) Q
  | 0, k, ρ, σ, e, hr, p => m2 (hk k σ p) (iT2 e (rt2 (fin _ _ (e.symm ▸ p : P ws.length σ))))
  | rem + 1, k, ρ, σ, e, hr, p => m2 (hk k σ p) (iT2 ⟨e, hl⟩ (bS2 (List.getElem?_eq_getElem (by lia : k < ws.length)) (bO2 (st k _ ρ σ (List.getElem?_eq_getElem _) hr p) fun _ p1 =>
      compL_go P ρ0 hl hk st fin rem (k + 1) _ _ (e.trans (Nat.add_right_comm k rem 1)) (fun y hy => (if_neg hy).trans (hr y hy)) p1)))
noncomputable def compOk (Γ Γ' scope : Scope) (x : Str) (iter : Expr) : Bool := decide (scope.kind = .function ∧ Γ.kind = .function ∧ scope.names.lookup x = some .local ∧ (scope.names.all fun y => y.2 != .local || scope.names.lookup y.1 == some .local) ∧ (Γ'.names.all fun y => y.2 != .free) ∧ (scope.names.all fun y => y.2 != .cell) ∧ isSet iter = false)
theorem e_compR {x : Str} {xp} {elt iter : Expr} {ifs : List Expr} {scope : Scope} {p} {Q : V → Store → Prop} (hc : compOk Γ (relabelS scope Γ) scope x iter = true) (hr : isRange iter = true)
    (h : wI (rangeOf (ev C n) Γ ρ σ iter) fun is σ1 => wR (compI (ev C n) (relabelS scope Γ) x σ1.length elt ifs (hideL (relabelS scope Γ) ρ) (σ1 ++ [.lst []]) is) fun _ σ2 => Q (.ref σ1.length) σ2) : wV ((ev C (n + 1)).e Γ ρ σ (.ListComp elt [⟨.Name x xp, iter, ifs, 0⟩] scope p)) Q :=
  iT2 (of_decide_eq_true hc) (iT2 hr (b22 h fun _ _ h => b22 h fun _ _ h => rt2 h))
theorem e_compL {x : Str} {xp} {elt iter : Expr} {ifs : List Expr} {scope : Scope} {p} {Q : V → Store → Prop} (hc : compOk Γ (relabelS scope Γ) scope x iter = true) (hr : isRange iter = false)
    (h : wV ((ev C n).e Γ ρ σ iter) fun v σ1 => ∃ l, v = .ref l ∧ wR (compL (ev C n) (relabelS scope Γ) x σ1.length elt ifs l (lenAt σ1 l) 0 (hideL (relabelS scope Γ) ρ) (σ1 ++ [.lst []])) fun _ σ2 => Q (.ref σ1.length) σ2) : wV ((ev C (n + 1)).e Γ ρ σ (.ListComp elt [⟨.Name x xp, iter, ifs, 0⟩] scope p)) Q :=
  iT2 (of_decide_eq_true hc) (iF2 hr (b22 h fun _ _ h => by obtain ⟨l, rfl, h⟩ := h; exact b22 h fun _ _ h => rt2 h))
end
end
section
noncomputable def constD : Expr → V
  | .Constant c _ _ => (constV c).getD .none
  | _ => .none
noncomputable def findFn (n : Str) : List Stmt → Option FDef
  | [] => none
  | .FunctionDef name args body _ _ _ scope _ _ _ :: r => if name = n then some ⟨args.args.map (·.arg), args.defaults.map constD, body, scope⟩ else findFn n r
  | _ :: r => findFn n r
noncomputable def findCl (n : Str) : List Stmt → List Stmt
  | [] => []
  | .ClassDef name _ _ body _ _ _ _ _ _ _ :: r => if name = n then body else findCl n r
  | _ :: r => findCl n r
noncomputable def G0 (x : Str) : Option V :=
  if x = "LINK_flow" then some (.int 15) else if x = "END_OF_COMMAND" then some (.int 9) else if x = "HIGH" then some (.int 16) else if x = "FLAGS" then some (.int 17)
  else if x = "EVERYTHING" then some (.int 262143) else if x = "HELD" then some (.int 26624) else if x = "MASK" then some (.int 4294967295) else if x = "SIGN" then some (.int 2147483648)
  else if x = "WORD_cpu" then some (.int 4294967296) else if x = "LINK_cpu" then some (.int 15) else if x = "WORD_memory" then some (.int 4294967296) else none
def cC : Addr := 347
def cM : Addr := 410
noncomputable def names (l : List String) : List Str := l.map Str.ofString
noncomputable def T0 : Tab where
  G := G0
  attr := fun C x => (C == cC && (names ["memory", "regs", "h", "n", "z", "c", "v", "pc", "rows"]).contains x) || (C == cM && (names ["size", "words"]).contains x)
  meth := fun C x => (C == cC && (names ["step", "transfer", "flags", "branch", "set_result", "calculate", "run"]).contains x) || (C == cM && (names ["place", "word", "put_word", "put_byte"]).contains x)
  fd := fun f => match f with
    | .glob n => findFn n PySem.Challenge.pw_pb0357_01.main.body
    | .meth C n => if C = cC then findFn n (findCl "Cpu" PySem.Challenge.pw_pb0357_01.main.body) else if C = cM then findFn n (findCl "Memory" PySem.Challenge.pw_pb0357_01.main.body) else none
  cls := fun x => if x = "Cpu" then some cC else if x = "Memory" then some cM else none
noncomputable abbrev CC (n : Nat) : Cfg := ⟨T0.G, T0.attr, T0.meth, phi T0 n⟩

theorem T0dummy : True := trivial
noncomputable def D_target_of : FDef := (⟨_, rfl⟩ : {D // T0.fd (.glob "target_of") = some D}).1
theorem fD_target_of : T0.fd (.glob "target_of") = some D_target_of := rfl
noncomputable def D_falls_through : FDef := (⟨_, rfl⟩ : {D // T0.fd (.glob "falls_through") = some D}).1
theorem fD_falls_through : T0.fd (.glob "falls_through") = some D_falls_through := rfl
noncomputable def D_can_jump : FDef := (⟨_, rfl⟩ : {D // T0.fd (.glob "can_jump") = some D}).1
theorem fD_can_jump : T0.fd (.glob "can_jump") = some D_can_jump := rfl
noncomputable def D_successors : FDef := (⟨_, rfl⟩ : {D // T0.fd (.glob "successors") = some D}).1
theorem fD_successors : T0.fd (.glob "successors") = some D_successors := rfl
noncomputable def D_bit : FDef := (⟨_, rfl⟩ : {D // T0.fd (.glob "bit") = some D}).1
theorem fD_bit : T0.fd (.glob "bit") = some D_bit := rfl
noncomputable def D_is_register_form : FDef := (⟨_, rfl⟩ : {D // T0.fd (.glob "is_register_form") = some D}).1
theorem fD_is_register_form : T0.fd (.glob "is_register_form") = some D_is_register_form := rfl
noncomputable def D_is_immediate_form : FDef := (⟨_, rfl⟩ : {D // T0.fd (.glob "is_immediate_form") = some D}).1
theorem fD_is_immediate_form : T0.fd (.glob "is_immediate_form") = some D_is_immediate_form := rfl
noncomputable def D_is_conditional : FDef := (⟨_, rfl⟩ : {D // T0.fd (.glob "is_conditional") = some D}).1
theorem fD_is_conditional : T0.fd (.glob "is_conditional") = some D_is_conditional := rfl
noncomputable def D_sets_flags : FDef := (⟨_, rfl⟩ : {D // T0.fd (.glob "sets_flags") = some D}).1
theorem fD_sets_flags : T0.fd (.glob "sets_flags") = some D_sets_flags := rfl
noncomputable def D_memory_reads : FDef := (⟨_, rfl⟩ : {D // T0.fd (.glob "memory_reads") = some D}).1
theorem fD_memory_reads : T0.fd (.glob "memory_reads") = some D_memory_reads := rfl
noncomputable def D_branch_reads : FDef := (⟨_, rfl⟩ : {D // T0.fd (.glob "branch_reads") = some D}).1
theorem fD_branch_reads : T0.fd (.glob "branch_reads") = some D_branch_reads := rfl
noncomputable def D_reads : FDef := (⟨_, rfl⟩ : {D // T0.fd (.glob "reads") = some D}).1
theorem fD_reads : T0.fd (.glob "reads") = some D_reads := rfl
noncomputable def D_call_writes : FDef := (⟨_, rfl⟩ : {D // T0.fd (.glob "call_writes") = some D}).1
theorem fD_call_writes : T0.fd (.glob "call_writes") = some D_call_writes := rfl
noncomputable def D_writes : FDef := (⟨_, rfl⟩ : {D // T0.fd (.glob "writes") = some D}).1
theorem fD_writes : T0.fd (.glob "writes") = some D_writes := rfl
noncomputable def D_leaves_unknown : FDef := (⟨_, rfl⟩ : {D // T0.fd (.glob "leaves_unknown") = some D}).1
theorem fD_leaves_unknown : T0.fd (.glob "leaves_unknown") = some D_leaves_unknown := rfl
noncomputable def D_live_before : FDef := (⟨_, rfl⟩ : {D // T0.fd (.glob "live_before") = some D}).1
theorem fD_live_before : T0.fd (.glob "live_before") = some D_live_before := rfl
noncomputable def D_liveness : FDef := (⟨_, rfl⟩ : {D // T0.fd (.glob "liveness") = some D}).1
theorem fD_liveness : T0.fd (.glob "liveness") = some D_liveness := rfl
noncomputable def D_is_live : FDef := (⟨_, rfl⟩ : {D // T0.fd (.glob "is_live") = some D}).1
theorem fD_is_live : T0.fd (.glob "is_live") = some D_is_live := rfl
noncomputable def D_to_signed : FDef := (⟨_, rfl⟩ : {D // T0.fd (.glob "to_signed") = some D}).1
theorem fD_to_signed : T0.fd (.glob "to_signed") = some D_to_signed := rfl
noncomputable def D_flagged : FDef := (⟨_, rfl⟩ : {D // T0.fd (.glob "flagged") = some D}).1
theorem fD_flagged : T0.fd (.glob "flagged") = some D_flagged := rfl
noncomputable def D_add : FDef := (⟨_, rfl⟩ : {D // T0.fd (.glob "add") = some D}).1
theorem fD_add : T0.fd (.glob "add") = some D_add := rfl
noncomputable def D_sub : FDef := (⟨_, rfl⟩ : {D // T0.fd (.glob "sub") = some D}).1
theorem fD_sub : T0.fd (.glob "sub") = some D_sub := rfl
noncomputable def D_mul : FDef := (⟨_, rfl⟩ : {D // T0.fd (.glob "mul") = some D}).1
theorem fD_mul : T0.fd (.glob "mul") = some D_mul := rfl
noncomputable def D_shift_left : FDef := (⟨_, rfl⟩ : {D // T0.fd (.glob "shift_left") = some D}).1
theorem fD_shift_left : T0.fd (.glob "shift_left") = some D_shift_left := rfl
noncomputable def D_shift_arith : FDef := (⟨_, rfl⟩ : {D // T0.fd (.glob "shift_arith") = some D}).1
theorem fD_shift_arith : T0.fd (.glob "shift_arith") = some D_shift_arith := rfl
noncomputable def D_rotate : FDef := (⟨_, rfl⟩ : {D // T0.fd (.glob "rotate") = some D}).1
theorem fD_rotate : T0.fd (.glob "rotate") = some D_rotate := rfl
noncomputable def D_bitwise : FDef := (⟨_, rfl⟩ : {D // T0.fd (.glob "bitwise") = some D}).1
theorem fD_bitwise : T0.fd (.glob "bitwise") = some D_bitwise := rfl
noncomputable def D_operate : FDef := (⟨_, rfl⟩ : {D // T0.fd (.glob "operate") = some D}).1
theorem fD_operate : T0.fd (.glob "operate") = some D_operate := rfl
noncomputable def D_condition_number : FDef := (⟨_, rfl⟩ : {D // T0.fd (.glob "condition_number") = some D}).1
theorem fD_condition_number : T0.fd (.glob "condition_number") = some D_condition_number := rfl
noncomputable def D_holds : FDef := (⟨_, rfl⟩ : {D // T0.fd (.glob "holds") = some D}).1
theorem fD_holds : T0.fd (.glob "holds") = some D_holds := rfl
noncomputable def D_register_names : FDef := (⟨_, rfl⟩ : {D // T0.fd (.glob "register_names") = some D}).1
theorem fD_register_names : T0.fd (.glob "register_names") = some D_register_names := rfl
noncomputable def D_law_pods : FDef := (⟨_, rfl⟩ : {D // T0.fd (.glob "_law_pods") = some D}).1
theorem fD_law_pods : T0.fd (.glob "_law_pods") = some D_law_pods := rfl
noncomputable def D_law_pod : FDef := (⟨_, rfl⟩ : {D // T0.fd (.glob "_law_pod") = some D}).1
theorem fD_law_pod : T0.fd (.glob "_law_pod") = some D_law_pod := rfl
noncomputable def D_law_planned : FDef := (⟨_, rfl⟩ : {D // T0.fd (.glob "_law_planned") = some D}).1
theorem fD_law_planned : T0.fd (.glob "_law_planned") = some D_law_planned := rfl
noncomputable def D_law_end : FDef := (⟨_, rfl⟩ : {D // T0.fd (.glob "_law_end") = some D}).1
theorem fD_law_end : T0.fd (.glob "_law_end") = some D_law_end := rfl
noncomputable def D_law : FDef := (⟨_, rfl⟩ : {D // T0.fd (.glob "law") = some D}).1
theorem fD_law : T0.fd (.glob "law") = some D_law := rfl
noncomputable def D_Cpu_init : FDef := (⟨_, rfl⟩ : {D // T0.fd (.meth cC "__init__") = some D}).1
theorem fD_Cpu_init : T0.fd (.meth cC "__init__") = some D_Cpu_init := rfl
noncomputable def D_Cpu_step : FDef := (⟨_, rfl⟩ : {D // T0.fd (.meth cC "step") = some D}).1
theorem fD_Cpu_step : T0.fd (.meth cC "step") = some D_Cpu_step := rfl
noncomputable def D_Cpu_transfer : FDef := (⟨_, rfl⟩ : {D // T0.fd (.meth cC "transfer") = some D}).1
theorem fD_Cpu_transfer : T0.fd (.meth cC "transfer") = some D_Cpu_transfer := rfl
noncomputable def D_Cpu_flags : FDef := (⟨_, rfl⟩ : {D // T0.fd (.meth cC "flags") = some D}).1
theorem fD_Cpu_flags : T0.fd (.meth cC "flags") = some D_Cpu_flags := rfl
noncomputable def D_Cpu_branch : FDef := (⟨_, rfl⟩ : {D // T0.fd (.meth cC "branch") = some D}).1
theorem fD_Cpu_branch : T0.fd (.meth cC "branch") = some D_Cpu_branch := rfl
noncomputable def D_Cpu_set_result : FDef := (⟨_, rfl⟩ : {D // T0.fd (.meth cC "set_result") = some D}).1
theorem fD_Cpu_set_result : T0.fd (.meth cC "set_result") = some D_Cpu_set_result := rfl
noncomputable def D_Cpu_calculate : FDef := (⟨_, rfl⟩ : {D // T0.fd (.meth cC "calculate") = some D}).1
theorem fD_Cpu_calculate : T0.fd (.meth cC "calculate") = some D_Cpu_calculate := rfl
noncomputable def D_Cpu_run : FDef := (⟨_, rfl⟩ : {D // T0.fd (.meth cC "run") = some D}).1
theorem fD_Cpu_run : T0.fd (.meth cC "run") = some D_Cpu_run := rfl
noncomputable def D_Memory_init : FDef := (⟨_, rfl⟩ : {D // T0.fd (.meth cM "__init__") = some D}).1
theorem fD_Memory_init : T0.fd (.meth cM "__init__") = some D_Memory_init := rfl
noncomputable def D_Memory_place : FDef := (⟨_, rfl⟩ : {D // T0.fd (.meth cM "place") = some D}).1
theorem fD_Memory_place : T0.fd (.meth cM "place") = some D_Memory_place := rfl
noncomputable def D_Memory_word : FDef := (⟨_, rfl⟩ : {D // T0.fd (.meth cM "word") = some D}).1
theorem fD_Memory_word : T0.fd (.meth cM "word") = some D_Memory_word := rfl
noncomputable def D_Memory_put_word : FDef := (⟨_, rfl⟩ : {D // T0.fd (.meth cM "put_word") = some D}).1
theorem fD_Memory_put_word : T0.fd (.meth cM "put_word") = some D_Memory_put_word := rfl
noncomputable def D_Memory_put_byte : FDef := (⟨_, rfl⟩ : {D // T0.fd (.meth cM "put_byte") = some D}).1
theorem fD_Memory_put_byte : T0.fd (.meth cM "put_byte") = some D_Memory_put_byte := rfl

noncomputable def retK (f : FlowA) (K : V → Prop) : Prop := match f with | .ret v => K v | .next => K .none | _ => False
theorem rkR {v K} (h : K v) : retK (.ret v) K := h
theorem rkN {K : V → Prop} (h : K .none) : retK .next K := h
noncomputable def argOk (D : FDef) (k : Nat) : Bool := decide (D.params.length ≤ k + D.dflt.length ∧ k ≤ D.params.length)
theorem run_of {C : Cfg} {D : FDef} {args : List V} {σ : Store} {Q : V → Store → Prop} (ha : argOk D args.length = true) (h : wF ((ev C 64).ss D.scope (zipR D.params (args ++ D.dflt.drop (args.length + D.dflt.length - D.params.length))) σ D.body) fun f _ σ1 => retK f fun v => Q v σ1) : wV (runF C D args σ) Q :=
  iT2 (of_decide_eq_true ha) (b32 h fun f _ _ k => by
    cases f with
    | ret v => exact rt2 k
    | next => exact rt2 k
    | brk => exact k.elim
    | cont => exact k.elim)
theorem phi_g {n : Nat} {g : Str} {D : FDef} {args : List V} {σ : Store} {Q} (hc : T0.cls g = none) (hf : T0.fd (.glob g) = some D) (h : wV (runF (CC n) D args σ) Q) : wV (phi T0 (n + 1) (.glob g) args σ) Q := by
  show wV (phiN T0 (CC n) g args σ (T0.cls g)) Q
  rw [hc]; show wV (phiF (CC n) args σ (T0.fd (.glob g))) Q; rw [hf]; exact h
theorem phi_m {n : Nat} {cl : Addr} {g : Str} {D : FDef} {args : List V} {σ : Store} {Q} (hf : T0.fd (.meth cl g) = some D) (h : wV (runF (CC n) D args σ) Q) : wV (phi T0 (n + 1) (.meth cl g) args σ) Q := by
  show wV (phiF (CC n) args σ (T0.fd (.meth cl g))) Q; rw [hf]; exact h
theorem phi_c {n : Nat} {cl : Addr} {g : Str} {D : FDef} {args : List V} {σ : Store} {Q : V → Store → Prop} (hc : T0.cls g = some cl) (hf : T0.fd (.meth cl "__init__") = some D) (h : wV (runF (CC n) D (.ref (σ.length + 1) :: args) (σ ++ [.ns [], .inst cl σ.length])) fun v σ1 => v = .none ∧ Q (.ref (σ.length + 1)) σ1) : wV (phi T0 (n + 1) (.glob g) args σ) Q := by
  show wV (phiN T0 (CC n) g args σ (T0.cls g)) Q
  rw [hc]; show wV (phiC (CC n) args σ cl (T0.fd (.meth cl "__init__"))) Q; rw [hf]
  exact b22 h fun v _ h => by obtain ⟨rfl, h⟩ := h; exact rt2 h
theorem eq_of {x : Option (V × Store)} {v : V} {σ : Store} (h : wV x fun w τ => w = v ∧ τ = σ) : x = some (v, σ) := by
  obtain ⟨w, τ, e, rfl, rfl⟩ := h; exact e
theorem all_nilA {I : Itp} {Γ : Scope} {ρ : Rho} {σ : Store} {Q : Bool → Store → Prop} (h : Q true σ) : wB (allT I Γ ρ .And σ []) Q := ⟨_, _, rfl, h⟩
theorem all_nilO {I : Itp} {Γ : Scope} {ρ : Rho} {σ : Store} {Q : Bool → Store → Prop} (h : Q false σ) : wB (allT I Γ ρ .Or σ []) Q := ⟨_, _, rfl, h⟩
theorem e_callT {n m : Nat} {Γ : Scope} {ρ : Rho} {σ : Store} {f : Str} {q' p} {args : List Expr} {Q} (ho : callOk Γ f args = true) (h : wL (evs (ev (CC n) m) Γ ρ σ args) fun vs σ1 => wV (phi T0 n (.glob f) vs σ1) Q) : wV ((ev (CC n) (m + 1)).e Γ ρ σ (.Call (.Name f q') args [] p)) Q := e_call ho h
theorem itemsOf_ref {σ : Store} {l : Nat} {xs : List V} (h : σ[l]? = some (.lst xs)) : itemsOf σ (.ref l) = some xs := by show (match (generalizing := false) σ[l]? with | some (.lst vs) => some vs | _ => none) = _; rw [h]
theorem itemV_ref {σ : Store} {l : Nat} {xs : List V} {k : Int} {v : V} (h : σ[l]? = some (.lst xs)) (h0 : 0 ≤ k ∧ k < 2 ^ 62) (hv : xs[k.toNat]? = some v) : itemV σ (.ref l) (.int k) = some v := by
  refine (if_pos h0).trans ?_; rw [itemsOf_ref h]; exact hv
theorem in_g {n : Nat} {g : Str} {D : FDef} {args : List V} {σ : Store} {Q} (hf : T0.fd (.glob g) = some D) (hc : T0.cls g = none) (ha : argOk D args.length = true) (h : wF ((ev (CC n) 64).ss D.scope (zipR D.params (args ++ D.dflt.drop (args.length + D.dflt.length - D.params.length))) σ D.body) fun f _ σ1 => retK f fun v => Q v σ1) : wV (phi T0 (n + 1) (.glob g) args σ) Q := phi_g hc hf (run_of ha h)
theorem in_m {n : Nat} {cl : Addr} {g : Str} {D : FDef} {args : List V} {σ : Store} {Q} (hf : T0.fd (.meth cl g) = some D) (ha : argOk D args.length = true) (h : wF ((ev (CC n) 64).ss D.scope (zipR D.params (args ++ D.dflt.drop (args.length + D.dflt.length - D.params.length))) σ D.body) fun f _ σ1 => retK f fun v => Q v σ1) : wV (phi T0 (n + 1) (.meth cl g) args σ) Q := phi_m hf (run_of ha h)
theorem wV.eq {x : Option (V × Store)} {v w : V} {σ : Store} {Q : V → Store → Prop} (h : x = some (v, σ)) (e : v = w) (q : Q w σ) : wV x Q := ⟨v, σ, h, by rw [e]; exact q⟩
theorem val_eq {v w : V} {σ : Store} {Q : V → Store → Prop} (q : Q w σ) (e : v = w) : Q v σ := by rw [e]; exact q
theorem sg_app {σ τ : Store} {n : Nat} {o : O} (h : σ[n]? = some o) : (σ ++ τ)[n]? = some o := by
  have hn : n < σ.length := by
    rcases Nat.lt_or_ge n σ.length with h1 | h1
    · exact h1
    · rw [List.getElem?_eq_none h1] at h; exact absurd h (by simp)
  rw [List.getElem?_append_left hn]; exact h
theorem sg_lt {σ : Store} {n : Nat} {o : O} (h : σ[n]? = some o) : n < σ.length := by
  rcases Nat.lt_or_ge n σ.length with h1 | h1
  · exact h1
  · rw [List.getElem?_eq_none h1] at h; exact absurd h (by simp)
theorem sg_new {σ τ : Store} {o : O} : (σ ++ (o :: τ))[σ.length]? = some o := by simp
theorem sg_new2 {σ τ : Store} {o o' : O} : (σ ++ (o :: o' :: τ))[σ.length + 1]? = some o' := by simp
theorem sg_set_eq {σ : Store} {n : Nat} {o o' : O} (h : σ[n]? = some o') : (σ.set n o)[n]? = some o := by
  simp [sg_lt h]
theorem sg_set_ne {σ : Store} {n m : Nat} {o o' : O} (hn : m ≠ n) (h : σ[n]? = some o') : (σ.set m o)[n]? = some o' := by
  rw [List.getElem?_set_ne hn]; exact h
theorem set_new {σ τ : Store} {o o' : O} : (σ ++ (o :: τ)).set σ.length o' = σ ++ (o' :: τ) := by simp
theorem x_none {σ : Store} {i : Nat} {xs : List V} (h : σ[i]? = some (.lst xs)) : instOf σ (.ref i) = none := by show (match (generalizing := false) σ[i]? with | some (.inst C d) => (match (generalizing := false) σ[d]? with | some (.ns fs) => some (C, d, fs) | _ => none) | _ => none) = _; rw [h]
theorem w_meth {σ : Store} {i : Nat} {name : Str} {vs : List V} {o : O} {Q} (h : σ[i]? = some o) (k : wP (methO σ i name vs (some o)) Q) : wP (methV σ (.ref i) name vs) Q := by
  show wP (methO σ i name vs σ[i]?) Q; rw [h]; exact k
section
variable {C : Cfg} {n : Nat} {Γ : Scope} {ρ : Rho} {σ : Store} {o a : Expr} {ap p : Pos} {Q : V → Store → Prop}
theorem e_append (hl : (ap.endLine == p.line) = true) (hb : (plainBase o && [a].all notStar && decide ([a].length ≤ 20)) = true)
    (h : wV ((ev C n).e Γ ρ σ o) fun v σ1 => ∃ i xs, v = .ref i ∧ σ1[i]? = some (.lst xs) ∧ wV ((ev C n).e Γ ρ σ1 a) fun w σ2 => ∃ ys, σ2[i]? = some (.lst ys) ∧ ys.length ≤ maxLen ∧ Q .none (σ2.set i (.lst (ys ++ [w])))) : wV ((ev C (n + 1)).e Γ ρ σ (.Call (.Attribute o "append" ap) [a] [] p)) Q :=
  e_methB hl hb (wP.mono h fun v σ1 h => by
    obtain ⟨i, xs, rfl, e2, h⟩ := h
    exact ⟨i, rfl, x_none e2, evs_cons (wP.mono h fun w σ2 h => by
      obtain ⟨ys, e4, e5, q⟩ := h
      exact evs_nil ⟨by rw [e2, e4]; rfl, w_meth e4 (iT2 e5 (rt2 q))⟩)⟩)
theorem e_pop (hl : (ap.endLine == p.line) = true) (hb : (plainBase o && [].all notStar && decide (([] : List Expr).length ≤ 20)) = true)
    (h : wV ((ev C n).e Γ ρ σ o) fun v σ1 => ∃ i xs w, v = .ref i ∧ σ1[i]? = some (.lst xs) ∧ xs.length ≤ maxLen ∧ xs[xs.length - 1]? = some w ∧ Q w (σ1.set i (.lst (xs.eraseIdx (xs.length - 1))))) : wV ((ev C (n + 1)).e Γ ρ σ (.Call (.Attribute o "pop" ap) [] [] p)) Q :=
  e_methB hl hb (wP.mono h fun v σ1 h => by
    obtain ⟨i, xs, w, rfl, e2, e3, e4, q⟩ := h
    exact ⟨i, rfl, x_none e2, evs_nil ⟨rfl, w_meth e2 (iT2 e3 (mS2 e4 q))⟩⟩)
theorem e_pop0 (hl : (ap.endLine == p.line) = true) (hb : (plainBase o && [a].all notStar && decide ([a].length ≤ 20)) = true)
    (h : wV ((ev C n).e Γ ρ σ o) fun v σ1 => ∃ i xs w, v = .ref i ∧ σ1[i]? = some (.lst xs) ∧ xs.length ≤ maxLen ∧ xs[0]? = some w ∧ wV ((ev C n).e Γ ρ σ1 a) fun k σ2 => k = .int 0 ∧ σ2 = σ1 ∧ Q w (σ1.set i (.lst (xs.eraseIdx 0)))) : wV ((ev C (n + 1)).e Γ ρ σ (.Call (.Attribute o "pop" ap) [a] [] p)) Q :=
  e_methB hl hb (wP.mono h fun v σ1 h => by
    obtain ⟨i, xs, w, rfl, e2, e3, e4, h⟩ := h
    exact ⟨i, rfl, x_none e2, evs_cons (wP.mono h fun k σ2 h => by
      obtain ⟨rfl, rfl, q⟩ := h
      exact evs_nil ⟨rfl, w_meth e2 (iT2 e3 (mS2 e4 q))⟩)⟩)
end
theorem ex_ref {σ : Store} {k : Nat} {xs : List V} {X : Nat → List V → Prop} (h : σ[k]? = some (.lst xs)) (x : X k xs) : ∃ i ys, V.ref k = .ref i ∧ σ[i]? = some (.lst ys) ∧ X i ys := ⟨k, xs, rfl, h, x⟩
theorem ex_sort {σ : Store} {k : Nat} {xs : List V} {ns : List Int} {Y : Nat → List V → List Int → Prop} (h : σ[k]? = some (.lst xs)) (h2 : intsOf xs = some ns) (h3 : ns.length < 64) (x : Y k xs ns) : ∃ i ys ms, V.ref k = .ref i ∧ σ[i]? = some (.lst ys) ∧ intsOf ys = some ms ∧ ms.length < 64 ∧ Y i ys ms := ⟨k, xs, ns, rfl, h, h2, h3, x⟩
theorem c_notin {σ : Store} {k : Nat} {x : V} {xs : List V} {P : Bool → Prop} (b : Bool) (h : σ[k]? = some (.lst xs)) (h2 : inV x xs = some b) (p : P (!b)) : wC (cmpV .NotIn x (.ref k) σ) P := ⟨!b, by show (itemsOf σ (.ref k)).bind _ = _; rw [itemsOf_ref h]; exact congrArg (Option.map _) h2, p⟩
theorem val2_eq {v w : V} {σ τ : Store} {Q : V → Store → Prop} (q : Q w τ) (e : v = w) (e' : σ = τ) : Q v σ := by rw [e, e']; exact q
theorem sort1 (a : Int) : sortI [a] = [a] := by simp [sortI]
theorem sort0 : sortI [] = [] := by simp [sortI]
theorem sort2 (a b : Int) (h : a ≤ b) : sortI [a, b] = [a, b] := by
  unfold sortI
  apply List.mergeSort_of_pairwise
  simp [h]
theorem rs_ne {ρ : Rho} {x y : Str} {v w : V} (h : decide (y ≠ x) = true) (e : ρ y = some v) : (ρ.set x w) y = some v := by
  unfold Rho.set; rw [if_neg (of_decide_eq_true h)]; exact e
theorem rs_eq {ρ : Rho} {x : Str} {w : V} : (ρ.set x w) x = some w := by
  unfold Rho.set; rw [if_pos rfl]
theorem cDt {p : Prop} [Decidable p] {X Y : Prop} (hp : p) (h : X) : cond (decide p) X Y := by rw [decide_eq_true hp]; exact h
theorem cDf {p : Prop} [Decidable p] {X Y : Prop} (hp : ¬ p) (h : Y) : cond (decide p) X Y := by rw [decide_eq_false hp]; exact h
theorem cN {b : Bool} {X Y : Prop} (h : cond b Y X) : cond (!b) X Y := by cases b <;> exact h

section
variable {C : Cfg} {n : Nat} {Γ : Scope} {ρ : Rho} {σ : Store}
theorem e_attrL {x y : Str} {p p'} {k : Nat} {cl : Addr} {d : Nat} {fs : List (Str × V)} {w : V} {Q} (hx : nm Γ x .local = true) (hr : ρ x = some (.ref k)) (hi : instOf σ (.ref k) = some (cl, d, fs)) (ha : C.attr cl y = true) (hw : fs.lookup y = some w) (q : Q w σ) :
    wV ((ev C (n + 2)).e Γ ρ σ (.Attribute (.Name x p) y p')) Q := e_attr rfl (e_loc hx hr ⟨cl, d, fs, w, hi, ha, hw, q⟩)
theorem e_itemK {x : Str} {p p' p'' k'} {i : Int} {vs : List V} {w : V} {Q} (hx : nm Γ x .local = true) (hr : ρ x = some (.tup vs)) (hv : itemV σ (.tup vs) (.int i) = some w) (q : Q w σ) :
    wV ((ev C (n + 2)).e Γ ρ σ (.Subscript (.Name x p) (.Constant (.int i) k' p') p'')) Q := e_item rfl (e_loc hx hr (e_const rfl ⟨w, hv, q⟩))
theorem t_eqS {x a b : Str} {p p1 p2 k'} {c : Bool} {Q} (hx : nm Γ x .local = true) (hr : ρ x = some (.str a)) (hc : (a == b) = c) (q : Q c σ) :
    wB ((ev C (n + 2)).t Γ ρ σ (.Compare (.Name x p) [.Eq] [.Constant (.str b) k' p1] p2)) Q := t_cmp rfl (e_loc hx hr (e_const rfl ⟨c, congrArg some hc, q⟩))
theorem t_inK {x a : Str} {p p1 p2 k'} {es : List Expr} {vs : List V} {c : Bool} {Q} (hx : nm Γ x .local = true) (hr : ρ x = some (.str a)) (he : evs (ev C (n + 1)) Γ ρ σ es = some (vs, σ)) (hs : (es.all notStar && decide (es.length ≤ maxLen)) = true) (hc : cmpV .In (.str a) (.tup vs) σ = some c) (q : Q c σ) :
    wB ((ev C (n + 3)).t Γ ρ σ (.Compare (.Name x p) [.In] [.Tuple es k' p1] p2)) Q := t_cmp rfl (e_loc hx hr (e_tup hs ⟨vs, σ, he, ⟨c, hc, q⟩⟩))
end
end
variable {n : Nat} {σ : Store}
theorem exa {α : Type} {p q : α → Prop} {w : α} (h : p w) (k : q w) : ∃ x, p x ∧ q x := ⟨w, h, k⟩
set_option compiler.extract_closed false
/-- reads a tactic from its written tree -/
def rdS (sc t : String) : Lean.Syntax :=
  let s := (t.splitOn " ").foldl (fun (s : List (Lean.Name × Array Lean.Syntax)) t => match s with
    | (k, a) :: r =>
      if t = ")" then (match r with | (k', a') :: r' => (k', a'.push (.node .none k a)) :: r' | [] => s)
      else let x := (t.drop 1).toString
        if t.front = '(' then ((("Lean.Parser." ++ x).toName, #[]) :: s)
        else if t.front = '/' then ((x.toName, #[]) :: s)
        else (k, a.push (if t.front = '^' then .atom .none x else let y := if t.front = '%' then t ++ sc else t; .ident .none y.toRawSubstring (if t.front = '%' then Lean.Name.mkSimple y else y.toName) [])) :: r
    | [] => []) [(.anonymous, #[])]
  match s with
  | [(_, a)] => a[0]!
  | _ => .missing
def tSq (x : String) : String := "(Tactic.tacticSeq (Tactic.tacticSeq1Indented /null " ++ x ++ " ) ) )"
def tPr (x : String) : String := "(Tactic.paren ^( " ++ tSq x ++ " ^) )"
def tWr (x : String) : String := "(Tactic.withReducible ^with_reducible " ++ tSq x ++ " )"
def tWk (x : String) : String := "/PyProof.Rows.tacticWalk_at_ ^walk_at /str ^\"" ++ x ++ "\" ) )"
def tF (l : List String) : String := "(Tactic.first ^first /null " ++ String.intercalate " " (l.map fun x => "/group ^| " ++ tSq x ++ " )") ++ " ) )"
def tC : Char → String
  | 'r' => "(Tactic.exact ^exact rfl )"
  | 'k' => "/PyProof.Rows.tacticKernel_rfl! ^kernel_rfl! )"
  | 'l' => "(Tactic.lia ^lia (Tactic.optConfig /null ) ) )"
  | 'd' => "(Tactic.decide ^decide (Tactic.optConfig /null ) ) )"
  | 'a' => tWr "(Tactic.assumption ^assumption )"
  | c => tWk c.toString
def tH (x : String) : String := "(Term.syntheticHole ^? " ++ x ++ " )"
def tNa (x y : String) : String := "(Term.namedArgument ^( " ++ x ++ " ^:= " ++ y ++ " ^) )"
/-- a rule: its name and what closes each of its holes -/
def tR (r : String) : String :=
  let x := (r.drop 1).toString
  if r.length = 1 then tC r.front
  else if r.front = '*' then tWk x
  else if r.front = '#' then "(Tactic.simp ^simp (Tactic.optConfig /null (Tactic.configItem (Tactic.negConfigItem ^- proj ) ) ) ) /null ) /null ^only ) /null ^[ /null " ++ String.intercalate " ^, " ((x.splitOn ",").map fun s => "(Tactic.simpLemma /null ) /null ) " ++ s ++ " )") ++ " ) ^] ) /null ) )"
  else match r.splitOn " " with
    | h :: ts =>
      let h := h.splitOn ":"
      let p := ts.foldl (fun (p : List String × List String) t =>
        let z := "%z" ++ toString p.1.length
        let q := t.splitOn ":"
        if t = "_" then (p.1 ++ [tH "^_"], p.2)
        else if t.back = '=' then (p.1 ++ [tNa (t.dropEnd 1).toString (tH z)], p.2)
        else if q.length = 2 then (p.1 ++ [tNa q.head! q.getLast!], p.2)
        else (p.1 ++ [tH z], p.2 ++ [tPr ("(Tactic.case ^case /null (Tactic.caseArg /Lean.binderIdent " ++ z ++ " ) /null ) ) ) ^=> " ++ tSq (tC t.front) ++ " )")])) (if h.length = 2 then [h.getLast!] else [], [])
      let g := h.head!
      let nm := if g.front = '!' then (g.drop 1).toString else g
      let f := if p.1.isEmpty then nm else "(Term.app " ++ nm ++ " /null " ++ String.intercalate " " p.1 ++ " ) )"
      let f := "(Tactic.refine ^refine " ++ f ++ " )"
      tPr (String.intercalate " ^; " ((if g.front = '!' then f else tWr f) :: p.2))
    | [] => ""
def tAll : String := "|S regsV_get l;a;l;d;r|L a;r;rs_ne k L|G a;sg_new;sg_new2;c0_w;c0_o a;cs_g;cs_w;cs_o a;sg_set_eq o'= G;sg_set_ne l G;sg_app G|T G;itemsOf_ref G;itemV_ref xs= G l S;r|I a;in_i;cs_c;cs_m;c0_c;c0_m;inst_app I|M !Nat.le_of_ble_eq_true k|R reg_len l|P map_len l|B a;l|D l;d|A a;*M|Z a;True.intro;rfl;l;*M" ++
    "|call target_w _;hop_b:true r _;hop_b:false r _;flag3_w _;flag4_w _;tsg_w _;reads_w a _;writes_w a _;falls_b:true r _;falls_b:false r _;add_w _;sub_w _;mul_w a _;xor_w _;operate_w a _;mov_w _;holds_w _;place_w d= k= I B _;word_w d= k= c= I G B _;put_w d= k= c= I G A B _;regn_w _;op_v k _;op_m k a _;op_n op:Op.add k r a _;op_n op:Op.sub k r a _;op_n op:Op.xor k r a _;flags_w _;setres_w l _;calc_alu a a _;calc_movi a _;calc_addi a a _;calc_muli a a _;put_byte_w d= k= c= I G a a a _;tr_ldr l a a _;tr_str l a a _;tr_stb l a a a _;branch_jmp _;branch_halt _;mem_new _;cpu_new _" ++
    "|stp e_loc v= k L _;e_const v= r _;evs_cons _;evs_nil _;ss_asg k r _;ss_nil _;sqN _;cF _;cT _;exa w= T _;ss_ifR _;ss_ret _;e_attrL k= cl= d= fs= w= k L I k r _;e_bin _;ss_if0 _;ss_expr r _;t_eqS a= c:true k L k _;t_eqS a= c:false k L k _;e_callT k _;sqR _;rkR _;rkN _;e_itemK vs= w= k L r _;t_inK a= vs= c:true k L r r k _;t_inK a= vs= c:false k L r r k _;t_cmp r _;t_bool _;all_and _;all_or _;all_nilA _;all_nilO _;e_append r r _;e_pop0 r r _;e_pop r r _;e_get r r _;e_methT r r _;e_item r _;e_attr r _;isB.of _;t_vC _;t_not _;cN _;ss_cons _;s_if _;s_asg r r _;a_loc k _;a_cell k _;b_add _;b_sub _;b_and _;b_or _;b_xor _;b_mod S _;b_shr S _;b_shl S _;b_mul S _;b_div S _;c_val c:true k _;c_val c:false k _;c_lt _;c_le _;c_gt _;c_ge _;c_eq _;c_ne _;e_tup r _;e_un _;e_cmp r _;t_cmp2 r r _;cDt l _;cDf l _;e_glo v= k r _;e_cell v= k L _;e_ifk _;e_ife _;e_bool _;bool_one _;bool_and _;s_ret _;s_ret0 _;s_brk _;s_cont _;s_try _;s_expr r _;a_attr _;a_item r _;a_tup r _;as_nil _;as_cons _;as_consA _;e_lst r _;e_dct _;e_cutL _;e_cutR _;e_len k _;e_listl k r _;e_listr k r _;e_sorted k _;t_vN _;t_vS _;t_vK _;s_aug r _;lkN _;lkC _;lkB _;lkR _;sqB _;sqC _;b_rep x= G D _;s_asgC r k k _;e_compR k r _;e_compL k r _;s_forR k _;s_forL k _;range1 k _;range2 k _;s_while _;body0 _;body1 _;acc_push xs= G A _;forI_cons _;forI_nil _;ex_at C= d= fs= w= I k r _;ex_me C= d= fs= I k k _;ex_put C= d= fs= I k M _;ex_aug1 C= d= fs= a= I k r _;ex_aug2 C= d= fs= I k M _;ex_dct c= G _;ex_two _;set_dct c= G a _;set_lst xs= G R _;set_lst xs= G P _;slL k _;slR k _;s_asgT k _;ex_pair _;c_in2 _;And.intro Z _;ex_ref xs= G _;ex_sort xs= ns= G r M _;*call;*norm" ++
    "|norm #new_cpu,new_ref,s0_2,s0_3,s0_8,l0;#in_set,in_app;#set2,set3,set8,pf_h,pf_n,pf_z,pf_c,pf_v,pf_pc,regsV_set;#pf0_rows,pf0_regs,pf0_h,init_eq,set3,fl0_fl"
set_option compiler.extract_closed true
set_option compiler.extract_closed false
local macro_rules | `(tactic| walk_at $key:str) => do
  let k := key.getString.splitOn "@"
  let n := if k.length = 2 then k.getLast!.toNat! else 0
  match (tAll.splitOn ("|" ++ k.head! ++ " ")).getLast!.splitOn "|" with
  | s :: _ :: _ | [s] =>
    if s.isEmpty then Lean.Macro.throwUnsupported
    let l := (s.splitOn ";").drop n
    let q := (l.take 12).map tR
    return rdS (toString (← Lean.getCurrMacroScope)) (tF (if 12 < l.length then q ++ [tWk (k.head! ++ "@" ++ toString (n + 12))] else q))
  | _ => Lean.Macro.throwUnsupported
set_option compiler.extract_closed true
inductive Op | add | sub | mul | xor
noncomputable def Op.name : Op → Str | .add => "ADD" | .sub => "SUB" | .mul => "MUL" | .xor => "XOR"
inductive Cd | eq | lt | ge | vs | al | nv
noncomputable def Cd.name : Cd → Str | .eq => "EQ" | .lt => "LT" | .ge => "GE" | .vs => "VS" | .al => "AL" | .nv => "NV"
inductive Row
  | movi (to : Nat) (v : Int) | alu (op : Op) (to a b : Nat) | geth (to : Nat) | addi (to a : Nat) | muli (to a : Nat)
  | str (to k : Nat) | ldr (to k : Nat) | stb (to k : Nat) | jmp (c : Cd) (off : Nat) | halt
noncomputable def Row.toV : Row → V
  | .movi to v => .tup [.str "MOVI", .int to, .int 0, .int v]
  | .alu op to a b => .tup [.str op.name, .int to, .int a, .int b]
  | .geth to => .tup [.str "GETH", .int to, .int 0, .int 0]
  | .addi to a => .tup [.str "ADDI", .int to, .int a, .int 1]
  | .muli to a => .tup [.str "MULI", .int to, .int a, .int 38888]
  | .str to k => .tup [.str "STR", .int to, .int 13, .int (4 * k)]
  | .ldr to k => .tup [.str "LDR", .int to, .int 13, .int (4 * k)]
  | .stb to k => .tup [.str "STB", .int to, .int 13, .int (4 * k)]
  | .jmp c off => .tup [.str "B", .str c.name, .int off, .int 0]
  | .halt => .tup [.str "BR", .str "AL", .int 15, .int 0]
noncomputable def Row.Fit : Row → Prop
  | .movi to _ => to < 4 | .alu _ to a b => to < 4 ∧ a < 4 ∧ b < 4 | .geth to => to < 4 | .addi to a => to < 4 ∧ a < 4 | .muli to a => to < 4 ∧ a < 4
  | .str to k => to < 4 ∧ k < 4 | .ldr to k => to < 4 ∧ k < 4 | .stb to k => to < 4 ∧ k < 4 | .jmp _ _ => True | .halt => True
noncomputable def Row.falls : Row → Bool
  | .jmp .al _ => false | .halt => false | _ => true
theorem falls_w {r : Row} {Q} (q : Q (.bool r.falls) σ) : wV (phi T0 (n + 1) (.glob "falls_through") [r.toV] σ) Q := by
  rcases r with _ | ⟨op⟩ | _ | _ | _ | _ | _ | _ | ⟨c⟩ | _
  case alu => cases op <;> exact wV.eq (v := .bool true) (by kernel_rfl) rfl q
  case jmp => cases c <;> first | exact wV.eq (v := .bool true) (by kernel_rfl!) rfl q | exact wV.eq (v := .bool false) (by kernel_rfl!) rfl q
  all_goals first | exact wV.eq (v := .bool true) (by kernel_rfl!) rfl q | exact wV.eq (v := .bool false) (by kernel_rfl!) rfl q

theorem falls_b {r : Row} {Q} (b : Bool) (h : r.falls = b) (q : Q (.bool b) σ) : wV (phi T0 (n + 1) (.glob "falls_through") [r.toV] σ) Q := falls_w (by rw [h]; exact q)
theorem bitAnd_nat (x y : Nat) : Builtin.bitAnd (x : Int) (y : Int) = ((x &&& y : Nat) : Int) := by
  unfold Builtin.bitAnd
  rw [decide_eq_true (Int.natCast_nonneg x), decide_eq_true (Int.natCast_nonneg y)]
  simp only [Int.toNat_natCast]
theorem bitOr_nat (x y : Nat) : Builtin.bitOr (x : Int) (y : Int) = ((x ||| y : Nat) : Int) := by
  have hx : decide (0 ≤ Builtin.bitNot (x : Int)) = false := by simp only [Builtin.bitNot]; exact decide_eq_false (by lia)
  have hy : decide (0 ≤ Builtin.bitNot (y : Int)) = false := by simp only [Builtin.bitNot]; exact decide_eq_false (by lia)
  have hn : ∀ z : Int, Builtin.bitNot (Builtin.bitNot z) = z := fun z => by simp only [Builtin.bitNot]; lia
  unfold Builtin.bitOr Builtin.bitAnd
  rw [hx, hy]
  simp only [hn, Int.toNat_natCast]
theorem pow_nat (a : Nat) : (1 * 2 ^ ((a : Int)).toNat : Int) = ((2 ^ a : Nat) : Int) := by simp
theorem pow0 : (1 * 2 ^ (0 : Int).toNat : Int) = ((1 : Nat) : Int) := rfl
theorem pow13 : (1 * 2 ^ (13 : Int).toNat : Int) = ((8192 : Nat) : Int) := rfl
theorem pow15 : (1 * 2 ^ (15 : Int).toNat : Int) = ((32768 : Nat) : Int) := rfl
theorem pow16 : (1 * 2 ^ (16 : Int).toNat : Int) = ((65536 : Nat) : Int) := rfl
theorem pow17 : (1 * 2 ^ (17 : Int).toNat : Int) = ((131072 : Nat) : Int) := rfl
theorem cast0 : (0 : Int) = ((0 : Nat) : Int) := rfl
theorem castH : (26624 : Int) = ((26624 : Nat) : Int) := rfl

noncomputable def Row.reads : Row → Nat
  | .movi _ _ => 0 | .alu _ _ a b => 2 ^ a ||| 2 ^ b | .geth _ => 65536 | .addi _ a => 2 ^ a | .muli _ a => 2 ^ a
  | .str to _ => 8192 ||| 2 ^ to | .stb to _ => 8192 ||| 2 ^ to | .ldr _ _ => 8192
  | .jmp c _ => (match c with | .al => 0 | .nv => 0 | _ => 131072) | .halt => 59393
noncomputable def Row.writes : Row → Nat
  | .movi to _ => 2 ^ to ||| 131072 | .alu op to _ _ => (match op with | .mul => (2 ^ to ||| 131072) ||| 65536 | _ => 2 ^ to ||| 131072) | .geth to => 2 ^ to ||| 131072
  | .addi to _ => 2 ^ to ||| 131072 | .muli to _ => (2 ^ to ||| 131072) ||| 65536
  | .str _ _ => 0 | .stb _ _ => 0 | .ldr to _ => 2 ^ to | .jmp _ _ => 0 | .halt => 0
theorem four {k : Nat} (h : k < 4) : k = 0 ∨ k = 1 ∨ k = 2 ∨ k = 3 := by lia
theorem reads_w {r : Row} {Q} (hf : r.Fit) (q : Q (.int r.reads) σ) : wV (phi T0 (n + 3) (.glob "reads") [r.toV] σ) Q := by
  refine wV.of ?_ q
  clear q
  rcases r with ⟨to, v⟩ | ⟨op, to, a, b⟩ | ⟨to⟩ | ⟨to, a⟩ | ⟨to, a⟩ | ⟨to, k⟩ | ⟨to, k⟩ | ⟨to, k⟩ | ⟨c, off⟩ | _
  all_goals simp only [Row.Fit] at hf
  case movi => kernel_rfl
  case geth => kernel_rfl
  case ldr => kernel_rfl
  case halt => kernel_rfl
  case jmp => cases c <;> kernel_rfl
  case alu => cases op <;> (rcases four hf.2.1 with rfl | rfl | rfl | rfl <;> rcases four hf.2.2 with rfl | rfl | rfl | rfl <;> kernel_rfl)
  case addi => rcases four hf.2 with rfl | rfl | rfl | rfl <;> kernel_rfl
  case muli => rcases four hf.2 with rfl | rfl | rfl | rfl <;> kernel_rfl
  all_goals rcases four hf.1 with rfl | rfl | rfl | rfl <;> kernel_rfl
theorem writes_w {r : Row} {Q} (hf : r.Fit) (q : Q (.int r.writes) σ) : wV (phi T0 (n + 4) (.glob "writes") [r.toV] σ) Q := by
  refine wV.of ?_ q
  clear q
  rcases r with ⟨to, v⟩ | ⟨op, to, a, b⟩ | ⟨to⟩ | ⟨to, a⟩ | ⟨to, a⟩ | ⟨to, k⟩ | ⟨to, k⟩ | ⟨to, k⟩ | ⟨c, off⟩ | _
  all_goals simp only [Row.Fit] at hf
  case str => kernel_rfl
  case stb => kernel_rfl
  case jmp => cases c <;> kernel_rfl
  case halt => kernel_rfl
  case movi => rcases four hf with rfl | rfl | rfl | rfl <;> kernel_rfl
  case geth => rcases four hf with rfl | rfl | rfl | rfl <;> kernel_rfl
  case alu => cases op <;> (rcases four hf.1 with rfl | rfl | rfl | rfl <;> kernel_rfl)
  all_goals rcases four hf.1 with rfl | rfl | rfl | rfl <;> kernel_rfl
noncomputable def Row.Ok (len i : Nat) : Row → Prop
  | .jmp _ off => i + 1 + off < len
  | .halt => i + 1 = len
  | _ => i + 1 < len
noncomputable def Row.hops : Row → Bool
  | .jmp .nv _ => false | _ => true
theorem target_w {c : Cd} {off i : Nat} {Q} (q : Q (.int ((i : Int) + 1 + off)) σ) : wV (phi T0 (n + 1) (.glob "target_of") [(Row.jmp c off).toV, .int (i : Int)] σ) Q := by
  refine in_g fD_target_of (by kernel_rfl) (by kernel_rfl) ?_
  refine ss_cons ?_
  (repeat (walk_at "stp")); assumption
theorem hop_w {c : Cd} {off : Nat} {Q} (q : Q (.bool (Row.jmp c off).hops) σ) : wV (phi T0 (n + 1) (.glob "can_jump") [(Row.jmp c off).toV] σ) Q := by
  refine wV.of ?_ q
  cases c <;> kernel_rfl
theorem hop_b {c : Cd} {off : Nat} {Q} (b : Bool) (h : (Row.jmp c off).hops = b) (q : Q (.bool b) σ) : wV (phi T0 (n + 1) (.glob "can_jump") [(Row.jmp c off).toV] σ) Q := hop_w (by rw [h]; exact q)
theorem bitAnd_not (x y : Nat) : Builtin.bitAnd (x : Int) (-(y : Int) - 1) = ((x - (x &&& y) : Nat) : Int) := by
  have hy : decide (0 ≤ -(y : Int) - 1) = false := decide_eq_false (by lia)
  have hn : Builtin.bitNot (-(y : Int) - 1) = (y : Int) := by simp only [Builtin.bitNot]; lia
  unfold Builtin.bitAnd
  rw [decide_eq_true (Int.natCast_nonneg x), hy]
  simp only [hn, Int.toNat_natCast]
  have : (x &&& y) ≤ x := Nat.and_le_left
  lia
theorem live_before_w {r : Row} {a : Nat} {Q} (hf : r.Fit) (q : Q (.int (((a - (a &&& r.writes)) ||| r.reads : Nat) : Int)) σ) : wV (phi T0 (n + 5) (.glob "live_before") [r.toV, .int (a : Int)] σ) Q := by
  refine in_g fD_live_before (by kernel_rfl) (by kernel_rfl) ?_
  refine ss_cons ?_
  (repeat (walk_at "stp"))
  rw [bitAnd_not, bitOr_nat]; exact q
theorem testBit_int (m r : Nat) : decide (Builtin.bitAnd ((m : Int).fdiv (2 ^ r)) 1 = 1) = m.testBit r := by
  have e : ((m : Int).fdiv (2 ^ r)) = ((m / 2 ^ r : Nat) : Int) := by
    rw [Int.fdiv_eq_ediv_of_nonneg _ (by exact_mod_cast Nat.zero_le _)]
    push_cast; rfl
  rw [e, show (1 : Int) = ((1 : Nat) : Int) from rfl, bitAnd_nat, Nat.testBit, Nat.and_comm 1, Nat.shiftRight_eq_div_pow, Nat.and_one_is_mod]
  by_cases h : m / 2 ^ r % 2 = 1
  · rw [h]; rfl
  · have h2 : m / 2 ^ r % 2 = 0 := by lia
    rw [h2]; rfl
theorem is_live_w {m : Nat} {r : Int} {Q} (h : 0 ≤ r) (q : Q (.bool (m.testBit r.toNat)) σ) : wV (phi T0 (n + 1) (.glob "is_live") [.int (m : Int), .int r] σ) Q := by
  refine in_g fD_is_live (by kernel_rfl) (by kernel_rfl) ?_
  refine ss_cons ?_
  (repeat (walk_at "stp"))
  rw [testBit_int]; exact q
theorem c_str {a b : Str} {c : Bool} {P : Bool → Prop} (h : (a == b) = c) (p : P c) : wC (cmpV .Eq (.str a) (.str b) σ) P := ⟨c, congrArg some h, p⟩
theorem unknown_plain {L i : Nat} {ws : List V} {nm : Str} {vs : List V} {Q} (hf : ∀ {Q : V → Store → Prop} {σ : Store}, Q (.bool true) σ → wV (phi T0 (n + 1) (.glob "falls_through") [.tup (.str nm :: vs)] σ) Q) (h1 : (nm == ("BR" : Str)) = false) (h2 : (nm == ("B" : Str)) = false)
    (hL : σ[L]? = some (.lst ws)) (hl : ws.length ≤ maxLen) (hr : ws[(i : Int).toNat]? = some (.tup (.str nm :: vs))) (hi : (i : Int) < 2 ^ 62) (ok : i + 1 < ws.length) (q : Q (.bool false) σ) : wV (phi T0 (n + 2) (.glob "leaves_unknown") [.ref L, .int (i : Int)] σ) Q := by
  refine in_g fD_leaves_unknown (by kernel_rfl) (by kernel_rfl) ?_
  refine ss_cons ?_
  (repeat (walk_at "stp"))
  refine c_str h1 ?_
  (repeat (walk_at "stp"))
  refine c_str h2 ?_
  (repeat (walk_at "stp"))
  refine hf ?_
  (repeat (walk_at "stp"))
  rw [decide_eq_false (by lia)]
  exact q
theorem unknown_jmp {L i : Nat} {ws : List V} {c : Cd} {off : Nat} {Q} (hL : σ[L]? = some (.lst ws)) (hl : ws.length ≤ maxLen) (hr : ws[(i : Int).toNat]? = some (Row.jmp c off).toV) (hi : (i : Int) < 2 ^ 62) (ok : (Row.jmp c off).Ok ws.length i) (q : Q (.bool false) σ) : wV (phi T0 (n + 2) (.glob "leaves_unknown") [.ref L, .int (i : Int)] σ) Q := by
  refine in_g fD_leaves_unknown (by kernel_rfl) (by kernel_rfl) ?_
  refine ss_cons ?_
  simp only [Row.Ok] at ok
  (repeat (walk_at "stp"))
  refine falls_w (r := .jmp c off) ?_
  (repeat (walk_at "stp"))
  refine cB (fun _ => ?_) (fun _ => ?_)
  · (repeat (walk_at "stp"))
    rw [decide_eq_false (by lia)]
    exact q
  · exact q
theorem unknown_w {L i : Nat} {ws : List V} {r : Row} {Q} (hL : σ[L]? = some (.lst ws)) (hl : ws.length ≤ maxLen) (hr : ws[(i : Int).toNat]? = some r.toV) (hi : (i : Int) < 2 ^ 62) (ok : r.Ok ws.length i) (q : Q (.bool false) σ) : wV (phi T0 (n + 2) (.glob "leaves_unknown") [.ref L, .int (i : Int)] σ) Q := by
  rcases r with ⟨to, v⟩ | ⟨op, to, a, b⟩ | ⟨to⟩ | ⟨to, a⟩ | ⟨to, a⟩ | ⟨to, k⟩ | ⟨to, k⟩ | ⟨to, k⟩ | ⟨c, off⟩ | _
  case jmp => exact unknown_jmp hL hl hr hi ok q
  case alu => exact unknown_plain (fun q => falls_w (r := .alu op to a b) q) (by cases op <;> rfl) (by cases op <;> rfl) hL hl hr hi ok q
  case halt =>
    refine in_g fD_leaves_unknown (by kernel_rfl) (by kernel_rfl) ?_
    refine ss_cons ?_
    (repeat (walk_at "stp"))
    assumption
  case movi => exact unknown_plain (fun q => falls_w (r := .movi to v) q) rfl rfl hL hl hr hi ok q
  case geth => exact unknown_plain (fun q => falls_w (r := .geth to) q) rfl rfl hL hl hr hi ok q
  case addi => exact unknown_plain (fun q => falls_w (r := .addi to a) q) rfl rfl hL hl hr hi ok q
  case muli => exact unknown_plain (fun q => falls_w (r := .muli to a) q) rfl rfl hL hl hr hi ok q
  case str => exact unknown_plain (fun q => falls_w (r := .str to k) q) rfl rfl hL hl hr hi ok q
  case ldr => exact unknown_plain (fun q => falls_w (r := .ldr to k) q) rfl rfl hL hl hr hi ok q
  case stb => exact unknown_plain (fun q => falls_w (r := .stb to k) q) rfl rfl hL hl hr hi ok q
noncomputable def Row.succs (i : Nat) : Row → List Nat
  | .jmp .al off => [i + 1 + off]
  | .jmp .nv _ => [i + 1]
  | .jmp _ off => if off = 0 then [i + 1] else [i + 1, i + 1 + off]
  | .halt => []
  | _ => [i + 1]
noncomputable def natV (js : List Nat) : List V := js.map fun (j : Nat) => V.int (j : Int)
theorem succ_plain {L i : Nat} {ws : List V} {nm : Str} {vs : List V} {Q} (hf : ∀ {Q : V → Store → Prop} {σ : Store}, Q (.bool true) σ → wV (phi T0 (n + 1) (.glob "falls_through") [.tup (.str nm :: vs)] σ) Q) (h2 : (nm == ("B" : Str)) = false)
    (hL : σ[L]? = some (.lst ws)) (hl : ws.length ≤ maxLen) (hr : ws[(i : Int).toNat]? = some (.tup (.str nm :: vs))) (hi : (i : Int) < 2 ^ 62) (ok : i + 1 < ws.length)
    (q : Q (.ref (σ.length + 1)) (σ ++ [.lst (natV [i + 1]), .lst (natV [i + 1])])) : wV (phi T0 (n + 2) (.glob "successors") [.ref L, .int (i : Int)] σ) Q := by
  have hlt := sg_lt hL
  refine in_g fD_successors (by kernel_rfl) (by kernel_rfl) ?_
  refine ss_cons ?_
  (repeat (walk_at "stp"))
  refine hf ?_
  (repeat (walk_at "stp"))
  refine c_str h2 ?_
  (repeat (walk_at "stp"))
  refine val2_eq q ?_ ?_
  · simp
  · simp [natV, sort1]
theorem succ_cond {L i : Nat} {ws : List V} {c : Cd} {off : Nat} {Q} (h1 : (Row.jmp c off).falls = true) (h2 : (Row.jmp c off).hops = true)
    (hL : σ[L]? = some (.lst ws)) (hl : ws.length ≤ maxLen) (hr : ws[(i : Int).toNat]? = some (Row.jmp c off).toV) (hi : (i : Int) < 2 ^ 62) (ok : (Row.jmp c off).Ok ws.length i)
    (q : Q (.ref (σ.length + 1)) (σ ++ [.lst (natV (if off = 0 then [i + 1] else [i + 1, i + 1 + off])), .lst (natV (if off = 0 then [i + 1] else [i + 1, i + 1 + off]))])) : wV (phi T0 (n + 2) (.glob "successors") [.ref L, .int (i : Int)] σ) Q := by
  have hlt := sg_lt hL
  refine in_g fD_successors (by kernel_rfl) (by kernel_rfl) ?_
  refine ss_cons ?_
  simp only [Row.Ok] at ok
  (repeat (walk_at "stp"))
  refine falls_b true h1 ?_
  (repeat (walk_at "stp"))
  refine hop_b true h2 ?_
  (repeat (walk_at "stp"))
  by_cases h0 : off = 0
  · subst h0
    refine c_notin true (by walk_at "G") (by simp [inV, isInt, isI]) ?_
    (repeat (walk_at "stp"))
    refine val2_eq q ?_ ?_
    · simp
    · simp [natV, sort1]
  · refine c_notin false (by walk_at "G") (by simp [inV, isInt, isI]; lia) ?_
    (repeat (walk_at "stp"))
    refine val2_eq q ?_ ?_
    · simp
    · simp only [List.nil_append, List.cons_append, List.singleton_append] at *
      rw [sort2 _ _ (by lia)]
      simp [natV, h0]
theorem succ_w {L i : Nat} {ws : List V} {r : Row} {Q} (hL : σ[L]? = some (.lst ws)) (hl : ws.length ≤ maxLen) (hr : ws[(i : Int).toNat]? = some r.toV) (hi : (i : Int) < 2 ^ 62) (ok : r.Ok ws.length i)
    (q : Q (.ref (σ.length + 1)) (σ ++ [.lst (natV (r.succs i)), .lst (natV (r.succs i))])) : wV (phi T0 (n + 2) (.glob "successors") [.ref L, .int (i : Int)] σ) Q := by
  rcases r with ⟨to, v⟩ | ⟨op, to, a, b⟩ | ⟨to⟩ | ⟨to, a⟩ | ⟨to, a⟩ | ⟨to, k⟩ | ⟨to, k⟩ | ⟨to, k⟩ | ⟨c, off⟩ | _
  case jmp =>
    have hlt := sg_lt hL
    cases c
    case al =>
      refine in_g fD_successors (by kernel_rfl) (by kernel_rfl) ?_
      refine ss_cons ?_
      simp only [Row.Ok] at ok
      (repeat (walk_at "stp"))
      refine c_notin false (by walk_at "G") rfl ?_
      (repeat (walk_at "stp"))
      refine val2_eq q ?_ ?_
      · simp
      · simp [natV, Row.succs, sort1]
    case nv =>
      refine in_g fD_successors (by kernel_rfl) (by kernel_rfl) ?_
      refine ss_cons ?_
      simp only [Row.Ok] at ok
      (repeat (walk_at "stp"))
      refine val2_eq q ?_ ?_
      · simp
      · simp [natV, Row.succs, sort1]
    all_goals exact succ_cond rfl rfl hL hl hr hi ok q
  case alu => exact succ_plain (fun q => falls_w (r := .alu op to a b) q) (by cases op <;> rfl) hL hl hr hi ok q
  case halt =>
    have hlt := sg_lt hL
    refine in_g fD_successors (by kernel_rfl) (by kernel_rfl) ?_
    refine ss_cons ?_
    (repeat (walk_at "stp"))
    (refine val2_eq q ?_ ?_; simp; simp [natV, Row.succs, sort0])
  case movi => exact succ_plain (fun q => falls_w (r := .movi to v) q) rfl hL hl hr hi ok q
  case geth => exact succ_plain (fun q => falls_w (r := .geth to) q) rfl hL hl hr hi ok q
  case addi => exact succ_plain (fun q => falls_w (r := .addi to a) q) rfl hL hl hr hi ok q
  case muli => exact succ_plain (fun q => falls_w (r := .muli to a) q) rfl hL hl hr hi ok q
  case str => exact succ_plain (fun q => falls_w (r := .str to k) q) rfl hL hl hr hi ok q
  case ldr => exact succ_plain (fun q => falls_w (r := .ldr to k) q) rfl hL hl hr hi ok q
  case stb => exact succ_plain (fun q => falls_w (r := .stb to k) q) rfl hL hl hr hi ok q
structure AR where
  r : Int
  n : Int
  z : Int
  c : Int
  v : Int
  h : Option Int
noncomputable def optV : Option Int → V | none => .none | some x => .int x
noncomputable def AR.toV (a : AR) : V := .tup [.int a.r, .int a.n, .int a.z, .int a.c, .int a.v, optV a.h]
noncomputable def flg (r c v : Int) (h : Option Int) : AR := ⟨r, r.fdiv (2 ^ (31 : Int).toNat), if decide (r = 0) then 1 else 0, c, v, h⟩
theorem flag3_w {r c v : Int} {Q} (q : Q (flg r c v none).toV σ) : wV (phi T0 (n + 1) (.glob "flagged") [.int r, .int c, .int v] σ) Q := by
  refine in_g fD_flagged (by kernel_rfl) (by kernel_rfl) ?_
  refine ss_cons ?_
  (repeat (walk_at "stp")); assumption
theorem flag4_w {r c v h : Int} {Q} (q : Q (flg r c v (some h)).toV σ) : wV (phi T0 (n + 1) (.glob "flagged") [.int r, .int c, .int v, .int h] σ) Q := by
  refine in_g fD_flagged (by kernel_rfl) (by kernel_rfl) ?_
  refine ss_cons ?_
  (repeat (walk_at "stp")); assumption
noncomputable def tsg (x : Int) : Int := x - 2 * Builtin.bitAnd x 2147483648
theorem tsg_w {x : Int} {Q} (q : Q (.int (tsg x)) σ) : wV (phi T0 (n + 1) (.glob "to_signed") [.int x] σ) Q := by
  refine in_g fD_to_signed (by kernel_rfl) (by kernel_rfl) ?_
  refine ss_cons ?_
  (repeat (walk_at "stp")); assumption
noncomputable def addA (x y : Int) : AR := flg (Builtin.bitAnd (x + y) 4294967295) ((x + y).fdiv (2 ^ (32 : Int).toNat)) ((Builtin.bitAnd (Builtin.bitXor x (Builtin.bitAnd (x + y) 4294967295)) (Builtin.bitXor y (Builtin.bitAnd (x + y) 4294967295))).fdiv (2 ^ (31 : Int).toNat)) none
theorem add_w {x y : Int} {Q} (q : Q (addA x y).toV σ) : wV (phi T0 (n + 2) (.glob "add") [.int x, .int y] σ) Q := by
  refine in_g fD_add (by kernel_rfl) (by kernel_rfl) ?_
  refine ss_cons ?_
  (repeat (walk_at "stp")); assumption
noncomputable def subA (x y : Int) : AR := flg (Builtin.bitAnd (x - y) 4294967295) (if decide (x < y) then 1 else 0) ((Builtin.bitAnd (Builtin.bitXor x y) (Builtin.bitXor x (Builtin.bitAnd (x - y) 4294967295))).fdiv (2 ^ (31 : Int).toNat)) none
theorem sub_w {x y : Int} {Q} (q : Q (subA x y).toV σ) : wV (phi T0 (n + 2) (.glob "sub") [.int x, .int y] σ) Q := by
  refine in_g fD_sub (by kernel_rfl) (by kernel_rfl) ?_
  refine ss_cons ?_
  (repeat (walk_at "stp")); assumption
noncomputable def mulA (x y : Int) : AR := flg (Builtin.bitAnd (tsg x * tsg y) 4294967295) 0 (if decide (tsg (Builtin.bitAnd (tsg x * tsg y) 4294967295) = tsg x * tsg y) then 0 else 1) (some (Builtin.bitAnd ((tsg x * tsg y).fdiv (2 ^ (32 : Int).toNat)) 4294967295))
theorem mul_w {x y : Int} {Q} (hx : -(2 ^ 64) < tsg x ∧ tsg x < 2 ^ 64) (q : Q (mulA x y).toV σ) : wV (phi T0 (n + 2) (.glob "mul") [.int x, .int y] σ) Q := by
  refine in_g fD_mul (by kernel_rfl) (by kernel_rfl) ?_
  refine ss_cons ?_
  (repeat (walk_at "stp")); assumption
noncomputable def xorA (x y : Int) : AR := flg (Builtin.bitXor x y) 0 0 none
noncomputable def movA (y : Int) : AR := flg y 0 0 none
noncomputable def Op.run : Op → Int → Int → AR | .add => addA | .sub => subA | .mul => mulA | .xor => xorA
theorem xor_w {x y : Int} {Q} (q : Q (xorA x y).toV σ) : wV (phi T0 (n + 2) (.glob "bitwise") [.str Op.xor.name, .int x, .int y] σ) Q := by
  refine in_g fD_bitwise (by kernel_rfl) (by kernel_rfl) ?_
  refine ss_cons ?_
  (repeat (walk_at "stp")); assumption
theorem operate_w {op : Op} {x y : Int} {Q} (hx : -(2 ^ 64) < tsg x ∧ tsg x < 2 ^ 64) (q : Q (op.run x y).toV σ) : wV (phi T0 (n + 3) (.glob "operate") [.str op.name, .int x, .int y] σ) Q := by
  cases op <;> (refine in_g fD_operate (by kernel_rfl) (by kernel_rfl) ?_; refine ss_cons ?_; (repeat (walk_at "stp")); assumption)
theorem mov_w {x y : Int} {Q} (q : Q (movA y).toV σ) : wV (phi T0 (n + 3) (.glob "operate") [.str "MOV", .int x, .int y] σ) Q := by
  (refine in_g fD_operate (by kernel_rfl) (by kernel_rfl) ?_; refine ss_cons ?_; (repeat (walk_at "stp")); assumption)
noncomputable def Cd.num : Cd → Int | .eq => 1 | .lt => 5 | .ge => 13 | .vs => 3 | .al => 7 | .nv => 15
theorem num_w {c : Cd} {Q} (q : Q (.int c.num) σ) : wV (phi T0 (n + 1) (.glob "condition_number") [.str c.name] σ) Q := by
  refine wV.of ?_ q
  cases c <;> kernel_rfl
noncomputable def Cd.hold : Cd → Int → Int → Int → Int → Bool
  | .eq, _, z, _, _ => !decide (z = 0) | .lt, n, _, _, v => !decide (Builtin.bitXor n v = 0) | .ge, n, _, _, v => !decide (Builtin.bitXor n v = 1)
  | .vs, _, _, _, v => !decide (v = 0) | .al, _, _, _, _ => true | .nv, _, _, _, _ => false
theorem num_b {c : Cd} {Q} (q : Q (.int c.num) σ) {s : Str} (hs : s = c.name) : wV (phi T0 (n + 1) (.glob "condition_number") [.str s] σ) Q := by subst hs; exact num_w q
theorem holds_w {cd : Cd} {a z c v : Int} {Q} (q : Q (.bool (cd.hold a z c v)) σ) : wV (phi T0 (n + 2) (.glob "holds") [.str cd.name, .tup [.int a, .int z, .int c, .int v]] σ) Q := by
  refine wV.of ?_ q
  clear q
  cases cd <;> kernel_rfl
noncomputable def mf (k : Nat) : List (Str × V) := [("size", .int 32), ("words", .ref k)]
theorem ex_at {Cf : Cfg} {C : Addr} {d : Nat} {fs : List (Str × V)} {v w : V} {x : Str} {Q : V → Prop} (hi : instOf σ v = some (C, d, fs)) (ha : Cf.attr C x = true) (hl : fs.lookup x = some w) (q : Q w) :
    ∃ cl d fs w, instOf σ v = some (cl, d, fs) ∧ Cf.attr cl x = true ∧ fs.lookup x = some w ∧ Q w := ⟨C, d, fs, w, hi, ha, hl, q⟩
theorem ex_put {Cf : Cfg} {C : Addr} {d : Nat} {fs : List (Str × V)} {v : V} {x : Str} {X : Nat → List (Str × V) → Prop} (hi : instOf σ v = some (C, d, fs)) (ha : Cf.attr C x = true) (hl : fs.length ≤ 100) (q : X d fs) :
    ∃ cl d fs, instOf σ v = some (cl, d, fs) ∧ Cf.attr cl x = true ∧ fs.length ≤ 100 ∧ X d fs := ⟨C, d, fs, hi, ha, hl, q⟩
theorem ex_me {C : Addr} {d : Nat} {fs : List (Str × V)} {v : V} {x : Str} {Q : Addr → Prop} (hi : instOf σ v = some (C, d, fs)) (ha : T0.meth C x = true) (hl : fs.lookup x = none) (q : Q C) :
    ∃ cl d fs, instOf σ v = some (cl, d, fs) ∧ T0.meth cl x = true ∧ fs.lookup x = none ∧ Q cl := ⟨C, d, fs, hi, ha, hl, q⟩
theorem e_methT {n m : Nat} {Γ : Scope} {ρ : Rho} {σ : Store} {o : Expr} {name : Str} {ap p} {args : List Expr} {Q} (hl : (ap.endLine == p.line) = true) (hb : (plainBase o && args.all notStar && decide (args.length ≤ 20)) = true)
    (h : wV ((ev (CC n) m).e Γ ρ σ o) fun v σ1 => ∃ cl d fs, instOf σ1 v = some (cl, d, fs) ∧ T0.meth cl name = true ∧ fs.lookup name = none ∧ wL (evs (ev (CC n) m) Γ ρ σ1 args) fun vs σ2 => wV (phi T0 n (.meth cl name) (v :: vs) σ2) Q) : wV ((ev (CC n) (m + 1)).e Γ ρ σ (.Call (.Attribute o name ap) args [] p)) Q := e_methI hl hb h
theorem e_get {C : Cfg} {n : Nat} {Γ : Scope} {ρ : Rho} {σ : Store} {o a b : Expr} {ap p} {Q} (hl : (ap.endLine == p.line) = true) (hb : (plainBase o && [a, b].all notStar && decide ([a, b].length ≤ 20)) = true)
    (h : wV ((ev C n).e Γ ρ σ o) fun v σ1 => ∃ i c, v = .ref i ∧ σ1[i]? = some (.dct c) ∧ wV ((ev C n).e Γ ρ σ1 a) fun k σ2 => wV ((ev C n).e Γ ρ σ2 b) fun w σ3 => ∃ x y, k = .int x ∧ w = .int y ∧ σ3[i]? = some (.dct c) ∧ Q (.int (kdfLook c x y)) σ3) : wV ((ev C (n + 1)).e Γ ρ σ (.Call (.Attribute o "get" ap) [a, b] [] p)) Q :=
  e_methB hl hb (wP.mono h fun v σ1 h => by
    obtain ⟨i, c, rfl, e2, h⟩ := h
    exact ⟨i, rfl, by show (match (generalizing := false) σ1[i]? with | some (.inst C d) => (match (generalizing := false) σ1[d]? with | some (.ns fs) => some (C, d, fs) | _ => none) | _ => none) = _; rw [e2], evs_cons (wP.mono h fun k σ2 h => evs_cons (wP.mono h fun w σ3 h => by
      obtain ⟨x, y, rfl, rfl, e5, q⟩ := h
      exact evs_nil ⟨by rw [e2, e5], w_meth e5 (rt2 q)⟩))⟩)
theorem ex_dct {k : Nat} {c : List (Int × Int)} {X : Nat → List (Int × Int) → Prop} (h : σ[k]? = some (.dct c)) (x : X k c) : ∃ i c, V.ref k = .ref i ∧ σ[i]? = some (.dct c) ∧ X i c := ⟨k, c, rfl, h, x⟩
theorem ex_two {x y : Int} {X : Int → Int → Prop} (h : X x y) : ∃ a b, V.int x = .int a ∧ V.int y = .int b ∧ X a b := ⟨x, y, rfl, rfl, h⟩
theorem set_dct {k : Nat} {c : List (Int × Int)} {i e : Int} {Q : Store → Prop} (h : σ[k]? = some (.dct c)) (hl : c.length ≤ maxLen) (q : Q (σ.set k (.dct (kdfPut c i e)))) : wS (setV σ (.ref k) (.int i) (.int e)) Q := by
  show wS (setO σ k i (.int e) σ[k]?) Q; rw [h]; exact iT1 hl (rt1 q)
theorem set_lst {k : Nat} {xs : List V} {i : Int} {v : V} {Q : Store → Prop} (h : σ[k]? = some (.lst xs)) (hl : 0 ≤ i ∧ i < xs.length ∧ xs.length ≤ maxLen) (q : Q (σ.set k (.lst (xs.set i.toNat v)))) : wS (setV σ (.ref k) (.int i) v) Q := by
  show wS (setO σ k i v σ[k]?) Q; rw [h]; exact iT1 hl (rt1 q)
theorem place_w {a d k : Nat} {x : Int} {Q} (hi : instOf σ (.ref a) = some (cM, d, mf k)) (hx : 0 ≤ x ∧ x < 32) (q : Q (.int (x.fdiv 4)) σ) : wV (phi T0 (n + 1) (.meth cM "place") [.ref a, .int x] σ) Q := by
  refine in_m fD_Memory_place (by kernel_rfl) ?_
  refine ss_cons ?_
  (repeat (walk_at "stp"))
  assumption
theorem word_w {a d k : Nat} {c : List (Int × Int)} {x : Int} {Q} (hi : instOf σ (.ref a) = some (cM, d, mf k)) (hk : σ[k]? = some (.dct c)) (hx : 0 ≤ x ∧ x < 32) (q : Q (.int (kdfLook c (x.fdiv 4) 0)) σ) : wV (phi T0 (n + 2) (.meth cM "word") [.ref a, .int x] σ) Q := by
  refine in_m fD_Memory_word (by kernel_rfl) ?_
  refine ss_cons ?_
  (repeat (walk_at "stp"))
  assumption
theorem put_w {a d k : Nat} {c : List (Int × Int)} {x v : Int} {Q} (hi : instOf σ (.ref a) = some (cM, d, mf k)) (hk : σ[k]? = some (.dct c)) (hc : c.length ≤ maxLen) (hx : 0 ≤ x ∧ x < 32) (q : Q .none (σ.set k (.dct (kdfPut c (x.fdiv 4) (v.fmod 4294967296))))) : wV (phi T0 (n + 2) (.meth cM "put_word") [.ref a, .int x, .int v] σ) Q := by
  refine in_m fD_Memory_put_word (by kernel_rfl) ?_
  refine ss_cons ?_
  (repeat (walk_at "stp"))
  assumption
noncomputable def stbV (old v x : Int) : Int := Builtin.bitOr (Builtin.bitAnd old (4294967296 - 1 - 255 * 2 ^ (8 * x.fmod 4).toNat)) (Builtin.bitAnd v 255 * 2 ^ (8 * x.fmod 4).toNat)
theorem put_byte_w {a d k : Nat} {c : List (Int × Int)} {x v : Int} {Q} (hi : instOf σ (.ref a) = some (cM, d, mf k)) (hk : σ[k]? = some (.dct c)) (hc : c.length ≤ maxLen) (hx : 0 ≤ x ∧ x < 32) (hb : (Builtin.bitAnd v 255).natAbs < 2 ^ 64) (q : Q .none (σ.set k (.dct (kdfPut c (x.fdiv 4) ((stbV (kdfLook c (x.fdiv 4) 0) v x).fmod 4294967296))))) : wV (phi T0 (n + 3) (.meth cM "put_byte") [.ref a, .int x, .int v] σ) Q := by
  have h4 : 0 ≤ x.fmod 4 ∧ x.fmod 4 < 4 := ⟨Int.fmod_nonneg_of_pos _ (by lia), Int.fmod_lt_of_pos _ (by lia)⟩
  have h5 : 0 ≤ 8 * x.fmod 4 ∧ 8 * x.fmod 4 ≤ 1000000 ∧ (255 : Int).natAbs < 2 ^ 64 := ⟨by lia, by lia, by decide⟩
  have h6 : 0 ≤ 8 * x.fmod 4 ∧ 8 * x.fmod 4 ≤ 1000000 ∧ (Builtin.bitAnd v 255).natAbs < 2 ^ 64 := ⟨by lia, by lia, hb⟩
  refine in_m fD_Memory_put_byte (by kernel_rfl) ?_
  refine ss_cons ?_
  (repeat (walk_at "stp"))
  assumption
noncomputable def regsV (r : Nat → Int) : List V := (List.range 16).map fun i => V.int (r i)
noncomputable def upd (r : Nat → Int) (k : Nat) (x : Int) : Nat → Int := fun i => if i = k then x else r i
theorem regsV_get {r : Nat → Int} {k : Int} (h : 0 ≤ k ∧ k < 16) : (regsV r)[k.toNat]? = some (.int (r k.toNat)) := by
  have hk : k.toNat < 16 := by lia
  simp [regsV, hk]
theorem regsV_len {r : Nat → Int} : (regsV r).length = 16 := by simp [regsV]
theorem regsV_set {r : Nat → Int} {k : Nat} {x : Int} : (regsV r).set k (.int x) = regsV (upd r k x) := by
  apply List.ext_getElem?
  intro i
  unfold regsV
  rw [List.getElem?_set]
  simp only [List.length_map, List.length_range, List.getElem?_map]
  by_cases h : k = i
  · subst h
    by_cases hk : k < 16
    · simp [hk, upd]
    · simp [hk]
  · rw [if_neg h]
    by_cases hi : i < 16
    · simp [hi, upd, Ne.symm h]
    · simp [hi]
noncomputable def fl (L R : Nat) (h n z c v pc : Int) : List (Str × V) := [("memory", .ref (L + 1)), ("regs", .ref (L + 8)), ("h", .int h), ("n", .int n), ("z", .int z), ("c", .int c), ("v", .int v), ("pc", .int pc), ("rows", .ref R)]
noncomputable def CS (B : Store) (w : List (Int × Int)) (f : List (Str × V)) (g : List V) : Store := B ++ [.ns (mf (B.length + 2)), .inst cM B.length, .dct w, .ns f, .inst cC (B.length + 3), .lst [.int 0], .lst (List.replicate 16 (.int 0)), .lst [], .lst g]
section
variable {B : Store} {w w' : List (Int × Int)} {f f' : List (Str × V)} {g g' : List V} {L R : Nat} {h a z c v pc x : Int}
theorem cs_m : instOf (CS B w f g) (.ref (B.length + 1)) = some (cM, B.length, mf (B.length + 2)) := by simp [instOf, CS]
theorem cs_c : instOf (CS B w f g) (.ref (B.length + 4)) = some (cC, B.length + 3, f) := by simp [instOf, CS]
theorem cs_w : (CS B w f g)[B.length + 2]? = some (.dct w) := by simp [CS]
theorem cs_g : (CS B w f g)[B.length + 8]? = some (.lst g) := by simp [CS]
theorem cs_o {o : O} (h : B[R]? = some o) : (CS B w f g)[R]? = some o := sg_app h
theorem set2 : (CS B w f g).set (B.length + 2) (.dct w') = CS B w' f g := by simp [CS]
theorem set3 : (CS B w f g).set (B.length + 3) (.ns f') = CS B w f' g := by simp [CS]
theorem set8 : (CS B w f g).set (B.length + 8) (.lst g') = CS B w f g' := by simp [CS]
theorem pf_h : putF "h" (.int x) (fl L R h a z c v pc) = fl L R x a z c v pc := by kernel_rfl
theorem pf_n : putF "n" (.int x) (fl L R h a z c v pc) = fl L R h x z c v pc := by kernel_rfl
theorem pf_z : putF "z" (.int x) (fl L R h a z c v pc) = fl L R h a x c v pc := by kernel_rfl
theorem pf_c : putF "c" (.int x) (fl L R h a z c v pc) = fl L R h a z x v pc := by kernel_rfl
theorem pf_v : putF "v" (.int x) (fl L R h a z c v pc) = fl L R h a z c x pc := by kernel_rfl
theorem pf_pc : putF "pc" (.int x) (fl L R h a z c v pc) = fl L R h a z c v x := by kernel_rfl
end
theorem ex_item {σ : Store} {g : List V} {k : Nat} {i : Int} {v : V} {X : Store → Prop} (h : σ[k]? = some (.lst g)) (hl : 0 ≤ i ∧ i < g.length ∧ g.length ≤ maxLen) (x : X (σ.set k (.lst (g.set i.toNat v)))) : wS (setV σ (.ref k) (.int i) v) X := set_lst h hl x
theorem reg_len {r : Nat → Int} {i : Int} (h : 0 ≤ i ∧ i < 16) : 0 ≤ i ∧ i < (regsV r).length ∧ (regsV r).length ≤ maxLen := by
  rw [regsV_len]; exact ⟨h.1, h.2, by decide⟩
section
variable {B : Store} {w : List (Int × Int)} {R : Nat} {r : Nat → Int} {h a z c v pc : Int}
theorem flags_w {Q} (q : Q (.tup [.int a, .int z, .int c, .int v]) (CS B w (fl B.length R h a z c v pc) (regsV r))) : wV (phi T0 (n + 1) (.meth cC "flags") [.ref (B.length + 4)] (CS B w (fl B.length R h a z c v pc) (regsV r))) Q := by
  refine in_m fD_Cpu_flags (by kernel_rfl) ?_
  refine ss_cons ?_
  (repeat (walk_at "stp"))
  assumption
theorem setres_w {to : Int} {x : Int} {Q} (ht : 0 ≤ to ∧ to < 16) (q : Q .none (CS B w (fl B.length R h (x.fdiv (2 ^ (31 : Int).toNat)) (if decide (x = 0) then 1 else 0) 0 0 pc) (regsV (upd r to.toNat x)))) : wV (phi T0 (n + 1) (.meth cC "set_result") [.ref (B.length + 4), .int to, .int x] (CS B w (fl B.length R h a z c v pc) (regsV r))) Q := by
  refine in_m fD_Cpu_set_result (by kernel_rfl) ?_
  refine ss_cons ?_
  (repeat (walk_at "stp"))
  assumption
end
theorem regn_w {Q} (q : Q (.tup [.str "MOV", .str "LSL", .str "ASR", .str "ROR", .str "AND", .str "ANN", .str "IOR", .str "XOR", .str "ADD", .str "SUB", .str "MUL", .str "DIV"]) σ) : wV (phi T0 (n + 1) (.glob "register_names") [] σ) Q := by
  refine wV.of ?_ q
  kernel_rfl
theorem slL {s : Str} {k : Int} {Q} (hl : decide (s.length ≤ maxLen) = true) (q : Q (.str (Txt.slice s (some k) none)) σ) : wV (sliceV σ (.str s) (.int k) .none) Q :=
  ⟨_, _, by simp only [sliceV, asInt, Option.bind_some, if_pos (of_decide_eq_true hl)], q⟩
theorem slR {s : Str} {k : Int} {Q} (hl : decide (s.length ≤ maxLen) = true) (q : Q (.str (Txt.slice s none (some k))) σ) : wV (sliceV σ (.str s) .none (.int k)) Q :=
  ⟨_, _, by simp only [sliceV, asInt, Option.bind_some, if_pos (of_decide_eq_true hl)], q⟩
theorem op_n {s : Str} {op : Op} {x y : Int} {Q} (hs : s = op.name) (hn : (op.run x y).h = none) (hx : -(2 ^ 64) < tsg x ∧ tsg x < 2 ^ 64) (q : Q (.tup [.int (op.run x y).r, .int (op.run x y).n, .int (op.run x y).z, .int (op.run x y).c, .int (op.run x y).v, .none]) σ) : wV (phi T0 (n + 3) (.glob "operate") [.str s, .int x, .int y] σ) Q := by
  subst hs
  refine operate_w hx ?_
  unfold AR.toV; rw [hn]; exact q
noncomputable def mulH (x y : Int) : Int := Builtin.bitAnd ((tsg x * tsg y).fdiv (2 ^ (32 : Int).toNat)) 4294967295
theorem op_m {s : Str} {x y : Int} {Q} (hs : s = Op.mul.name) (hx : -(2 ^ 64) < tsg x ∧ tsg x < 2 ^ 64) (q : Q (.tup [.int (Op.mul.run x y).r, .int (Op.mul.run x y).n, .int (Op.mul.run x y).z, .int (Op.mul.run x y).c, .int (Op.mul.run x y).v, .int (mulH x y)]) σ) : wV (phi T0 (n + 3) (.glob "operate") [.str s, .int x, .int y] σ) Q := by
  subst hs
  refine operate_w hx ?_
  exact q
theorem op_v {s : Str} {x y : Int} {Q} (hs : s = "MOV") (q : Q (.tup [.int (movA y).r, .int (movA y).n, .int (movA y).z, .int (movA y).c, .int (movA y).v, .none]) σ) : wV (phi T0 (n + 3) (.glob "operate") [.str s, .int x, .int y] σ) Q := by
  subst hs
  refine mov_w ?_
  exact q
theorem op_in (op : Op) : cmpV .In (.str op.name) (.tup [.str "MOV", .str "LSL", .str "ASR", .str "ROR", .str "AND", .str "ANN", .str "IOR", .str "XOR", .str "ADD", .str "SUB", .str "MUL", .str "DIV"]) σ = some true := by cases op <;> kernel_rfl
section
variable {B : Store} {w : List (Int × Int)} {R : Nat} {r : Nat → Int} {h a z c v pc : Int}
noncomputable def SA (B : Store) (w : List (Int × Int)) (R : Nat) (r : Nat → Int) (h pc : Int) (to : Nat) (ar : AR) : Store := CS B w (fl B.length R (ar.h.getD h) ar.n ar.z ar.c ar.v pc) (regsV (upd r to ar.r))
theorem calc_alu {op : Op} {to i j : Nat} {Q} (hf : to < 4 ∧ i < 4 ∧ j < 4) (hx : -(2 ^ 64) < tsg (r (i : Int).toNat) ∧ tsg (r (i : Int).toNat) < 2 ^ 64) (q : Q .none (SA B w R r h pc (to : Int).toNat (op.run (r (i : Int).toNat) (r (j : Int).toNat)))) :
    wV (phi T0 (n + 4) (.meth cC "calculate") [.ref (B.length + 4), .str op.name, (Row.alu op to i j).toV] (CS B w (fl B.length R h a z c v pc) (regsV r))) Q := by
  refine in_m fD_Cpu_calculate (by kernel_rfl) ?_
  refine ss_cons ?_
  (repeat (walk_at "stp"))
  refine c_val (c := true) (op_in op) ?_
  (repeat (walk_at "stp"))
  generalize op.run (r (i : Int).toNat) (r (j : Int).toNat) = ar at q ⊢
  obtain ⟨a1, a2, a3, a4, a5, a6⟩ := ar
  cases a6 <;> (refine a_tup (by exact rfl) ?_; (repeat (walk_at "stp")); exact q)
theorem calc_movi {to : Nat} {x : Int} {Q} (hf : to < 4) (q : Q .none (SA B w R r h pc (to : Int).toNat (movA (x.fmod 4294967296)))) :
    wV (phi T0 (n + 4) (.meth cC "calculate") [.ref (B.length + 4), .str "MOVI", (Row.movi to x).toV] (CS B w (fl B.length R h a z c v pc) (regsV r))) Q := by
  (refine in_m fD_Cpu_calculate (by kernel_rfl) ?_; refine ss_cons ?_; (repeat (walk_at "stp")); exact q)
theorem calc_addi {to i : Nat} {Q} (hf : to < 4 ∧ i < 4) (hx : -(2 ^ 64) < tsg (r (i : Int).toNat) ∧ tsg (r (i : Int).toNat) < 2 ^ 64) (q : Q .none (SA B w R r h pc (to : Int).toNat (addA (r (i : Int).toNat) ((1 : Int).fmod 4294967296)))) :
    wV (phi T0 (n + 4) (.meth cC "calculate") [.ref (B.length + 4), .str "ADDI", (Row.addi to i).toV] (CS B w (fl B.length R h a z c v pc) (regsV r))) Q := by
  (refine in_m fD_Cpu_calculate (by kernel_rfl) ?_; refine ss_cons ?_; (repeat (walk_at "stp")); exact q)
theorem calc_muli {to i : Nat} {Q} (hf : to < 4 ∧ i < 4) (hx : -(2 ^ 64) < tsg (r (i : Int).toNat) ∧ tsg (r (i : Int).toNat) < 2 ^ 64) (q : Q .none (SA B w R r h pc (to : Int).toNat (mulA (r (i : Int).toNat) ((38888 : Int).fmod 4294967296)))) :
    wV (phi T0 (n + 4) (.meth cC "calculate") [.ref (B.length + 4), .str "MULI", (Row.muli to i).toV] (CS B w (fl B.length R h a z c v pc) (regsV r))) Q := by
  (refine in_m fD_Cpu_calculate (by kernel_rfl) ?_; refine ss_cons ?_; (repeat (walk_at "stp")); exact q)
end
section
variable {B : Store} {w : List (Int × Int)} {R : Nat} {r : Nat → Int} {h a z c v pc : Int}
theorem tr_ldr {to : Int} {x : Int} {Q} (ht : 0 ≤ to ∧ to < 16) (hw : w.length ≤ maxLen) (hx : 0 ≤ x ∧ x < 32) (q : Q .none (CS B w (fl B.length R h a z c v pc) (regsV (upd r to.toNat (kdfLook w (x.fdiv 4) 0))))) :
    wV (phi T0 (n + 4) (.meth cC "transfer") [.ref (B.length + 4), .str "LDR", .int to, .int x] (CS B w (fl B.length R h a z c v pc) (regsV r))) Q := by
  (refine in_m fD_Cpu_transfer (by kernel_rfl) ?_; refine ss_cons ?_; (repeat (walk_at "stp")); exact q)
theorem tr_str {to : Int} {x : Int} {Q} (ht : 0 ≤ to ∧ to < 16) (hw : w.length ≤ maxLen) (hx : 0 ≤ x ∧ x < 32) (q : Q .none (CS B (kdfPut w (x.fdiv 4) ((r to.toNat).fmod 4294967296)) (fl B.length R h a z c v pc) (regsV r))) :
    wV (phi T0 (n + 4) (.meth cC "transfer") [.ref (B.length + 4), .str "STR", .int to, .int x] (CS B w (fl B.length R h a z c v pc) (regsV r))) Q := by
  (refine in_m fD_Cpu_transfer (by kernel_rfl) ?_; refine ss_cons ?_; (repeat (walk_at "stp")); exact q)
theorem tr_stb {to : Int} {x : Int} {Q} (ht : 0 ≤ to ∧ to < 16) (hw : w.length ≤ maxLen) (hx : 0 ≤ x ∧ x < 32) (hb : (Builtin.bitAnd (r to.toNat) 255).natAbs < 2 ^ 64) (q : Q .none (CS B (kdfPut w (x.fdiv 4) ((stbV (kdfLook w (x.fdiv 4) 0) (r to.toNat) x).fmod 4294967296)) (fl B.length R h a z c v pc) (regsV r))) :
    wV (phi T0 (n + 4) (.meth cC "transfer") [.ref (B.length + 4), .str "STB", .int to, .int x] (CS B w (fl B.length R h a z c v pc) (regsV r))) Q := by
  (refine in_m fD_Cpu_transfer (by kernel_rfl) ?_; refine ss_cons ?_; (repeat (walk_at "stp")); exact q)
theorem holds_B {cd : Cd} {s : Str} {a z c v : Int} {Q} (hs : s = cd.name) (q : Q (.bool (cd.hold a z c v)) σ) : wV (phi T0 (n + 2) (.glob "holds") [.str s, .tup [.int a, .int z, .int c, .int v]] σ) Q := by subst hs; exact holds_w q
theorem branch_jmp {cd : Cd} {off : Nat} {Q} (q : Q .none (CS B w (fl B.length R h a z c v (if cd.hold a z c v then pc + off else pc)) (regsV r))) :
    wV (phi T0 (n + 3) (.meth cC "branch") [.ref (B.length + 4), .str "B", (Row.jmp cd off).toV] (CS B w (fl B.length R h a z c v pc) (regsV r))) Q := by
  refine in_m fD_Cpu_branch (by kernel_rfl) ?_; refine ss_cons ?_; (repeat (walk_at "stp"))
  refine cB (fun hb => ?_) (fun hb => ?_)
  · rw [hb] at q; (repeat (walk_at "stp")); exact q
  · rw [hb] at q; (repeat (walk_at "stp")); exact q
theorem branch_halt {Q} (q : Q .none (CS B w (fl B.length R h a z c v (r (15 : Int).toNat)) (regsV r))) :
    wV (phi T0 (n + 3) (.meth cC "branch") [.ref (B.length + 4), .str "BR", Row.halt.toV] (CS B w (fl B.length R h a z c v pc) (regsV r))) Q := by
  refine in_m fD_Cpu_branch (by kernel_rfl) ?_; refine ss_cons ?_; (repeat (walk_at "stp"))
  refine holds_B (cd := .al) rfl ?_
  (repeat (walk_at "stp"))
  refine cT ?_
  (repeat (walk_at "stp"))
  exact q
end
theorem ex_aug1 {Cf : Cfg} {C : Addr} {d : Nat} {fs : List (Str × V)} {v : V} {x : Str} {a : Int} {X : Int → Prop} (hi : instOf σ v = some (C, d, fs)) (ha : Cf.attr C x = true) (hl : fs.lookup x = some (.int a)) (q : X a) :
    ∃ cl d fs a, instOf σ v = some (cl, d, fs) ∧ Cf.attr cl x = true ∧ fs.lookup x = some (.int a) ∧ X a := ⟨C, d, fs, a, hi, ha, hl, q⟩
theorem ex_aug2 {Cf : Cfg} {C : Addr} {d : Nat} {fs : List (Str × V)} {v : V} {x : Str} {b : Int} {X : Nat → List (Str × V) → Int → Prop} (hi : instOf σ v = some (C, d, fs)) (ha : Cf.attr C x = true) (hl : fs.length ≤ 100) (q : X d fs b) :
    ∃ cl d fs b', V.int b = .int b' ∧ instOf σ v = some (cl, d, fs) ∧ Cf.attr cl x = true ∧ fs.length ≤ 100 ∧ X d fs b' := ⟨C, d, fs, b, rfl, hi, ha, hl, q⟩
section
variable {B : Store} {w : List (Int × Int)} {R : Nat} {r : Nat → Int} {h a z c v : Int} {i : Nat} {ws : List V}
theorem step_movi {to : Nat} {x : Int} {Q} (hR : B[R]? = some (.lst ws)) (hl : ws.length ≤ maxLen) (hi : (i : Int) < ws.length) (hi2 : (ws.length : Int) < 2 ^ 62) (hr : ws[(i : Int).toNat]? = some (Row.movi to x).toV) (hf : to < 4)
    (q : Q .none (SA B w R r h ((i : Int) + 1) (to : Int).toNat (movA (x.fmod 4294967296)))) : wV (phi T0 (n + 5) (.meth cC "step") [.ref (B.length + 4)] (CS B w (fl B.length R h a z c v (i : Int)) (regsV r))) Q := by
  refine in_m fD_Cpu_step (by kernel_rfl) ?_; refine ss_cons ?_; (repeat (walk_at "stp"))
  exact q
theorem step_alu {op : Op} {to k j : Nat} {Q} (hR : B[R]? = some (.lst ws)) (hl : ws.length ≤ maxLen) (hi : (i : Int) < ws.length) (hi2 : (ws.length : Int) < 2 ^ 62) (hr : ws[(i : Int).toNat]? = some (Row.alu op to k j).toV) (hf : to < 4 ∧ k < 4 ∧ j < 4) (hx : -(2 ^ 64) < tsg (r (k : Int).toNat) ∧ tsg (r (k : Int).toNat) < 2 ^ 64)
    (q : Q .none (SA B w R r h ((i : Int) + 1) (to : Int).toNat (op.run (r (k : Int).toNat) (r (j : Int).toNat)))) : wV (phi T0 (n + 5) (.meth cC "step") [.ref (B.length + 4)] (CS B w (fl B.length R h a z c v (i : Int)) (regsV r))) Q := by
  cases op <;> (refine in_m fD_Cpu_step (by kernel_rfl) ?_; refine ss_cons ?_; (repeat (walk_at "stp")); exact q)
theorem step_addi {to k : Nat} {Q} (hR : B[R]? = some (.lst ws)) (hl : ws.length ≤ maxLen) (hi : (i : Int) < ws.length) (hi2 : (ws.length : Int) < 2 ^ 62) (hr : ws[(i : Int).toNat]? = some (Row.addi to k).toV) (hf : to < 4 ∧ k < 4) (hx : -(2 ^ 64) < tsg (r (k : Int).toNat) ∧ tsg (r (k : Int).toNat) < 2 ^ 64)
    (q : Q .none (SA B w R r h ((i : Int) + 1) (to : Int).toNat (addA (r (k : Int).toNat) ((1 : Int).fmod 4294967296)))) : wV (phi T0 (n + 5) (.meth cC "step") [.ref (B.length + 4)] (CS B w (fl B.length R h a z c v (i : Int)) (regsV r))) Q := by
  refine in_m fD_Cpu_step (by kernel_rfl) ?_; refine ss_cons ?_; (repeat (walk_at "stp"))
  exact q
theorem step_muli {to k : Nat} {Q} (hR : B[R]? = some (.lst ws)) (hl : ws.length ≤ maxLen) (hi : (i : Int) < ws.length) (hi2 : (ws.length : Int) < 2 ^ 62) (hr : ws[(i : Int).toNat]? = some (Row.muli to k).toV) (hf : to < 4 ∧ k < 4) (hx : -(2 ^ 64) < tsg (r (k : Int).toNat) ∧ tsg (r (k : Int).toNat) < 2 ^ 64)
    (q : Q .none (SA B w R r h ((i : Int) + 1) (to : Int).toNat (mulA (r (k : Int).toNat) ((38888 : Int).fmod 4294967296)))) : wV (phi T0 (n + 5) (.meth cC "step") [.ref (B.length + 4)] (CS B w (fl B.length R h a z c v (i : Int)) (regsV r))) Q := by
  refine in_m fD_Cpu_step (by kernel_rfl) ?_; refine ss_cons ?_; (repeat (walk_at "stp"))
  exact q
theorem step_geth {to : Nat} {Q} (hR : B[R]? = some (.lst ws)) (hl : ws.length ≤ maxLen) (hi : (i : Int) < ws.length) (hi2 : (ws.length : Int) < 2 ^ 62) (hr : ws[(i : Int).toNat]? = some (Row.geth to).toV) (hf : to < 4)
    (q : Q .none (SA B w R r h ((i : Int) + 1) (to : Int).toNat (movA h))) : wV (phi T0 (n + 5) (.meth cC "step") [.ref (B.length + 4)] (CS B w (fl B.length R h a z c v (i : Int)) (regsV r))) Q := by
  refine in_m fD_Cpu_step (by kernel_rfl) ?_; refine ss_cons ?_; (repeat (walk_at "stp"))
  exact q
theorem step_ldr {to k : Nat} {Q} (hR : B[R]? = some (.lst ws)) (hl : ws.length ≤ maxLen) (hi : (i : Int) < ws.length) (hi2 : (ws.length : Int) < 2 ^ 62) (hr : ws[(i : Int).toNat]? = some (Row.ldr to k).toV) (hf : to < 4 ∧ k < 4) (hw : w.length ≤ maxLen) (hx : 0 ≤ ((r (13 : Int).toNat + 4 * (k : Int)).fmod 4294967296) ∧ ((r (13 : Int).toNat + 4 * (k : Int)).fmod 4294967296) < 32)
    (q : Q .none (CS B w (fl B.length R h a z c v ((i : Int) + 1)) (regsV (upd r (to : Int).toNat (kdfLook w (((r (13 : Int).toNat + 4 * (k : Int)).fmod 4294967296).fdiv 4) 0))))) : wV (phi T0 (n + 5) (.meth cC "step") [.ref (B.length + 4)] (CS B w (fl B.length R h a z c v (i : Int)) (regsV r))) Q := by
  refine in_m fD_Cpu_step (by kernel_rfl) ?_; refine ss_cons ?_; (repeat (walk_at "stp"))
  exact q
theorem step_str {to k : Nat} {Q} (hR : B[R]? = some (.lst ws)) (hl : ws.length ≤ maxLen) (hi : (i : Int) < ws.length) (hi2 : (ws.length : Int) < 2 ^ 62) (hr : ws[(i : Int).toNat]? = some (Row.str to k).toV) (hf : to < 4 ∧ k < 4) (hw : w.length ≤ maxLen) (hx : 0 ≤ ((r (13 : Int).toNat + 4 * (k : Int)).fmod 4294967296) ∧ ((r (13 : Int).toNat + 4 * (k : Int)).fmod 4294967296) < 32)
    (q : Q .none (CS B (kdfPut w (((r (13 : Int).toNat + 4 * (k : Int)).fmod 4294967296).fdiv 4) ((r (to : Int).toNat).fmod 4294967296)) (fl B.length R h a z c v ((i : Int) + 1)) (regsV r))) : wV (phi T0 (n + 5) (.meth cC "step") [.ref (B.length + 4)] (CS B w (fl B.length R h a z c v (i : Int)) (regsV r))) Q := by
  refine in_m fD_Cpu_step (by kernel_rfl) ?_; refine ss_cons ?_; (repeat (walk_at "stp"))
  exact q
theorem step_stb {to k : Nat} {Q} (hR : B[R]? = some (.lst ws)) (hl : ws.length ≤ maxLen) (hi : (i : Int) < ws.length) (hi2 : (ws.length : Int) < 2 ^ 62) (hr : ws[(i : Int).toNat]? = some (Row.stb to k).toV) (hf : to < 4 ∧ k < 4) (hw : w.length ≤ maxLen) (hx : 0 ≤ ((r (13 : Int).toNat + 4 * (k : Int)).fmod 4294967296) ∧ ((r (13 : Int).toNat + 4 * (k : Int)).fmod 4294967296) < 32) (hb : (Builtin.bitAnd (r (to : Int).toNat) 255).natAbs < 2 ^ 64)
    (q : Q .none (CS B (kdfPut w (((r (13 : Int).toNat + 4 * (k : Int)).fmod 4294967296).fdiv 4) ((stbV (kdfLook w (((r (13 : Int).toNat + 4 * (k : Int)).fmod 4294967296).fdiv 4) 0) (r (to : Int).toNat) ((r (13 : Int).toNat + 4 * (k : Int)).fmod 4294967296)).fmod 4294967296)) (fl B.length R h a z c v ((i : Int) + 1)) (regsV r))) : wV (phi T0 (n + 5) (.meth cC "step") [.ref (B.length + 4)] (CS B w (fl B.length R h a z c v (i : Int)) (regsV r))) Q := by
  refine in_m fD_Cpu_step (by kernel_rfl) ?_; refine ss_cons ?_; (repeat (walk_at "stp"))
  exact q
theorem step_jmp {cd : Cd} {off : Nat} {Q} (hR : B[R]? = some (.lst ws)) (hl : ws.length ≤ maxLen) (hi : (i : Int) < ws.length) (hi2 : (ws.length : Int) < 2 ^ 62) (hr : ws[(i : Int).toNat]? = some (Row.jmp cd off).toV) 
    (q : Q .none (CS B w (fl B.length R h a z c v (if cd.hold a z c v then (i : Int) + 1 + off else (i : Int) + 1)) (regsV r))) : wV (phi T0 (n + 5) (.meth cC "step") [.ref (B.length + 4)] (CS B w (fl B.length R h a z c v (i : Int)) (regsV r))) Q := by
  refine in_m fD_Cpu_step (by kernel_rfl) ?_; refine ss_cons ?_; (repeat (walk_at "stp"))
  exact q
theorem step_halt  {Q} (hR : B[R]? = some (.lst ws)) (hl : ws.length ≤ maxLen) (hi : (i : Int) < ws.length) (hi2 : (ws.length : Int) < 2 ^ 62) (hr : ws[(i : Int).toNat]? = some (Row.halt).toV) 
    (q : Q .none (CS B w (fl B.length R h a z c v (r (15 : Int).toNat)) (regsV r))) : wV (phi T0 (n + 5) (.meth cC "step") [.ref (B.length + 4)] (CS B w (fl B.length R h a z c v (i : Int)) (regsV r))) Q := by
  refine in_m fD_Cpu_step (by kernel_rfl) ?_; refine ss_cons ?_; (repeat (walk_at "stp"))
  exact q
theorem step_end {p : Int} {Q} (hR : B[R]? = some (.lst ws)) (hl : ws.length ≤ maxLen) (hi : (ws.length : Int) ≤ p)
    (q : Q (.tup [.str "trap", .int 15, .int 0]) (CS B w (fl B.length R h a z c v p) (regsV r))) : wV (phi T0 (n + 5) (.meth cC "step") [.ref (B.length + 4)] (CS B w (fl B.length R h a z c v p) (regsV r))) Q := by
  have h0 : ¬ p < 0 := by lia
  refine in_m fD_Cpu_step (by kernel_rfl) ?_; refine ss_cons ?_; (repeat (walk_at "stp"))
  exact q
end
theorem and_mask (x : Int) : 0 ≤ Builtin.bitAnd x 4294967295 ∧ Builtin.bitAnd x 4294967295 < 4294967296 := by
  unfold Builtin.bitAnd
  rw [show decide ((0 : Int) ≤ 4294967295) = true from rfl]
  by_cases h : 0 ≤ x
  · rw [decide_eq_true h]
    have h1 : (x.toNat &&& (4294967295 : Int).toNat) ≤ (4294967295 : Int).toNat := Nat.and_le_right
    have e : (4294967295 : Int).toNat = 4294967295 := rfl
    simp only
    generalize (x.toNat &&& (4294967295 : Int).toNat) = t at *
    lia
  · rw [decide_eq_false h]
    have h1 : ((4294967295 : Int).toNat &&& (Builtin.bitNot x).toNat) ≤ (4294967295 : Int).toNat := Nat.and_le_left
    have e : (4294967295 : Int).toNat = 4294967295 := rfl
    simp only
    generalize ((4294967295 : Int).toNat &&& (Builtin.bitNot x).toNat) = t at *
    lia
theorem and_nn (x y : Int) (hx : 0 ≤ x) (hy : 0 ≤ y) : 0 ≤ Builtin.bitAnd x y ∧ Builtin.bitAnd x y ≤ y := by
  unfold Builtin.bitAnd
  rw [decide_eq_true hx, decide_eq_true hy]
  have : (x.toNat &&& y.toNat) ≤ y.toNat := Nat.and_le_right
  simp only
  lia
theorem xor_b (x y : Int) (hx : 0 ≤ x ∧ x < 4294967296) (hy : 0 ≤ y ∧ y < 4294967296) : 0 ≤ Builtin.bitXor x y ∧ Builtin.bitXor x y < 4294967296 := by
  obtain ⟨a, rfl⟩ := Int.eq_ofNat_of_zero_le hx.1
  obtain ⟨b, rfl⟩ := Int.eq_ofNat_of_zero_le hy.1
  unfold Builtin.bitXor
  rw [bitOr_nat, bitAnd_nat]
  have h1 : (a &&& b) ≤ a := Nat.and_le_left
  have h2 : a ≤ (a ||| b) := Nat.left_le_or
  have h3 : (a ||| b) < 2 ^ 32 := Nat.or_lt_two_pow (by lia) (by lia)
  lia
theorem tsg_b (x : Int) (hx : 0 ≤ x ∧ x < 4294967296) : -(2 ^ 64) < tsg x ∧ tsg x < 2 ^ 64 := by
  have := and_nn x 2147483648 hx.1 (by lia)
  unfold tsg
  lia
structure M where
  r : Nat → Int
  h : Int
  n : Int
  z : Int
  c : Int
  v : Int
  pc : Int
  w : List (Int × Int)
noncomputable def M.st (m : M) (B : Store) (R : Nat) : Store := CS B m.w (fl B.length R m.h m.n m.z m.c m.v m.pc) (regsV m.r)
noncomputable def M.setA (m : M) (to : Nat) (ar : AR) : M := { m with r := upd m.r to ar.r, h := ar.h.getD m.h, n := ar.n, z := ar.z, c := ar.c, v := ar.v }
noncomputable def stepM (row : Row) (m0 : M) : M :=
  let m : M := { m0 with pc := m0.pc + 1 }
  match row with
  | .movi to x => m.setA to (movA (x.fmod 4294967296))
  | .alu op to a b => m.setA to (op.run (m.r a) (m.r b))
  | .geth to => m.setA to (movA m.h)
  | .addi to a => m.setA to (addA (m.r a) 1)
  | .muli to a => m.setA to (mulA (m.r a) 38888)
  | .str to k => { m with w := kdfPut m.w (k : Int) ((m.r to).fmod 4294967296) }
  | .ldr to k => { m with r := upd m.r to (kdfLook m.w (k : Int) 0) }
  | .stb to k => { m with w := kdfPut m.w (k : Int) ((stbV (kdfLook m.w (k : Int) 0) (m.r to) (4 * (k : Int))).fmod 4294967296) }
  | .jmp cd off => { m with pc := if cd.hold m.n m.z m.c m.v then m.pc + off else m.pc }
  | .halt => { m with pc := m.r 15 }
noncomputable def W32 (x : Int) : Prop := 0 ≤ x ∧ x < 4294967296
structure GoodM (m : M) : Prop where
  r : ∀ i, i < 16 → W32 (m.r i)
  h : W32 m.h
  z : m.r 13 = 0
  l : m.r 15 = 500
  w : ∀ p ∈ m.w, W32 p.2
  len : m.w.length ≤ 100 ∧ ∀ k : Nat, k < 4 → kdfHas m.w (k : Int) = true
theorem fmodW (x : Int) : W32 (x.fmod 4294967296) := ⟨Int.fmod_nonneg_of_pos _ (by lia), Int.fmod_lt_of_pos _ (by lia)⟩
theorem look_W {c : List (Int × Int)} {k : Int} (h : ∀ p ∈ c, W32 p.2) : W32 (kdfLook c k 0) := by
  unfold kdfLook
  cases e : c.find? fun p => decide (p.1 = k) with
  | none => exact ⟨by decide, by decide⟩
  | some p => exact h p (List.mem_of_find?_eq_some e)
theorem put_W {c : List (Int × Int)} {k v : Int} (h : ∀ p ∈ c, W32 p.2) (hv : W32 v) : ∀ p ∈ kdfPut c k v, W32 p.2 := by
  unfold kdfPut
  intro p hp
  split at hp
  · rw [List.mem_map] at hp
    obtain ⟨q, hq, rfl⟩ := hp
    split
    · exact hv
    · exact h q hq
  · rw [List.mem_append] at hp
    rcases hp with hp | hp
    · exact h p hp
    · rw [List.mem_singleton] at hp; rw [hp]; exact hv
theorem upd_ne {r : Nat → Int} {k i : Nat} {x : Int} (h : i ≠ k) : upd r k x i = r i := by unfold upd; rw [if_neg h]
theorem good_set {m : M} {to : Nat} {ar : AR} (hg : GoodM m) (ht : to < 4) (h1 : W32 ar.r) (h2 : W32 (ar.h.getD m.h)) : GoodM (m.setA to ar) := by
  refine ⟨fun i hi => ?_, h2, ?_, ?_, hg.w, hg.len⟩
  · show W32 (upd m.r to ar.r i)
    unfold upd
    split
    · exact h1
    · exact hg.r i hi
  · show upd m.r to ar.r 13 = 0
    rw [upd_ne (by lia)]; exact hg.z
  · show upd m.r to ar.r 15 = 500
    rw [upd_ne (by lia)]; exact hg.l
theorem good_pc {m : M} {p : Int} (hg : GoodM m) : GoodM { m with pc := p } := ⟨hg.r, hg.h, hg.z, hg.l, hg.w, hg.len⟩
theorem good_put {m : M} {k : Nat} {x : Int} (hg : GoodM m) (hk : k < 4) : GoodM { m with w := kdfPut m.w (k : Int) (x.fmod 4294967296) } := by
  refine ⟨hg.r, hg.h, hg.z, hg.l, put_W hg.w (fmodW x), ?_, fun j hj => ?_⟩
  · show (kdfPut m.w (k : Int) (x.fmod 4294967296)).length ≤ 100
    rw [kdfPut_len_has (hg.len.2 k hk)]; exact hg.len.1
  · show kdfHas (kdfPut m.w (k : Int) (x.fmod 4294967296)) (j : Int) = true
    rw [kdyHas_put, hg.len.2 j hj, Bool.or_true]
theorem good_step {m : M} {row : Row} (hg : GoodM m) (hf : row.Fit) : GoodM (stepM row m) := by
  have g1 : GoodM { m with pc := m.pc + 1 } := good_pc hg
  rcases row with ⟨to, x⟩ | ⟨op, to, k, j⟩ | ⟨to⟩ | ⟨to, k⟩ | ⟨to, k⟩ | ⟨to, k⟩ | ⟨to, k⟩ | ⟨to, k⟩ | ⟨cd, off⟩ | _
  all_goals simp only [Row.Fit] at hf
  · exact good_set g1 hf (fmodW x) hg.h
  · cases op
    · exact good_set g1 hf.1 (and_mask _) hg.h
    · exact good_set g1 hf.1 (and_mask _) hg.h
    · exact good_set g1 hf.1 (and_mask _) (and_mask _)
    · exact good_set g1 hf.1 (xor_b _ _ (hg.r k (by lia)) (hg.r j (by lia))) hg.h
  · exact good_set g1 hf hg.h hg.h
  · exact good_set g1 hf.1 (and_mask _) hg.h
  · exact good_set g1 hf.1 (and_mask _) (and_mask _)
  · exact good_put g1 hf.2
  · refine ⟨fun i hi => ?_, hg.h, ?_, ?_, hg.w, hg.len⟩
    · show W32 (upd m.r to (kdfLook m.w (k : Int) 0) i)
      unfold upd
      split
      · exact look_W hg.w
      · exact hg.r i hi
    · show upd m.r to _ 13 = 0
      rw [upd_ne (by lia)]; exact hg.z
    · show upd m.r to _ 15 = 500
      rw [upd_ne (by lia)]; exact hg.l
  · exact good_put g1 hf.2
  · exact good_pc g1
  · exact good_pc g1
theorem step_w {B : Store} {R i : Nat} {rs : List Row} {row : Row} {m : M} {Q} (hR : B[R]? = some (.lst (rs.map Row.toV))) (hl : rs.length ≤ maxLen) (hr : rs[i]? = some row) (hf : row.Fit) (hp : m.pc = (i : Int)) (hg : GoodM m)
    (q : Q .none ((stepM row m).st B R)) : wV (phi T0 (n + 5) (.meth cC "step") [.ref (B.length + 4)] (m.st B R)) Q := by
  obtain ⟨r, h, a, z, c, v, pc, w⟩ := m
  simp only at hp
  subst hp
  have hi : i < rs.length := by
    rcases Nat.lt_or_ge i rs.length with h1 | h1
    · exact h1
    · rw [List.getElem?_eq_none h1] at hr; exact absurd hr (by simp)
  have hl' : (rs.map Row.toV).length ≤ maxLen := by rw [List.length_map]; exact hl
  have hi' : (i : Int) < ((rs.map Row.toV).length : Int) := by rw [List.length_map]; lia
  have hi2 : (((rs.map Row.toV).length : Nat) : Int) < 2 ^ 62 := by
    have : maxLen = 1000 := rfl
    lia
  have hr' : (rs.map Row.toV)[(i : Int).toNat]? = some row.toV := by simp [hr]
  have hk : ∀ k : Nat, k < 4 → tsg (r (k : Int).toNat) > -(2 ^ 64) ∧ tsg (r (k : Int).toNat) < 2 ^ 64 := fun k hk => tsg_b _ (hg.r k (by lia))
  have hw : w.length ≤ maxLen := by have := hg.len.1; have e : maxLen = 1000 := rfl; simp only at this; lia
  have hX : ∀ k : Nat, k < 4 → (r (13 : Int).toNat + 4 * (k : Int)).fmod 4294967296 = 4 * (k : Int) := fun k hk => by
    rw [show r (13 : Int).toNat = 0 from hg.z, Int.zero_add]
    exact Int.fmod_eq_of_lt (by lia) (by lia)
  have hD : ∀ k : Nat, (4 * (k : Int)).fdiv 4 = (k : Int) := fun k => by
    rw [Int.mul_fdiv_cancel_left _ (by lia)]
  have hb : ∀ to : Nat, to < 4 → (Builtin.bitAnd (r (to : Int).toNat) 255).natAbs < 2 ^ 64 := fun to ht => by
    have := and_nn (r (to : Int).toNat) 255 (hg.r to (by lia)).1 (by lia)
    lia
  unfold M.st
  rcases row with ⟨to, x⟩ | ⟨op, to, k, j⟩ | ⟨to⟩ | ⟨to, k⟩ | ⟨to, k⟩ | ⟨to, k⟩ | ⟨to, k⟩ | ⟨to, k⟩ | ⟨cd, off⟩ | _
  all_goals simp only [Row.Fit] at hf
  · exact step_movi hR hl' hi' hi2 hr' hf q
  · exact step_alu hR hl' hi' hi2 hr' hf (hk k hf.2.1) q
  · exact step_geth hR hl' hi' hi2 hr' hf q
  · exact step_addi hR hl' hi' hi2 hr' hf (hk k hf.2) q
  · exact step_muli hR hl' hi' hi2 hr' hf (hk k hf.2) q
  · refine step_str hR hl' hi' hi2 hr' hf hw (by rw [hX k hf.2]; lia) ?_
    rw [hX k hf.2, hD k]; exact q
  · refine step_ldr hR hl' hi' hi2 hr' hf hw (by rw [hX k hf.2]; lia) ?_
    rw [hX k hf.2, hD k]; exact q
  · refine step_stb hR hl' hi' hi2 hr' hf hw (by rw [hX k hf.2]; lia) (hb to hf.1) ?_
    rw [hX k hf.2, hD k]; exact q
  · exact step_jmp hR hl' hi' hi2 hr' q
  · exact step_halt hR hl' hi' hi2 hr' q
noncomputable def runM (rs : List Row) : Nat → M → M
  | 0, m => m
  | k + 1, m => match rs[m.pc.toNat]? with
    | some row => runM rs k (stepM row m)
    | none => m
theorem pc_step {row : Row} {m : M} {len i : Nat} (hl : len ≤ 11) (hok : row.Ok len i) (hg : GoodM m) (hp : m.pc = (i : Int)) (hi : i < len) : ∃ j : Nat, (stepM row m).pc = (j : Int) ∧ i < j := by
  rcases row with ⟨to, x⟩ | ⟨op, to, k, j⟩ | ⟨to⟩ | ⟨to, k⟩ | ⟨to, k⟩ | ⟨to, k⟩ | ⟨to, k⟩ | ⟨to, k⟩ | ⟨cd, off⟩ | _
  case jmp =>
    by_cases h : cd.hold m.n m.z m.c m.v = true
    · exact ⟨i + 1 + off, by simp [stepM, h, hp], by lia⟩
    · exact ⟨i + 1, by simp [stepM, h, hp], by lia⟩
  case halt => exact ⟨500, by simp [stepM, hg.l], by lia⟩
  all_goals exact ⟨i + 1, by simp [stepM, M.setA, hp], by lia⟩
theorem range_get {N k : Nat} {i : Int} (h : ((List.range N).map fun (i : Nat) => (i : Int))[k]? = some i) : k < N ∧ i = (k : Int) := by
  rw [List.getElem?_map] at h
  rcases Nat.lt_or_ge k N with h1 | h1
  · rw [List.getElem?_range h1] at h
    simp only [Option.map_some, Option.some.injEq] at h
    exact ⟨h1, h.symm⟩
  · rw [List.getElem?_eq_none (by simpa using h1)] at h; exact absurd h (by simp)
theorem run_w {B : Store} {R : Nat} {rs : List Row} {m : M} {Q} (hR : B[R]? = some (.lst (rs.map Row.toV))) (hl : rs.length ≤ 11) (hok : ∀ (i : Nat) (row : Row), rs[i]? = some row → row.Fit ∧ row.Ok rs.length i) (hg : GoodM m) (hp : m.pc = 0)
    (q : ∀ s : Int, Q (.tup [.tup [.str "trap", .int 15, .int 0], .int s]) ((runM rs 40 m).st B R)) : wV (phi T0 (n + 6) (.meth cC "run") [.ref (B.length + 4), .int 40] (m.st B R)) Q := by
  have hlm : rs.length ≤ maxLen := by have e : maxLen = 1000 := rfl; lia
  refine in_m fD_Cpu_run (by kernel_rfl) ?_
  refine ss_cons ?_
  refine s_forR (by kernel_rfl) ?_
  refine range1 (by kernel_rfl) ?_
  (repeat (walk_at "stp"))
  refine ⟨by decide, ?_⟩
  refine forI_inv (fun k ρ σ => ∃ (m' : M) (i : Nat), σ = m'.st B R ∧ ρ "self" = some (.ref (B.length + 4)) ∧ runM rs (40 - k) m' = runM rs 40 m ∧ GoodM m' ∧ m'.pc = (i : Int) ∧ k ≤ i ∧ k ≤ rs.length) _ 0 _ _ ⟨m, 0, rfl, rfl, rfl, hg, hp, Nat.zero_le _, Nat.zero_le _⟩ ?_ ?_
  · rintro k i ρ σ hk ⟨m', j, rfl, hs, hm, hg', hj, hkj, hkl⟩
    obtain ⟨hk40, rfl⟩ := range_get hk
    rw [Nat.zero_add] at *
    (repeat (walk_at "stp"))
    have hk41 : k < 40 := hk40
    refine ex_me (C := cC) (d := _) (fs := _) cs_c (by kernel_rfl) (by kernel_rfl) ?_
    (repeat (walk_at "stp"))
    rcases Nat.lt_or_ge j rs.length with hlt | hge
    · obtain ⟨row, hr⟩ : ∃ row, rs[j]? = some row := ⟨rs[j], List.getElem?_eq_getElem hlt⟩
      obtain ⟨hf, ho⟩ := hok j row hr
      obtain ⟨j', hj', hjj⟩ := pc_step hl ho hg' hj hlt
      refine step_w hR hlm hr hf hj hg' ?_
      (repeat (walk_at "stp"))
      refine ⟨stepM row m', j', rfl, by walk_at "L", ?_, good_step hg' hf, hj', by lia, by lia⟩
      rw [← hm, show 40 - k = (40 - (k + 1)) + 1 from by lia]
      have : rs[m'.pc.toNat]? = some row := by rw [hj]; exact hr
      simp only [runM, this]
    · have hne : rs[m'.pc.toNat]? = none := by rw [hj]; exact List.getElem?_eq_none hge
      have hfin : runM rs 40 m = m' := by
        rw [← hm, show 40 - k = (40 - (k + 1)) + 1 from by lia]
        simp only [runM, hne]
      refine step_end (p := m'.pc) hR (by rw [List.length_map]; exact hlm) (by rw [List.length_map, hj]; lia) ?_
      (repeat (walk_at "stp"))
      rw [hfin] at q
      exact q _
  · rintro ρ σ ⟨m', j, rfl, hs, hm, hg', hj, hkj, hkl⟩
    simp at hkl
    lia
theorem forI_nil {C : Cfg} {I : Itp} {Γ : Scope} {ρ : Rho} {t : Expr} {body : List Stmt} {Q : FlowA → Rho → Store → Prop} (q : Q .next ρ σ) : wF (forI C I Γ t body ρ σ []) Q := rt3 q
theorem forI_cons {C : Cfg} {I : Itp} {Γ : Scope} {ρ : Rho} {t : Expr} {body : List Stmt} {i : Int} {is : List Int} {Q : FlowA → Rho → Store → Prop} (h : wR (asg C I Γ ρ σ t (.int i)) fun ρ1 σ1 => wF (I.ss Γ ρ1 σ1 body) fun f ρ2 σ2 => loopK f (wF (forI C I Γ t body ρ2 σ2 is) Q) (Q .next ρ2 σ2) (fun v => Q (.ret v) ρ2 σ2)) : wF (forI C I Γ t body ρ σ (i :: is)) Q :=
  b23 h fun _ _ h => b33 h fun _ _ _ h => lk h fun h => h
theorem hid_ne {Γ : Scope} {ρ : Rho} {y : Str} {v : V} (h : decide (Γ.names.lookup y = some .local) = false) (e : ρ y = some v) : hideL Γ ρ y = some v := by
  unfold hideL; rw [if_neg (of_decide_eq_false h)]; exact e
noncomputable def IN (τ : Store) (f : List (Str × V)) (C : Addr) (rest : List O) : Store := τ ++ (.ns f :: .inst C τ.length :: rest)
section
variable {τ : Store} {f f' : List (Str × V)} {C : Addr} {rest : List O} {o : O}
theorem in_i : instOf (IN τ f C rest) (.ref (τ.length + 1)) = some (C, τ.length, f) := by simp [instOf, IN]
theorem in_set : (IN τ f C rest).set τ.length (.ns f') = IN τ f' C rest := by simp [IN]
theorem in_app : IN τ f C rest ++ [o] = IN τ f C (rest ++ [o]) := by simp [IN]
theorem in_len : (IN τ f C rest).length = τ.length + 2 + rest.length := by simp [IN]; lia
theorem in_new : τ ++ [.ns [], .inst C τ.length] = IN τ [] C [] := rfl
end
theorem mem_new {Q} (q : Q (.ref (σ.length + 1)) (IN σ (mf (σ.length + 2)) cM [.dct []])) : wV (phi T0 (n + 1) (.glob "Memory") [.int 32] σ) Q := by
  refine phi_c (cl := cM) (by kernel_rfl) fD_Memory_init ?_
  rw [in_new]
  refine run_of (by kernel_rfl) ?_
  refine ss_cons ?_
  (repeat (walk_at "stp"))
  refine val2_eq q rfl ?_
  simp only [in_len]
  kernel_rfl
theorem cpu_new {a : Nat} {Q} (q : Q (.ref (σ.length + 1)) (IN σ [("memory", .ref a), ("regs", .ref (σ.length + 3)), ("h", .int 0), ("n", .int 0), ("z", .int 0), ("c", .int 0), ("v", .int 0), ("pc", .int 0), ("rows", .ref (σ.length + 4))] cC [.lst [.int 0], .lst (List.replicate 16 (.int 0)), .lst []])) : wV (phi T0 (n + 1) (.glob "Cpu") [.ref a] σ) Q := by
  refine phi_c (cl := cC) (by kernel_rfl) fD_Cpu_init ?_
  rw [in_new]
  refine run_of (by kernel_rfl) ?_
  refine ss_cons ?_
  (repeat (walk_at "stp"))
  refine val2_eq q rfl ?_
  simp only [in_len]
  kernel_rfl
noncomputable def CS0 (B : Store) (w : List (Int × Int)) (f : List (Str × V)) : Store := B ++ [.ns (mf (B.length + 2)), .inst cM B.length, .dct w, .ns f, .inst cC (B.length + 3), .lst [.int 0], .lst (List.replicate 16 (.int 0)), .lst []]
section
variable {B : Store} {w w' : List (Int × Int)} {f f' : List (Str × V)} {g : List V} {R : Nat} {o : O}
theorem c0_m : instOf (CS0 B w f) (.ref (B.length + 1)) = some (cM, B.length, mf (B.length + 2)) := by simp [instOf, CS0]
theorem c0_c : instOf (CS0 B w f) (.ref (B.length + 4)) = some (cC, B.length + 3, f) := by simp [instOf, CS0]
theorem c0_w : (CS0 B w f)[B.length + 2]? = some (.dct w) := by simp [CS0]
theorem c0_o (h : B[R]? = some o) : (CS0 B w f)[R]? = some o := sg_app h
theorem s0_2 : (CS0 B w f).set (B.length + 2) (.dct w') = CS0 B w' f := by simp [CS0]
theorem s0_3 : (CS0 B w f).set (B.length + 3) (.ns f') = CS0 B w f' := by simp [CS0]
theorem s0_8 : CS0 B w f ++ [.lst g] = CS B w f g := by simp [CS0, CS]
theorem l0 : (CS0 B w f).length = B.length + 8 := by simp [CS0]
end
noncomputable def fl0 (L R G : Nat) (h : Int) : List (Str × V) := [("memory", .ref (L + 1)), ("regs", .ref G), ("h", .int h), ("n", .int 0), ("z", .int 0), ("c", .int 0), ("v", .int 0), ("pc", .int 0), ("rows", .ref R)]
theorem new_cpu : IN (IN σ (mf (σ.length + 2)) cM [.dct []]) [("memory", .ref (σ.length + 1)), ("regs", .ref ((IN σ (mf (σ.length + 2)) cM [.dct []]).length + 3)), ("h", .int 0), ("n", .int 0), ("z", .int 0), ("c", .int 0), ("v", .int 0), ("pc", .int 0), ("rows", .ref ((IN σ (mf (σ.length + 2)) cM [.dct []]).length + 4))] cC [.lst [.int 0], .lst (List.replicate 16 (.int 0)), .lst []] = CS0 σ [] (fl0 σ.length (σ.length + 7) (σ.length + 6) 0) := by
  rw [in_len]
  simp [IN, CS0, fl0]
theorem new_ref : (IN σ (mf (σ.length + 2)) cM [.dct []]).length + 1 = σ.length + 4 := by
  rw [in_len]; simp
theorem inst_app {σ τ : Store} {v : V} {x : Addr × Nat × List (Str × V)} (h : instOf σ v = some x) : instOf (σ ++ τ) v = some x := by
  unfold instOf at h ⊢
  cases v <;> try (simp at h; done)
  rename_i i
  simp only at h ⊢
  cases e1 : σ[i]? with
  | none => rw [e1] at h; exact absurd h (by simp)
  | some o =>
    rw [e1] at h
    rw [sg_app e1]
    cases o <;> try (simp at h; done)
    rename_i C d
    simp only at h ⊢
    cases e2 : σ[d]? with
    | none => rw [e2] at h; exact absurd h (by simp)
    | some o => rw [e2] at h; rw [sg_app e2]; exact h
noncomputable def keptV (w : List (Int × Int)) (k : Nat) : List V := (List.range k).map fun (j : Nat) => V.int (kdfLook w (j : Int) 0)
theorem keptV_len {w : List (Int × Int)} {k : Nat} : (keptV w k).length = k := by simp [keptV]
theorem keptV_succ {w : List (Int × Int)} {k : Nat} : keptV w k ++ [.int (kdfLook w (k : Int) 0)] = keptV w (k + 1) := by simp [keptV, List.range_succ]
noncomputable def initW (w0 w1 w2 w3 : Int) : List (Int × Int) := [(0, w0.fmod 4294967296), (1, w1.fmod 4294967296), (2, w2.fmod 4294967296), (3, w3.fmod 4294967296)]
theorem pf0_rows {L R R' G : Nat} {h : Int} : putF "rows" (.ref R') (fl0 L R G h) = fl0 L R' G h := by kernel_rfl
theorem pf0_regs {L R G' G : Nat} {h : Int} : putF "regs" (.ref G') (fl0 L R G h) = fl0 L R G' h := by kernel_rfl
theorem pf0_h {L R G : Nat} {h h' : Int} : putF "h" (.int h') (fl0 L R G h) = fl0 L R G h' := by kernel_rfl
theorem init_eq (w0 w1 w2 w3 : Int) : kdfPut (kdfPut (kdfPut (kdfPut [] ((4 * 0 : Int).fdiv 4) (w0.fmod 4294967296)) ((4 * 1 : Int).fdiv 4) (w1.fmod 4294967296)) ((4 * 2 : Int).fdiv 4) (w2.fmod 4294967296)) ((4 * 3 : Int).fdiv 4) (w3.fmod 4294967296) = initW w0 w1 w2 w3 := by kernel_rfl
noncomputable def initM (r0 : Nat → Int) (w0 w1 w2 w3 : Int) : M := ⟨r0, 5, 0, 0, 0, 0, 0, initW w0 w1 w2 w3⟩
theorem fl0_fl {L R : Nat} : fl0 L R (L + 8) 5 = fl L R 5 0 0 0 0 0 := rfl
theorem range4 : ((List.range (Int.toNat 4)).map fun (i : Nat) => (i : Int)) = [0, 1, 2, 3] := rfl
theorem end_w {R S W : Nat} {rs : List Row} {r0 : Nat → Int} {w0 w1 w2 w3 : Int} {Q} (hR : σ[R]? = some (.lst (rs.map Row.toV))) (hS : σ[S]? = some (.lst (regsV r0))) (hW : σ[W]? = some (.lst [.int w0, .int w1, .int w2, .int w3])) (hl : rs.length ≤ 11) (hok : ∀ (i : Nat) (row : Row), rs[i]? = some row → row.Fit ∧ row.Ok rs.length i) (hg : GoodM (initM r0 w0 w1 w2 w3))
    (q : let m := runM rs 40 (initM r0 w0 w1 w2 w3); Q (.tup [.tup [.str "trap", .int 15, .int 0], .int m.pc, .ref (m.st σ R).length, .int (m.r 0), .int (m.r 11), .int (m.r 13), .int (m.r 14)]) (m.st σ R ++ [.lst (keptV m.w 8)])) :
    wV (phi T0 (n + 7) (.glob "_law_end") [.ref R, .ref S, .ref W] σ) Q := by
  have hlS : (regsV r0).length ≤ maxLen := by rw [regsV_len]; decide
  refine in_g fD_law_end (by kernel_rfl) (by kernel_rfl) ?_
  refine ss_cons ?_
  (repeat (walk_at "stp"))
  refine ⟨by decide, ?_⟩
  rw [range4]
  (repeat (walk_at "stp"))
  refine run_w (m := initM r0 w0 w1 w2 w3) hR hl hok hg rfl ?_
  intro s
  generalize runM rs 40 (initM r0 w0 w1 w2 w3) = m at q ⊢
  obtain ⟨r, h, a, z, c, v, pc, w⟩ := m
  unfold M.st at q ⊢
  simp only at q ⊢
  (repeat (walk_at "stp"))
  refine ⟨by decide, ?_⟩
  refine compI_inv (fun k σ' => σ' = CS σ w (fl σ.length R h a z c v pc) (regsV r) ++ [.lst (keptV w k)]) _ 0 _ _ _ (fun _ _ => rfl) rfl ?_ ?_
  · rintro k i ρ σ' hk hr rfl
    obtain ⟨hk8, rfl⟩ := range_get hk
    have hk8' : k < 8 := hk8
    have hcpu : ρ "cpu" = some (.ref (σ.length + 4)) := by
      rw [hr _ (by decide +kernel)]
      exact hid_ne (by kernel_rfl) rfl
    rw [Nat.zero_add] at *
    have hkl : (keptV w k).length ≤ maxLen := by rw [keptV_len]; have e : maxLen = 1000 := rfl; lia
    clear hr
    (repeat (walk_at "stp"))
    rw [Int.mul_fdiv_cancel_left _ (by lia), keptV_succ, set_new]
  · rintro ρ σ' rfl
    (repeat (walk_at "stp"))
    exact q
noncomputable def intV (xs : List Int) : List V := xs.map .int
theorem intV_len {xs : List Int} : (intV xs).length = xs.length := by simp [intV]
theorem intV_snoc {xs : List Int} {x : Int} : intV xs ++ [.int x] = intV (xs ++ [x]) := by simp [intV]
theorem sl_scr {ns : List Int} {k : Int} {Q} (hl : ns.length ≤ maxLen) (hk : 0 ≤ k) (q : Q (.ref σ.length) (σ ++ [.lst (intV (ns.take k.toNat))])) : wV (sliceV σ (.scr ns) .none (.int k)) Q :=
  ⟨_, _, by simp only [sliceV, asInt, Option.bind_some, if_pos hl, cutL, if_pos hk, newO]; rfl, q⟩
theorem sl_lst {i : Nat} {xs : List V} {k : Int} {Q} (h : σ[i]? = some (.lst xs)) (hl : xs.length ≤ maxLen) (hk : 0 ≤ k) (q : Q (.ref σ.length) (σ ++ [.lst (xs.take k.toNat)])) : wV (sliceV σ (.ref i) .none (.int k)) Q :=
  ⟨_, _, by simp only [sliceV, asInt, Option.bind_some, h, if_pos hl, cutL, if_pos hk, newO], q⟩
theorem sl_lstL {i : Nat} {xs : List V} {k : Int} {Q} (h : σ[i]? = some (.lst xs)) (hl : xs.length ≤ maxLen) (hk : 0 ≤ k) (q : Q (.ref σ.length) (σ ++ [.lst (xs.drop k.toNat)])) : wV (sliceV σ (.ref i) (.int k) .none) Q :=
  ⟨_, _, by simp only [sliceV, asInt, Option.bind_some, h, if_pos hl, cutL, if_pos hk, newO], q⟩
theorem len1 {σ : Store} {o : O} : (σ ++ [o]).length = σ.length + 1 := by simp
noncomputable def Shelf (σ : Store) (k : Nat) : Prop := ∃ xs : List Int, σ[k]? = some (.lst (intV xs)) ∧ xs.length ≤ 560
theorem pods_w {ns : List Int} {Q} (hl : ns.length ≤ 63) (q : ∀ (k : Nat) (σ' : Store), Shelf σ' k → Q (.ref k) σ') : wV (phi T0 (n + 1) (.glob "_law_pods") [.scr ns] σ) Q := by
  have hlm : ns.length ≤ maxLen := by have e : maxLen = 1000 := rfl; lia
  refine in_g fD_law_pods (by kernel_rfl) (by kernel_rfl) ?_
  refine ss_cons ?_
  (repeat (walk_at "stp"))
  refine sl_scr hlm (by decide) ?_
  refine ⟨_, rfl, ?_⟩
  have ht : (ns.take (Int.toNat 40)).length ≤ 40 := by rw [List.length_take]; exact Nat.min_le_left _ _
  generalize ns.take (Int.toNat 40) = ts at ht ⊢
  rw [len1]
  refine forL_inv (ws := intV ts) (fun k ρ σ' => k ≤ 40 ∧ ρ "shelf" = some (.ref σ.length) ∧ σ'[σ.length + 1]? = some (.lst (intV ts)) ∧ ∃ xs : List Int, σ'[σ.length]? = some (.lst (intV xs)) ∧ xs.length ≤ 14 * k) (by rw [intV_len]; have e : maxLen = 1000 := rfl; lia) (fun _ _ _ h => h.2.2.1) ?_ ?_ ?_
  · exact ⟨by lia, rfl, by simp, [], by simp [intV], by simp⟩
  · rintro k v ρ σ' hk ⟨hk40, hs, ht', xs, hx, hxl⟩
    have hkl : k < ts.length := by
      rcases Nat.lt_or_ge k ts.length with h1 | h1
      · exact h1
      · rw [List.getElem?_eq_none (by rw [intV_len]; exact h1)] at hk; exact absurd hk (by simp)
    have hv : v = .int ts[k] := by
      rw [intV, List.getElem?_map, List.getElem?_eq_getElem hkl] at hk
      simpa using hk.symm
    subst hv
    (repeat (walk_at "stp"))
    refine cD (fun _ => ?_) (fun _ => ?_)
    all_goals
      (repeat (walk_at "stp"))
      refine ⟨by decide, ?_⟩
      refine forI_inv (fun j ρ σ' => (∃ i : Int, ρ "left" = some (.int i)) ∧ ρ "shelf" = some (.ref σ.length) ∧ σ'[σ.length + 1]? = some (.lst (intV ts)) ∧ ∃ xs : List Int, σ'[σ.length]? = some (.lst (intV xs)) ∧ xs.length ≤ 14 * k + j) _ 0 _ _ ⟨⟨_, rfl⟩, by walk_at "L", ht', xs, hx, hxl⟩ ?_ ?_
      · rintro j i ρ σ' hj ⟨⟨i', hi'⟩, hs, ht', xs, hx, hxl⟩
        obtain ⟨hj14, rfl⟩ := range_get hj
        rw [Nat.zero_add] at *
        have hj14' : j < 14 := hj14
        have hxm : (intV xs).length ≤ maxLen := by rw [intV_len]; have e : maxLen = 1000 := rfl; lia
        (repeat (walk_at "stp"))
        refine cD (fun _ => ?_) (fun _ => ?_)
        · (repeat (walk_at "stp"))
          refine ⟨by walk_at "L", sg_set_ne (by lia) ht', xs ++ [i'.fmod 113], ?_, ?_⟩
          · rw [intV_snoc]; exact sg_set_eq hx
          · rw [List.length_append, List.length_singleton]; lia
        · (repeat (walk_at "stp"))
          refine ⟨⟨_, rs_eq⟩, by walk_at "L", sg_set_ne (by lia) ht', xs ++ [i'.fmod 113], ?_, ?_⟩
          · rw [intV_snoc]; exact sg_set_eq hx
          · rw [List.length_append, List.length_singleton]; lia
      · rintro ρ σ' ⟨⟨i', hi'⟩, hs, ht', xs, hx, hxl⟩
        (repeat (walk_at "stp"))
        simp at hxl
        lia
  · rintro ρ σ' ⟨hk40, hs, ht', xs, hx, hxl⟩
    (repeat (walk_at "stp"))
    have hxm : (intV xs).length ≤ maxLen := by rw [intV_len]; rw [intV_len] at hxl; have e : maxLen = 1000 := rfl; lia
    refine sl_lst hx hxm (by decide) ?_
    (repeat (walk_at "stp"))
    refine q _ _ ⟨xs.take 90, ?_, ?_⟩
    · rw [sg_new]; simp [intV]
    · rw [List.length_take]; exact Nat.le_trans (Nat.min_le_left _ _) (by decide)
noncomputable def PodE (k : Nat) (σ σ' : Store) : Prop := Shelf σ' k ∧ (∀ (i : Nat) (o : O), i ≠ k → σ[i]? = some o → σ'[i]? = some o) ∧ σ.length ≤ σ'.length
theorem flat_ints : ∀ xs : List Int, flatDs (intV xs) = some (xs.map PyData.int)
  | [] => rfl
  | x :: r => (congrArg (fun o => Option.bind (some (PyData.int x)) fun d => Option.bind o fun ds => some (d :: ds)) (flat_ints r) :)
theorem toD_ref {xs : List Int} {k m : Nat} (h : σ[k]? = some (.lst (intV xs))) : toD σ (m + 1) (.ref k) = some (.list (xs.map PyData.int)) := by
  show (match (generalizing := false) σ[k]? with | some (.lst vs) => (flatDs vs).map PyData.list | _ => none) = _
  rw [h]; exact congrArg (Option.map PyData.list) (flat_ints xs)
theorem eqD_refs {xs : List Int} {k j : Nat} (h : σ[k]? = some (.lst (intV xs))) (h2 : σ[j]? = some (.lst [])) : eqD σ (.ref k) (.ref j) = some xs.isEmpty := by
  unfold eqD
  rw [toD_ref h, toD_ref (xs := []) h2]
  refine (if_pos ?_).trans ?_
  · rw [ke_shaped_ints]; rfl
  · cases xs <;> rfl
theorem c_shelf {xs : List Int} {k j : Nat} {P : Bool → Prop} (h : σ[k]? = some (.lst (intV xs))) (h2 : σ[j]? = some (.lst [])) (b : Bool) (hb : xs.isEmpty = b) (p : P (!b)) : wC (cmpV .NotEq (.ref k) (.ref j) σ) P :=
  ⟨!b, hb ▸ congrArg (Option.map (!·)) (eqD_refs h h2), p⟩
theorem pod_w {k : Nat} {m : Int} {Q} (hS : Shelf σ k) (hm : 0 < m) (q : ∀ (x : Nat) (σ' : Store), (x : Int) < m → PodE k σ σ' → Q (.int (x : Int)) σ') : wV (phi T0 (n + 1) (.glob "_law_pod") [.ref k, .int m] σ) Q := by
  obtain ⟨xs, hx, hxl⟩ := hS
  have hlt := sg_lt hx
  have hm0 : m ≠ 0 := by lia
  refine in_g fD_law_pod (by kernel_rfl) (by kernel_rfl) ?_
  refine ss_cons ?_
  (repeat (walk_at "stp"))
  cases xs with
  | nil =>
    refine c_shelf (sg_app hx) sg_new true rfl ?_
    (repeat (walk_at "stp"))
    exact q 0 _ hm ⟨⟨[], sg_app hx, by simp⟩, fun i o _ h => sg_app h, by simp⟩
  | cons x r =>
    refine c_shelf (sg_app hx) sg_new false rfl ?_
    (repeat (walk_at "stp"))
    refine ⟨_, _, _, rfl, sg_app hx, by rw [intV_len]; have e : maxLen = 1000 := rfl; lia, rfl, ?_⟩
    (repeat (walk_at "stp"))
    have h1 := Int.fmod_nonneg_of_pos x hm
    have h2 := Int.fmod_lt_of_pos x hm
    have q' := q (x.fmod m).toNat ((σ ++ [O.lst []]).set k (O.lst ((intV (x :: r)).eraseIdx 0))) (by lia) ⟨⟨r, sg_set_eq (sg_app hx), by simp only [List.length_cons] at hxl; lia⟩, fun i o hne h => sg_set_ne (fun e => hne e.symm) (sg_app h), by simp⟩
    rw [Int.toNat_of_nonneg h1] at q'
    exact q'
noncomputable def RowsV (rs : List Row) : List V := rs.map Row.toV
theorem Shelf.app {k : Nat} {o : O} (h : Shelf σ k) : Shelf (σ ++ [o]) k := by
  obtain ⟨xs, h1, h2⟩ := h; exact ⟨xs, sg_app h1, h2⟩
theorem Shelf.set {k j : Nat} {o : O} (h : Shelf σ k) (hn : j ≠ k) : Shelf (σ.set j o) k := by
  obtain ⟨xs, h1, h2⟩ := h; exact ⟨xs, sg_set_ne hn h1, h2⟩
theorem Shelf.lt {k : Nat} (h : Shelf σ k) : k < σ.length := by
  obtain ⟨xs, h1, h2⟩ := h; exact sg_lt h1
noncomputable def opOf : Nat → Op | 0 => .add | 1 => .sub | 2 => .mul | _ => .xor
noncomputable def cdOf : Nat → Cd | 0 => .eq | 1 => .lt | 2 => .ge | 3 => .vs | 4 => .al | _ => .nv
noncomputable def r3Of (y to one : Nat) : Row := match y with | 0 => .geth to | 1 => .addi to one | _ => .muli to one
noncomputable def memOf (y to z : Nat) : Row := match y with | 0 => .str to z | 1 => .ldr to z | _ => .stb to z
noncomputable def memNm : Nat → Str | 0 => "STR" | 1 => "LDR" | _ => "STB"
theorem op_get {y : Nat} (h : (y : Int) < 4) : [V.str "ADD", V.str "SUB", V.str "MUL", V.str "XOR"][(y : Int).toNat]? = some (.str (opOf y).name) := by
  have : y = 0 ∨ y = 1 ∨ y = 2 ∨ y = 3 := by lia
  rcases this with rfl | rfl | rfl | rfl <;> rfl
theorem cd_get {y : Nat} (h : (y : Int) < 6) : [V.str "EQ", V.str "LT", V.str "GE", V.str "VS", V.str "AL", V.str "NV"][(y : Int).toNat]? = some (.str (cdOf y).name) := by
  have : y = 0 ∨ y = 1 ∨ y = 2 ∨ y = 3 ∨ y = 4 ∨ y = 5 := by lia
  rcases this with rfl | rfl | rfl | rfl | rfl | rfl <;> rfl
theorem mem_get {y : Nat} (h : (y : Int) < 3) : [V.str "STR", V.str "LDR", V.str "STB"][(y : Int).toNat]? = some (.str (memNm y)) := by
  have : y = 0 ∨ y = 1 ∨ y = 2 := by lia
  rcases this with rfl | rfl | rfl <;> rfl
theorem mem_toV {y to z : Nat} : (memOf y to z).toV = .tup [.str (memNm y), .int to, .int 13, .int (4 * z)] := by
  unfold memOf memNm
  split <;> rfl
theorem r3_get {y to one : Nat} (h : (y : Int) < 3) : [V.tup [.str "GETH", .int to, .int 0, .int 0], V.tup [.str "ADDI", .int to, .int one, .int 1], V.tup [.str "MULI", .int to, .int one, .int ((77777 : Int).fdiv 2)]][(y : Int).toNat]? = some (r3Of y to one).toV := by
  have : y = 0 ∨ y = 1 ∨ y = 2 := by lia
  rcases this with rfl | rfl | rfl <;> rfl
noncomputable def RowsOk (len : Nat) (rs : List Row) : Prop := ∀ (i : Nat) (row : Row), rs[i]? = some row → row.Fit ∧ row.Ok len i
theorem rows_snoc {len : Nat} {rs : List Row} {row : Row} (h : RowsOk len rs) (hf : row.Fit) (ho : row.Ok len rs.length) : RowsOk len (rs ++ [row]) := by
  intro i r hr
  rcases Nat.lt_trichotomy i rs.length with h1 | h1 | h1
  · rw [List.getElem?_append_left h1] at hr; exact h i r hr
  · subst h1; simp at hr; subst hr; exact ⟨hf, ho⟩
  · rw [List.getElem?_eq_none (by simp; lia)] at hr; exact absurd hr (by simp)
noncomputable def PL (s R len k : Nat) (σ : Store) : Prop := Shelf σ s ∧ ∃ rs, σ[R]? = some (.lst (rs.map Row.toV)) ∧ rs.length = k ∧ RowsOk len rs
theorem PL.snoc {s R len k : Nat} {rs : List Row} {row : Row} {v : V} (hS : Shelf σ s) (hR : σ[R]? = some (.lst (rs.map Row.toV))) (hk : rs.length = k) (ho : RowsOk len rs) (hn : R ≠ s) (hv : v = row.toV) (hf : row.Fit) (hk' : row.Ok len k) : PL s R len (k + 1) (σ.set R (.lst (rs.map Row.toV ++ [v]))) := by
  subst hv
  refine ⟨hS.set hn, rs ++ [row], ?_, by simp [hk], rows_snoc ho hf (by rw [hk]; exact hk')⟩
  rw [List.map_append, List.map_singleton]
  exact sg_set_eq hR
theorem rows_len {rs : List Row} (h : rs.length ≤ 100) : (rs.map Row.toV).length ≤ maxLen := by
  rw [List.length_map]; have e : maxLen = 1000 := rfl; lia
theorem planned_w {s many : Nat} {Q} (hS : Shelf σ s) (hm : (many : Int) < 10) (q : ∀ (rs : List Row) (R : Nat) (σ' : Store), rs.length = many + 1 → RowsOk (many + 1) rs → σ'[R]? = some (.lst (rs.map Row.toV)) → Shelf σ' s → R ≠ s → Q (.ref R) σ') : wV (phi T0 (n + 2) (.glob "_law_planned") [.ref s, .int (many : Int)] σ) Q := by
  have hlt := hS.lt
  have e1000 : maxLen = 1000 := rfl
  have hn : σ.length ≠ s := by lia
  refine in_g fD_law_planned (by kernel_rfl) (by kernel_rfl) ?_
  refine ss_cons ?_
  (repeat (walk_at "stp"))
  refine forI_n (fun k ρ σ' => PL s σ.length (many + 1) k σ' ∧ k ≤ many ∧ σ.length < σ'.length ∧ ρ "shelf" = some (.ref s) ∧ ρ "rows" = some (.ref σ.length) ∧ ρ "many" = some (.int (many : Int))) _ 0 _ _ ⟨⟨hS.app, [], by simp, rfl, fun i r h => absurd h (by simp)⟩, Nat.zero_le _, by simp, rfl, rfl, rfl⟩ ?_ ?_
  · rintro k i ρ σ0 hk ⟨⟨hS0, rs, hR0, hk', ho⟩, hkm, hl0, hs, hr, hmm⟩
    obtain ⟨hk2, rfl⟩ := range_get hk
    rw [Nat.zero_add] at *
    rw [Int.toNat_natCast] at hk2
    have hrl := rows_len (rs := rs) (by lia)
    (repeat (walk_at "stp"))
    refine pod_w hS0 (by lia) fun x1 σ1 hx1 he1 => ?_
    have hS1 := he1.1
    have hR1 := he1.2.1 _ _ hn hR0
    (repeat (walk_at "stp"))
    refine pod_w hS1 (by lia) fun x2 σ2 hx2 he2 => ?_
    have hS2 := he2.1
    have hR2 := he2.2.1 _ _ hn hR1
    (repeat (walk_at "stp"))
    refine pod_w hS2 (by lia) fun x3 σ3 hx3 he3 => ?_
    have hS3 := he3.1
    have hR3 := he3.2.1 _ _ hn hR2
    have hl3 := he3.2.2
    have hl2 := he2.2.2
    have hl1 := he1.2.2
    (repeat (walk_at "stp"))
    refine cD (fun hc => ?_) (fun hc => ?_)
    · (repeat (walk_at "stp"))
      refine pod_w hS3 (by lia) fun x4 σ4 hx4 he4 => ?_
      have hS4 := he4.1
      have hR4 := he4.2.1 _ _ hn hR3
      have hl4 := he4.2.2
      (repeat (walk_at "stp"))
      refine ⟨PL.snoc (row := Row.movi x2 ((x4 : Int) - 40)) hS4 hR4 hk' ho hn rfl (show x2 < 4 by lia) (show k + 1 < many + 1 by lia), by lia, by rw [List.length_set]; lia, by walk_at "L", by walk_at "L", by walk_at "L"⟩
    · (repeat (walk_at "stp"))
      refine cD (fun hc2 => ?_) (fun hc2 => ?_)
      · (repeat (walk_at "stp"))
        refine pod_w hS3.app (by lia) fun x4 σ4 hx4 he4 => ?_
        have hS4 := he4.1
        have hR4 := he4.2.1 _ _ hn (sg_app hR3)
        have hL4 := he4.2.1 σ3.length _ (by lia) sg_new
        have hl4 := he4.2.2
        rw [len1] at hl4
        have hg4 := op_get hx4
        (repeat (walk_at "stp"))
        refine pod_w hS4 (by lia) fun x5 σ5 hx5 he5 => ?_
        have hS5 := he5.1
        have hR5 := he5.2.1 _ _ hn hR4
        have hl5 := he5.2.2
        (repeat (walk_at "stp"))
        refine ⟨PL.snoc (row := Row.alu (opOf x4) x2 x3 x5) hS5 hR5 hk' ho hn rfl (show x2 < 4 ∧ x3 < 4 ∧ x5 < 4 by lia) (show k + 1 < many + 1 by lia), by lia, by rw [List.length_set]; lia, by walk_at "L", by walk_at "L", by walk_at "L"⟩
      · (repeat (walk_at "stp"))
        refine cD (fun hc3 => ?_) (fun hc3 => ?_)
        · (repeat (walk_at "stp"))
          refine pod_w hS3.app (by lia) fun x4 σ4 hx4 he4 => ?_
          have hS4 := he4.1
          have hR4 := he4.2.1 _ _ hn (sg_app hR3)
          have hL4 := he4.2.1 σ3.length _ (by lia) sg_new
          have hl4 := he4.2.2
          rw [len1] at hl4
          have hg4 := r3_get (to := x2) (one := x3) hx4
          (repeat (walk_at "stp"))
          refine ⟨PL.snoc (row := r3Of x4 x2 x3) hS4 hR4 hk' ho hn rfl (by unfold r3Of; split <;> simp only [Row.Fit] <;> lia) (by unfold r3Of; split <;> simp only [Row.Ok] <;> lia), by lia, by rw [List.length_set]; lia, by walk_at "L", by walk_at "L", by walk_at "L"⟩
        · (repeat (walk_at "stp"))
          refine cD (fun hc4 => ?_) (fun hc4 => ?_)
          · (repeat (walk_at "stp"))
            refine pod_w hS3.app (by lia) fun x4 σ4 hx4 he4 => ?_
            have hS4 := he4.1
            have hR4 := he4.2.1 _ _ hn (sg_app hR3)
            have hL4 := he4.2.1 σ3.length _ (by lia) sg_new
            have hl4 := he4.2.2
            rw [len1] at hl4
            have hg4 := mem_get hx4
            (repeat (walk_at "stp"))
            refine pod_w hS4 (by lia) fun x5 σ5 hx5 he5 => ?_
            have hS5 := he5.1
            have hR5 := he5.2.1 _ _ hn hR4
            have hl5 := he5.2.2
            (repeat (walk_at "stp"))
            refine ⟨PL.snoc (row := memOf x4 x2 x5) hS5 hR5 hk' ho hn mem_toV.symm (by unfold memOf; split <;> simp only [Row.Fit] <;> lia) (by unfold memOf; split <;> simp only [Row.Ok] <;> lia), by lia, by rw [List.length_set]; lia, by walk_at "L", by walk_at "L", by walk_at "L"⟩
          · (repeat (walk_at "stp"))
            refine pod_w hS3.app (by lia) fun x4 σ4 hx4 he4 => ?_
            have hS4 := he4.1
            have hR4 := he4.2.1 _ _ hn (sg_app hR3)
            have hL4 := he4.2.1 σ3.length _ (by lia) sg_new
            have hl4 := he4.2.2
            rw [len1] at hl4
            have hg4 := cd_get hx4
            (repeat (walk_at "stp"))
            refine pod_w hS4 (by lia) fun x5 σ5 hx5 he5 => ?_
            have hS5 := he5.1
            have hR5 := he5.2.1 _ _ hn hR4
            have hl5 := he5.2.2
            (repeat (walk_at "stp"))
            refine ⟨PL.snoc (row := Row.jmp (cdOf x4) x5) hS5 hR5 hk' ho hn rfl trivial (show k + 1 + x5 < many + 1 by lia), by lia, by rw [List.length_set]; lia, by walk_at "L", by walk_at "L", by walk_at "L"⟩
  · rintro ρ σ0 ⟨⟨hS0, rs, hR0, hk', ho⟩, hkm, hl0, hs, hr, hmm⟩
    (repeat (walk_at "stp"))
    have hk2 : rs.length = many := by simpa using hk'
    refine b_cat (xs := rs.map Row.toV) (ys := [Row.halt.toV]) (sg_app hR0) sg_new (by rw [List.length_map, hk2]; simp only [List.length_singleton]; lia) ?_
    (repeat (walk_at "stp"))
    refine q (rs ++ [Row.halt]) _ _ (by simp [hk2]) (rows_snoc ho trivial (by rw [hk2]; exact rfl)) ?_ hS0.app.app (by rw [len1]; lia)
    rw [List.map_append, List.map_singleton]
    exact sg_new
noncomputable def refsV (g : Nat → Nat) (k : Nat) : List V := (List.range k).map fun i => V.ref (g i)
theorem refsV_succ {g : Nat → Nat} {k : Nat} : refsV g k ++ [.ref (g k)] = refsV g (k + 1) := by simp [refsV, List.range_succ]
theorem refsV_len {g : Nat → Nat} {k : Nat} : (refsV g k).length = k := by simp [refsV]
theorem refsV_get {g : Nat → Nat} {k i : Nat} (h : i < k) : (refsV g k)[(i : Int).toNat]? = some (.ref (g i)) := by simp [refsV, h]
noncomputable def mapV (f : Nat → V) (N : Nat) : List V := (List.range N).map f
theorem mapV_len {f : Nat → V} {N : Nat} : (mapV f N).length = N := by simp [mapV]
theorem mapV_get {f : Nat → V} {N i : Nat} (h : i < N) : (mapV f N)[(i : Int).toNat]? = some (f i) := by simp [mapV, h]
theorem mapV_set {f : Nat → V} {N i : Nat} {v : V} : (mapV f N).set i v = mapV (fun j => if j = i then v else f j) N := by
  apply List.ext_getElem?
  intro j
  unfold mapV
  rw [List.getElem?_set]
  simp only [List.length_map, List.length_range, List.getElem?_map]
  by_cases h : i = j
  · subst h
    by_cases hk : i < N
    · simp [hk]
    · simp [hk]
  · rw [if_neg h]
    by_cases hi : j < N
    · simp [hi, Ne.symm h]
    · simp [hi]
theorem mapV_const {v : V} {N : Nat} : List.replicate N v = mapV (fun _ => v) N := by
  unfold mapV
  apply List.ext_getElem?
  intro j
  by_cases h : j < N
  · simp [h]
  · simp [h]
noncomputable def Old (σ σ' : Store) : Prop := ∀ (i : Nat) (o : O), σ[i]? = some o → σ'[i]? = some o
theorem Old.app {σ' : Store} {o : O} (h : Old σ σ') : Old σ (σ' ++ [o]) := fun i x e => sg_app (h i x e)
theorem Old.set {σ' : Store} {j : Nat} {o : O} (h : Old σ σ') (hj : σ.length ≤ j) : Old σ (σ'.set j o) := fun i x e => sg_set_ne (by have := sg_lt e; lia) (h i x e)
structure LF (σ : Store) (rs : List Row) (k : Nat) (σ' : Store) : Prop where
  old : Old σ σ'
  fol : σ'[σ.length + 4]? = some (.lst (refsV (fun i => σ.length + 6 + 2 * i) k))
  suc : ∀ (i : Nat) (row : Row), i < k → rs[i]? = some row → σ'[σ.length + 6 + 2 * i]? = some (.lst (natV (row.succs i)))
theorem natV_len {js : List Nat} : (natV js).length = js.length := by simp [natV]
theorem natV_snoc {js : List Nat} {j : Nat} : natV js ++ [.int (j : Int)] = natV (js ++ [j]) := by simp [natV]
theorem natV_get {js : List Nat} {k : Nat} {v : V} (h : (natV js)[k]? = some v) : ∃ j, j ∈ js ∧ js[k]? = some j ∧ v = .int (j : Int) := by
  unfold natV at h
  rw [List.getElem?_map] at h
  cases e : js[k]? with
  | none => rw [e] at h; exact absurd h (by simp)
  | some j => rw [e] at h; exact ⟨j, List.mem_of_getElem? e, rfl, by simpa using h.symm⟩
theorem succs_lt {row : Row} {len i j : Nat} (ho : row.Ok len i) (h : j ∈ row.succs i) : i < j ∧ j < len := by
  rcases row with ⟨to, x⟩ | ⟨op, to, k, j⟩ | ⟨to⟩ | ⟨to, k⟩ | ⟨to, k⟩ | ⟨to, k⟩ | ⟨to, k⟩ | ⟨to, k⟩ | ⟨cd, off⟩ | _
  case jmp =>
    cases cd <;> simp only [Row.succs, Row.Ok] at h ho <;> (try split at h) <;> simp at h <;> lia
  all_goals simp [Row.succs, Row.Ok] at h ho
  all_goals lia
theorem succs_len {row : Row} {i : Nat} : (row.succs i).length ≤ 2 := by
  rcases row with ⟨to, x⟩ | ⟨op, to, k, j⟩ | ⟨to⟩ | ⟨to, k⟩ | ⟨to, k⟩ | ⟨to, k⟩ | ⟨to, k⟩ | ⟨to, k⟩ | ⟨cd, off⟩ | _
  case jmp => cases cd <;> simp only [Row.succs] <;> (try split) <;> simp
  all_goals simp [Row.succs]
structure LR (R L N : Nat) (ρ : Rho) : Prop where
  rows : ρ "rows" = some (.ref R)
  count : ρ "count" = some (.int (N : Int))
  before : ρ "before" = some (.ref (L + 1))
  after : ρ "after" = some (.ref (L + 3))
  following : ρ "following" = some (.ref (L + 4))
  earlier : ρ "earlier" = some (.ref (L + 5 + 2 * N))
theorem LR.set {R L N : Nat} {ρ : Rho} {x : Str} {v : V} (h : LR R L N ρ) (hx : (decide (("rows" : Str) ≠ x) && decide (("count" : Str) ≠ x) && decide (("before" : Str) ≠ x) && decide (("after" : Str) ≠ x) && decide (("following" : Str) ≠ x) && decide (("earlier" : Str) ≠ x)) = true) : LR R L N (ρ.set x v) := by
  simp only [Bool.and_eq_true] at hx
  obtain ⟨⟨⟨⟨⟨h1, h2⟩, h3⟩, h4⟩, h5⟩, h6⟩ := hx
  exact ⟨rs_ne h1 h.rows, rs_ne h2 h.count, rs_ne h3 h.before, rs_ne h4 h.after, rs_ne h5 h.following, rs_ne h6 h.earlier⟩
structure LE (σ : Store) (rs : List Row) (m : Nat) (τ : Store) : Prop where
  len : τ.length = σ.length + 6 + 3 * rs.length
  lf : LF σ rs rs.length τ
  b : τ[σ.length + 1]? = some (.lst (mapV (fun _ => V.int 0) rs.length))
  a : τ[σ.length + 3]? = some (.lst (mapV (fun _ => V.int 0) rs.length))
  e : τ[σ.length + 5 + 2 * rs.length]? = some (.lst (refsV (fun i => σ.length + 6 + 2 * rs.length + i) rs.length))
  js : ∀ i, i < rs.length → ∃ js : List Nat, τ[σ.length + 6 + 2 * rs.length + i]? = some (.lst (natV js)) ∧ (∀ j ∈ js, j < i) ∧ js.length ≤ m
theorem LE.mono {rs : List Row} {m m' : Nat} {τ : Store} (h : LE σ rs m τ) (hm : m ≤ m') : LE σ rs m' τ :=
  ⟨h.len, h.lf, h.b, h.a, h.e, fun i hi => by obtain ⟨js, h1, h2, h3⟩ := h.js i hi; exact ⟨js, h1, h2, Nat.le_trans h3 hm⟩⟩
theorem LE.snoc {rs : List Row} {m k t : Nat} {τ : Store} {js : List Nat} (h : LE σ rs m τ) (ht : t < rs.length) (hk : k < t) (hj : τ[σ.length + 6 + 2 * rs.length + t]? = some (.lst (natV js))) (hjs : ∀ j ∈ js, j < t) (hjl : js.length ≤ m) :
    LE σ rs (m + 1) (τ.set (σ.length + 6 + 2 * rs.length + t) (.lst (natV js ++ [.int (k : Int)]))) := by
  refine ⟨by rw [List.length_set, h.len], ⟨h.lf.old.set (by lia), sg_set_ne (by lia) h.lf.fol, fun i row hi hr => sg_set_ne (by lia) (h.lf.suc i row hi hr)⟩, sg_set_ne (by lia) h.b, sg_set_ne (by lia) h.a, sg_set_ne (by lia) h.e, fun i hi => ?_⟩
  by_cases hit : i = t
  · subst hit
    refine ⟨js ++ [k], by rw [natV_snoc]; exact sg_set_eq hj, fun j hjm => ?_, by simp; lia⟩
    rw [List.mem_append, List.mem_singleton] at hjm
    rcases hjm with h1 | h1
    · exact hjs j h1
    · lia
  · obtain ⟨js', h1, h2, h3⟩ := h.js i hi
    exact ⟨js', sg_set_ne (by lia) h1, h2, by lia⟩
theorem map_len {f : Nat → V} {N : Nat} {i : Int} (h : 0 ≤ i ∧ i < N ∧ N ≤ 100) : 0 ≤ i ∧ i < (mapV f N).length ∧ (mapV f N).length ≤ maxLen := by
  have e1000 : maxLen = 1000 := rfl
  rw [mapV_len]; lia
theorem natV_range (l : List Nat) : List.map V.int (List.map (fun (i : Nat) => (i : Int)) l) = natV l := by simp [natV]
noncomputable def orAll (B : Nat → Nat) (js : List Nat) : Nat := js.foldl (fun m j => m ||| B j) 0
noncomputable def liveB (row : Row) (m : Nat) : Nat := (m - (m &&& row.writes)) ||| row.reads
structure LX (σ : Store) (rs : List Row) (k : Nat) (τ : Store) (B A : Nat → Nat) : Prop where
  lf : LF σ rs rs.length τ
  e : τ[σ.length + 5 + 2 * rs.length]? = some (.lst (refsV (fun i => σ.length + 6 + 2 * rs.length + i) rs.length))
  js : ∀ i, i < rs.length → ∃ js : List Nat, τ[σ.length + 6 + 2 * rs.length + i]? = some (.lst (natV js)) ∧ (∀ j ∈ js, j < i) ∧ js.length ≤ 100
  wk : τ[σ.length + 6 + 3 * rs.length]? = some (.lst (natV (List.range k)))
  wt : τ[σ.length + 8 + 3 * rs.length]? = some (.lst (mapV (fun i => .bool (decide (i < k))) rs.length))
  b : τ[σ.length + 1]? = some (.lst (mapV (fun i => .int (B i : Int)) rs.length))
  a : τ[σ.length + 3]? = some (.lst (mapV (fun i => .int (A i : Int)) rs.length))
structure LW (σ : Store) (rs : List Row) (k : Nat) (τ : Store) (B A : Nat → Nat) : Prop where
  x : LX σ rs k τ B A
  z : ∀ i, i < k → B i = 0
  eqs : ∀ (i : Nat) (row : Row), k ≤ i → rs[i]? = some row → A i = orAll B (row.succs i) ∧ B i = liveB row (A i)
theorem LF.set {rs : List Row} {τ : Store} {i : Nat} {o : O} (h : LF σ rs rs.length τ) (hi : i = σ.length + 1 ∨ i = σ.length + 3 ∨ σ.length + 6 + 3 * rs.length ≤ i) : LF σ rs rs.length (τ.set i o) :=
  ⟨h.old.set (by lia), sg_set_ne (by lia) h.fol, fun j row hj hr => sg_set_ne (by lia) (h.suc j row hj hr)⟩
theorem LX.pop {rs : List Row} {k : Nat} {τ : Store} {B A : Nat → Nat} (h : LX σ rs (k + 1) τ B A) : LX σ rs k ((τ.set (σ.length + 6 + 3 * rs.length) (.lst (natV (List.range k)))).set (σ.length + 8 + 3 * rs.length) (.lst (mapV (fun i => .bool (decide (i < k))) rs.length))) B A := by
  refine ⟨(h.lf.set (by lia)).set (by lia), sg_set_ne (by lia) (sg_set_ne (by lia) h.e), fun i hi => ?_, sg_set_ne (by lia) (sg_set_eq h.wk), sg_set_eq (sg_set_ne (by lia) h.wt), sg_set_ne (by lia) (sg_set_ne (by lia) h.b), sg_set_ne (by lia) (sg_set_ne (by lia) h.a)⟩
  obtain ⟨js, h1, h2, h3⟩ := h.js i hi
  exact ⟨js, sg_set_ne (by lia) (sg_set_ne (by lia) h1), h2, h3⟩
theorem LX.setA {rs : List Row} {k : Nat} {τ : Store} {B A A' : Nat → Nat} (h : LX σ rs k τ B A) : LX σ rs k (τ.set (σ.length + 3) (.lst (mapV (fun i => .int (A' i : Int)) rs.length))) B A' := by
  refine ⟨h.lf.set (by lia), sg_set_ne (by lia) h.e, fun i hi => ?_, sg_set_ne (by lia) h.wk, sg_set_ne (by lia) h.wt, sg_set_ne (by lia) h.b, sg_set_eq h.a⟩
  obtain ⟨js, h1, h2, h3⟩ := h.js i hi
  exact ⟨js, sg_set_ne (by lia) h1, h2, h3⟩
theorem LX.setB {rs : List Row} {k : Nat} {τ : Store} {B A B' : Nat → Nat} (h : LX σ rs k τ B A) : LX σ rs k (τ.set (σ.length + 1) (.lst (mapV (fun i => .int (B' i : Int)) rs.length))) B' A := by
  refine ⟨h.lf.set (by lia), sg_set_ne (by lia) h.e, fun i hi => ?_, sg_set_ne (by lia) h.wk, sg_set_ne (by lia) h.wt, sg_set_eq h.b, sg_set_ne (by lia) h.a⟩
  obtain ⟨js, h1, h2, h3⟩ := h.js i hi
  exact ⟨js, sg_set_ne (by lia) h1, h2, h3⟩
structure LV (R L N : Nat) (ρ : Rho) : Prop where
  lr : LR R L N ρ
  work : ρ "work" = some (.ref (L + 6 + 3 * N))
  waiting : ρ "waiting" = some (.ref (L + 8 + 3 * N))
theorem LV.set {R L N : Nat} {ρ : Rho} {x : Str} {v : V} (h : LV R L N ρ) (hx : (decide (("rows" : Str) ≠ x) && decide (("count" : Str) ≠ x) && decide (("before" : Str) ≠ x) && decide (("after" : Str) ≠ x) && decide (("following" : Str) ≠ x) && decide (("earlier" : Str) ≠ x) && decide (("work" : Str) ≠ x) && decide (("waiting" : Str) ≠ x)) = true) : LV R L N (ρ.set x v) := by
  simp only [Bool.and_eq_true] at hx
  obtain ⟨⟨h1, h2⟩, h3⟩ := hx
  exact ⟨h.lr.set (by simp only [Bool.and_eq_true]; exact h1), rs_ne h2 h.work, rs_ne h3 h.waiting⟩
theorem orAll_congr {B B' : Nat → Nat} {js : List Nat} (h : ∀ j ∈ js, B j = B' j) : orAll B js = orAll B' js := by
  unfold orAll
  generalize 0 = m
  induction js generalizing m with
  | nil => rfl
  | cons j r ih => simp only [List.foldl_cons]; rw [h j List.mem_cons_self]; exact ih (fun i hi => h i (List.mem_cons_of_mem _ hi)) _
theorem orAll_take {B : Nat → Nat} {js : List Nat} {j t : Nat} (h : js[j]? = some t) : orAll B (js.take (j + 1)) = orAll B (js.take j) ||| B t := by
  unfold orAll
  rw [List.take_add_one, h, List.foldl_append]
  rfl
noncomputable def updN (B : Nat → Nat) (k x : Nat) : Nat → Nat := fun i => if i = k then x else B i
theorem mapI_set {B : Nat → Nat} {N k x : Nat} : (mapV (fun i => V.int (B i : Int)) N).set k (.int (x : Int)) = mapV (fun i => V.int (updN B k x i : Int)) N := by
  rw [mapV_set]
  congr 1
  funext j
  unfold updN
  by_cases h : j = k
  · rw [if_pos h, if_pos h]
  · rw [if_neg h, if_neg h]
theorem mapB_set {N k : Nat} : (mapV (fun i => V.bool (decide (i < k + 1))) N).set k (.bool false) = mapV (fun i => V.bool (decide (i < k))) N := by
  rw [mapV_set]
  congr 1
  funext j
  by_cases h : j = k
  · rw [if_pos h, h]; simp
  · rw [if_neg h]; congr 1; rw [Bool.eq_iff_iff]; simp; lia
theorem pop_range {k : Nat} : (natV (List.range (k + 1))).eraseIdx ((natV (List.range (k + 1))).length - 1) = natV (List.range k) := by
  rw [natV_len, List.length_range, Nat.add_sub_cancel, List.range_succ, ← natV_snoc]
  rw [List.eraseIdx_append_of_length_le (by rw [natV_len, List.length_range]; exact Nat.le_refl _)]
  simp [natV_len]
theorem last_range {k : Nat} : (natV (List.range (k + 1)))[(natV (List.range (k + 1))).length - 1]? = some (.int (k : Int)) := by
  rw [natV_len, List.length_range, Nat.add_sub_cancel]
  simp [natV]
theorem LW.same {rs : List Row} {k : Nat} {τ τ' : Store} {B A : Nat → Nat} {row : Row} (h : LW σ rs (k + 1) τ B A) (hx : LX σ rs k τ' B (updN A k (orAll B (row.succs k)))) (hr : rs[k]? = some row) (e : B k = liveB row (orAll B (row.succs k))) : LW σ rs k τ' B (updN A k (orAll B (row.succs k))) := by
  refine ⟨hx, fun i hi => h.z i (by lia), fun i row' hi hr' => ?_⟩
  by_cases hik : i = k
  · subst hik
    rw [hr] at hr'
    simp only [Option.some.injEq] at hr'
    subst hr'
    have e1 : updN A i (orAll B (row.succs i)) i = orAll B (row.succs i) := by unfold updN; rw [if_pos rfl]
    rw [e1]; exact ⟨rfl, e⟩
  · have e1 : updN A k (orAll B (row.succs k)) i = A i := by unfold updN; rw [if_neg hik]
    rw [e1]; exact h.eqs i row' (by lia) hr'
theorem LW.diff {rs : List Row} {k x : Nat} {τ τ' : Store} {B A : Nat → Nat} {row : Row} (h : LW σ rs (k + 1) τ B A) (hx : LX σ rs k τ' (updN B k x) (updN A k (orAll B (row.succs k)))) (hr : rs[k]? = some row) (ho : RowsOk rs.length rs) (e : x = liveB row (orAll B (row.succs k))) : LW σ rs k τ' (updN B k x) (updN A k (orAll B (row.succs k))) := by
  have hB : ∀ i, i ≠ k → updN B k x i = B i := fun i hi => by unfold updN; rw [if_neg hi]
  have hO : ∀ (i : Nat) (row' : Row), k ≤ i → rs[i]? = some row' → orAll (updN B k x) (row'.succs i) = orAll B (row'.succs i) := fun i row' hi hr' =>
    orAll_congr fun j hj => hB j (by have := succs_lt (ho i row' hr').2 hj; lia)
  refine ⟨hx, fun i hi => by rw [hB i (by lia)]; exact h.z i (by lia), fun i row' hi hr' => ?_⟩
  rw [hO i row' hi hr']
  by_cases hik : i = k
  · subst hik
    rw [hr] at hr'
    simp only [Option.some.injEq] at hr'
    subst hr'
    have e1 : updN A i (orAll B (row.succs i)) i = orAll B (row.succs i) := by unfold updN; rw [if_pos rfl]
    have e2 : updN B i x i = x := by unfold updN; rw [if_pos rfl]
    rw [e1, e2]; exact ⟨rfl, e⟩
  · have e1 : updN A k (orAll B (row.succs k)) i = A i := by unfold updN; rw [if_neg hik]
    rw [e1, hB i hik]; exact h.eqs i row' (by lia) hr'
theorem live_w {R : Nat} {rs : List Row} {Q} (hR : σ[R]? = some (.lst (rs.map Row.toV))) (hN : rs.length ≤ 11) (ho : RowsOk rs.length rs) 
    (q : ∀ (B A : Nat → Nat) (b a : Nat) (τ : Store), Old σ τ → τ[b]? = some (.lst (mapV (fun i => .int (B i : Int)) rs.length)) → τ[a]? = some (.lst (mapV (fun i => .int (A i : Int)) rs.length)) → (∀ (i : Nat) (row : Row), rs[i]? = some row → A i = orAll B (row.succs i) ∧ B i = liveB row (A i)) → Q (.tup [.ref b, .ref a]) τ) : wV (phi T0 (n + 6) (.glob "liveness") [.ref R] σ) Q := by
  have e1000 : maxLen = 1000 := rfl
  have hRl := sg_lt hR
  have hlen : (rs.map Row.toV).length ≤ maxLen := rows_len (by lia)
  refine in_g fD_liveness (by kernel_rfl) (by kernel_rfl) ?_
  refine ss_cons ?_
  (repeat (walk_at "stp"))
  simp (config := { proj := false }) only [List.length_map, Int.toNat_natCast, len1, Nat.add_assoc, Nat.reduceAdd, mapV_const]
  have hrow : ∀ k, k < rs.length → ∃ row, rs[k]? = some row ∧ (rs.map Row.toV)[(k : Int).toNat]? = some row.toV := fun k hk => ⟨rs[k], List.getElem?_eq_getElem hk, by simp [hk]⟩
  have hN62 : (rs.length : Int) < 2 ^ 62 := by lia
  refine compI_inv (fun k σ' => σ'.length = σ.length + 5 + 2 * k ∧ σ'[σ.length + 1]? = some (.lst (mapV (fun _ => V.int 0) rs.length)) ∧ σ'[σ.length + 3]? = some (.lst (mapV (fun _ => V.int 0) rs.length)) ∧ LF σ rs k σ') _ 0 _ _ _ (fun _ _ => rfl) ?_ ?_ ?_
  · refine ⟨by simp, by simp, by simp, fun i o h => sg_app (sg_app (sg_app (sg_app (sg_app h)))), by simp [refsV], fun i row h => absurd h (Nat.not_lt_zero _)⟩
  · rintro k i ρ σ' hk hr ⟨hl, hb, ha, hF⟩
    obtain ⟨hk2, rfl⟩ := range_get hk
    rw [Nat.zero_add] at *
    obtain ⟨row, hrow1, hrow2⟩ := hrow k hk2
    have hrows : ρ "rows" = some (.ref R) := by
      rw [hr _ (by decide +kernel)]
      exact hid_ne (by kernel_rfl) rfl
    clear hr
    have hR' := hF.old _ _ hR
    (repeat (walk_at "stp"))
    refine succ_w hR' hlen hrow2 (by lia) (by rw [List.length_map]; exact (ho k row hrow1).2) ?_
    refine acc_push (sg_app hF.fol) (by rw [refsV_len]; lia) ?_
    rw [show σ'.length + 1 = (fun i => σ.length + 6 + 2 * i) k from by simp only [hl]; lia, refsV_succ]
    refine ⟨by rw [List.length_set, List.length_append, hl]; simp only [List.length_cons, List.length_nil]; lia, sg_set_ne (by lia) (sg_app hb), sg_set_ne (by lia) (sg_app ha), fun i o h => sg_set_ne (by have := sg_lt h; lia) (sg_app (hF.old i o h)), sg_set_eq (sg_app hF.fol), fun i row' hi hr' => ?_⟩
    rcases Nat.lt_or_ge i k with h1 | h1
    · exact sg_set_ne (by lia) (sg_app (hF.suc i row' h1 hr'))
    · have hik : i = k := by lia
      subst hik
      rw [hrow1] at hr'
      simp only [Option.some.injEq] at hr'
      subst hr'
      rw [show σ.length + 6 + 2 * i = σ'.length + 1 from by lia]
      exact sg_set_ne (by lia) sg_new2
  · rintro ρ σ' ⟨hl, hb, ha, hF⟩
    rw [Nat.zero_add, List.length_map, List.length_range] at hl hF
    clear ρ
    (repeat (walk_at "stp"))
    rw [hl, Int.toNat_natCast]
    refine compI_inv (fun k τ => τ.length = σ.length + 6 + 2 * rs.length + k ∧ τ[σ.length + 1]? = some (.lst (mapV (fun _ => V.int 0) rs.length)) ∧ τ[σ.length + 3]? = some (.lst (mapV (fun _ => V.int 0) rs.length)) ∧ LF σ rs rs.length τ ∧ τ[σ.length + 5 + 2 * rs.length]? = some (.lst (refsV (fun i => σ.length + 6 + 2 * rs.length + i) k)) ∧ ∀ i, i < k → τ[σ.length + 6 + 2 * rs.length + i]? = some (.lst [])) _ 0 _ _ _ (fun _ _ => rfl) ?_ ?_ ?_
    · refine ⟨by simp [hl]; lia, sg_app hb, sg_app ha, ⟨hF.old.app, sg_app hF.fol, fun i row hi hr => sg_app (hF.suc i row hi hr)⟩, by rw [← hl]; simp [refsV], fun i h => absurd h (Nat.not_lt_zero _)⟩
    · rintro k i ρ τ hk hr ⟨hl2, hb2, ha2, hF2, he2, hz2⟩
      obtain ⟨hk2, rfl⟩ := range_get hk
      rw [Nat.zero_add] at *
      clear hr
      (repeat (walk_at "stp"))
      refine acc_push (sg_app he2) (by rw [refsV_len]; lia) ?_
      rw [show τ.length = (fun i => σ.length + 6 + 2 * rs.length + i) k from by simp only [hl2], refsV_succ]
      refine ⟨by rw [List.length_set, len1, hl2]; lia, sg_set_ne (by lia) (sg_app hb2), sg_set_ne (by lia) (sg_app ha2), ⟨fun i o h => sg_set_ne (by have := sg_lt h; lia) (sg_app (hF2.old i o h)), sg_set_ne (by lia) (sg_app hF2.fol), fun i row hi hr => sg_set_ne (by lia) (sg_app (hF2.suc i row hi hr))⟩, sg_set_eq (sg_app he2), fun i hi => ?_⟩
      rcases Nat.lt_or_ge i k with h1 | h1
      · exact sg_set_ne (by lia) (sg_app (hz2 i h1))
      · rw [show σ.length + 6 + 2 * rs.length + i = τ.length from by lia]
        exact sg_set_ne (by lia) sg_new
    · rintro ρ τ ⟨hl2, hb2, ha2, hF2, he2, hz2⟩
      rw [Nat.zero_add, List.length_map, List.length_range] at hl2 he2 hz2
      clear ρ
      (repeat (walk_at "stp"))
      rw [Int.toNat_natCast]
      have hLE : LE σ rs 0 τ := ⟨by lia, hF2, hb2, ha2, he2, fun i hi => ⟨[], hz2 i hi, fun j h => absurd h (by simp), by simp⟩⟩
      refine forI_n (fun k ρ τ => LR R σ.length rs.length ρ ∧ LE σ rs (2 * k) τ) _ 0 _ _ ?_ ?_ ?_
      · refine ⟨⟨by walk_at "L", by walk_at "L", by walk_at "L", by walk_at "L", by walk_at "L", ?_⟩, hLE⟩
        rw [rs_eq]
      · rintro k i ρ τ hk ⟨hρ, hE⟩
        obtain ⟨hk2, rfl⟩ := range_get hk
        rw [Nat.zero_add] at *
        obtain ⟨row, hrow1, hrow2⟩ := hrow k hk2
        have hfo := hρ.following
        have hea := hρ.earlier
        have hfl := hE.lf.fol
        have hfk := refsV_get (g := fun i => σ.length + 6 + 2 * i) hk2
        have hsu := hE.lf.suc k row hk2 hrow1
        (repeat (walk_at "stp"))
        refine forL_n (ws := natV (row.succs k)) (fun j ρ τ => LR R σ.length rs.length ρ ∧ ρ "index" = some (.int (k : Int)) ∧ LE σ rs (2 * k + j) τ) (by rw [natV_len]; have := @succs_len row k; lia) (fun _ _ _ h => h.2.2.lf.suc k row hk2 hrow1) ⟨hρ.set (by decide +kernel), rs_eq, hE.mono (by lia)⟩ ?_ ?_
        · rintro j v ρ τ hj ⟨hρ, hix, hE⟩
          obtain ⟨t, htm, hjt, rfl⟩ := natV_get hj
          obtain ⟨ht1, ht2⟩ := succs_lt (ho k row hrow1).2 htm
          have hj2 : j < 2 := by
            have := @succs_len row k
            rcases Nat.lt_or_ge j (row.succs k).length with h1 | h1
            · lia
            · rw [List.getElem?_eq_none h1] at hjt; exact absurd hjt (by simp)
          have hea := hρ.earlier
          have hee := hE.e
          have het := refsV_get (g := fun i => σ.length + 6 + 2 * rs.length + i) ht2
          obtain ⟨js, hj1, hj2, hj3⟩ := hE.js t ht2
          have hjm : (natV js).length ≤ maxLen := by rw [natV_len]; lia
          (repeat (walk_at "stp"))
          exact ⟨hρ.set (by decide +kernel), by walk_at "L", hE.snoc ht2 ht1 hj1 hj2 hj3⟩
        · rintro ρ τ ⟨hρ, hix, hE⟩
          (repeat (walk_at "stp"))
          rw [natV_len] at hE
          exact hE.mono (by have := @succs_len row k; lia)
      · rintro ρ τ ⟨hρ, hE⟩
        have hco := hρ.count
        (repeat (walk_at "stp"))
        simp (config := { proj := false }) only [len1, hE.len, Int.toNat_natCast, natV_range, mapV_const, Nat.add_assoc, Nat.reduceAdd]
        have hlt := hE.len
        refine while_inv (fun k ρ τ => ∃ B A, LV R σ.length rs.length ρ ∧ LW σ rs k τ B A ∧ k ≤ rs.length) ?_ _ rs.length _ _ ?_ ?_
        rotate_left
        · have e2 : whileMax = 1000 := rfl
          lia
        · refine ⟨fun _ => 0, fun _ => 0, ⟨(hρ.set (by decide +kernel)).set (by decide +kernel), rs_ne (by decide +kernel) (by rw [Nat.add_assoc]; exact rs_eq), by rw [show σ.length + 8 + 3 * rs.length = σ.length + (6 + (3 * rs.length + 2)) from by lia]; exact rs_eq⟩, ⟨⟨⟨((hE.lf.old.app).app).app, sg_app (sg_app (sg_app hE.lf.fol)), fun i row hi hr => sg_app (sg_app (sg_app (hE.lf.suc i row hi hr)))⟩, sg_app (sg_app (sg_app hE.e)), fun i hi => ?_, ?_, ?_, sg_app (sg_app (sg_app hE.b)), sg_app (sg_app (sg_app hE.a))⟩, fun _ _ => rfl, fun i row hi hr => ?_⟩, Nat.le_refl _⟩
          · obtain ⟨js, h1, h2, h3⟩ := hE.js i hi
            refine ⟨js, sg_app (sg_app (sg_app h1)), h2, ?_⟩
            rw [List.length_map, List.length_range] at h3
            lia
          · rw [← hlt]; exact sg_app (sg_app sg_new)
          · rw [show σ.length + 8 + 3 * rs.length = (τ ++ [O.lst (natV (List.range rs.length))] ++ [O.lst [V.bool true]]).length from by rw [len1, len1, hlt]; lia, sg_new]
            congr 2
            unfold mapV
            apply List.map_congr_left
            intro i hi
            rw [List.mem_range] at hi
            rw [decide_eq_true hi]
          · rw [List.getElem?_eq_none hi] at hr; exact absurd hr (by simp)
        · rintro k ρ τ ⟨B, A, hρ, hW, hk⟩
          have hwo := hρ.work
          have hwk := hW.x.wk
          have hwl : (natV (List.range k)).length ≤ maxLen := by rw [natV_len, List.length_range]; lia
          (repeat (walk_at "stp"))
          rw [natV_len, List.length_range]
          refine cD (fun h0 => ?_) (fun h0 => ?_)
          · obtain ⟨k', rfl⟩ : ∃ k', k = k' + 1 := ⟨k - 1, by lia⟩
            refine ⟨by lia, ?_⟩
            obtain ⟨row, hrow1, hrow2⟩ := hrow k' (by lia)
            have hok := ho k' row hrow1
            have hwai := hρ.waiting
            have hwt := hW.x.wt
            have hb := hW.x.b
            have ha := hW.x.a
            have hfl := hW.x.lf.fol
            have hfo := hρ.lr.following
            have hbe := hρ.lr.before
            have haf := hρ.lr.after
            have hear := hρ.lr.earlier
            have hro := hρ.lr.rows
            have hfk := refsV_get (g := fun i => σ.length + 6 + 2 * i) (show k' < rs.length by lia)
            have hsu := hW.x.lf.suc k' row (by lia) hrow1
            have hee := hW.x.e
            have hek := refsV_get (g := fun i => σ.length + 6 + 2 * rs.length + i) (show k' < rs.length by lia)
            obtain ⟨js, hjs1, hjs2, hjs3⟩ := hW.x.js k' (by lia)
            have hR' := hW.x.lf.old _ _ hR
            (repeat (walk_at "stp"))
            refine ⟨_, _, _, rfl, hwk, hwl, last_range, ?_⟩
            rw [pop_range]
            (repeat (walk_at "stp"))
            rw [Int.toNat_natCast, mapB_set]
            refine unknown_w (ws := rs.map Row.toV) (r := row) (sg_set_ne (by lia) (sg_set_ne (by lia) hR')) hlen hrow2 (by lia) (by rw [List.length_map]; exact hok.2) ?_
            (repeat (walk_at "stp"))
            have hX1 := hW.x.pop
            generalize (List.set (List.set τ (σ.length + 6 + 3 * rs.length) (O.lst (natV (List.range k')))) (σ.length + 8 + 3 * rs.length) (O.lst (mapV (fun i => V.bool (decide (i < k'))) rs.length))) = τ1 at hX1 ⊢
            have hsl := @succs_len row k'
            refine forL_n (ws := natV (row.succs k')) (fun j ρ τ' => τ' = τ1 ∧ LV R σ.length rs.length ρ ∧ ρ "index" = some (.int (k' : Int)) ∧ ρ "behind" = some (.int (orAll B ((row.succs k').take j) : Int))) (by rw [natV_len]; lia) (fun _ _ _ h => by rw [h.1]; exact hX1.lf.suc k' row (by lia) hrow1) ⟨rfl, (hρ.set (by decide +kernel)).set (by decide +kernel), by walk_at "L", rs_eq⟩ ?_ ?_
            · rintro j v ρ τ' hj ⟨rfl, hρ, hix, hbh⟩
              obtain ⟨t, htm, hjt, rfl⟩ := natV_get hj
              obtain ⟨ht1, ht2⟩ := succs_lt hok.2 htm
              have hbe := hρ.lr.before
              have hb := hX1.b
              have hbt := mapV_get (f := fun i => V.int (B i : Int)) ht2
              (repeat (walk_at "stp"))
              refine ⟨(hρ.set (by decide +kernel)).set (by decide +kernel), by walk_at "L", ?_⟩
              rw [rs_eq, bitOr_nat, orAll_take hjt]
            · rintro ρ τ' ⟨rfl, hρ, hix, hbh⟩
              rw [natV_len, List.take_length] at hbh
              have hbe := hρ.lr.before
              have haf := hρ.lr.after
              have hro := hρ.lr.rows
              have hear := hρ.lr.earlier
              have ha := hX1.a
              have hR' := hX1.lf.old _ _ hR
              (repeat (walk_at "stp"))
              rw [Int.toNat_natCast, mapI_set]
              have hX2 := hX1.setA (A' := updN A k' (orAll B (row.succs k')))
              have hb := hX1.b
              have hbk := mapV_get (f := fun i => V.int (B i : Int)) (show k' < rs.length by lia)
              refine live_before_w hok.1 ?_
              change wF _ _
              generalize hxx : ((orAll B (row.succs k') - (orAll B (row.succs k') &&& row.writes)) ||| row.reads) = x
              (repeat (walk_at "stp"))
              have hee := hX1.e
              obtain ⟨js, hjs1, hjs2, hjs3⟩ := hX1.js k' (by lia)
              refine cD (fun he => ?_) (fun he => ?_)
              · (repeat (walk_at "stp"))
                refine ⟨B, _, hρ.set (by decide +kernel), hW.same hX2 hrow1 ?_, by lia⟩
                unfold liveB
                rw [hxx]
                lia
              · (repeat (walk_at "stp"))
                rw [Int.toNat_natCast, mapI_set]
                have hX3 := hX2.setB (B' := updN B k' x)
                refine forL_n (ws := natV js) (fun j ρ τ3 => LV R σ.length rs.length ρ ∧ τ3 = _) (by rw [natV_len]; lia) (fun _ _ _ h => by rw [h.2]; exact sg_set_ne (by lia) (sg_set_ne (by lia) hjs1)) ⟨hρ.set (by decide +kernel), rfl⟩ ?_ ?_
                · rintro j v ρ τ3 hj ⟨hρ, rfl⟩
                  obtain ⟨t, htm, hjt, rfl⟩ := natV_get hj
                  have htk := hjs2 t htm
                  have hwai := hρ.waiting
                  have hwt := hX1.wt
                  have hwg := mapV_get (f := fun i => V.bool (decide (i < k'))) (show t < rs.length by lia)
                  (repeat (walk_at "stp"))
                  exact ⟨hρ.set (by decide +kernel), True.intro⟩
                · rintro ρ τ3 ⟨hρ, rfl⟩
                  (repeat (walk_at "stp"))
                  exact ⟨_, _, hρ, hW.diff hX3 hrow1 ho hxx.symm, by lia⟩
          · have hk0 : k = 0 := by lia
            subst hk0
            have hbe := hρ.lr.before
            have haf := hρ.lr.after
            (repeat (walk_at "stp"))
            exact q B A _ _ _ hW.x.lf.old hW.x.b hW.x.a (fun i row hr => hW.eqs i row (Nat.zero_le _) hr)
theorem bit_sub_half (m w : Nat) : (m - (m &&& w)) % 2 = (m % 2) - (m % 2) * (w % 2) ∧ (m - (m &&& w)) / 2 = m / 2 - (m / 2 &&& w / 2) := by
  have h1 : (m &&& w) / 2 = m / 2 &&& w / 2 := by
    apply Nat.eq_of_testBit_eq
    intro i
    rw [← Nat.testBit_succ, Nat.testBit_and, Nat.testBit_and, Nat.testBit_succ, Nat.testBit_succ]
  have h2 : (m &&& w) % 2 = (m % 2) * (w % 2) := by
    have key : (m &&& w) % 2 = 1 ↔ m % 2 = 1 ∧ w % 2 = 1 := Nat.and_mod_two_eq_one
    have a1 : m % 2 = 0 ∨ m % 2 = 1 := by lia
    have a2 : w % 2 = 0 ∨ w % 2 = 1 := by lia
    have a3 : (m &&& w) % 2 = 0 ∨ (m &&& w) % 2 = 1 := by lia
    generalize (m &&& w) % 2 = t at *
    generalize m % 2 = p at *
    generalize w % 2 = q at *
    rcases a1 with rfl | rfl <;> rcases a2 with rfl | rfl <;> rcases a3 with rfl | rfl <;> simp at key ⊢
  have h3 : (m / 2 &&& w / 2) ≤ m / 2 := Nat.and_le_left
  have h4 : (m % 2) * (w % 2) ≤ m % 2 := by
    have a2 : w % 2 = 0 ∨ w % 2 = 1 := by lia
    rcases a2 with a2 | a2 <;> rw [a2] <;> lia
  generalize (m % 2) * (w % 2) = t at *
  generalize (m / 2 &&& w / 2) = u at *
  generalize (m &&& w) = v at *
  lia
theorem testBit_sub (m w k : Nat) : (m - (m &&& w)).testBit k = (m.testBit k && !w.testBit k) := by
  induction k generalizing m w with
  | zero =>
    rw [Nat.testBit_zero, Nat.testBit_zero, Nat.testBit_zero, (bit_sub_half m w).1]
    have a1 : m % 2 = 0 ∨ m % 2 = 1 := by lia
    have a2 : w % 2 = 0 ∨ w % 2 = 1 := by lia
    rcases a1 with a1 | a1 <;> rcases a2 with a2 | a2 <;> rw [a1, a2] <;> rfl
  | succ k ih =>
    rw [Nat.testBit_succ, Nat.testBit_succ, Nat.testBit_succ, (bit_sub_half m w).2, ih]
theorem liveB_bit (row : Row) (m k : Nat) : (liveB row m).testBit k = ((m.testBit k && !row.writes.testBit k) || row.reads.testBit k) := by
  unfold liveB; rw [Nat.testBit_or, testBit_sub]
theorem orAll_bit (B : Nat → Nat) (js : List Nat) (k : Nat) : (orAll B js).testBit k = js.any fun j => (B j).testBit k := by
  unfold orAll
  have : ∀ m, (js.foldl (fun m j => m ||| B j) m).testBit k = (m.testBit k || js.any fun j => (B j).testBit k) := by
    induction js with
    | nil => intro m; simp
    | cons j r ih => intro m; rw [List.foldl_cons, ih, Nat.testBit_or, List.any_cons, Bool.or_assoc]
  rw [this, Nat.zero_testBit, Bool.false_or]
structure Agree (mask : Nat) (m m' : M) : Prop where
  pc : m.pc = m'.pc
  w : m.w = m'.w
  r : ∀ k, k < 4 → mask.testBit k = true → m.r k = m'.r k
  hi : ∀ k, 4 ≤ k → m.r k = m'.r k
  f : mask.testBit 17 = true → m.n = m'.n ∧ m.z = m'.z ∧ m.c = m'.c ∧ m.v = m'.v
  h : mask.testBit 16 = true → m.h = m'.h
theorem Agree.refl {mask : Nat} {m : M} : Agree mask m m := ⟨rfl, rfl, fun _ _ _ => rfl, fun _ _ => rfl, fun _ => ⟨rfl, rfl, rfl, rfl⟩, fun _ => rfl⟩
theorem Agree.sub {a b : Nat} {m m' : M} (h : Agree a m m') (hs : ∀ k, b.testBit k = true → a.testBit k = true) : Agree b m m' :=
  ⟨h.pc, h.w, fun k hk e => h.r k hk (hs k e), h.hi, fun e => h.f (hs _ e), fun e => h.h (hs _ e)⟩
theorem agree_set {A B : Nat} {m m' : M} {to : Nat} {ar : AR} (h : Agree B m m') (ht : to < 4) (hk : ∀ k, k < 4 → k ≠ to → A.testBit k = true → B.testBit k = true) (hh : A.testBit 16 = true → ar.h.getD m.h = ar.h.getD m'.h) : Agree A (M.setA { m with pc := m.pc + 1 } to ar) (M.setA { m' with pc := m'.pc + 1 } to ar) := by
  refine ⟨by show m.pc + 1 = m'.pc + 1; rw [h.pc], h.w, fun k hk4 e => ?_, fun k hk4 => ?_, fun _ => ⟨rfl, rfl, rfl, rfl⟩, hh⟩
  · show upd m.r to ar.r k = upd m'.r to ar.r k
    unfold upd
    split
    · rfl
    · rename_i hne; exact h.r k hk4 (hk k hk4 hne e)
  · show upd m.r to ar.r k = upd m'.r to ar.r k
    rw [upd_ne (by lia), upd_ne (by lia)]; exact h.hi k hk4
theorem step_sim {row : Row} {a : Nat} {m m' : M} (hf : row.Fit) (h : Agree (liveB row a) m m') : Agree a (stepM row m) (stepM row m') := by
  have hin : ∀ k, a.testBit k = true → row.writes.testBit k = false → (liveB row a).testBit k = true := fun k e1 e2 => by rw [liveB_bit, e1, e2]; rfl
  have hrd : ∀ k, row.reads.testBit k = true → (liveB row a).testBit k = true := fun k e => by rw [liveB_bit, e, Bool.or_true]
  have hbit : ∀ to k : Nat, k < 4 → k ≠ to → (2 ^ to ||| 131072).testBit k = false := fun to k hk hne => by
    simp only [show 131072 = 2 ^ 17 from rfl, Nat.testBit_or, Nat.testBit_two_pow]; simp; lia
  have hbit' : ∀ to k : Nat, k < 4 → k ≠ to → ((2 ^ to ||| 131072) ||| 65536).testBit k = false := fun to k hk hne => by
    rw [Nat.testBit_or, hbit to k hk hne, show 65536 = 2 ^ 16 from rfl, Nat.testBit_two_pow]; simp; lia
  have hbit16 : ∀ to : Nat, to < 4 → (2 ^ to ||| 131072).testBit 16 = false := fun to ht => by
    simp only [show 131072 = 2 ^ 17 from rfl, Nat.testBit_or, Nat.testBit_two_pow]; simp; lia
  have hpow : ∀ k : Nat, (2 ^ k).testBit k = true := fun k => by rw [Nat.testBit_two_pow]; simp
  rcases row with ⟨to, x⟩ | ⟨op, to, i, j⟩ | ⟨to⟩ | ⟨to, i⟩ | ⟨to, i⟩ | ⟨to, k⟩ | ⟨to, k⟩ | ⟨to, k⟩ | ⟨cd, off⟩ | _
  all_goals simp only [Row.Fit] at hf
  case movi =>
    exact agree_set h hf (fun k hk hne e => hin k e (hbit to k hk hne)) (fun e => h.h (hin 16 e (hbit16 to hf)))
  case alu =>
    have h1 : m.r i = m'.r i := h.r i hf.2.1 (hrd i (by simp [Row.reads, Nat.testBit_or, hpow]))
    have h2 : m.r j = m'.r j := h.r j hf.2.2 (hrd j (by simp [Row.reads, Nat.testBit_or, hpow]))
    have e : stepM (.alu op to i j) m = M.setA { m with pc := m.pc + 1 } to (op.run (m'.r i) (m'.r j)) := by rw [← h1, ← h2]; rfl
    rw [e]
    cases op
    case mul => exact agree_set h hf.1 (fun k hk hne e => hin k e (hbit' to k hk hne)) (fun _ => rfl)
    all_goals exact agree_set h hf.1 (fun k hk hne e => hin k e (hbit to k hk hne)) (fun e => h.h (hin 16 e (hbit16 to hf.1)))
  case geth =>
    have h1 : m.h = m'.h := h.h (hrd 16 (by simp [Row.reads]; decide))
    have e : stepM (.geth to) m = M.setA { m with pc := m.pc + 1 } to (movA m'.h) := by rw [← h1]; rfl
    rw [e]
    exact agree_set h hf (fun k hk hne e => hin k e (hbit to k hk hne)) (fun _ => h1)
  case addi =>
    have h1 : m.r i = m'.r i := h.r i hf.2 (hrd i (by simp [Row.reads, hpow]))
    have e : stepM (.addi to i) m = M.setA { m with pc := m.pc + 1 } to (addA (m'.r i) 1) := by rw [← h1]; rfl
    rw [e]
    exact agree_set h hf.1 (fun k hk hne e => hin k e (hbit to k hk hne)) (fun e => h.h (hin 16 e (hbit16 to hf.1)))
  case muli =>
    have h1 : m.r i = m'.r i := h.r i hf.2 (hrd i (by simp [Row.reads, hpow]))
    have e : stepM (.muli to i) m = M.setA { m with pc := m.pc + 1 } to (mulA (m'.r i) 38888) := by rw [← h1]; rfl
    rw [e]
    exact agree_set h hf.1 (fun k hk hne e => hin k e (hbit' to k hk hne)) (fun _ => rfl)
  case str =>
    have h1 : m.r to = m'.r to := h.r to hf.1 (hrd to (by simp [Row.reads, Nat.testBit_or, hpow]))
    have hs : ∀ k, a.testBit k = true → (liveB (.str to k) a).testBit k = true := fun k e => hin k e (by simp [Row.writes])
    refine ⟨by show m.pc + 1 = m'.pc + 1; rw [h.pc], ?_, fun k hk e => h.r k hk (hin k e (by simp [Row.writes])), h.hi, fun e => h.f (hin 17 e (by simp [Row.writes])), fun e => h.h (hin 16 e (by simp [Row.writes]))⟩
    show kdfPut m.w _ _ = kdfPut m'.w _ _
    rw [h.w, h1]
  case stb =>
    have h1 : m.r to = m'.r to := h.r to hf.1 (hrd to (by simp [Row.reads, Nat.testBit_or, hpow]))
    refine ⟨by show m.pc + 1 = m'.pc + 1; rw [h.pc], ?_, fun k hk e => h.r k hk (hin k e (by simp [Row.writes])), h.hi, fun e => h.f (hin 17 e (by simp [Row.writes])), fun e => h.h (hin 16 e (by simp [Row.writes]))⟩
    show kdfPut m.w _ _ = kdfPut m'.w _ _
    rw [h.w, h1]
  case ldr =>
    have hw : ∀ q : Nat, q ≠ to → (Row.ldr to k).writes.testBit q = false := fun q hq => by simp only [Row.writes, Nat.testBit_two_pow]; simp; lia
    refine ⟨by show m.pc + 1 = m'.pc + 1; rw [h.pc], h.w, fun q hq e => ?_, fun q hq => ?_, fun e => h.f (hin 17 e (hw 17 (by lia))), fun e => h.h (hin 16 e (hw 16 (by lia)))⟩
    · show upd m.r to (kdfLook m.w _ _) q = upd m'.r to (kdfLook m'.w _ _) q
      rw [h.w]
      unfold upd
      split
      · rfl
      · rename_i hne; exact h.r q hq (hin q e (hw q hne))
    · show upd m.r to _ q = upd m'.r to _ q
      rw [upd_ne (by lia), upd_ne (by lia)]; exact h.hi q hq
  case jmp =>
    have hz : ∀ q, (Row.jmp cd off).writes.testBit q = false := fun q => by simp [Row.writes]
    refine ⟨?_, h.w, fun q hq e => h.r q hq (hin q e (hz q)), h.hi, fun e => h.f (hin 17 e (hz 17)), fun e => h.h (hin 16 e (hz 16))⟩
    show (if cd.hold m.n m.z m.c m.v then m.pc + 1 + off else m.pc + 1) = (if cd.hold m'.n m'.z m'.c m'.v then m'.pc + 1 + off else m'.pc + 1)
    rw [h.pc]
    cases cd
    case al => rfl
    case nv => rfl
    all_goals
      obtain ⟨h1, h2, h3, h4⟩ := h.f (hrd 17 (by simp [Row.reads]; decide))
      rw [h1, h2, h3, h4]
  case halt =>
    have hz : ∀ q, Row.halt.writes.testBit q = false := fun q => by simp [Row.writes]
    exact ⟨h.hi 15 (by lia), h.w, fun q hq e => h.r q hq (hin q e (hz q)), h.hi, fun e => h.f (hin 17 e (hz 17)), fun e => h.h (hin 16 e (hz 16))⟩
structure EndEq (x y : M) : Prop where
  pc : x.pc = y.pc
  w : x.w = y.w
  r0 : x.r 0 = y.r 0
  r11 : x.r 11 = y.r 11
  r13 : x.r 13 = y.r 13
  r14 : x.r 14 = y.r 14
theorem runM_out {rs : List Row} {m : M} (h : rs[m.pc.toNat]? = none) : ∀ k, runM rs k m = m
  | 0 => rfl
  | k + 1 => by simp only [runM, h]
theorem runM_in {rs : List Row} {m : M} {row : Row} (h : rs[m.pc.toNat]? = some row) (k : Nat) : runM rs (k + 1) m = runM rs k (stepM row m) := by simp only [runM, h]
theorem pc_next {row : Row} {m : M} {i : Nat} (hp : m.pc = (i : Int)) (h15 : m.r 15 = 500) : ∃ j : Nat, (stepM row m).pc = (j : Int) ∧ (j ∈ row.succs i ∨ (row = .halt ∧ j = 500)) := by
  rcases row with ⟨to, x⟩ | ⟨op, to, k, j⟩ | ⟨to⟩ | ⟨to, k⟩ | ⟨to, k⟩ | ⟨to, k⟩ | ⟨to, k⟩ | ⟨to, k⟩ | ⟨cd, off⟩ | _
  case jmp =>
    by_cases h : cd.hold m.n m.z m.c m.v = true
    · refine ⟨i + 1 + off, by simp [stepM, h, hp], .inl ?_⟩
      cases cd <;> simp only [Row.succs] <;> (try split) <;> simp_all [Cd.hold]
    · refine ⟨i + 1, by simp [stepM, h, hp], .inl ?_⟩
      cases cd <;> simp only [Row.succs] <;> (try split) <;> simp_all [Cd.hold]
  case halt => exact ⟨500, by simp [stepM, h15], .inr ⟨rfl, rfl⟩⟩
  all_goals exact ⟨i + 1, by simp [stepM, M.setA, hp], .inl (by simp [Row.succs])⟩
noncomputable def Eqs (rs : List Row) (B A : Nat → Nat) : Prop := ∀ (i : Nat) (row : Row), rs[i]? = some row → A i = orAll B (row.succs i) ∧ B i = liveB row (A i)
theorem succ_sub {B : Nat → Nat} {js : List Nat} {j k : Nat} (hj : j ∈ js) (h : (B j).testBit k = true) : (orAll B js).testBit k = true := by
  rw [orAll_bit, List.any_eq_true]; exact ⟨j, hj, h⟩
theorem get_lt {α : Type} {l : List α} {i : Nat} {x : α} (h : l[i]? = some x) : i < l.length := by
  rcases Nat.lt_or_ge i l.length with h1 | h1
  · exact h1
  · rw [List.getElem?_eq_none h1] at h; exact absurd h (by simp)
theorem run_agree {rs : List Row} {B A : Nat → Nat} {p : Nat} {other : Row} (hN : rs.length ≤ 11) (ho : RowsOk rs.length rs) (he : Eqs rs B A) : ∀ (k i : Nat) (m m' : M), i < rs.length → p < i → rs.length ≤ i + k → m.pc = (i : Int) → GoodM m → Agree (B i) m m' → EndEq (runM rs k m) (runM (rs.set p other) k m')
  | 0, i, m, m', hi, _, hk, _, _, _ => absurd hi (by lia)
  | k + 1, i, m, m', hi, hp, hk, hpc, hg, ha => by
    have hr : rs[i]? = some rs[i] := List.getElem?_eq_getElem hi
    generalize rs[i] = row at hr
    obtain ⟨hf, hok⟩ := ho i row hr
    obtain ⟨hA, hB⟩ := he i row hr
    have h1 : rs[m.pc.toNat]? = some row := by rw [hpc]; exact hr
    have h2 : (rs.set p other)[m'.pc.toNat]? = some row := by
      rw [← ha.pc, hpc]
      show (rs.set p other)[i]? = some row
      rw [List.getElem?_set_ne (by lia)]; exact hr
    rw [runM_in h1, runM_in h2]
    rw [hB] at ha
    have hs := step_sim hf ha
    obtain ⟨j, hj, hjs⟩ := pc_next (row := row) hpc hg.l
    rcases hjs with hjs | ⟨rfl, rfl⟩
    · obtain ⟨hij, hjN⟩ := succs_lt hok hjs
      refine run_agree hN ho he k j _ _ hjN (by lia) (by lia) hj (good_step hg hf) (hs.sub fun q hq => ?_)
      rw [hA]; exact succ_sub hjs hq
    · have n1 : rs[(stepM .halt m).pc.toNat]? = none := by rw [hj]; exact List.getElem?_eq_none (by show rs.length ≤ 500; lia)
      have n2 : (rs.set p other)[(stepM .halt m').pc.toNat]? = none := by rw [← hs.pc, hj]; exact List.getElem?_eq_none (by rw [List.length_set]; show rs.length ≤ 500; lia)
      rw [runM_out n1, runM_out n2]
      exact ⟨hs.pc, hs.w, ha.r 0 (by lia) (by rw [liveB_bit]; simp [Row.reads]), hs.hi 11 (by lia), hs.hi 13 (by lia), hs.hi 14 (by lia)⟩
noncomputable def Row.tgt : Row → Option Nat
  | .movi to _ => some to | .alu _ to _ _ => some to | .geth to => some to | .addi to _ => some to | .muli to _ => some to | .ldr to _ => some to | _ => none
noncomputable def Row.high : Row → Bool
  | .alu .mul _ _ _ => true | .muli _ _ => true | _ => false
theorem agree_dead {rp : Row} {to a : Nat} {x : Int} {m : M} (ht : rp.tgt = some to) (hf : rp.Fit) (h1 : a.testBit to = false) (h2 : a.testBit 17 = false) (h3 : rp.high = true → a.testBit 16 = false) : Agree a (stepM rp m) (stepM (.movi to x) m) := by
  have hu : ∀ (u v : Int) (k : Nat), a.testBit k = true → upd m.r to u k = upd m.r to v k := fun u v k e => by
    have hne : k ≠ to := fun e' => by subst e'; rw [h1] at e; exact absurd e (by simp)
    rw [upd_ne hne, upd_ne hne]
  have hv : ∀ (u v : Int) (k : Nat), 4 ≤ k → to < 4 → upd m.r to u k = upd m.r to v k := fun u v k hk ht => by
    rw [upd_ne (by lia), upd_ne (by lia)]
  have hset : ∀ ar : AR, to < 4 → (a.testBit 16 = true → ar.h.getD m.h = m.h) → Agree a (M.setA { m with pc := m.pc + 1 } to ar) (stepM (.movi to x) m) := fun ar ht hh =>
    ⟨rfl, rfl, fun k _ e => hu _ _ k e, fun k hk => hv _ _ k hk ht, fun e => by rw [h2] at e; exact absurd e (by simp), hh⟩
  rcases rp with ⟨to', x'⟩ | ⟨op, to', k, j⟩ | ⟨to'⟩ | ⟨to', k⟩ | ⟨to', k⟩ | ⟨to', k⟩ | ⟨to', k⟩ | ⟨to', k⟩ | ⟨cd, off⟩ | _
  all_goals simp only [Row.tgt, Option.some.injEq] at ht
  all_goals first | exact absurd ht (by simp) | subst ht
  all_goals simp only [Row.Fit] at hf
  · exact hset _ hf (fun _ => rfl)
  · cases op
    case mul => exact hset _ hf.1 (fun e => by rw [h3 rfl] at e; exact absurd e (by simp))
    all_goals exact hset _ hf.1 (fun _ => rfl)
  · exact hset _ hf (fun _ => rfl)
  · exact hset _ hf.1 (fun _ => rfl)
  · exact hset _ hf.1 (fun e => by rw [h3 rfl] at e; exact absurd e (by simp))
  · exact ⟨rfl, rfl, fun k _ e => hu _ _ k e, fun k hk => hv _ _ k hk hf.1, fun e => by rw [h2] at e; exact absurd e (by simp), fun _ => rfl⟩
theorem tgt_succs {rp : Row} {to p : Nat} (ht : rp.tgt = some to) : rp.succs p = [p + 1] := by
  rcases rp with ⟨to', x'⟩ | ⟨op, to', k, j⟩ | ⟨to'⟩ | ⟨to', k⟩ | ⟨to', k⟩ | ⟨to', k⟩ | ⟨to', k⟩ | ⟨to', k⟩ | ⟨cd, off⟩ | _
  all_goals first | rfl | exact absurd ht (by simp [Row.tgt])
theorem run_dead {rs : List Row} {B A : Nat → Nat} {p to : Nat} {rp : Row} {x : Int} (hN : rs.length ≤ 11) (ho : RowsOk rs.length rs) (he : Eqs rs B A) (hp : rs[p]? = some rp) (ht : rp.tgt = some to) (h1 : (A p).testBit to = false) (h2 : (A p).testBit 17 = false) (h3 : rp.high = true → (A p).testBit 16 = false) :
    ∀ (k i : Nat) (m : M), i ≤ p → rs.length ≤ i + k → m.pc = (i : Int) → GoodM m → EndEq (runM rs k m) (runM (rs.set p (.movi to x)) k m)
  | 0, i, m, hi, hk, _, _ => absurd (get_lt hp) (by lia)
  | k + 1, i, m, hi, hk, hpc, hg => by
    have hpN := get_lt hp
    have hr : rs[i]? = some rs[i] := List.getElem?_eq_getElem (by lia)
    generalize rs[i] = row at hr
    obtain ⟨hf, hok⟩ := ho i row hr
    obtain ⟨hA, hB⟩ := he i row hr
    have r1 : rs[m.pc.toNat]? = some row := by rw [hpc]; exact hr
    obtain ⟨j, hj, hjs⟩ := pc_next (row := row) hpc hg.l
    rcases Nat.lt_or_ge i p with hip | hip
    · have r2 : (rs.set p (.movi to x))[m.pc.toNat]? = some row := by
        rw [hpc]
        show (rs.set p (.movi to x))[i]? = some row
        rw [List.getElem?_set_ne (by lia)]; exact hr
      rw [runM_in r1, runM_in r2]
      rcases hjs with hjs | ⟨rfl, rfl⟩
      · obtain ⟨hij, hjN⟩ := succs_lt hok hjs
        rcases Nat.lt_or_ge p j with hpj | hpj
        · exact run_agree hN ho he k j _ _ hjN hpj (by lia) hj (good_step hg hf) Agree.refl
        · exact run_dead hN ho he hp ht h1 h2 h3 k j _ hpj (by lia) hj (good_step hg hf)
      · exact absurd (show i + 1 = rs.length from hok) (by lia)
    · have hip' : i = p := by lia
      subst hip'
      rw [hp] at hr
      simp only [Option.some.injEq] at hr
      subst hr
      have r2 : (rs.set i (.movi to x))[m.pc.toNat]? = some (.movi to x) := by
        rw [hpc]
        show (rs.set i (.movi to x))[i]? = _
        rw [List.getElem?_set_self hpN]
      rw [runM_in r1, runM_in r2]
      have hs := agree_dead (x := x) (m := m) ht hf h1 h2 h3
      have hsu := tgt_succs (p := i) ht
      rcases hjs with hjs | ⟨rfl, rfl⟩
      · obtain ⟨hij, hjN⟩ := succs_lt hok hjs
        refine run_agree hN ho he k j _ _ hjN hij (by lia) hj (good_step hg hf) (hs.sub fun q hq => ?_)
        rw [hA]; exact succ_sub hjs hq
      · exact absurd ht (by simp [Row.tgt])
theorem run_end {rs : List Row} (hN : rs.length ≤ 11) (ho : RowsOk rs.length rs) : ∀ (k i : Nat) (m : M), i < rs.length → rs.length ≤ i + k → m.pc = (i : Int) → GoodM m → (runM rs k m).pc = 500
  | 0, i, m, hi, hk, _, _ => absurd hi (by lia)
  | k + 1, i, m, hi, hk, hpc, hg => by
    have hr : rs[i]? = some rs[i] := List.getElem?_eq_getElem hi
    generalize rs[i] = row at hr
    obtain ⟨hf, hok⟩ := ho i row hr
    have r1 : rs[m.pc.toNat]? = some row := by rw [hpc]; exact hr
    obtain ⟨j, hj, hjs⟩ := pc_next (row := row) hpc hg.l
    rw [runM_in r1]
    rcases hjs with hjs | ⟨rfl, rfl⟩
    · obtain ⟨hij, hjN⟩ := succs_lt hok hjs
      exact run_end hN ho k j _ hjN (by lia) hj (good_step hg hf)
    · have n1 : rs[(stepM .halt m).pc.toNat]? = none := by rw [hj]; exact List.getElem?_eq_none (by show rs.length ≤ 500; lia)
      rw [runM_out n1, hj]; rfl
theorem live_read {rs : List Row} {B A : Nat → Nat} {q : Nat} (ho : RowsOk rs.length rs) (he : Eqs rs B A) : ∀ (d i : Nat), rs.length ≤ i + d → (B i).testBit q = true → i < rs.length → ∃ (j : Nat) (row : Row), i ≤ j ∧ rs[j]? = some row ∧ row.reads.testBit q = true
  | 0, i, hd, _, hi => absurd hi (by lia)
  | d + 1, i, hd, hb, hi => by
    have hr : rs[i]? = some rs[i] := List.getElem?_eq_getElem hi
    generalize rs[i] = row at hr
    obtain ⟨hf, hok⟩ := ho i row hr
    obtain ⟨hA, hB⟩ := he i row hr
    rw [hB, liveB_bit] at hb
    rcases Bool.or_eq_true_iff.mp hb with h1 | h1
    · rw [Bool.and_eq_true] at h1
      have h2 := h1.1
      rw [hA, orAll_bit, List.any_eq_true] at h2
      obtain ⟨j, hj, hjb⟩ := h2
      obtain ⟨hij, hjN⟩ := succs_lt hok hj
      obtain ⟨j', row', h3, h4, h5⟩ := live_read ho he d j (by lia) hjb hjN
      exact ⟨j', row', by lia, h4, h5⟩
    · exact ⟨i, row, Nat.le_refl _, hr, h1⟩
theorem c_empty {xs : List Int} {k j : Nat} {P : Bool → Prop} (h : σ[k]? = some (.lst (intV xs))) (h2 : σ[j]? = some (.lst [])) (b : Bool) (hb : xs.isEmpty = b) (p : P b) : wC (cmpV .Eq (.ref k) (.ref j) σ) P :=
  ⟨b, hb ▸ eqD_refs h h2, p⟩
noncomputable def dueV (K : Nat) (a b c d e : Int) : V := .tup [.tup [.str "trap", .int 15, .int 0], .int a, .ref K, .int b, .int c, .int d, .int e]
noncomputable def dueD (ns : List Int) (a b c d e : Int) : PyData := .tuple [.tuple [.str "trap", .int 15, .int 0], .int a, .list (ns.map PyData.int), .int b, .int c, .int d, .int e]
theorem due_toD {K : Nat} {ns : List Int} {a b c d e : Int} (h : σ[K]? = some (.lst (intV ns))) : toD σ 8 (dueV K a b c d e) = some (dueD ns a b c d e) := by
  simp only [dueV, dueD, toD, toD.toDs, h, flat_ints, flatD, Option.map_some, Option.bind_some]
theorem due_shaped {ns : List Int} {a b c d e : Int} : SeqAt.shaped (dueD ns a b c d e) = true := by
  simp [dueD, SeqAt.shaped, PyData.canLay0, PyData.canLayAll0, PyData.depth, PyData.depthAll, ke_canLayAll0, ke_depthAll]
  decide +kernel
theorem c_due {K K' : Nat} {ns : List Int} {a b c d e : Int} {P : Bool → Prop} (h : σ[K]? = some (.lst (intV ns))) (h' : σ[K']? = some (.lst (intV ns))) (p : P false) : wC (cmpV .NotEq (dueV K a b c d e) (dueV K' a b c d e) σ) P := by
  refine ⟨false, ?_, p⟩
  have hr : PyData.eqv (dueD ns a b c d e) (dueD ns a b c d e) = true := PySem.SeqAt.eqv_refl _ (SeqAt.canLay_of_shaped due_shaped)
  have e1 := due_toD (a := a) (b := b) (c := c) (d := d) (e := e) h
  have e2 := due_toD (a := a) (b := b) (c := c) (d := d) (e := e) h'
  show (eqV σ (dueV K a b c d e) (dueV K' a b c d e)).map (fun x => !x) = _
  have e3 : eqV σ (dueV K a b c d e) (dueV K' a b c d e) = some true := by
    show ((toD σ 8 (dueV K a b c d e)).bind fun x => (toD σ 8 (dueV K' a b c d e)).bind fun y => if SeqAt.shaped x && SeqAt.shaped y then some (x.eqv y) else none) = _
    rw [e1, e2]
    simp only [Option.bind_some, due_shaped, Bool.and_self, if_true, hr]
  rw [e3]; rfl
noncomputable def loopBody : Stmt → List Stmt
  | .For _ _ b _ _ => b
  | _ => []
noncomputable def B1 : List Stmt := match D_law.body with
  | [_, _, _, _, _, _, _, s, _, _] => loopBody s
  | _ => []
noncomputable def lastStmt : List Stmt → Stmt
  | [_, _, _, _, s] => s
  | _ => .Break default
noncomputable def If1 : Stmt := lastStmt B1
structure LA (R S W b a : Nat) (due : V) (ρ : Rho) : Prop where
  rows : ρ "rows" = some (.ref R)
  seeds : ρ "seeds" = some (.ref S)
  words : ρ "words" = some (.ref W)
  due : ρ "due" = some due
  ahead : ρ "ahead" = some (.ref b)
  behind : ρ "behind" = some (.ref a)
theorem LA.set {R S W b a : Nat} {due : V} {ρ : Rho} {x : Str} {v : V} (h : LA R S W b a due ρ) (hx : (decide (("rows" : Str) ≠ x) && decide (("seeds" : Str) ≠ x) && decide (("words" : Str) ≠ x) && decide (("due" : Str) ≠ x) && decide (("ahead" : Str) ≠ x) && decide (("behind" : Str) ≠ x)) = true) : LA R S W b a due (ρ.set x v) := by
  simp only [Bool.and_eq_true] at hx
  obtain ⟨⟨⟨⟨⟨h1, h2⟩, h3⟩, h4⟩, h5⟩, h6⟩ := hx
  exact ⟨rs_ne h1 h.rows, rs_ne h2 h.seeds, rs_ne h3 h.words, rs_ne h4 h.due, rs_ne h5 h.ahead, rs_ne h6 h.behind⟩
theorem Old.refl (τ : Store) : Old τ τ := fun _ _ h => h
theorem Old.trans {a b c : Store} (h : Old a b) (h' : Old b c) : Old a c := fun i o e => h' i o (h i o e)
theorem keptV_int {w : List (Int × Int)} {k : Nat} : keptV w k = intV ((List.range k).map fun (j : Nat) => kdfLook w (j : Int) 0) := by simp [keptV, intV]
theorem filt_snoc {m : Nat} {xs : List Int} {j : Nat} {x : Int} (hx : xs[j]? = some x) : ((xs.take (j + 1)).filter fun x => m.testBit x.toNat) = ((xs.take j).filter fun x => m.testBit x.toNat) ++ (if m.testBit x.toNat then [x] else []) := by
  rw [List.take_add_one, hx, List.filter_append]
  simp [List.filter_cons]
theorem set_split {rs : List Row} {k : Nat} {r : Row} (hk : k < rs.length) : (rs.map Row.toV).take k ++ [r.toV] ++ (rs.map Row.toV).drop (k + 1) = (rs.set k r).map Row.toV := by
  rw [List.map_set, List.set_eq_take_append_cons_drop, if_pos (by simpa using hk), List.append_assoc]; rfl
theorem c_due2 {K K' : Nat} {ns : List Int} {a b c d e : Int} {v : V} {P : Bool → Prop} (hv : v = dueV K' a b c d e) (h : σ[K]? = some (.lst (intV ns))) (h' : σ[K']? = some (.lst (intV ns))) (p : P false) : wC (cmpV .NotEq (dueV K a b c d e) v σ) P := by subst hv; exact c_due h h' p
theorem tail1 {k R S W K aa bb sx to : Nat} {due : V} {rs : List Row} {r0 : Nat → Int} {w0 w1 w2 w3 : Int} {A : Nat → Nat} {xs : List Int} {ρ : Rho} {τ : Store} {m : M}
    (hρ : LA R S W bb aa due ρ) (hat : ρ "at" = some (.int (k : Int))) (hto : ρ "to" = some (.int (to : Int))) (hsx : ρ "sets_x" = some (.ref sx))
    (hx : τ[sx]? = some (.lst (intV xs))) (hx0 : ∀ x ∈ xs, 0 ≤ x) (hxl : xs.length ≤ 3)
    (hR : τ[R]? = some (.lst (rs.map Row.toV))) (hS : τ[S]? = some (.lst (regsV r0))) (hW : τ[W]? = some (.lst [.int w0, .int w1, .int w2, .int w3]))
    (hA : τ[aa]? = some (.lst (mapV (fun i => V.int (A i : Int)) rs.length))) (hK : τ[K]? = some (.lst (keptV m.w 8)))
    (hm : m = runM rs 40 (initM r0 w0 w1 w2 w3)) (hdue : due = dueV K m.pc (m.r 0) (m.r 11) (m.r 13) (m.r 14))
    (hkN : k + 1 < rs.length) (hN : rs.length ≤ 11) (hok : RowsOk rs.length rs) (ht : to < 4) (hg : GoodM (initM r0 w0 w1 w2 w3))
    (hd : (∀ x ∈ xs, (A k).testBit x.toNat = false) → (A k).testBit 17 = false → EndEq (runM rs 40 (initM r0 w0 w1 w2 w3)) (runM (rs.set k (.movi to (60000 + (k : Int)))) 40 (initM r0 w0 w1 w2 w3))) :
    wF ((ev (CC (n + 7)) 50).s D_law.scope ρ τ If1) fun f ρ2 τ2 => f = .next ∧ Old τ τ2 ∧ LA R S W bb aa due ρ2 := by
  have hbe := hρ.behind
  have hro := hρ.rows
  have hse := hρ.seeds
  have hwo := hρ.words
  have hdu := hρ.due
  have e1000 : maxLen = 1000 := rfl
  have hAg := mapV_get (f := fun i => V.int (A i : Int)) (show k < rs.length by lia)
  have hRlen : (rs.map Row.toV).length ≤ maxLen := rows_len (by lia)
  refine s_if ?_
  (repeat (walk_at "stp"))
  have hil : (intV xs).length ≤ maxLen := by rw [intV_len]; lia
  refine compL_go (ws := intV xs) (fun j τ' => τ' = τ ++ [O.lst (intV ((xs.take j).filter fun x => (A k).testBit x.toNat))]) _ hil (fun j τ' h => by rw [h]; exact sg_app hx) ?_ ?_ _ 0 _ _ (by simp [lenAt, hx]) (fun _ _ => rfl) rfl
  · rintro j v ρ' τ' hj hr' rfl
    have hbe' : ρ' "behind" = some (.ref aa) := by
      rw [hr' _ (by decide +kernel)]
      exact hid_ne (by kernel_rfl) (by walk_at "L")
    have hat' : ρ' "at" = some (.int (k : Int)) := by
      rw [hr' _ (by decide +kernel)]
      exact hid_ne (by kernel_rfl) (by walk_at "L")
    clear hr'
    obtain ⟨x, rfl, hxj⟩ : ∃ x : Int, v = .int x ∧ xs[j]? = some x := by
      unfold intV at hj
      rw [List.getElem?_map] at hj
      cases e : xs[j]? with
      | none => rw [e] at hj; exact absurd hj (by simp)
      | some x => rw [e] at hj; exact ⟨x, by simpa using hj.symm, rfl⟩
    have hxx0 : 0 ≤ x := hx0 x (List.mem_of_getElem? hxj)
    (repeat (walk_at "stp"))
    refine is_live_w hxx0 ?_
    (repeat (walk_at "stp"))
    rw [filt_snoc hxj]
    refine cB (fun hb => ?_) (fun hb => ?_)
    · have hfm : (intV ((xs.take j).filter fun x => (A k).testBit x.toNat)).length ≤ maxLen := by
        rw [intV_len]
        refine Nat.le_trans (List.length_filter_le _ _) ?_
        rw [List.length_take]
        lia
      (repeat (walk_at "stp"))
      rw [hb, set_new, if_pos rfl, intV_snoc]
    · rw [hb]; simp
  · rintro ρ' τ' rfl
    rw [intV_len, List.take_length]
    (repeat (walk_at "stp"))
    refine c_empty (xs := xs.filter fun x => (A k).testBit x.toNat) (by walk_at "G") (by walk_at "G") _ rfl ?_
    refine cB (fun hb => ?_) (fun hb => ?_)
    · have hz : ∀ x ∈ xs, (A k).testBit x.toNat = false := fun x hx => by
        rw [List.isEmpty_iff, List.filter_eq_nil_iff] at hb
        simpa using hb x hx
      (repeat (walk_at "stp"))
      refine is_live_w (by lia) ?_
      (repeat (walk_at "stp"))
      refine cB (fun hc => ?_) (fun hc => ?_)
      · (repeat (walk_at "stp"))
        exact ⟨Old.app (Old.app (Old.refl τ)), hρ.set (by decide +kernel)⟩
      · (repeat (walk_at "stp"))
        have hO1 : Old τ (τ ++ [O.lst (intV (xs.filter fun x => (A k).testBit x.toNat))] ++ [O.lst []]) := Old.app (Old.app (Old.refl τ))
        generalize (τ ++ [O.lst (intV (xs.filter fun x => (A k).testBit x.toNat))] ++ [O.lst []]) = τ1 at hO1 ⊢
        refine sl_lst (hO1 _ _ hR) hRlen (by lia) ?_
        rw [show ((k : Int)).toNat = k from Int.toNat_natCast k]
        have hO2 : Old τ (τ1 ++ [O.lst ((rs.map Row.toV).take k)]) := hO1.app
        have hT2 : (τ1 ++ [O.lst ((rs.map Row.toV).take k)])[τ1.length]? = some (.lst ((rs.map Row.toV).take k)) := sg_new
        generalize (τ1 ++ [O.lst ((rs.map Row.toV).take k)]) = τ2 at hO2 hT2 ⊢
        generalize τ1.length = t1 at hT2 ⊢
        obtain ⟨ov, hov⟩ : ∃ ov, V.tup [V.str "MOVI", V.int (to : Int), V.int 0, V.int (60000 + (k : Int))] = ov := ⟨_, rfl⟩
        have hov2 : ov = (Row.movi to (60000 + (k : Int))).toV := hov.symm
        rw [hov]
        (repeat (walk_at "stp"))
        have hlt : ((rs.map Row.toV).take k).length ≤ 11 := by rw [List.length_take, List.length_map]; lia
        refine b_cat (sg_app hT2) sg_new (by simp only [List.length_cons, List.length_nil]; lia) ?_
        have hO3 : Old τ (τ2 ++ [O.lst [ov]] ++ [O.lst ((rs.map Row.toV).take k ++ [ov])]) := hO2.app.app
        have hT3 : (τ2 ++ [O.lst [ov]] ++ [O.lst ((rs.map Row.toV).take k ++ [ov])])[(τ2 ++ [O.lst [ov]]).length]? = some (.lst ((rs.map Row.toV).take k ++ [ov])) := sg_new
        generalize (τ2 ++ [O.lst [ov]] ++ [O.lst ((rs.map Row.toV).take k ++ [ov])]) = τ3 at hO3 hT3 ⊢
        generalize (τ2 ++ [O.lst [ov]]).length = t3 at hT3 ⊢
        (repeat (walk_at "stp"))
        refine sl_lstL (hO3 _ _ hR) hRlen (by lia) ?_
        rw [show ((k : Int) + 1).toNat = k + 1 by lia]
        have hO4 : Old τ (τ3 ++ [O.lst ((rs.map Row.toV).drop (k + 1))]) := hO3.app
        have hT4 := hT3
        replace hT4 : (τ3 ++ [O.lst ((rs.map Row.toV).drop (k + 1))])[t3]? = _ := sg_app hT4
        have hD4 : (τ3 ++ [O.lst ((rs.map Row.toV).drop (k + 1))])[τ3.length]? = some (.lst ((rs.map Row.toV).drop (k + 1))) := sg_new
        generalize (τ3 ++ [O.lst ((rs.map Row.toV).drop (k + 1))]) = τ4 at hO4 hT4 hD4 ⊢
        generalize τ3.length = t4 at hD4 ⊢
        have hld : ((rs.map Row.toV).drop (k + 1)).length ≤ 11 := by rw [List.length_drop, List.length_map]; lia
        refine b_cat hT4 hD4 (by rw [List.length_append]; simp only [List.length_cons, List.length_nil]; lia) ?_
        rw [hov2, set_split (by lia), ← hov2]
        have hO5 : Old τ (τ4 ++ [O.lst ((rs.set k (.movi to (60000 + (k : Int)))).map Row.toV)]) := hO4.app
        have hT5 : (τ4 ++ [O.lst ((rs.set k (.movi to (60000 + (k : Int)))).map Row.toV)])[τ4.length]? = some (.lst ((rs.set k (.movi to (60000 + (k : Int)))).map Row.toV)) := sg_new
        generalize (τ4 ++ [O.lst ((rs.set k (.movi to (60000 + (k : Int)))).map Row.toV)]) = τ5 at hO5 hT5 ⊢
        generalize τ4.length = t5 at hT5 ⊢
        (repeat (walk_at "stp"))
        have hok5 : RowsOk (rs.set k (.movi to (60000 + (k : Int)))).length (rs.set k (.movi to (60000 + (k : Int)))) := by
          rw [List.length_set]
          intro i row hr
          by_cases hik : k = i
          · subst hik
            rw [List.getElem?_set_self (by lia)] at hr
            cases hr
            exact ⟨ht, hkN⟩
          · rw [List.getElem?_set_ne hik] at hr
            exact hok i row hr
        refine end_w hT5 (hO5 _ _ hS) (hO5 _ _ hW) (by rw [List.length_set]; exact hN) hok5 hg ?_
        have hE := hd hz hc
        rw [← hm] at hE
        generalize runM (rs.set k (.movi to (60000 + (k : Int)))) 40 (initM r0 w0 w1 w2 w3) = m' at hE ⊢
        show wV _ _
        (repeat (walk_at "stp"))
        have hO6 : Old τ (m'.st τ5 t5 ++ [O.lst (keptV m'.w 8)]) := fun i o h => sg_app (sg_app (hO5 i o h))
        have hdue2 : due = dueV K m'.pc (m'.r 0) (m'.r 11) (m'.r 13) (m'.r 14) := by rw [hdue, hE.pc, hE.r0, hE.r11, hE.r13, hE.r14]
        have hK2 := hO6 _ _ hK
        rw [hE.w, keptV_int] at hK2
        refine c_due2 (K := (m'.st τ5 t5).length) (K' := K) (ns := (List.range 8).map fun (j : Nat) => kdfLook m'.w (j : Int) 0) hdue2 (by rw [← keptV_int]; exact sg_new) hK2 ?_
        (repeat (walk_at "stp"))
        exact hρ.set (by decide +kernel)
    · (repeat (walk_at "stp"))
      exact ⟨Old.app (Old.app (Old.refl τ)), hρ⟩
noncomputable def stmtAt : List Stmt → Nat → Stmt
  | s :: _, 0 => s
  | _ :: r, k + 1 => stmtAt r k
  | [], _ => .Break default
noncomputable def goesOn (f : FlowA) : Prop := f = .next ∨ f = .cont
theorem ex_pair {a b : V} {X : V → V → Prop} (h : X a b) : ∃ c d, V.tup [a, b] = .tup [c, d] ∧ X c d := ⟨a, b, rfl, h⟩
noncomputable def S0 : Stmt := stmtAt B1 0
noncomputable def S1 : Stmt := stmtAt B1 1
noncomputable def S2 : Stmt := stmtAt B1 2
noncomputable def S3 : Stmt := stmtAt B1 3
theorem dead_of {rs : List Row} {B A : Nat → Nat} {k to : Nat} {rp : Row} {xs : List Int} {m : M} {x : Int} (hN : rs.length ≤ 11) (ho : RowsOk rs.length rs) (he : Eqs rs B A) (hp : rs[k]? = some rp) (ht : rp.tgt = some to) (hto : (to : Int) ∈ xs) (h16 : rp.high = true → (16 : Int) ∈ xs) (hg : GoodM m) (hpc : m.pc = 0) :
    (∀ x ∈ xs, (A k).testBit x.toNat = false) → (A k).testBit 17 = false → EndEq (runM rs 40 m) (runM (rs.set k (.movi to x)) 40 m) := fun h1 h2 =>
  run_dead hN ho he hp ht (by simpa using h1 _ hto) h2 (fun e => h1 _ (h16 e)) 40 0 m (Nat.zero_le _) (by lia) hpc hg
theorem turn_skip {k R : Nat} {ws : List V} {nm : Str} {a : V} {vs : List V} {ρ : Rho} {τ : Store} {Q} (hro : ρ "rows" = some (.ref R)) (hat : ρ "at" = some (.int (k : Int))) (hR : τ[R]? = some (.lst ws)) (hl : ws.length ≤ maxLen) (hk : (k : Int) < 2 ^ 62) (hrV : ws[(k : Int).toNat]? = some (.tup (.str nm :: a :: vs)))
    (h1 : inV (.str nm) [.str "B", .str "STR", .str "STB"] = some true) (q : Q .cont ((ρ.set "to" a).set "name" (.str nm)) τ) :
    wF ((ev (CC (n + 7)) 55).ss D_law.scope ρ τ [S0, S1, S2, S3, If1]) Q := by
  refine ss_cons ?_
  refine s_asgT (by kernel_rfl) ?_
  (repeat (walk_at "stp"))
  refine s_if ?_
  refine t_inK (by kernel_rfl) rfl rfl rfl h1 ?_
  (repeat (walk_at "stp"))
  exact q
theorem turn_set {k R to : Nat} {ws : List V} {nm : Str} {vs : List V} {m : Bool} {ρ : Rho} {τ : Store} {Q} (hro : ρ "rows" = some (.ref R)) (hat : ρ "at" = some (.int (k : Int))) (hR : τ[R]? = some (.lst ws)) (hl : ws.length ≤ maxLen) (hk : (k : Int) < 2 ^ 62) (hrV : ws[(k : Int).toNat]? = some (.tup (.str nm :: .int (to : Int) :: vs)))
    (h1 : inV (.str nm) [.str "B", .str "STR", .str "STB"] = some false) (h2 : (nm == ("LDR" : Str)) = false) (h3 : inV (.str nm) [.str "MUL", .str "MULI"] = some m)
    (q : wF ((ev (CC (n + 7)) 50).s D_law.scope (((ρ.set "to" (.int (to : Int))).set "name" (.str nm)).set "sets_x" (.ref τ.length)) (τ ++ [.lst (intV (if m then [(to : Int), 17, 16] else [(to : Int), 17]))]) If1) (fun f ρ1 σ1 => seqK f (wF ((ev (CC (n + 7)) 50).ss D_law.scope ρ1 σ1 []) Q) (Q f ρ1 σ1))) :
    wF ((ev (CC (n + 7)) 55).ss D_law.scope ρ τ [S0, S1, S2, S3, If1]) Q := by
  refine ss_cons ?_
  refine s_asgT (by kernel_rfl) ?_
  (repeat (walk_at "stp"))
  refine s_if ?_
  refine t_inK (by kernel_rfl) rfl rfl rfl h1 ?_
  (repeat (walk_at "stp"))
  refine s_asg rfl rfl ?_
  refine e_ife ?_
  refine t_eqS (by kernel_rfl) rfl h2 ?_
  (repeat (walk_at "stp"))
  refine s_if ?_
  refine t_inK (by kernel_rfl) rfl rfl rfl h3 ?_
  cases m
  · (repeat (walk_at "stp"))
    exact q
  · (repeat (walk_at "stp"))
    rw [set_new]
    exact q
theorem turn1 {k R S W K aa bb : Nat} {due : V} {rs : List Row} {r0 : Nat → Int} {w0 w1 w2 w3 : Int} {A B : Nat → Nat} {ρ : Rho} {τ : Store} {m : M}
    (hρ : LA R S W bb aa due ρ) (hat : ρ "at" = some (.int (k : Int)))
    (hR : τ[R]? = some (.lst (rs.map Row.toV))) (hS : τ[S]? = some (.lst (regsV r0))) (hW : τ[W]? = some (.lst [.int w0, .int w1, .int w2, .int w3]))
    (hA : τ[aa]? = some (.lst (mapV (fun i => V.int (A i : Int)) rs.length))) (hK : τ[K]? = some (.lst (keptV m.w 8)))
    (hm : m = runM rs 40 (initM r0 w0 w1 w2 w3)) (hdue : due = dueV K m.pc (m.r 0) (m.r 11) (m.r 13) (m.r 14))
    (hkN : k + 1 < rs.length) (hN : rs.length ≤ 11) (hok : RowsOk rs.length rs) (hg : GoodM (initM r0 w0 w1 w2 w3)) (he : Eqs rs B A) :
    wF ((ev (CC (n + 7)) 55).ss D_law.scope ρ τ [S0, S1, S2, S3, If1]) fun f ρ2 τ2 => goesOn f ∧ Old τ τ2 ∧ LA R S W bb aa due ρ2 := by
  have hro := hρ.rows
  have hr : rs[k]? = some rs[k] := List.getElem?_eq_getElem (by lia)
  generalize rs[k] = row at hr
  have hrV : (rs.map Row.toV)[(k : Int).toNat]? = some row.toV := by simp [hr]
  obtain ⟨hf, hrok⟩ := hok k row hr
  have hRlen : (rs.map Row.toV).length ≤ maxLen := rows_len (by lia)
  have e1000 : maxLen = 1000 := rfl
  have fin : ∀ {xs : List Int} {to : Nat} {nm : Str} {τ' : Store}, Old τ τ' → τ' = τ ++ [.lst (intV xs)] → (∀ x ∈ xs, 0 ≤ x) → xs.length ≤ 3 → to < 4 → row.tgt = some to → (to : Int) ∈ xs → (row.high = true → (16 : Int) ∈ xs) →
      wF ((ev (CC (n + 7)) 50).s D_law.scope ((((ρ.set "to" (.int (to : Int))).set "name" (.str nm))).set "sets_x" (.ref τ.length)) τ' If1) fun f ρ1 σ1 => seqK f (wF ((ev (CC (n + 7)) 50).ss D_law.scope ρ1 σ1 []) fun f ρ2 τ2 => goesOn f ∧ Old τ τ2 ∧ LA R S W bb aa due ρ2) (goesOn f ∧ Old τ σ1 ∧ LA R S W bb aa due ρ1) := by
    intro xs to nm τ' hO hx' hx0 hxl ht htg hto h16
    have hx : τ'[τ.length]? = some (.lst (intV xs)) := by rw [hx']; exact sg_new
    refine (tail1 (xs := xs) (((hρ.set (by decide +kernel)).set (by decide +kernel)).set (by decide +kernel)) (by walk_at "L") (by walk_at "L") (by walk_at "L") hx hx0 hxl (hO _ _ hR) (hO _ _ hS) (hO _ _ hW) (hO _ _ hA) (hO _ _ hK) hm hdue hkN hN hok ht hg (dead_of hN hok he hr htg hto h16 hg rfl)).mono fun f ρ2 τ2 h => ?_
    obtain ⟨rfl, h1, h2⟩ := h
    (repeat (walk_at "stp"))
    exact ⟨.inl rfl, hO.trans h1, h2⟩
  have hk62 : (k : Int) < 2 ^ 62 := by lia
  rcases row with ⟨to, x⟩ | ⟨op, to, i, j⟩ | ⟨to⟩ | ⟨to, i⟩ | ⟨to, i⟩ | ⟨to, i⟩ | ⟨to, i⟩ | ⟨to, i⟩ | ⟨cd, off⟩ | _
  case halt => exact absurd (show k + 1 = rs.length from hrok) (by lia)
  case jmp => exact turn_skip hro hat hR hRlen hk62 hrV rfl ⟨.inr rfl, Old.refl _, (hρ.set (by decide +kernel)).set (by decide +kernel)⟩
  case str => exact turn_skip hro hat hR hRlen hk62 hrV rfl ⟨.inr rfl, Old.refl _, (hρ.set (by decide +kernel)).set (by decide +kernel)⟩
  case stb => exact turn_skip hro hat hR hRlen hk62 hrV rfl ⟨.inr rfl, Old.refl _, (hρ.set (by decide +kernel)).set (by decide +kernel)⟩
  case movi => exact turn_set (m := false) hro hat hR hRlen hk62 hrV rfl rfl rfl (fin (xs := [(to : Int), 17]) ((Old.refl τ).app) rfl (by simp) (by simp) hf rfl (by simp) (fun h => absurd h (by simp [Row.high])))
  case geth => exact turn_set (m := false) hro hat hR hRlen hk62 hrV rfl rfl rfl (fin (xs := [(to : Int), 17]) ((Old.refl τ).app) rfl (by simp) (by simp) hf rfl (by simp) (fun h => absurd h (by simp [Row.high])))
  case addi => exact turn_set (m := false) hro hat hR hRlen hk62 hrV rfl rfl rfl (fin (xs := [(to : Int), 17]) ((Old.refl τ).app) rfl (by simp) (by simp) hf.1 rfl (by simp) (fun h => absurd h (by simp [Row.high])))
  case muli => exact turn_set (m := true) hro hat hR hRlen hk62 hrV rfl rfl rfl (fin (xs := [(to : Int), 17, 16]) ((Old.refl τ).app) rfl (by simp) (by simp) hf.1 rfl (by simp) (by simp))
  case ldr =>
    refine ss_cons ?_
    refine s_asgT (by kernel_rfl) ?_
    (repeat (walk_at "stp"))
    refine s_if ?_
    (repeat (walk_at "stp"))
    refine s_asg rfl rfl ?_
    (repeat (walk_at "stp"))
    refine s_if ?_
    (repeat (walk_at "stp"))
    exact fin (xs := [(to : Int)]) ((Old.refl τ).app) rfl (by simp) (by simp) hf.1 rfl (by simp) (fun h => absurd h (by simp [Row.high]))
  case alu =>
    cases op
    case mul => exact turn_set (m := true) hro hat hR hRlen hk62 hrV rfl rfl rfl (fin (xs := [(to : Int), 17, 16]) ((Old.refl τ).app) rfl (by simp) (by simp) hf.1 rfl (by simp) (by simp))
    all_goals exact turn_set (m := false) hro hat hR hRlen hk62 hrV rfl rfl rfl (fin (xs := [(to : Int), 17]) ((Old.refl τ).app) rfl (by simp) (by simp) hf.1 rfl (by simp) (fun h => absurd h (by simp [Row.high])))
noncomputable def B2 : List Stmt := loopBody (stmtAt (loopBody (stmtAt D_law.body 8)) 0)
noncomputable def rdB (q : Nat) : Row → Bool
  | .str to _ => decide (to = q) | .stb to _ => decide (to = q) | .alu _ _ a b => decide (a = q) || decide (b = q) | .addi _ a => decide (a = q) | .muli _ a => decide (a = q) | _ => false
theorem reads_rd {row : Row} {q : Nat} (h1 : 1 ≤ q) (h3 : q ≤ 3) (h : row.reads.testBit q = true) : rdB q row = true := by
  have hq : q = 1 ∨ q = 2 ∨ q = 3 := by lia
  rcases row with ⟨to, x⟩ | ⟨op, to, i, j⟩ | ⟨to⟩ | ⟨to, i⟩ | ⟨to, i⟩ | ⟨to, i⟩ | ⟨to, i⟩ | ⟨to, i⟩ | ⟨cd, off⟩ | _
  case jmp => cases cd <;> rcases hq with rfl | rfl | rfl <;> simp only [Row.reads] at h <;> exact absurd h (by decide)
  case halt => rcases hq with rfl | rfl | rfl <;> exact absurd h (by decide)
  case geth => rcases hq with rfl | rfl | rfl <;> exact absurd h (by simp [Row.reads]; decide)
  case movi => exact absurd h (by simp [Row.reads])
  case ldr => rcases hq with rfl | rfl | rfl <;> exact absurd h (by simp [Row.reads]; decide)
  all_goals simp only [Row.reads, show 8192 = 2 ^ 13 from rfl, Nat.testBit_or, Nat.testBit_two_pow, Bool.or_eq_true, decide_eq_true_eq] at h
  all_goals simp only [rdB, Bool.or_eq_true, decide_eq_true_eq]
  all_goals lia
theorem c_in2 {x a b : Int} {P : Bool → Prop} (p : P (decide (a = x) || decide (b = x))) : wC (cmpV .In (.int x) (.tup [.int a, .int b]) σ) P := by
  refine ⟨_, ?_, p⟩
  show some (([V.int a, V.int b]).any (isI x)) = _
  have e : ∀ y : Int, (y == x) = decide (y = x) := fun y => by rw [Bool.eq_iff_iff]; simp
  simp [isI, e]
structure LM (q k j : Nat) (rs : List Row) (R S W bb aa : Nat) (due : V) (τ0 : Store) (ρ : Rho) (τ : Store) : Prop where
  la : LA R S W bb aa due ρ
  reg : ρ "register" = some (.int (q : Int))
  met : ∃ b, ρ "met" = some (.bool b) ∧ ∀ (i : Nat) (row : Row), i < j → rs[k + i]? = some row → rdB q row = true → b = true
  st : τ = τ0
section
variable {q k j : Nat} {rs : List Row} {R S W bb aa : Nat} {due : V} {τ0 : Store} {ρ : Rho} {τ : Store}
theorem LM.set {x : Str} {v : V} (h : LM q k j rs R S W bb aa due τ0 ρ τ) (hx : ((decide (("rows" : Str) ≠ x) && decide (("seeds" : Str) ≠ x) && decide (("words" : Str) ≠ x) && decide (("due" : Str) ≠ x) && decide (("ahead" : Str) ≠ x) && decide (("behind" : Str) ≠ x)) && (decide (("register" : Str) ≠ x) && decide (("met" : Str) ≠ x))) = true) : LM q k j rs R S W bb aa due τ0 (ρ.set x v) τ := by
  rw [Bool.and_eq_true, Bool.and_eq_true (a := decide (("register" : Str) ≠ x))] at hx
  obtain ⟨h1, h2, h3⟩ := hx
  obtain ⟨b, hb, hm⟩ := h.met
  exact ⟨h.la.set h1, rs_ne h2 h.reg, ⟨b, rs_ne h3 hb, hm⟩, h.st⟩
theorem LM.skip {row : Row} (h : LM q k j rs R S W bb aa due τ0 ρ τ) (hr : rs[k + j]? = some row) (hf : rdB q row = false) : LM q k (j + 1) rs R S W bb aa due τ0 ρ τ := by
  obtain ⟨b, hb, hm⟩ := h.met
  refine ⟨h.la, h.reg, ⟨b, hb, fun i row' hi hr' hd => ?_⟩, h.st⟩
  by_cases hij : i = j
  · subst hij
    rw [hr] at hr'
    cases hr'
    rw [hf] at hd; exact absurd hd (by simp)
  · exact hm i row' (by lia) hr' hd
theorem LM.hit (h : LM q k j rs R S W bb aa due τ0 ρ τ) : LM q k (j + 1) rs R S W bb aa due τ0 (ρ.set "met" (.bool true)) τ :=
  ⟨h.la.set (by decide +kernel), rs_ne (by decide +kernel) h.reg, ⟨true, rfl, fun _ _ _ _ _ => rfl⟩, h.st⟩
end
noncomputable def ifThen : Stmt → List Stmt
  | .If _ a _ _ => a
  | _ => []
noncomputable def forTgt : Stmt → Expr
  | .For t _ _ _ _ => t
  | _ => .Constant .none 0 default
noncomputable def F3 : Stmt := stmtAt (ifThen (stmtAt B2 0)) 1
noncomputable def TG3 : Expr := forTgt F3
noncomputable def I1 : Stmt := stmtAt (loopBody F3) 0
noncomputable def I2 : Stmt := stmtAt (loopBody F3) 1
section
variable {q : Nat} {nm : Str} {a b c : V} {ρ : Rho} {τ : Store} {Q : FlowA → Rho → Store → Prop}
noncomputable abbrev ρ4 (ρ : Rho) (nm : Str) (a b c : V) : Rho := (((ρ.set "name" (.str nm)).set "to" a).set "one" b).set "last" c
theorem in_first (h1 : inV (.str nm) [.str "STR", .str "STB"] = some false) (h2 : inV (.str nm) [.str "ADD", .str "SUB", .str "MUL", .str "XOR"] = some false)
    (k : wF ((ev (CC (n + 7)) 45).s D_law.scope (ρ4 ρ nm a b c) τ I2) fun f ρ1 σ1 => seqK f (wF ((ev (CC (n + 7)) 45).ss D_law.scope ρ1 σ1 []) Q) (Q f ρ1 σ1)) : wR (asg (CC (n + 7)) (ev (CC (n + 7)) 47) D_law.scope ρ τ TG3 (.tup [.str nm, a, b, c])) fun ρ1 σ1 => wF ((ev (CC (n + 7)) 47).ss D_law.scope ρ1 σ1 [I1, I2]) Q := by
  refine a_tup (by exact rfl) ?_
  (repeat (walk_at "stp"))
  refine s_if ?_
  refine t_bool ?_
  refine all_or ?_
  refine t_bool ?_
  refine all_and ?_
  refine t_inK (by kernel_rfl) rfl rfl rfl h1 ?_
  (repeat (walk_at "stp"))
  refine c_val (c := false) h2 ?_
  (repeat (walk_at "stp"))
  exact k
theorem in_none (h1 : inV (.str nm) [.str "STR", .str "STB"] = some false) (h2 : inV (.str nm) [.str "ADD", .str "SUB", .str "MUL", .str "XOR"] = some false) (h3 : inV (.str nm) [.str "ADDI", .str "MULI"] = some false)
    (k : Q .next (ρ4 ρ nm a b c) τ) : wR (asg (CC (n + 7)) (ev (CC (n + 7)) 47) D_law.scope ρ τ TG3 (.tup [.str nm, a, b, c])) fun ρ1 σ1 => wF ((ev (CC (n + 7)) 47).ss D_law.scope ρ1 σ1 [I1, I2]) Q := by
  refine in_first (n := n) (nm := nm) (ρ := ρ) (τ := τ) (Q := Q) h1 h2 ?_
  refine s_if ?_
  refine t_bool ?_
  refine all_and ?_
  refine t_inK (by kernel_rfl) rfl rfl rfl h3 ?_
  (repeat (walk_at "stp"))
  exact k
theorem in_imm {i : Nat} (h1 : inV (.str nm) [.str "STR", .str "STB"] = some false) (h2 : inV (.str nm) [.str "ADD", .str "SUB", .str "MUL", .str "XOR"] = some false) (h3 : inV (.str nm) [.str "ADDI", .str "MULI"] = some true) (hreg : ρ "register" = some (.int (q : Int)))
    (k : i = q → Q .next ((ρ4 ρ nm a (.int (i : Int)) c).set "met" (.bool true)) τ) (k' : i ≠ q → Q .next (ρ4 ρ nm a (.int (i : Int)) c) τ) : wR (asg (CC (n + 7)) (ev (CC (n + 7)) 47) D_law.scope ρ τ TG3 (.tup [.str nm, a, .int (i : Int), c])) fun ρ1 σ1 => wF ((ev (CC (n + 7)) 47).ss D_law.scope ρ1 σ1 [I1, I2]) Q := by
  refine in_first (n := n) (nm := nm) (ρ := ρ) (τ := τ) (Q := Q) h1 h2 ?_
  refine s_if ?_
  refine t_bool ?_
  refine all_and ?_
  refine t_inK (by kernel_rfl) rfl rfl rfl h3 ?_
  (repeat (walk_at "stp"))
  refine cD (fun h => ?_) (fun h => ?_)
  · (repeat (walk_at "stp"))
    exact k (by lia)
  · (repeat (walk_at "stp"))
    exact k' (by lia)
theorem in_mem {i : Nat} (h1 : inV (.str nm) [.str "STR", .str "STB"] = some true) (h2 : inV (.str nm) [.str "ADD", .str "SUB", .str "MUL", .str "XOR"] = some false) (h3 : inV (.str nm) [.str "ADDI", .str "MULI"] = some false) (hreg : ρ "register" = some (.int (q : Int)))
    (k : i = q → Q .next ((ρ4 ρ nm (.int (i : Int)) b c).set "met" (.bool true)) τ) (k' : i ≠ q → Q .next (ρ4 ρ nm (.int (i : Int)) b c) τ) : wR (asg (CC (n + 7)) (ev (CC (n + 7)) 47) D_law.scope ρ τ TG3 (.tup [.str nm, .int (i : Int), b, c])) fun ρ1 σ1 => wF ((ev (CC (n + 7)) 47).ss D_law.scope ρ1 σ1 [I1, I2]) Q := by
  refine a_tup (by exact rfl) ?_
  (repeat (walk_at "stp"))
  refine s_if ?_
  refine t_bool ?_
  refine all_or ?_
  refine t_bool ?_
  refine all_and ?_
  refine t_inK (by kernel_rfl) rfl rfl rfl h1 ?_
  (repeat (walk_at "stp"))
  refine cD (fun h => ?_) (fun h => ?_)
  · (repeat (walk_at "stp"))
    refine s_if ?_
    refine t_bool ?_
    refine all_and ?_
    refine t_inK (by kernel_rfl) rfl rfl rfl h3 ?_
    (repeat (walk_at "stp"))
    exact k (by lia)
  · (repeat (walk_at "stp"))
    refine c_val (c := false) h2 ?_
    (repeat (walk_at "stp"))
    refine s_if ?_
    refine t_bool ?_
    refine all_and ?_
    refine t_inK (by kernel_rfl) rfl rfl rfl h3 ?_
    (repeat (walk_at "stp"))
    exact k' (by lia)
theorem in_alu {i j : Nat} (h1 : inV (.str nm) [.str "STR", .str "STB"] = some false) (h2 : inV (.str nm) [.str "ADD", .str "SUB", .str "MUL", .str "XOR"] = some true) (h3 : inV (.str nm) [.str "ADDI", .str "MULI"] = some false) (hreg : ρ "register" = some (.int (q : Int)))
    (k : Q .next ((ρ4 ρ nm a (.int (i : Int)) (.int (j : Int))).set "met" (.bool true)) τ) (k' : i ≠ q → j ≠ q → Q .next (ρ4 ρ nm a (.int (i : Int)) (.int (j : Int))) τ) : wR (asg (CC (n + 7)) (ev (CC (n + 7)) 47) D_law.scope ρ τ TG3 (.tup [.str nm, a, .int (i : Int), .int (j : Int)])) fun ρ1 σ1 => wF ((ev (CC (n + 7)) 47).ss D_law.scope ρ1 σ1 [I1, I2]) Q := by
  refine a_tup (by exact rfl) ?_
  (repeat (walk_at "stp"))
  refine s_if ?_
  refine t_bool ?_
  refine all_or ?_
  refine t_bool ?_
  refine all_and ?_
  refine t_inK (by kernel_rfl) rfl rfl rfl h1 ?_
  (repeat (walk_at "stp"))
  refine c_val (c := true) h2 ?_
  (repeat (walk_at "stp"))
  refine cB (fun h => ?_) (fun h => ?_)
  · (repeat (walk_at "stp"))
    refine s_if ?_
    refine t_bool ?_
    refine all_and ?_
    refine t_inK (by kernel_rfl) rfl rfl rfl h3 ?_
    (repeat (walk_at "stp"))
    exact k
  · (repeat (walk_at "stp"))
    refine s_if ?_
    refine t_bool ?_
    refine all_and ?_
    refine t_inK (by kernel_rfl) rfl rfl rfl h3 ?_
    (repeat (walk_at "stp"))
    simp only [Bool.or_eq_false_iff, decide_eq_false_iff_not] at h
    exact k' (by lia) (by lia)
end
theorem LM.four {q k j : Nat} {rs : List Row} {R S W bb aa : Nat} {due : V} {τ0 : Store} {ρ : Rho} {τ : Store} {nm : Str} {a b c : V} (h : LM q k j rs R S W bb aa due τ0 ρ τ) : LM q k j rs R S W bb aa due τ0 (ρ4 ρ nm a b c) τ :=
  (((h.set (by decide +kernel)).set (by decide +kernel)).set (by decide +kernel)).set (by decide +kernel)
theorem turn2 {k q R S W bb aa : Nat} {due : V} {rs : List Row} {A B : Nat → Nat} {ρ : Rho} {τ : Store}
    (hρ : LA R S W bb aa due ρ) (hat : ρ "at" = some (.int (k : Int))) (hreg : ρ "register" = some (.int (q : Int)))
    (hR : τ[R]? = some (.lst (rs.map Row.toV))) (hB : τ[bb]? = some (.lst (mapV (fun i => V.int (B i : Int)) rs.length)))
    (hk : k < rs.length) (hN : rs.length ≤ 11) (hok : RowsOk rs.length rs) (he : Eqs rs B A) (h1 : 1 ≤ q) (h3 : q ≤ 3) :
    wF ((ev (CC (n + 7)) 52).ss D_law.scope ρ τ B2) fun f ρ2 τ2 => goesOn f ∧ Old τ τ2 ∧ LA R S W bb aa due ρ2 ∧ ρ2 "register" = some (.int (q : Int)) := by
  have hro := hρ.rows
  have hah := hρ.ahead
  have e1000 : maxLen = 1000 := rfl
  have hRlen : (rs.map Row.toV).length ≤ maxLen := rows_len (by lia)
  have hBg := mapV_get (f := fun i => V.int (B i : Int)) hk
  refine ss_cons ?_
  (repeat (walk_at "stp"))
  refine is_live_w (by lia) ?_
  rw [show ((q : Int)).toNat = q from Int.toNat_natCast q]
  (repeat (walk_at "stp"))
  refine cB (fun hb => ?_) (fun hb => ?_)
  · obtain ⟨j, row, hkj, hjr, hrd⟩ := live_read hok he rs.length k (by lia) hb hk
    have hrb := reads_rd h1 h3 hrd
    (repeat (walk_at "stp"))
    refine sl_lstL hR hRlen (by lia) ?_
    rw [show ((k : Int)).toNat = k from Int.toNat_natCast k]
    (repeat (walk_at "stp"))
    have hld : ((rs.map Row.toV).drop k).length ≤ maxLen := by rw [List.length_drop]; lia
    refine forL_n (ws := (rs.map Row.toV).drop k) (fun j ρ' τ' => LM q k j rs R S W bb aa due (τ ++ [O.lst ((rs.map Row.toV).drop k)]) ρ' τ') hld (fun _ _ _ h => by rw [h.st]; exact sg_new) ⟨hρ.set (by decide +kernel), rs_ne (by decide +kernel) hreg, ⟨false, rfl, fun i _ hi => absurd hi (by lia)⟩, rfl⟩ ?_ ?_
    · rintro j' v ρ' τ' hv hM
      obtain ⟨row', hr', rfl⟩ : ∃ row', rs[k + j']? = some row' ∧ v = row'.toV := by
        rw [List.getElem?_drop, List.getElem?_map] at hv
        cases e : rs[k + j']? with
        | none => rw [e] at hv; exact absurd hv (by simp)
        | some x => rw [e] at hv; exact ⟨x, rfl, by simpa using hv.symm⟩
      have hreg' := hM.reg
      clear hv hat hreg hro hah hBg hb hjr hrd hrb hRlen hld
      rcases row' with ⟨to, x⟩ | ⟨op, to, i, j⟩ | ⟨to⟩ | ⟨to, i⟩ | ⟨to, i⟩ | ⟨to, i⟩ | ⟨to, i⟩ | ⟨to, i⟩ | ⟨cd, off⟩ | _
      case movi => exact in_none rfl rfl rfl (hM.four.skip hr' rfl)
      case geth => exact in_none rfl rfl rfl (hM.four.skip hr' rfl)
      case ldr => exact in_none rfl rfl rfl (hM.four.skip hr' rfl)
      case jmp => exact in_none rfl rfl rfl (hM.four.skip hr' rfl)
      case halt => exact in_none rfl rfl rfl (hM.four.skip hr' rfl)
      case str => exact in_mem rfl rfl rfl hreg' (fun _ => hM.four.hit) (fun h => hM.four.skip hr' (by simpa [rdB] using h))
      case stb => exact in_mem rfl rfl rfl hreg' (fun _ => hM.four.hit) (fun h => hM.four.skip hr' (by simpa [rdB] using h))
      case addi => exact in_imm rfl rfl rfl hreg' (fun _ => hM.four.hit) (fun h => hM.four.skip hr' (by simpa [rdB] using h))
      case muli => exact in_imm rfl rfl rfl hreg' (fun _ => hM.four.hit) (fun h => hM.four.skip hr' (by simpa [rdB] using h))
      case alu => cases op <;> exact in_alu rfl rfl rfl hreg' hM.four.hit (fun h h' => hM.four.skip hr' (by simp [rdB, h, h']))
    · rintro ρ' τ' hM
      obtain ⟨b, hmet, hb2⟩ := hM.met
      have hbt : b = true := hb2 (j - k) row (by rw [List.length_drop, List.length_map]; have := get_lt hjr; lia) (by rw [show k + (j - k) = j by lia]; exact hjr) hrb
      subst hbt
      (repeat (walk_at "stp"))
      exact ⟨.inl rfl, by rw [hM.st]; exact (Old.refl τ).app, hM.la, hM.reg⟩
  · (repeat (walk_at "stp"))
    exact ⟨.inl rfl, Old.refl τ, hρ, hreg⟩
noncomputable def seedR (a b c d : Int) : Nat → Int := fun i => match i with
  | 0 => a | 1 => b | 2 => c | 3 => d | 11 => 1000 | 12 => 3 | 13 => 0 | 14 => 900 | 15 => 500 | _ => 3
theorem seed_eq (a b c d : Int) : [V.int a, .int b, .int c, .int d] ++ List.replicate 7 (V.int 3) ++ [.int 1000, .int 3, .int 0, .int 900, .int 500] = regsV (seedR a b c d) := rfl
theorem w32lit (x : Int) (h : decide (0 ≤ x ∧ x < 4294967296) = true) : W32 x := (of_decide_eq_true h : 0 ≤ x ∧ x < 4294967296)
theorem seed_good {a b c d w0 w1 w2 w3 : Int} (ha : W32 a) (hb : W32 b) (hc : W32 c) (hd : W32 d) : GoodM (initM (seedR a b c d) w0 w1 w2 w3) := by
  refine ⟨fun i hi => ?_, w32lit 5 rfl, rfl, rfl, fun p hp => ?_, by show (4 : Nat) ≤ 100; lia, fun k hk => ?_⟩
  · show W32 (seedR a b c d i)
    have : i = 0 ∨ i = 1 ∨ i = 2 ∨ i = 3 ∨ i = 4 ∨ i = 5 ∨ i = 6 ∨ i = 7 ∨ i = 8 ∨ i = 9 ∨ i = 10 ∨ i = 11 ∨ i = 12 ∨ i = 13 ∨ i = 14 ∨ i = 15 := by lia
    rcases this with rfl | rfl | rfl | rfl | rfl | rfl | rfl | rfl | rfl | rfl | rfl | rfl | rfl | rfl | rfl | rfl
    · exact ha
    · exact hb
    · exact hc
    · exact hd
    all_goals first | exact w32lit 3 rfl | exact w32lit 1000 rfl | exact w32lit 0 rfl | exact w32lit 900 rfl | exact w32lit 500 rfl
  · have hp' : p ∈ initW w0 w1 w2 w3 := hp
    simp only [initW, List.mem_cons, List.not_mem_nil, or_false] at hp'
    rcases hp' with rfl | rfl | rfl | rfl <;> exact fmodW _
  · have : k = 0 ∨ k = 1 ∨ k = 2 ∨ k = 3 := by lia
    rcases this with rfl | rfl | rfl | rfl <;> rfl
theorem range2_get {N k : Nat} {s i : Int} (h : ((List.range N).map fun (i : Nat) => s + (i : Int))[k]? = some i) : k < N ∧ i = s + (k : Int) := by
  rw [List.getElem?_map] at h
  rcases Nat.lt_or_ge k N with h1 | h1
  · rw [List.getElem?_range h1] at h
    simp only [Option.map_some, Option.some.injEq] at h
    exact ⟨h1, h.symm⟩
  · rw [List.getElem?_eq_none (by simpa using h1)] at h; exact absurd h (by simp)
theorem last_live {rs : List Row} {A B : Nat → Nat} (hok : RowsOk rs.length rs) (he : Eqs rs B A) (h0 : 0 < rs.length) : B (rs.length - 1) = 59393 := by
  have hr : rs[rs.length - 1]? = some rs[rs.length - 1] := List.getElem?_eq_getElem (by lia)
  generalize rs[rs.length - 1] = row at hr
  obtain ⟨hf, hrok⟩ := hok _ row hr
  obtain ⟨h1, h2⟩ := he _ row hr
  rw [h2, h1]
  rcases row with ⟨to, x⟩ | ⟨op, to, i, j⟩ | ⟨to⟩ | ⟨to, i⟩ | ⟨to, i⟩ | ⟨to, i⟩ | ⟨to, i⟩ | ⟨to, i⟩ | ⟨cd, off⟩ | _
  case halt => simp [Row.succs, orAll, liveB, Row.reads, Row.writes]
  all_goals simp only [Row.Ok] at hrok
  all_goals lia
theorem law_w {n : Nat} {ns : List Int} {Q} (hl : ns.length ≤ 63) (q : ∀ σ, Q (.bool true) σ) : wV (phi T0 (n + 8) (.glob "law") [.scr ns] []) Q := by
  have e1000 : maxLen = 1000 := rfl
  refine in_g fD_law (by kernel_rfl) (by kernel_rfl) ?_
  refine ss_cons ?_
  (repeat (walk_at "stp"))
  refine pods_w hl fun s σ1 hS1 => ?_
  (repeat (walk_at "stp"))
  refine pod_w hS1 (by lia) fun many σ2 hm he2 => ?_
  have hS2 := he2.1
  (repeat (walk_at "stp"))
  refine planned_w hS2 (by lia) fun rs R σ3 hlen hok hR3 hS3 hRs => ?_
  (repeat (walk_at "stp"))
  have hlt3 := hS3.lt
  have hne3 : σ3.length ≠ s := by lia
  refine compI_inv (fun k τ => Shelf τ s ∧ σ3.length < τ.length ∧ τ[R]? = some (.lst (rs.map Row.toV)) ∧ ∃ xs : List Int, τ[σ3.length]? = some (.lst (intV xs)) ∧ xs.length = k ∧ ∀ x ∈ xs, W32 x) _ 0 _ _ _ (fun _ _ => rfl) ⟨hS3.app, by simp, sg_app hR3, [], sg_new, rfl, fun x h => absurd h (by simp)⟩ ?_ ?_
  · rintro k i ρ τ hk hr ⟨hSt, hlt, hRt, xs, hx, hxl, hxw⟩
    obtain ⟨hk4, rfl⟩ := range_get hk
    have hk4' : k < 4 := hk4
    rw [Nat.zero_add] at *
    have hsh : ρ "shelf" = some (.ref s) := by
      rw [hr _ (by decide +kernel)]
      exact hid_ne (by kernel_rfl) rfl
    clear hr
    (repeat (walk_at "stp"))
    refine pod_w hSt (by lia) fun y τ' hy hey => ?_
    (repeat (walk_at "stp"))
    have hx' := hey.2.1 _ _ hne3 hx
    have hRl := sg_lt hR3
    have hyl := hey.2.2
    refine acc_push hx' (by rw [intV_len]; lia) ?_
    refine ⟨hey.1.set hne3, by rw [List.length_set]; lia, sg_set_ne (by lia) (hey.2.1 _ _ hRs hRt), xs ++ [(↑y * 50000001 : Int).fmod 4294967296], by rw [intV_snoc]; exact sg_set_eq hx', by rw [List.length_append, hxl]; rfl, fun x hx => ?_⟩
    rw [List.mem_append, List.mem_singleton] at hx
    rcases hx with hx | rfl
    · exact hxw x hx
    · exact fmodW _
  · rintro ρ τ ⟨hSt, hlt, hRt, xs, hx, hxl, hxw⟩
    clear ρ
    obtain ⟨a, b, c, d, rfl⟩ : ∃ a b c d, xs = [a, b, c, d] := by
      have h4 : xs.length = 4 := hxl
      match xs, h4 with
      | [a, b, c, d], _ => exact ⟨a, b, c, d, rfl⟩
    have hwa := hxw a (by simp)
    have hwb := hxw b (by simp)
    have hwc := hxw c (by simp)
    have hwd := hxw d (by simp)
    have hx4 : τ[σ3.length]? = some (.lst [V.int a, .int b, .int c, .int d]) := hx
    (repeat (walk_at "stp"))
    refine b_cat (xs := [V.int a, .int b, .int c, .int d]) (ys := List.replicate 7 (V.int 3)) (by walk_at "G") sg_new (Nat.le_of_ble_eq_true (by kernel_rfl)) ?_
    (repeat (walk_at "stp"))
    refine b_cat (xs := [V.int a, .int b, .int c, .int d] ++ List.replicate 7 (V.int 3)) (ys := [.int 1000, .int 3, .int 0, .int 900, .int 500]) (by walk_at "G") (by walk_at "G") (Nat.le_of_ble_eq_true (by kernel_rfl)) ?_
    rw [seed_eq]
    (repeat (walk_at "stp"))
    have hSs : (τ ++ [O.lst [V.int 3]] ++ [O.lst (List.replicate (Int.toNat 7) (V.int 3))] ++ [O.lst ([V.int a, V.int b, V.int c, V.int d] ++ List.replicate 7 (V.int 3))] ++ [O.lst [V.int 1000, V.int 3, V.int 0, V.int 900, V.int 500]] ++ [O.lst (regsV (seedR a b c d))])[(τ ++ [O.lst [V.int 3]] ++ [O.lst (List.replicate (Int.toNat 7) (V.int 3))] ++ [O.lst ([V.int a, V.int b, V.int c, V.int d] ++ List.replicate 7 (V.int 3))] ++ [O.lst [V.int 1000, V.int 3, V.int 0, V.int 900, V.int 500]]).length]? = some (.lst (regsV (seedR a b c d))) := sg_new
    have hSh5 := ((((hSt.app (o := O.lst [V.int 3])).app (o := O.lst (List.replicate (Int.toNat 7) (V.int 3)))).app (o := O.lst ([V.int a, V.int b, V.int c, V.int d] ++ List.replicate 7 (V.int 3)))).app (o := O.lst [V.int 1000, V.int 3, V.int 0, V.int 900, V.int 500])).app (o := O.lst (regsV (seedR a b c d)))
    have hR5 : (τ ++ [O.lst [V.int 3]] ++ [O.lst (List.replicate (Int.toNat 7) (V.int 3))] ++ [O.lst ([V.int a, V.int b, V.int c, V.int d] ++ List.replicate 7 (V.int 3))] ++ [O.lst [V.int 1000, V.int 3, V.int 0, V.int 900, V.int 500]] ++ [O.lst (regsV (seedR a b c d))])[R]? = some (.lst (rs.map Row.toV)) := sg_app (sg_app (sg_app (sg_app (sg_app hRt))))
    have hSl : s < (τ ++ [O.lst [V.int 3]] ++ [O.lst (List.replicate (Int.toNat 7) (V.int 3))] ++ [O.lst ([V.int a, V.int b, V.int c, V.int d] ++ List.replicate 7 (V.int 3))] ++ [O.lst [V.int 1000, V.int 3, V.int 0, V.int 900, V.int 500]]).length := by simp; lia
    generalize (τ ++ [O.lst [V.int 3]] ++ [O.lst (List.replicate (Int.toNat 7) (V.int 3))] ++ [O.lst ([V.int a, V.int b, V.int c, V.int d] ++ List.replicate 7 (V.int 3))] ++ [O.lst [V.int 1000, V.int 3, V.int 0, V.int 900, V.int 500]]).length = S at hSs hSl ⊢
    generalize (τ ++ [O.lst [V.int 3]] ++ [O.lst (List.replicate (Int.toNat 7) (V.int 3))] ++ [O.lst ([V.int a, V.int b, V.int c, V.int d] ++ List.replicate 7 (V.int 3))] ++ [O.lst [V.int 1000, V.int 3, V.int 0, V.int 900, V.int 500]] ++ [O.lst (regsV (seedR a b c d))]) = τ5 at hSs hSh5 hR5 ⊢
    clear hSt hlt hRt hx hxl hxw hx4 τ
    have hlt5 := hSh5.lt
    have hne5 : τ5.length ≠ s := by lia
    have hneS : S ≠ s := by lia
    refine compI_inv (fun k τ => Shelf τ s ∧ τ5.length < τ.length ∧ τ[R]? = some (.lst (rs.map Row.toV)) ∧ τ[S]? = some (.lst (regsV (seedR a b c d))) ∧ ∃ xs : List Int, τ[τ5.length]? = some (.lst (intV xs)) ∧ xs.length = k) _ 0 _ _ _ (fun _ _ => rfl) ⟨hSh5.app, by simp, sg_app hR5, sg_app hSs, [], sg_new, rfl⟩ ?_ ?_
    · rintro k i ρ τ hk hr ⟨hSt, hlt, hRt, hSst, xs, hx, hxl⟩
      obtain ⟨hk4, rfl⟩ := range_get hk
      have hk4' : k < 4 := hk4
      rw [Nat.zero_add] at *
      have hsh : ρ "shelf" = some (.ref s) := by
        rw [hr _ (by decide +kernel)]
        exact hid_ne (by kernel_rfl) rfl
      clear hr
      (repeat (walk_at "stp"))
      refine pod_w hSt (by lia) fun y τ' hy hey => ?_
      (repeat (walk_at "stp"))
      have hx' := hey.2.1 _ _ hne5 hx
      have hyl := hey.2.2
      have hRl := sg_lt hR5
      have hSl' := sg_lt hSs
      refine acc_push hx' (by rw [intV_len]; lia) ?_
      exact ⟨hey.1.set hne5, by rw [List.length_set]; lia, sg_set_ne (by lia) (hey.2.1 _ _ hRs hRt), sg_set_ne (by lia) (hey.2.1 _ _ hneS hSst), xs ++ [(y : Int)], by rw [intV_snoc]; exact sg_set_eq hx', by rw [List.length_append, hxl]; rfl⟩
    · rintro ρ τ ⟨hSt, hlt, hRt, hSst, xs, hx, hxl⟩
      clear ρ
      obtain ⟨w0, w1, w2, w3, rfl⟩ : ∃ a b c d, xs = [a, b, c, d] := by
        have h4 : xs.length = 4 := hxl
        match xs, h4 with
        | [a, b, c, d], _ => exact ⟨a, b, c, d, rfl⟩
      have hW : τ[τ5.length]? = some (.lst [V.int w0, .int w1, .int w2, .int w3]) := hx
      have hgood : GoodM (initM (seedR a b c d) w0 w1 w2 w3) := seed_good hwa hwb hwc hwd
      have hN : rs.length ≤ 11 := by lia
      have hok' : RowsOk rs.length rs := by rw [hlen]; exact hok
      (repeat (walk_at "stp"))
      refine end_w hRt hSst hW hN hok' hgood ?_
      have hpc : (runM rs 40 (initM (seedR a b c d) w0 w1 w2 w3)).pc = 500 := run_end hN hok' 40 0 _ (by lia) (by lia) rfl hgood
      show wF _ _
      rw [hpc]
      (repeat (walk_at "stp"))
      have hO6 : Old τ ((runM rs 40 (initM (seedR a b c d) w0 w1 w2 w3)).st τ R ++ [O.lst (keptV (runM rs 40 (initM (seedR a b c d) w0 w1 w2 w3)).w 8)]) := fun i o h => sg_app (sg_app h)
      have hK6 : ((runM rs 40 (initM (seedR a b c d) w0 w1 w2 w3)).st τ R ++ [O.lst (keptV (runM rs 40 (initM (seedR a b c d) w0 w1 w2 w3)).w 8)])[((runM rs 40 (initM (seedR a b c d) w0 w1 w2 w3)).st τ R).length]? = some (.lst (keptV (runM rs 40 (initM (seedR a b c d) w0 w1 w2 w3)).w 8)) := sg_new
      generalize ((runM rs 40 (initM (seedR a b c d) w0 w1 w2 w3)).st τ R).length = K at hK6 ⊢
      generalize ((runM rs 40 (initM (seedR a b c d) w0 w1 w2 w3)).st τ R ++ [O.lst (keptV (runM rs 40 (initM (seedR a b c d) w0 w1 w2 w3)).w 8)]) = τ6 at hO6 hK6 ⊢
      refine live_w (hO6 _ _ hRt) hN hok' fun B A bb aa τ7 hO7 hB hA hEq => ?_
      have hR7 := hO7 _ _ (hO6 _ _ hRt)
      have hS7 := hO7 _ _ (hO6 _ _ hSst)
      have hW7 := hO7 _ _ (hO6 _ _ hW)
      have hK7 := hO7 _ _ hK6
      clear hO6 hK6 hO7 hRt hSst hW hx hxl hSt hlt
      have hRlen : (rs.map Row.toV).length ≤ maxLen := rows_len (by lia)
      (repeat (walk_at "stp"))
      generalize hdue : (V.tup [V.tup [V.str "trap", V.int 15, V.int 0], V.int 500, V.ref K, V.int ((runM rs 40 (initM (seedR a b c d) w0 w1 w2 w3)).r 0), V.int ((runM rs 40 (initM (seedR a b c d) w0 w1 w2 w3)).r 11), V.int ((runM rs 40 (initM (seedR a b c d) w0 w1 w2 w3)).r 13), V.int ((runM rs 40 (initM (seedR a b c d) w0 w1 w2 w3)).r 14)]) = due
      refine forI_n (fun k ρ τ => Old τ7 τ ∧ LA R S τ5.length bb aa due ρ) _ 0 _ _ ⟨fun _ _ h => h, ⟨by walk_at "L", by walk_at "L", by walk_at "L", by walk_at "L", by walk_at "L", by walk_at "L"⟩⟩ ?_ ?_
      · rintro k i ρ τ hk ⟨hO, hρ⟩
        obtain ⟨hk2, rfl⟩ := range_get hk
        try rw [List.length_map] at hk2
        have hkN : k + 1 < rs.length := by lia
        refine a_cell (by kernel_rfl) ?_
        refine (turn1 (k := k) (hρ.set (by decide +kernel)) rfl (hO _ _ hR7) (hO _ _ hS7) (hO _ _ hW7) (hO _ _ hA) (hO _ _ hK7) rfl (by rw [hpc]; exact hdue.symm) hkN hN hok' hgood hEq).mono fun f ρ2 τ2 h => ?_
        obtain ⟨hf, h1, h2⟩ := h
        rcases hf with rfl | rfl
        · exact ⟨hO.trans h1, h2⟩
        · exact ⟨hO.trans h1, h2⟩
      · rintro ρ τ ⟨hO, hρ⟩
        (repeat (walk_at "stp"))
        have hro8 := hρ.rows
        refine forI_n (fun k ρ τ => Old τ7 τ ∧ LA R S τ5.length bb aa due ρ) _ 0 _ _ ⟨hO, hρ⟩ ?_ ?_
        · rintro k i ρ τ hk ⟨hO, hρ⟩
          obtain ⟨hk3, rfl⟩ := range2_get hk
          have hk3' : k < 3 := hk3
          rw [show (1 : Int) + (k : Int) = ((k + 1 : Nat) : Int) by lia]
          have hR9 := hO _ _ hR7
          have hro9 := hρ.rows
          refine a_loc (by kernel_rfl) ?_
          (repeat (walk_at "stp"))
          refine forI_n (fun j ρ τ => Old τ7 τ ∧ LA R S τ5.length bb aa due ρ ∧ ρ "register" = some (.int ((k + 1 : Nat) : Int))) _ 0 _ _ ⟨hO, hρ.set (by decide +kernel), rfl⟩ ?_ ?_
          · rintro j i ρ τ hj ⟨hO, hρ, hreg⟩
            obtain ⟨hj2, rfl⟩ := range_get hj
            have hj3 : j < rs.length := by simpa using hj2
            refine a_cell (by kernel_rfl) ?_
            refine (turn2 (k := j) (q := k + 1) (hρ.set (by decide +kernel)) rfl (rs_ne (by decide +kernel) hreg) (hO _ _ hR7) (hO _ _ hB) hj3 hN hok' hEq (by lia) (by lia)).mono fun f ρ2 τ2 h => ?_
            obtain ⟨hf, h1, h2, h3⟩ := h
            rcases hf with rfl | rfl
            · exact ⟨hO.trans h1, h2, h3⟩
            · exact ⟨hO.trans h1, h2, h3⟩
          · rintro ρ τ ⟨hO, hρ, hreg⟩
            (repeat (walk_at "stp"))
            exact hρ
        · rintro ρ τ ⟨hO, hρ⟩
          have hR9 := hO _ _ hR7
          have hB9 := hO _ _ hB
          have hro9 := hρ.rows
          have hah9 := hρ.ahead
          have hl9 : (rs.map Row.toV).length = rs.length := List.length_map ..
          have hBl : (mapV (fun i => V.int (B i : Int)) rs.length)[(((rs.map Row.toV).length : Nat) - 1 : Int).toNat]? = some (V.int ((59393 : Nat) : Int)) := by
            rw [hl9, show (((rs.length : Nat) : Int) - 1) = ((rs.length - 1 : Nat) : Int) by lia, mapV_get (f := fun i => V.int (B i : Int)) (by lia), last_live hok' hEq (by lia)]
          (repeat (walk_at "stp"))
          refine is_live_w (by lia) ?_
          rw [show Nat.testBit 59393 (Int.toNat 0) = true by decide]
          (repeat (walk_at "stp"))
          refine is_live_w (by lia) ?_
          rw [show Nat.testBit 59393 (Int.toNat 1) = false by decide]
          (repeat (walk_at "stp"))
          exact q _
theorem law_true (ns : List Int) (hl : ns.length ≤ 63) : ∃ σ, phi T0 8 (.glob "law") [.scr ns] [] = some (.bool true, σ) := by
  obtain ⟨v, σ, e, rfl⟩ := law_w (n := 0) (Q := fun v _ => v = .bool true) hl (fun _ => rfl)
  exact ⟨σ, e⟩
section
noncomputable def fnB (D : FDef) : Bool := decide (D.scope.kind = .function ∧ D.scope.isGenerator = false ∧ D.scope.isCoroutine = false ∧ (∀ x ∈ D.params, D.scope.names.lookup x = some .local ∨ D.scope.names.lookup x = some .cell) ∧ D.params.Nodup ∧ ((cellsFrom 0 D.scope.names []).map (·.1)).Nodup)
noncomputable def curry : Nat → (List Value → Prop) → Prop
  | 0, P => P []
  | n + 1, P => ∀ a, curry n fun r => P (a :: r)
theorem curry_all : ∀ {n : Nat} {P : List Value → Prop}, curry n P → ∀ {xs : List Value}, xs.length = n → P xs
  | 0, _, h, [], _ => h
  | _ + 1, P, h, a :: _, e => curry_all (P := fun r => P (a :: r)) (h a) (Nat.succ.inj e)
theorem fnAt_mk0 {W : Wd} {K : Frag} {f : Addr} {D : FDef} {oc : Value} {od : Option Addr} {osl : Array (Option Value)} {name qual : Str} {params : Arguments} {kV doc pm : Value} {an : Option Addr} {cdv ct : Value} (hK : W.K = K)
    (hf : K.lookup f = some ⟨oc, od, .func (fnOf name qual params D.body D.scope .none kV doc pm an cdv ct), osl⟩) (hc : codeIn K cdv qual = true)
    (hbi : curry D.params.length fun xs => bindArgs (fnOf name qual params D.body D.scope .none kV doc pm an cdv ct) ⟨xs, []⟩ = pure (D.params.zip xs)) (hd : D.dflt = [])
    (h1 : isFn K (.ref f) = true) (h2 : keepIn K (.ref f) = true) (hb : fnB D = true) : FnAt W f D := by
  subst hK
  obtain ⟨b1, b2, b3, b4, b5, b6⟩ := of_decide_eq_true hb
  refine ⟨.mk hf hc fun s xs hk' l1 l2 => ⟨[], fun β h => by rw [hd, List.drop_nil]; exact .nil, ?_⟩, h1, h2, b1, b2, b3, b4, b5, b6⟩
  rw [hd] at l1
  rw [List.append_nil]
  exact BindsTo.of_eq (curry_all hbi (Nat.le_antisymm l2 l1))
noncomputable def AllFn (P : Str → FDef → Prop) : List Stmt → Prop
  | [] => True
  | .FunctionDef name args body _ _ _ scope _ _ _ :: r => P name ⟨args.args.map (·.arg), args.defaults.map constD, body, scope⟩ ∧ AllFn P r
  | _ :: r => AllFn P r
theorem findFn_all {P : Str → FDef → Prop} {n : Str} {D : FDef} : ∀ {l : List Stmt}, AllFn P l → findFn n l = some D → P n D
  | [], _, e => by cases e
  | s :: r, h, e => by
    cases s
    case FunctionDef name args body _ _ _ scope _ _ _ =>
      change (if name = n then some _ else findFn n r) = some D at e
      by_cases hn : name = n
      · rw [if_pos hn] at e
        cases e
        rw [← hn]; exact h.1
      · exact findFn_all h.2 ((if_neg hn).symm.trans e)
    all_goals exact findFn_all (l := r) h e
end
section
theorem prime : PySem.Challenge.rw_pb0357_01 = PySem.Challenge.rw_pb0357_01 ∧ KF = KF := by k_fill; exact ⟨rfl, rfl⟩
section
variable (w : World) (h0 : Heap) (mg mb : Str → Option Value)
noncomputable def W0 : Wd := ⟨PySem.Challenge.rw_pb0357_01.row.prog, w, h0, KF w.params, mg, mb⟩
theorem flagged_ok (X : (KF w.params).In h0) : FnAt (W0 w h0 mg mb) 153 D_flagged := by
  refine ⟨.mk (show (KF w.params).lookup 153 = _ by k_is) (show codeIn (KF w.params) _ _ = true by k_is) fun s xs hk l1 l2 => ?_, (show isFn (KF w.params) _ = true by k_is), (show keepIn (KF w.params) _ = true by k_is), by kernel_rfl, by kernel_rfl, by kernel_rfl, by decide +kernel, by decide +kernel, by decide +kernel⟩
  have e1 : D_flagged.params.length = 4 := by kernel_rfl
  have e2 : D_flagged.dflt.length = 1 := by kernel_rfl
  have Xs : (KF w.params).In s.heap := X.keeps hk
  rw [e1, e2] at l1
  rw [e1] at l2
  match xs, l1, l2 with
  | [a, b, c], _, _ => exact ⟨[.none], fun β h => (show VRels _ β h [V.none] [Value.none] from .cons .none .nil), binds_K Xs rfl (by k_is) rfl rfl rfl⟩
  | [a, b, c, d], _, _ => exact ⟨[], fun β h => (show VRels _ β h [] [] from .nil), binds_K Xs rfl (by k_is) rfl rfl rfl⟩
  | [], l1, _ => exact absurd l1 (by simp)
  | [_], l1, _ => exact absurd l1 (by simp)
  | [_, _], l1, _ => exact absurd l1 (by simp)
  | _ :: _ :: _ :: _ :: _ :: _, _, l2 => exact absurd l2 (by simp)
def PG (n : Str) (D : FDef) : Prop := T0.cls n = none → ∃ f, nsIn (KF w.params) mainGlobals n = some (some (.ref f)) ∧ FnAt (W0 w h0 mg mb) f D
def PMe (C : Addr) (n : Str) (D : FDef) : Prop := T0.meth C n = true ∨ n = "__init__" → plainGet (KF w.params) C n = true ∧ ∃ f, findIn (KF w.params) (.ref C) n = some (some (.ref f)) ∧ FnAt (W0 w h0 mg mb) f D
theorem glob_all (X : (KF w.params).In h0) : AllFn (PG w h0 mg mb) PySem.Challenge.pw_pb0357_01.main.body := by
  refine And.intro (fun _ => ⟨_, by k_is, fnAt_mk0 (K := KF w.params) rfl (by k_is) (by k_is) (by (repeat (intro _)); show bindArgs _ _ = _; kernel_rfl) (by exact rfl) (by k_is) (by k_is) (by kernel_rfl)⟩) ?_
  refine And.intro (fun _ => ⟨_, by k_is, fnAt_mk0 (K := KF w.params) rfl (by k_is) (by k_is) (by (repeat (intro _)); show bindArgs _ _ = _; kernel_rfl) (by exact rfl) (by k_is) (by k_is) (by kernel_rfl)⟩) ?_
  refine And.intro (fun _ => ⟨_, by k_is, fnAt_mk0 (K := KF w.params) rfl (by k_is) (by k_is) (by (repeat (intro _)); show bindArgs _ _ = _; kernel_rfl) (by exact rfl) (by k_is) (by k_is) (by kernel_rfl)⟩) ?_
  refine And.intro (fun _ => ⟨_, by k_is, fnAt_mk0 (K := KF w.params) rfl (by k_is) (by k_is) (by (repeat (intro _)); show bindArgs _ _ = _; kernel_rfl) (by exact rfl) (by k_is) (by k_is) (by kernel_rfl)⟩) ?_
  refine And.intro (fun _ => ⟨_, by k_is, fnAt_mk0 (K := KF w.params) rfl (by k_is) (by k_is) (by (repeat (intro _)); show bindArgs _ _ = _; kernel_rfl) (by exact rfl) (by k_is) (by k_is) (by kernel_rfl)⟩) ?_
  refine And.intro (fun _ => ⟨_, by k_is, fnAt_mk0 (K := KF w.params) rfl (by k_is) (by k_is) (by (repeat (intro _)); show bindArgs _ _ = _; kernel_rfl) (by exact rfl) (by k_is) (by k_is) (by kernel_rfl)⟩) ?_
  refine And.intro (fun _ => ⟨_, by k_is, fnAt_mk0 (K := KF w.params) rfl (by k_is) (by k_is) (by (repeat (intro _)); show bindArgs _ _ = _; kernel_rfl) (by exact rfl) (by k_is) (by k_is) (by kernel_rfl)⟩) ?_
  refine And.intro (fun _ => ⟨_, by k_is, fnAt_mk0 (K := KF w.params) rfl (by k_is) (by k_is) (by (repeat (intro _)); show bindArgs _ _ = _; kernel_rfl) (by exact rfl) (by k_is) (by k_is) (by kernel_rfl)⟩) ?_
  refine And.intro (fun _ => ⟨_, by k_is, fnAt_mk0 (K := KF w.params) rfl (by k_is) (by k_is) (by (repeat (intro _)); show bindArgs _ _ = _; kernel_rfl) (by exact rfl) (by k_is) (by k_is) (by kernel_rfl)⟩) ?_
  refine And.intro (fun _ => ⟨_, by k_is, fnAt_mk0 (K := KF w.params) rfl (by k_is) (by k_is) (by (repeat (intro _)); show bindArgs _ _ = _; kernel_rfl) (by exact rfl) (by k_is) (by k_is) (by kernel_rfl)⟩) ?_
  refine And.intro (fun _ => ⟨_, by k_is, fnAt_mk0 (K := KF w.params) rfl (by k_is) (by k_is) (by (repeat (intro _)); show bindArgs _ _ = _; kernel_rfl) (by exact rfl) (by k_is) (by k_is) (by kernel_rfl)⟩) ?_
  refine And.intro (fun _ => ⟨_, by k_is, fnAt_mk0 (K := KF w.params) rfl (by k_is) (by k_is) (by (repeat (intro _)); show bindArgs _ _ = _; kernel_rfl) (by exact rfl) (by k_is) (by k_is) (by kernel_rfl)⟩) ?_
  refine And.intro (fun _ => ⟨_, by k_is, fnAt_mk0 (K := KF w.params) rfl (by k_is) (by k_is) (by (repeat (intro _)); show bindArgs _ _ = _; kernel_rfl) (by exact rfl) (by k_is) (by k_is) (by kernel_rfl)⟩) ?_
  refine And.intro (fun _ => ⟨_, by k_is, fnAt_mk0 (K := KF w.params) rfl (by k_is) (by k_is) (by (repeat (intro _)); show bindArgs _ _ = _; kernel_rfl) (by exact rfl) (by k_is) (by k_is) (by kernel_rfl)⟩) ?_
  refine And.intro (fun _ => ⟨_, by k_is, fnAt_mk0 (K := KF w.params) rfl (by k_is) (by k_is) (by (repeat (intro _)); show bindArgs _ _ = _; kernel_rfl) (by exact rfl) (by k_is) (by k_is) (by kernel_rfl)⟩) ?_
  refine And.intro (fun _ => ⟨_, by k_is, fnAt_mk0 (K := KF w.params) rfl (by k_is) (by k_is) (by (repeat (intro _)); show bindArgs _ _ = _; kernel_rfl) (by exact rfl) (by k_is) (by k_is) (by kernel_rfl)⟩) ?_
  refine And.intro (fun _ => ⟨_, by k_is, fnAt_mk0 (K := KF w.params) rfl (by k_is) (by k_is) (by (repeat (intro _)); show bindArgs _ _ = _; kernel_rfl) (by exact rfl) (by k_is) (by k_is) (by kernel_rfl)⟩) ?_
  refine And.intro (fun _ => ⟨_, by k_is, fnAt_mk0 (K := KF w.params) rfl (by k_is) (by k_is) (by (repeat (intro _)); show bindArgs _ _ = _; kernel_rfl) (by exact rfl) (by k_is) (by k_is) (by kernel_rfl)⟩) ?_
  refine And.intro (fun _ => ⟨_, by k_is, fnAt_mk0 (K := KF w.params) rfl (by k_is) (by k_is) (by (repeat (intro _)); show bindArgs _ _ = _; kernel_rfl) (by exact rfl) (by k_is) (by k_is) (by kernel_rfl)⟩) ?_
  refine And.intro (fun _ => ⟨_, by k_is, flagged_ok w h0 mg mb X⟩) ?_
  refine And.intro (fun _ => ⟨_, by k_is, fnAt_mk0 (K := KF w.params) rfl (by k_is) (by k_is) (by (repeat (intro _)); show bindArgs _ _ = _; kernel_rfl) (by exact rfl) (by k_is) (by k_is) (by kernel_rfl)⟩) ?_
  refine And.intro (fun _ => ⟨_, by k_is, fnAt_mk0 (K := KF w.params) rfl (by k_is) (by k_is) (by (repeat (intro _)); show bindArgs _ _ = _; kernel_rfl) (by exact rfl) (by k_is) (by k_is) (by kernel_rfl)⟩) ?_
  refine And.intro (fun _ => ⟨_, by k_is, fnAt_mk0 (K := KF w.params) rfl (by k_is) (by k_is) (by (repeat (intro _)); show bindArgs _ _ = _; kernel_rfl) (by exact rfl) (by k_is) (by k_is) (by kernel_rfl)⟩) ?_
  refine And.intro (fun _ => ⟨_, by k_is, fnAt_mk0 (K := KF w.params) rfl (by k_is) (by k_is) (by (repeat (intro _)); show bindArgs _ _ = _; kernel_rfl) (by exact rfl) (by k_is) (by k_is) (by kernel_rfl)⟩) ?_
  refine And.intro (fun _ => ⟨_, by k_is, fnAt_mk0 (K := KF w.params) rfl (by k_is) (by k_is) (by (repeat (intro _)); show bindArgs _ _ = _; kernel_rfl) (by exact rfl) (by k_is) (by k_is) (by kernel_rfl)⟩) ?_
  refine And.intro (fun _ => ⟨_, by k_is, fnAt_mk0 (K := KF w.params) rfl (by k_is) (by k_is) (by (repeat (intro _)); show bindArgs _ _ = _; kernel_rfl) (by exact rfl) (by k_is) (by k_is) (by kernel_rfl)⟩) ?_
  refine And.intro (fun _ => ⟨_, by k_is, fnAt_mk0 (K := KF w.params) rfl (by k_is) (by k_is) (by (repeat (intro _)); show bindArgs _ _ = _; kernel_rfl) (by exact rfl) (by k_is) (by k_is) (by kernel_rfl)⟩) ?_
  refine And.intro (fun _ => ⟨_, by k_is, fnAt_mk0 (K := KF w.params) rfl (by k_is) (by k_is) (by (repeat (intro _)); show bindArgs _ _ = _; kernel_rfl) (by exact rfl) (by k_is) (by k_is) (by kernel_rfl)⟩) ?_
  refine And.intro (fun _ => ⟨_, by k_is, fnAt_mk0 (K := KF w.params) rfl (by k_is) (by k_is) (by (repeat (intro _)); show bindArgs _ _ = _; kernel_rfl) (by exact rfl) (by k_is) (by k_is) (by kernel_rfl)⟩) ?_
  refine And.intro (fun _ => ⟨_, by k_is, fnAt_mk0 (K := KF w.params) rfl (by k_is) (by k_is) (by (repeat (intro _)); show bindArgs _ _ = _; kernel_rfl) (by exact rfl) (by k_is) (by k_is) (by kernel_rfl)⟩) ?_
  refine And.intro (fun _ => ⟨_, by k_is, fnAt_mk0 (K := KF w.params) rfl (by k_is) (by k_is) (by (repeat (intro _)); show bindArgs _ _ = _; kernel_rfl) (by exact rfl) (by k_is) (by k_is) (by kernel_rfl)⟩) ?_
  refine And.intro (fun _ => ⟨_, by k_is, fnAt_mk0 (K := KF w.params) rfl (by k_is) (by k_is) (by (repeat (intro _)); show bindArgs _ _ = _; kernel_rfl) (by exact rfl) (by k_is) (by k_is) (by kernel_rfl)⟩) ?_
  refine And.intro (fun _ => ⟨_, by k_is, fnAt_mk0 (K := KF w.params) rfl (by k_is) (by k_is) (by (repeat (intro _)); show bindArgs _ _ = _; kernel_rfl) (by exact rfl) (by k_is) (by k_is) (by kernel_rfl)⟩) ?_
  refine And.intro (fun _ => ⟨_, by k_is, fnAt_mk0 (K := KF w.params) rfl (by k_is) (by k_is) (by (repeat (intro _)); show bindArgs _ _ = _; kernel_rfl) (by exact rfl) (by k_is) (by k_is) (by kernel_rfl)⟩) ?_
  refine And.intro (fun _ => ⟨_, by k_is, fnAt_mk0 (K := KF w.params) rfl (by k_is) (by k_is) (by (repeat (intro _)); show bindArgs _ _ = _; kernel_rfl) (by exact rfl) (by k_is) (by k_is) (by kernel_rfl)⟩) ?_
  refine And.intro (fun _ => ⟨_, by k_is, fnAt_mk0 (K := KF w.params) rfl (by k_is) (by k_is) (by (repeat (intro _)); show bindArgs _ _ = _; kernel_rfl) (by exact rfl) (by k_is) (by k_is) (by kernel_rfl)⟩) ?_
  refine And.intro (fun _ => ⟨_, by k_is, fnAt_mk0 (K := KF w.params) rfl (by k_is) (by k_is) (by (repeat (intro _)); show bindArgs _ _ = _; kernel_rfl) (by exact rfl) (by k_is) (by k_is) (by kernel_rfl)⟩) ?_
  exact True.intro
theorem meth_Cpu : AllFn (PMe w h0 mg mb cC) (findCl "Cpu" PySem.Challenge.pw_pb0357_01.main.body) := by
  refine And.intro (fun _ => ⟨by k_is, _, by k_is, fnAt_mk0 (K := KF w.params) rfl (by k_is) (by k_is) (by (repeat (intro _)); show bindArgs _ _ = _; kernel_rfl) (by exact rfl) (by k_is) (by k_is) (by kernel_rfl)⟩) ?_
  refine And.intro (fun _ => ⟨by k_is, _, by k_is, fnAt_mk0 (K := KF w.params) rfl (by k_is) (by k_is) (by (repeat (intro _)); show bindArgs _ _ = _; kernel_rfl) (by exact rfl) (by k_is) (by k_is) (by kernel_rfl)⟩) ?_
  refine And.intro (fun _ => ⟨by k_is, _, by k_is, fnAt_mk0 (K := KF w.params) rfl (by k_is) (by k_is) (by (repeat (intro _)); show bindArgs _ _ = _; kernel_rfl) (by exact rfl) (by k_is) (by k_is) (by kernel_rfl)⟩) ?_
  refine And.intro (fun _ => ⟨by k_is, _, by k_is, fnAt_mk0 (K := KF w.params) rfl (by k_is) (by k_is) (by (repeat (intro _)); show bindArgs _ _ = _; kernel_rfl) (by exact rfl) (by k_is) (by k_is) (by kernel_rfl)⟩) ?_
  refine And.intro (fun _ => ⟨by k_is, _, by k_is, fnAt_mk0 (K := KF w.params) rfl (by k_is) (by k_is) (by (repeat (intro _)); show bindArgs _ _ = _; kernel_rfl) (by exact rfl) (by k_is) (by k_is) (by kernel_rfl)⟩) ?_
  refine And.intro (fun _ => ⟨by k_is, _, by k_is, fnAt_mk0 (K := KF w.params) rfl (by k_is) (by k_is) (by (repeat (intro _)); show bindArgs _ _ = _; kernel_rfl) (by exact rfl) (by k_is) (by k_is) (by kernel_rfl)⟩) ?_
  refine And.intro (fun _ => ⟨by k_is, _, by k_is, fnAt_mk0 (K := KF w.params) rfl (by k_is) (by k_is) (by (repeat (intro _)); show bindArgs _ _ = _; kernel_rfl) (by exact rfl) (by k_is) (by k_is) (by kernel_rfl)⟩) ?_
  refine And.intro (fun _ => ⟨by k_is, _, by k_is, fnAt_mk0 (K := KF w.params) rfl (by k_is) (by k_is) (by (repeat (intro _)); show bindArgs _ _ = _; kernel_rfl) (by exact rfl) (by k_is) (by k_is) (by kernel_rfl)⟩) ?_
  exact True.intro
theorem meth_Memory : AllFn (PMe w h0 mg mb cM) (findCl "Memory" PySem.Challenge.pw_pb0357_01.main.body) := by
  refine And.intro (fun _ => ⟨by k_is, _, by k_is, fnAt_mk0 (K := KF w.params) rfl (by k_is) (by k_is) (by (repeat (intro _)); show bindArgs _ _ = _; kernel_rfl) (by exact rfl) (by k_is) (by k_is) (by kernel_rfl)⟩) ?_
  refine And.intro (fun _ => ⟨by k_is, _, by k_is, fnAt_mk0 (K := KF w.params) rfl (by k_is) (by k_is) (by (repeat (intro _)); show bindArgs _ _ = _; kernel_rfl) (by exact rfl) (by k_is) (by k_is) (by kernel_rfl)⟩) ?_
  refine And.intro (fun _ => ⟨by k_is, _, by k_is, fnAt_mk0 (K := KF w.params) rfl (by k_is) (by k_is) (by (repeat (intro _)); show bindArgs _ _ = _; kernel_rfl) (by exact rfl) (by k_is) (by k_is) (by kernel_rfl)⟩) ?_
  refine And.intro (fun _ => ⟨by k_is, _, by k_is, fnAt_mk0 (K := KF w.params) rfl (by k_is) (by k_is) (by (repeat (intro _)); show bindArgs _ _ = _; kernel_rfl) (by exact rfl) (by k_is) (by k_is) (by kernel_rfl)⟩) ?_
  refine And.intro (fun h => absurd h (by decide +kernel)) ?_
  refine And.intro (fun _ => ⟨by k_is, _, by k_is, fnAt_mk0 (K := KF w.params) rfl (by k_is) (by k_is) (by (repeat (intro _)); show bindArgs _ _ = _; kernel_rfl) (by exact rfl) (by k_is) (by k_is) (by kernel_rfl)⟩) ?_
  exact True.intro
theorem at_cC_memory : AttrOk (KF w.params) cC "memory" := ⟨by k_is, by k_is, ⟨_, by k_is, by k_is⟩, by k_is, by k_is, by k_is⟩
theorem at_cC_regs : AttrOk (KF w.params) cC "regs" := ⟨by k_is, by k_is, ⟨_, by k_is, by k_is⟩, by k_is, by k_is, by k_is⟩
theorem at_cC_h : AttrOk (KF w.params) cC "h" := ⟨by k_is, by k_is, ⟨_, by k_is, by k_is⟩, by k_is, by k_is, by k_is⟩
theorem at_cC_n : AttrOk (KF w.params) cC "n" := ⟨by k_is, by k_is, ⟨_, by k_is, by k_is⟩, by k_is, by k_is, by k_is⟩
theorem at_cC_z : AttrOk (KF w.params) cC "z" := ⟨by k_is, by k_is, ⟨_, by k_is, by k_is⟩, by k_is, by k_is, by k_is⟩
theorem at_cC_c : AttrOk (KF w.params) cC "c" := ⟨by k_is, by k_is, ⟨_, by k_is, by k_is⟩, by k_is, by k_is, by k_is⟩
theorem at_cC_v : AttrOk (KF w.params) cC "v" := ⟨by k_is, by k_is, ⟨_, by k_is, by k_is⟩, by k_is, by k_is, by k_is⟩
theorem at_cC_pc : AttrOk (KF w.params) cC "pc" := ⟨by k_is, by k_is, ⟨_, by k_is, by k_is⟩, by k_is, by k_is, by k_is⟩
theorem at_cC_rows : AttrOk (KF w.params) cC "rows" := ⟨by k_is, by k_is, ⟨_, by k_is, by k_is⟩, by k_is, by k_is, by k_is⟩
theorem at_cM_size : AttrOk (KF w.params) cM "size" := ⟨by k_is, by k_is, ⟨_, by k_is, by k_is⟩, by k_is, by k_is, by k_is⟩
theorem at_cM_words : AttrOk (KF w.params) cM "words" := ⟨by k_is, by k_is, ⟨_, by k_is, by k_is⟩, by k_is, by k_is, by k_is⟩
end
end
section
section
variable {w : World} {h0 : Heap} {mg mb : Str → Option Value} {p : Program} {loose : List Str} {mean : ExcName → Option Value}
theorem pc_of_class (T : Top p loose mean mg mb h0) (X : (KF w.params).In h0) {x k : Str} {i : Int} {t : Tok} {r : Option V} (h : nsIn (KF w.params) mainGlobals k = some (some (.int i t))) (hr : ∀ {v}, r = some v → ∃ y, mg x = some y ∧ ∀ β h, VRel (W0 w h0 mg mb) β h v y) {v : V} (e : (if x = k then some (.int i) else r) = some v) : ∃ y, mg x = some y ∧ ∀ β h, VRel (W0 w h0 mg mb) β h v y := by
  by_cases hx : x = k
  · subst hx
    rw [if_pos rfl] at e
    cases e
    exact ⟨_, mg_of X T.g h, fun β h => .int _ _⟩
  · rw [if_neg hx] at e
    exact hr e
theorem wok_consts (T : Top p loose mean mg mb h0) (X : (KF w.params).In h0) (x : Str) (v : V) (e : G0 x = some v) : ∃ y, mg x = some y ∧ ∀ β h, VRel (W0 w h0 mg mb) β h v y :=
  pc_of_class T X (by k_is) (pc_of_class T X (by k_is) (pc_of_class T X (by k_is) (pc_of_class T X (by k_is) (pc_of_class T X (by k_is) (pc_of_class T X (by k_is) (pc_of_class T X (by k_is) (pc_of_class T X (by k_is) (pc_of_class T X (by k_is) (pc_of_class T X (by k_is) (pc_of_class T X (by k_is) (fun {v} (e : (none : Option V) = some v) => nomatch e))))))))))) (show (if x = "LINK_flow" then _ else _) = some v from e)
theorem wok_nob (T : Top p loose mean mg mb h0) (X : (KF w.params).In h0) (x : Str) (e : isBuiltin x = true) : mg x = none := by
  unfold isBuiltin at e
  simp only [Bool.or_eq_true, beq_iff_eq] at e
  rcases e with ((rfl | rfl) | rfl) | rfl <;> exact mg_none_of X T.g (by k_is)
theorem meth_cases {C : Addr} {x : Str} (h : T0.meth C x = true) : C = cC ∨ C = cM := by
  have h' : ((C == cC && _) || (C == cM && _)) = true := h
  simp only [Bool.or_eq_true, Bool.and_eq_true, beq_iff_eq] at h'
  rcases h' with h' | h'
  · exact .inl h'.1
  · exact .inr h'.1
theorem wok_attr (w : World) (C : Addr) (x : Str) (h : T0.attr C x = true) : AttrOk (KF w.params) C x := by
  have h' : ((C == cC && (names ["memory", "regs", "h", "n", "z", "c", "v", "pc", "rows"]).contains x) || (C == cM && (names ["size", "words"]).contains x)) = true := h
  simp only [Bool.or_eq_true, Bool.and_eq_true, beq_iff_eq, List.contains_iff_mem, names, List.map_cons, List.map_nil, List.mem_cons, List.not_mem_nil, or_false] at h'
  rcases h' with ⟨rfl, rfl | rfl | rfl | rfl | rfl | rfl | rfl | rfl | rfl⟩ | ⟨rfl, rfl | rfl⟩
  · exact at_cC_memory w
  · exact at_cC_regs w
  · exact at_cC_h w
  · exact at_cC_n w
  · exact at_cC_z w
  · exact at_cC_c w
  · exact at_cC_v w
  · exact at_cC_pc w
  · exact at_cC_rows w
  · exact at_cM_size w
  · exact at_cM_words w
theorem wok_meth (C : Addr) (x : Str) (D : FDef) (h : T0.meth C x = true ∨ x = "__init__") (hC : C = cC ∨ C = cM) (e : T0.fd (.meth C x) = some D) : plainGet (KF w.params) C x = true ∧ ∃ f, findIn (KF w.params) (.ref C) x = some (some (.ref f)) ∧ FnAt (W0 w h0 mg mb) f D := by
  rcases hC with rfl | rfl
  · exact findFn_all (meth_Cpu w h0 mg mb) e h
  · exact findFn_all (meth_Memory w h0 mg mb) e h
theorem wok (T : Top p loose mean mg mb h0) (X : (KF w.params).In h0) : WOK (W0 w h0 mg mb) T0 where
  inK := X
  nolimit := T.nolimit
  globs := T.g
  bis := T.b
  consts := wok_consts T X
  nob := wok_nob T X
  nodebug := mg_none_of X T.g (by k_is)
  bilen := (T.builtins "len" (by decide)).trans (by boot_by_name)
  birange := (T.builtins "range" (by decide)).trans (by boot_by_name)
  bilist := (T.builtins "list" (by decide)).trans (by boot_by_name)
  bisorted := (T.builtins "sorted" (by decide)).trans (by boot_by_name)
  attr := wok_attr w
  meth := fun C x D h e => wok_meth C x D (.inl h) (meth_cases h) e
  glob := fun g D hc e => by
    obtain ⟨f, h1, h2⟩ := findFn_all (glob_all w h0 mg mb X) (show findFn g _ = some D from e) hc
    exact ⟨f, mg_of X T.g h1, h2⟩
  cls := fun g C D hc e => by
    have hc' : (if g = "Cpu" then some cC else if g = "Memory" then some cM else none) = some C := hc
    split at hc'
    · rename_i hg
      subst hg; cases hc'
      obtain ⟨h1, f, h2, h3⟩ := wok_meth (w := w) (h0 := h0) (mg := mg) (mb := mb) cC "__init__" D (.inr rfl) (.inl rfl) e
      exact ⟨mg_of X T.g (by k_is), (show makesIn (KF w.params) cC = true by k_is), (show keepIn (KF w.params) (.ref cC) = true by k_is), f, h2, h3⟩
    · split at hc'
      · rename_i hg
        subst hg; cases hc'
        obtain ⟨h1, f, h2, h3⟩ := wok_meth (w := w) (h0 := h0) (mg := mg) (mb := mb) cM "__init__" D (.inr rfl) (.inr rfl) e
        exact ⟨mg_of X T.g (by k_is), (show makesIn (KF w.params) cM = true by k_is), (show keepIn (KF w.params) (.ref cM) = true by k_is), f, h2, h3⟩
      · cases hc'
end
end
section
theorem join {w : World} {s₁ : Shared} {mg mb : Str → Option Value} {p : Program} {loose : List Str} {mean : ExcName → Option Value} (T : Top p loose mean mg mb s₁.heap) (X : (KF w.params).In s₁.heap)
    {fa l : Addr} {ns : List Int} {vs : List Value} (hmg : mg "law" = some (.ref fa)) (hl : ns.length ≤ 63) (hL : s₁.heap.IsList l vs.toArray) (hI : IntsAre vs ns) {R : Result → Shared → Prop}
    (hR : ∀ s', (∀ b o, s₁.heap.get? b = some o → s'.heap.get? b = some o) → s'.gens = s₁.gens → s'.os = s₁.os → R (.ok (.ret (.bool true))) s') :
    codeAny (model PySem.Challenge.rw_pb0357_01.row.prog w) callerA (.call (.ref fa) ⟨[.ref l], []⟩) R s₁ := by
  obtain ⟨σ, e⟩ := law_true ns hl
  have G : WOK (W0 w s₁.heap mg mb) T0 := wok T X
  obtain ⟨f, h1, h2⟩ := G.glob "law" D_law (by kernel_rfl) fD_law
  obtain rfl : fa = f := by
    have := hmg.symm.trans h1
    cases this; rfl
  have S : SRel (W0 w s₁.heap mg mb) [] [] s₁.heap := by
    refine ⟨fun _ _ e => e, rfl, .nil, fun a h => (by cases h), ?_, fun a h => (by cases h), fun i o a h => (by simp at h)⟩
    obtain ⟨mc, ⟨o, es, ep, ho, _⟩, _⟩ := T.nodigits
    exact ⟨o, ho⟩
  have r : VRels (W0 w s₁.heap mg mb) [] s₁.heap [V.scr ns] [Value.ref l] := .cons (.scr hL (by simpa using hI)) .nil
  have e' : runF ⟨T0.G, T0.attr, T0.meth, phi T0 7⟩ D_law [V.scr ns] [] = some (.bool true, σ) := e
  have hA : ROk 7 callerA := ⟨rfl, by decide +kernel, by decide +kernel⟩
  have hSF := sound_phi G 7
  refine fn_code (W := W0 w s₁.heap mg mb) (T := T0) (n := 7) (s := s₁) G h2 (sound_ev G rfl rfl hSF deep) e' hA (Nat.le_refl _) S r fun x s' β' d r' => ?_
  cases r'
  exact hR s' (fun b o e => d.ext.keep b o (by simp) (by simp) e) d.gens d.os
end
end Mine
set_option maxRecDepth 100000 in
set_option maxHeartbeats 8000000 in
theorem PySem.Challenge.cw_pb0357_01_holds : PySem.Challenge.rw_pb0357_01.Holds :=
  Mine.hd (fun d kwd hdef => by
  intro w s₀ s₁ mg mb G Y fa o pm cd doc dV kV ho hd hcd hD hmg hg args vals as hpre hlay hrd hwl hlo
  have KX : (Mine.KF w.params).In s₁.heap := Y
  refine Ground.open G ?_
  intro T B D TE TW
  have hmg' : mg "law" = some (.ref fa) := by rw [← defOf_name hdef]; exact hmg
  clear hd hcd hD ho hmg hdef
  wrow_args hpre hlay hrd hwl hlo
  all_goals (first | refine callC_kw (enter_call ?_) | refine enter_call ?_ | refine callC_kw (enter_callW ?_) | refine enter_callW ?_ | w_how)
  all_goals (try refine codeAny_mono ?_ (fun _ _ g => GoodW.toG g))
  rename_i hL ra w1 r0 hI hr hc1 hc2
  refine Mine.join T KX hmg' (by lia) hL hI fun s' k1 k2 k3 => ?_
  refine ⟨.inl ⟨_, .bool true, [], rfl, ?_, .bool true, ?_, fun _ => ⟨.nil, fun a h => by cases h⟩⟩, k1, k3, k2.trans hg⟩
  · clear hmg' G Y T B D TE TW
    exact raisesW_false (by wrow_none_raised)
  · clear hmg' G Y T B D TE TW
    wrow_post)
