import PyProof.Rows.All
import Wide.All
import OpenK.AllK
import Wide.FinOn
import KE.RegKPar
import KE.KSortTup
import KE.BitLaws
import KE.IntBitsLaws
import PySem.Challenge.RW_nn0085_01
set_option Elab.async false
set_option maxRecDepth 100000
set_option maxHeartbeats 8000000
set_option linter.all false
set_option compiler.extract_closed false
set_option genSizeOf false
set_option genInjectivity false
namespace Mine.Internal
open PySem PySem.W PySem.Spec PySem.Calls PyProof.Rows
noncomputable def nS : Str := ⟨#[]⟩
theorem enS : Str.ofString "" = nS := rfl
noncomputable def n_Dot0 : Str := ⟨#[46,48]⟩
theorem en_Dot0 : Str.ofString ".0" = n_Dot0 := rfl
noncomputable def nScut : Str := ⟨#[47,99,108,97,105,109,47,99,117,116,46,112,121]⟩
noncomputable def n_AF : Str := ⟨#[65,70]⟩
theorem en_AF : Str.ofString "AF" = n_AF := rfl
noncomputable def n_ALIGNED_MOVES : Str := ⟨#[65,76,73,71,78,69,68,95,77,79,86,69,83]⟩
noncomputable def n_ALL_LANES : Str := ⟨#[65,76,76,95,76,65,78,69,83]⟩
noncomputable def n_BIT_NAMES : Str := ⟨#[66,73,84,95,78,65,77,69,83]⟩
noncomputable def n_CF : Str := ⟨#[67,70]⟩
theorem en_CF : Str.ofString "CF" = n_CF := rfl
noncomputable def n_CONDITIONS : Str := ⟨#[67,79,78,68,73,84,73,79,78,83]⟩
noncomputable def n_DF : Str := ⟨#[68,70]⟩
theorem en_DF : Str.ofString "DF" = n_DF := rfl
noncomputable def n_Decoded : Str := ⟨#[68,101,99,111,100,101,100]⟩
theorem en_Decoded : Str.ofString "Decoded" = n_Decoded := rfl
noncomputable def n_DecodedDot__init__ : Str := ⟨#[68,101,99,111,100,101,100,46,95,95,105,110,105,116,95,95]⟩
theorem en_DecodedDot__init__ : Str.ofString "Decoded.__init__" = n_DecodedDot__init__ := rfl
noncomputable def n_Exception : Str := ⟨#[69,120,99,101,112,116,105,111,110]⟩
theorem en_Exception : Str.ofString "Exception" = n_Exception := rfl
noncomputable def n_FLAG_NAMES : Str := ⟨#[70,76,65,71,95,78,65,77,69,83]⟩
noncomputable def n_Flags : Str := ⟨#[70,108,97,103,115]⟩
theorem en_Flags : Str.ofString "Flags" = n_Flags := rfl
noncomputable def n_FlagsDot__init__ : Str := ⟨#[70,108,97,103,115,46,95,95,105,110,105,116,95,95]⟩
theorem en_FlagsDot__init__ : Str.ofString "Flags.__init__" = n_FlagsDot__init__ := rfl
noncomputable def n_FlagsDotcopy : Str := ⟨#[70,108,97,103,115,46,99,111,112,121]⟩
theorem en_FlagsDotcopy : Str.ofString "Flags.copy" = n_FlagsDotcopy := rfl
noncomputable def n_FlagsDotpack : Str := ⟨#[70,108,97,103,115,46,112,97,99,107]⟩
theorem en_FlagsDotpack : Str.ofString "Flags.pack" = n_FlagsDotpack := rfl
noncomputable def n_FlagsDottold : Str := ⟨#[70,108,97,103,115,46,116,111,108,100]⟩
theorem en_FlagsDottold : Str.ofString "Flags.told" = n_FlagsDottold := rfl
noncomputable def n_FlagsDotunpack : Str := ⟨#[70,108,97,103,115,46,117,110,112,97,99,107]⟩
theorem en_FlagsDotunpack : Str.ofString "Flags.unpack" = n_FlagsDotunpack := rfl
noncomputable def n_Imm : Str := ⟨#[73,109,109]⟩
theorem en_Imm : Str.ofString "Imm" = n_Imm := rfl
noncomputable def n_ImmDot__init__ : Str := ⟨#[73,109,109,46,95,95,105,110,105,116,95,95]⟩
theorem en_ImmDot__init__ : Str.ofString "Imm.__init__" = n_ImmDot__init__ := rfl
noncomputable def n_Instruction : Str := ⟨#[73,110,115,116,114,117,99,116,105,111,110]⟩
theorem en_Instruction : Str.ofString "Instruction" = n_Instruction := rfl
noncomputable def n_InstructionDot__init__ : Str := ⟨#[73,110,115,116,114,117,99,116,105,111,110,46,95,95,105,110,105,116,95,95]⟩
theorem en_InstructionDot__init__ : Str.ofString "Instruction.__init__" = n_InstructionDot__init__ := rfl
noncomputable def n_LETTERS : Str := ⟨#[76,69,84,84,69,82,83]⟩
noncomputable def n_MachineError : Str := ⟨#[77,97,99,104,105,110,101,69,114,114,111,114]⟩
theorem en_MachineError : Str.ofString "MachineError" = n_MachineError := rfl
noncomputable def n_Mem : Str := ⟨#[77,101,109]⟩
theorem en_Mem : Str.ofString "Mem" = n_Mem := rfl
noncomputable def n_MemDot__init__ : Str := ⟨#[77,101,109,46,95,95,105,110,105,116,95,95]⟩
theorem en_MemDot__init__ : Str.ofString "Mem.__init__" = n_MemDot__init__ := rfl
noncomputable def n_Memory : Str := ⟨#[77,101,109,111,114,121]⟩
theorem en_Memory : Str.ofString "Memory" = n_Memory := rfl
noncomputable def n_MemoryDot__init__ : Str := ⟨#[77,101,109,111,114,121,46,95,95,105,110,105,116,95,95]⟩
theorem en_MemoryDot__init__ : Str.ofString "Memory.__init__" = n_MemoryDot__init__ := rfl
noncomputable def n_MemoryDotcopy : Str := ⟨#[77,101,109,111,114,121,46,99,111,112,121]⟩
theorem en_MemoryDotcopy : Str.ofString "Memory.copy" = n_MemoryDotcopy := rfl
noncomputable def n_MemoryDotload : Str := ⟨#[77,101,109,111,114,121,46,108,111,97,100]⟩
theorem en_MemoryDotload : Str.ofString "Memory.load" = n_MemoryDotload := rfl
noncomputable def n_MemoryDotoctet : Str := ⟨#[77,101,109,111,114,121,46,111,99,116,101,116]⟩
theorem en_MemoryDotoctet : Str.ofString "Memory.octet" = n_MemoryDotoctet := rfl
noncomputable def n_MemoryDotread : Str := ⟨#[77,101,109,111,114,121,46,114,101,97,100]⟩
theorem en_MemoryDotread : Str.ofString "Memory.read" = n_MemoryDotread := rfl
noncomputable def n_MemoryDotset_octet : Str := ⟨#[77,101,109,111,114,121,46,115,101,116,95,111,99,116,101,116]⟩
theorem en_MemoryDotset_octet : Str.ofString "Memory.set_octet" = n_MemoryDotset_octet := rfl
noncomputable def n_MemoryDottold : Str := ⟨#[77,101,109,111,114,121,46,116,111,108,100]⟩
theorem en_MemoryDottold : Str.ofString "Memory.told" = n_MemoryDottold := rfl
noncomputable def n_MemoryDotwrite : Str := ⟨#[77,101,109,111,114,121,46,119,114,105,116,101]⟩
theorem en_MemoryDotwrite : Str.ofString "Memory.write" = n_MemoryDotwrite := rfl
noncomputable def n_MemoryDotwritten : Str := ⟨#[77,101,109,111,114,121,46,119,114,105,116,116,101,110]⟩
noncomputable def n_MintError : Str := ⟨#[77,105,110,116,69,114,114,111,114]⟩
theorem en_MintError : Str.ofString "MintError" = n_MintError := rfl
noncomputable def n_MintErrorDot__init__ : Str := ⟨#[77,105,110,116,69,114,114,111,114,46,95,95,105,110,105,116,95,95]⟩
theorem en_MintErrorDot__init__ : Str.ofString "MintError.__init__" = n_MintErrorDot__init__ := rfl
noncomputable def n_NAMES_16 : Str := ⟨#[78,65,77,69,83,95,49,54]⟩
theorem en_NAMES_16 : Str.ofString "NAMES_16" = n_NAMES_16 := rfl
noncomputable def n_NAMES_32 : Str := ⟨#[78,65,77,69,83,95,51,50]⟩
theorem en_NAMES_32 : Str.ofString "NAMES_32" = n_NAMES_32 := rfl
noncomputable def n_NAMES_64 : Str := ⟨#[78,65,77,69,83,95,54,52]⟩
theorem en_NAMES_64 : Str.ofString "NAMES_64" = n_NAMES_64 := rfl
noncomputable def n_NAMES_8 : Str := ⟨#[78,65,77,69,83,95,56]⟩
theorem en_NAMES_8 : Str.ofString "NAMES_8" = n_NAMES_8 := rfl
noncomputable def n_OF : Str := ⟨#[79,70]⟩
theorem en_OF : Str.ofString "OF" = n_OF := rfl
noncomputable def n_Operand : Str := ⟨#[79,112,101,114,97,110,100]⟩
theorem en_Operand : Str.ofString "Operand" = n_Operand := rfl
noncomputable def n_OperandDot__init__ : Str := ⟨#[79,112,101,114,97,110,100,46,95,95,105,110,105,116,95,95]⟩
theorem en_OperandDot__init__ : Str.ofString "Operand.__init__" = n_OperandDot__init__ := rfl
noncomputable def n_OperandError : Str := ⟨#[79,112,101,114,97,110,100,69,114,114,111,114]⟩
theorem en_OperandError : Str.ofString "OperandError" = n_OperandError := rfl
noncomputable def n_PF : Str := ⟨#[80,70]⟩
theorem en_PF : Str.ofString "PF" = n_PF := rfl
noncomputable def n_RAX : Str := ⟨#[82,65,88]⟩
noncomputable def n_RBP : Str := ⟨#[82,66,80]⟩
theorem en_RBP : Str.ofString "RBP" = n_RBP := rfl
noncomputable def n_RCX : Str := ⟨#[82,67,88]⟩
theorem en_RCX : Str.ofString "RCX" = n_RCX := rfl
noncomputable def n_RDI : Str := ⟨#[82,68,73]⟩
noncomputable def n_RSI : Str := ⟨#[82,83,73]⟩
noncomputable def n_RSP : Str := ⟨#[82,83,80]⟩
theorem en_RSP : Str.ofString "RSP" = n_RSP := rfl
noncomputable def n_Reg : Str := ⟨#[82,101,103]⟩
theorem en_Reg : Str.ofString "Reg" = n_Reg := rfl
noncomputable def n_RegDot__init__ : Str := ⟨#[82,101,103,46,95,95,105,110,105,116,95,95]⟩
theorem en_RegDot__init__ : Str.ofString "Reg.__init__" = n_RegDot__init__ := rfl
noncomputable def n_Register : Str := ⟨#[82,101,103,105,115,116,101,114]⟩
theorem en_Register : Str.ofString "Register" = n_Register := rfl
noncomputable def n_RegisterDot__init__ : Str := ⟨#[82,101,103,105,115,116,101,114,46,95,95,105,110,105,116,95,95]⟩
theorem en_RegisterDot__init__ : Str.ofString "Register.__init__" = n_RegisterDot__init__ := rfl
noncomputable def n_Rel : Str := ⟨#[82,101,108]⟩
theorem en_Rel : Str.ofString "Rel" = n_Rel := rfl
noncomputable def n_RelDot__init__ : Str := ⟨#[82,101,108,46,95,95,105,110,105,116,95,95]⟩
theorem en_RelDot__init__ : Str.ofString "Rel.__init__" = n_RelDot__init__ := rfl
noncomputable def n_SF : Str := ⟨#[83,70]⟩
theorem en_SF : Str.ofString "SF" = n_SF := rfl
noncomputable def n_STACK : Str := ⟨#[83,84,65,67,75]⟩
theorem en_STACK : Str.ofString "STACK" = n_STACK := rfl
noncomputable def n_SoftPoints : Str := ⟨#[83,111,102,116,80,111,105,110,116,115]⟩
theorem en_SoftPoints : Str.ofString "SoftPoints" = n_SoftPoints := rfl
noncomputable def n_SoftPointsDot__init__ : Str := ⟨#[83,111,102,116,80,111,105,110,116,115,46,95,95,105,110,105,116,95,95]⟩
theorem en_SoftPointsDot__init__ : Str.ofString "SoftPoints.__init__" = n_SoftPointsDot__init__ := rfl
noncomputable def n_SoftPointsDotdrop : Str := ⟨#[83,111,102,116,80,111,105,110,116,115,46,100,114,111,112]⟩
noncomputable def n_SoftPointsDotlift : Str := ⟨#[83,111,102,116,80,111,105,110,116,115,46,108,105,102,116]⟩
theorem en_SoftPointsDotlift : Str.ofString "SoftPoints.lift" = n_SoftPointsDotlift := rfl
noncomputable def n_SoftPointsDotoctets : Str := ⟨#[83,111,102,116,80,111,105,110,116,115,46,111,99,116,101,116,115]⟩
theorem en_SoftPointsDotoctets : Str.ofString "SoftPoints.octets" = n_SoftPointsDotoctets := rfl
noncomputable def n_SoftPointsDotplant : Str := ⟨#[83,111,102,116,80,111,105,110,116,115,46,112,108,97,110,116]⟩
theorem en_SoftPointsDotplant : Str.ofString "SoftPoints.plant" = n_SoftPointsDotplant := rfl
noncomputable def n_SoftPointsDotput : Str := ⟨#[83,111,102,116,80,111,105,110,116,115,46,112,117,116]⟩
theorem en_SoftPointsDotput : Str.ofString "SoftPoints.put" = n_SoftPointsDotput := rfl
noncomputable def n_State : Str := ⟨#[83,116,97,116,101]⟩
theorem en_State : Str.ofString "State" = n_State := rfl
noncomputable def n_StateDot__init__ : Str := ⟨#[83,116,97,116,101,46,95,95,105,110,105,116,95,95]⟩
theorem en_StateDot__init__ : Str.ofString "State.__init__" = n_StateDot__init__ := rfl
noncomputable def n_StateDotcopy : Str := ⟨#[83,116,97,116,101,46,99,111,112,121]⟩
theorem en_StateDotcopy : Str.ofString "State.copy" = n_StateDotcopy := rfl
noncomputable def n_StateDotget : Str := ⟨#[83,116,97,116,101,46,103,101,116]⟩
theorem en_StateDotget : Str.ofString "State.get" = n_StateDotget := rfl
noncomputable def n_StateDotoffset : Str := ⟨#[83,116,97,116,101,46,111,102,102,115,101,116]⟩
theorem en_StateDotoffset : Str.ofString "State.offset" = n_StateDotoffset := rfl
noncomputable def n_StateDotplace : Str := ⟨#[83,116,97,116,101,46,112,108,97,99,101]⟩
theorem en_StateDotplace : Str.ofString "State.place" = n_StateDotplace := rfl
noncomputable def n_StateDotpop : Str := ⟨#[83,116,97,116,101,46,112,111,112]⟩
theorem en_StateDotpop : Str.ofString "State.pop" = n_StateDotpop := rfl
noncomputable def n_StateDotpush : Str := ⟨#[83,116,97,116,101,46,112,117,115,104]⟩
theorem en_StateDotpush : Str.ofString "State.push" = n_StateDotpush := rfl
noncomputable def n_StateDotput : Str := ⟨#[83,116,97,116,101,46,112,117,116]⟩
theorem en_StateDotput : Str.ofString "State.put" = n_StateDotput := rfl
noncomputable def n_StateDotput_low : Str := ⟨#[83,116,97,116,101,46,112,117,116,95,108,111,119]⟩
theorem en_StateDotput_low : Str.ofString "State.put_low" = n_StateDotput_low := rfl
noncomputable def n_StateDotread : Str := ⟨#[83,116,97,116,101,46,114,101,97,100]⟩
theorem en_StateDotread : Str.ofString "State.read" = n_StateDotread := rfl
noncomputable def n_StateDotsize_of : Str := ⟨#[83,116,97,116,101,46,115,105,122,101,95,111,102]⟩
theorem en_StateDotsize_of : Str.ofString "State.size_of" = n_StateDotsize_of := rfl
noncomputable def n_StateDottold : Str := ⟨#[83,116,97,116,101,46,116,111,108,100]⟩
theorem en_StateDottold : Str.ofString "State.told" = n_StateDottold := rfl
noncomputable def n_StateDotwrite : Str := ⟨#[83,116,97,116,101,46,119,114,105,116,101]⟩
theorem en_StateDotwrite : Str.ofString "State.write" = n_StateDotwrite := rfl
noncomputable def n_TRAP : Str := ⟨#[84,82,65,80]⟩
theorem en_TRAP : Str.ofString "TRAP" = n_TRAP := rfl
noncomputable def n_TRAPS : Str := ⟨#[84,82,65,80,83]⟩
theorem en_TRAPS : Str.ofString "TRAPS" = n_TRAPS := rfl
noncomputable def n_TRAP_NAME : Str := ⟨#[84,82,65,80,95,78,65,77,69]⟩
theorem en_TRAP_NAME : Str.ofString "TRAP_NAME" = n_TRAP_NAME := rfl
noncomputable def n_WHOLE_MOVES : Str := ⟨#[87,72,79,76,69,95,77,79,86,69,83]⟩
noncomputable def n_ZF : Str := ⟨#[90,70]⟩
theorem en_ZF : Str.ofString "ZF" = n_ZF := rfl
noncomputable def n___annotations__ : Str := ⟨#[95,95,97,110,110,111,116,97,116,105,111,110,115,95,95]⟩
noncomputable def n___builtins__ : Str := ⟨#[95,95,98,117,105,108,116,105,110,115,95,95]⟩
noncomputable def n___cached__ : Str := ⟨#[95,95,99,97,99,104,101,100,95,95]⟩
noncomputable def n___dict__ : Str := ⟨#[95,95,100,105,99,116,95,95]⟩
noncomputable def n___doc__ : Str := ⟨#[95,95,100,111,99,95,95]⟩
noncomputable def n___file__ : Str := ⟨#[95,95,102,105,108,101,95,95]⟩
noncomputable def n___firstlineno__ : Str := ⟨#[95,95,102,105,114,115,116,108,105,110,101,110,111,95,95]⟩
noncomputable def n___init__ : Str := ⟨#[95,95,105,110,105,116,95,95]⟩
theorem en___init__ : Str.ofString "__init__" = n___init__ := rfl
noncomputable def n___loader__ : Str := ⟨#[95,95,108,111,97,100,101,114,95,95]⟩
noncomputable def n___module__ : Str := ⟨#[95,95,109,111,100,117,108,101,95,95]⟩
noncomputable def n___name__ : Str := ⟨#[95,95,110,97,109,101,95,95]⟩
noncomputable def n___package__ : Str := ⟨#[95,95,112,97,99,107,97,103,101,95,95]⟩
noncomputable def n___spec__ : Str := ⟨#[95,95,115,112,101,99,95,95]⟩
noncomputable def n___static_attributes__ : Str := ⟨#[95,95,115,116,97,116,105,99,95,97,116,116,114,105,98,117,116,101,115,95,95]⟩
noncomputable def n___weakref__ : Str := ⟨#[95,95,119,101,97,107,114,101,102,95,95]⟩
noncomputable def n__law_advance : Str := ⟨#[95,108,97,119,95,97,100,118,97,110,99,101]⟩
theorem en__law_advance : Str.ofString "_law_advance" = n__law_advance := rfl
noncomputable def n__law_deed : Str := ⟨#[95,108,97,119,95,100,101,101,100]⟩
theorem en__law_deed : Str.ofString "_law_deed" = n__law_deed := rfl
noncomputable def n__law_draw : Str := ⟨#[95,108,97,119,95,100,114,97,119]⟩
theorem en__law_draw : Str.ofString "_law_draw" = n__law_draw := rfl
noncomputable def n__law_looked : Str := ⟨#[95,108,97,119,95,108,111,111,107,101,100]⟩
theorem en__law_looked : Str.ofString "_law_looked" = n__law_looked := rfl
noncomputable def n__law_most : Str := ⟨#[95,108,97,119,95,109,111,115,116]⟩
theorem en__law_most : Str.ofString "_law_most" = n__law_most := rfl
noncomputable def n__law_program : Str := ⟨#[95,108,97,119,95,112,114,111,103,114,97,109]⟩
theorem en__law_program : Str.ofString "_law_program" = n__law_program := rfl
noncomputable def n__law_raw : Str := ⟨#[95,108,97,119,95,114,97,119]⟩
theorem en__law_raw : Str.ofString "_law_raw" = n__law_raw := rfl
noncomputable def n__law_recorded : Str := ⟨#[95,108,97,119,95,114,101,99,111,114,100,101,100]⟩
theorem en__law_recorded : Str.ofString "_law_recorded" = n__law_recorded := rfl
noncomputable def n__law_reg : Str := ⟨#[95,108,97,119,95,114,101,103]⟩
theorem en__law_reg : Str.ofString "_law_reg" = n__law_reg := rfl
noncomputable def n__law_row : Str := ⟨#[95,108,97,119,95,114,111,119]⟩
theorem en__law_row : Str.ofString "_law_row" = n__law_row := rfl
noncomputable def n__law_run : Str := ⟨#[95,108,97,119,95,114,117,110]⟩
theorem en__law_run : Str.ofString "_law_run" = n__law_run := rfl
noncomputable def n__wall : Str := ⟨#[95,119,97,108,108]⟩
noncomputable def n_advance : Str := ⟨#[97,100,118,97,110,99,101]⟩
theorem en_advance : Str.ofString "advance" = n_advance := rfl
noncomputable def n_af : Str := ⟨#[97,102]⟩
theorem en_af : Str.ofString "af" = n_af := rfl
noncomputable def nSalSpclSpdlSpbl2371 : Str := ⟨#[97,108,32,99,108,32,100,108,32,98,108,32,115,112,108,32,98,112,108,32,115,105,108,32,100,105,108]⟩
noncomputable def n_append : Str := ⟨#[97,112,112,101,110,100]⟩
theorem en_append : Str.ofString "append" = n_append := rfl
noncomputable def n_at : Str := ⟨#[97,116]⟩
theorem en_at : Str.ofString "at" = n_at := rfl
noncomputable def nSaxSpcxSpdxSpbx1983 : Str := ⟨#[97,120,32,99,120,32,100,120,32,98,120,32,115,112,32,98,112,32,115,105,32,100,105]⟩
noncomputable def n_base : Str := ⟨#[98,97,115,101]⟩
theorem en_base : Str.ofString "base" = n_base := rfl
noncomputable def n_bases : Str := ⟨#[98,97,115,101,115]⟩
theorem en_bases : Str.ofString "bases" = n_bases := rfl
noncomputable def n_begin : Str := ⟨#[98,101,103,105,110]⟩
theorem en_begin : Str.ofString "begin" = n_begin := rfl
noncomputable def n_bit : Str := ⟨#[98,105,116]⟩
theorem en_bit : Str.ofString "bit" = n_bit := rfl
noncomputable def n_bit_result : Str := ⟨#[98,105,116,95,114,101,115,117,108,116]⟩
noncomputable def n_break : Str := ⟨#[98,114,101,97,107]⟩
theorem en_break : Str.ofString "break" = n_break := rfl
noncomputable def n_bwdq : Str := ⟨#[98,119,100,113]⟩
noncomputable def n_bytes : Str := ⟨#[98,121,116,101,115]⟩
theorem en_bytes : Str.ofString "bytes" = n_bytes := rfl
noncomputable def n_call : Str := ⟨#[99,97,108,108]⟩
theorem en_call : Str.ofString "call" = n_call := rfl
noncomputable def n_cf : Str := ⟨#[99,102]⟩
theorem en_cf : Str.ofString "cf" = n_cf := rfl
noncomputable def nScfSppfSpafSpzf1682 : Str := ⟨#[99,102,32,112,102,32,97,102,32,122,102,32,115,102,32,111,102,32,100,102]⟩
noncomputable def n_clean : Str := ⟨#[99,108,101,97,110]⟩
theorem en_clean : Str.ofString "clean" = n_clean := rfl
noncomputable def n_code : Str := ⟨#[99,111,100,101]⟩
noncomputable def n_condition_names : Str := ⟨#[99,111,110,100,105,116,105,111,110,95,110,97,109,101,115]⟩
noncomputable def n_condition_number : Str := ⟨#[99,111,110,100,105,116,105,111,110,95,110,117,109,98,101,114]⟩
noncomputable def n_copy : Str := ⟨#[99,111,112,121]⟩
theorem en_copy : Str.ofString "copy" = n_copy := rfl
noncomputable def n_count : Str := ⟨#[99,111,117,110,116]⟩
theorem en_count : Str.ofString "count" = n_count := rfl
noncomputable def n_count_down : Str := ⟨#[99,111,117,110,116,95,100,111,119,110]⟩
theorem en_count_down : Str.ofString "count_down" = n_count_down := rfl
noncomputable def n_deed : Str := ⟨#[100,101,101,100]⟩
theorem en_deed : Str.ofString "deed" = n_deed := rfl
noncomputable def n_deeds : Str := ⟨#[100,101,101,100,115]⟩
theorem en_deeds : Str.ofString "deeds" = n_deeds := rfl
noncomputable def n_df : Str := ⟨#[100,102]⟩
theorem en_df : Str.ofString "df" = n_df := rfl
noncomputable def n_done : Str := ⟨#[100,111,110,101]⟩
theorem en_done : Str.ofString "done" = n_done := rfl
noncomputable def n_drop : Str := ⟨#[100,114,111,112]⟩
theorem en_drop : Str.ofString "drop" = n_drop := rfl
noncomputable def n_due : Str := ⟨#[100,117,101]⟩
theorem en_due : Str.ofString "due" = n_due := rfl
noncomputable def n_early_names : Str := ⟨#[101,97,114,108,121,95,110,97,109,101,115]⟩
theorem en_early_names : Str.ofString "early_names" = n_early_names := rfl
noncomputable def nSeaxSpecxSpedxS2799 : Str := ⟨#[101,97,120,32,101,99,120,32,101,100,120,32,101,98,120,32,101,115,112,32,101,98,112,32,101,115,105,32,101,100,105]⟩
noncomputable def n_enumerate : Str := ⟨#[101,110,117,109,101,114,97,116,101]⟩
theorem en_enumerate : Str.ofString "enumerate" = n_enumerate := rfl
noncomputable def n_error : Str := ⟨#[101,114,114,111,114]⟩
theorem en_error : Str.ofString "error" = n_error := rfl
noncomputable def n_exchange : Str := ⟨#[101,120,99,104,97,110,103,101]⟩
theorem en_exchange : Str.ofString "exchange" = n_exchange := rfl
noncomputable def n_fault : Str := ⟨#[102,97,117,108,116]⟩
theorem en_fault : Str.ofString "fault" = n_fault := rfl
noncomputable def n_find : Str := ⟨#[102,105,110,100]⟩
noncomputable def n_flags : Str := ⟨#[102,108,97,103,115]⟩
theorem en_flags : Str.ofString "flags" = n_flags := rfl
noncomputable def n_form : Str := ⟨#[102,111,114,109]⟩
theorem en_form : Str.ofString "form" = n_form := rfl
noncomputable def n_found : Str := ⟨#[102,111,117,110,100]⟩
theorem en_found : Str.ofString "found" = n_found := rfl
noncomputable def n_fs : Str := ⟨#[102,115]⟩
theorem en_fs : Str.ofString "fs" = n_fs := rfl
noncomputable def n_get : Str := ⟨#[103,101,116]⟩
theorem en_get : Str.ofString "get" = n_get := rfl
noncomputable def n_go_on : Str := ⟨#[103,111,95,111,110]⟩
noncomputable def n_gpr : Str := ⟨#[103,112,114]⟩
theorem en_gpr : Str.ofString "gpr" = n_gpr := rfl
noncomputable def n_gs : Str := ⟨#[103,115]⟩
theorem en_gs : Str.ofString "gs" = n_gs := rfl
noncomputable def n_halted : Str := ⟨#[104,97,108,116,101,100]⟩
theorem en_halted : Str.ofString "halted" = n_halted := rfl
noncomputable def n_held : Str := ⟨#[104,101,108,100]⟩
theorem en_held : Str.ofString "held" = n_held := rfl
noncomputable def n_here : Str := ⟨#[104,101,114,101]⟩
theorem en_here : Str.ofString "here" = n_here := rfl
noncomputable def n_high : Str := ⟨#[104,105,103,104]⟩
theorem en_high : Str.ofString "high" = n_high := rfl
noncomputable def n_hlt : Str := ⟨#[104,108,116]⟩
theorem en_hlt : Str.ofString "hlt" = n_hlt := rfl
noncomputable def n_holds : Str := ⟨#[104,111,108,100,115]⟩
theorem en_holds : Str.ofString "holds" = n_holds := rfl
noncomputable def n_holds_number : Str := ⟨#[104,111,108,100,115,95,110,117,109,98,101,114]⟩
noncomputable def n_imm : Str := ⟨#[105,109,109]⟩
theorem en_imm : Str.ofString "imm" = n_imm := rfl
noncomputable def n_index : Str := ⟨#[105,110,100,101,120]⟩
theorem en_index : Str.ofString "index" = n_index := rfl
noncomputable def n_instruction : Str := ⟨#[105,110,115,116,114,117,99,116,105,111,110]⟩
theorem en_instruction : Str.ofString "instruction" = n_instruction := rfl
noncomputable def n_int : Str := ⟨#[105,110,116]⟩
theorem en_int : Str.ofString "int" = n_int := rfl
noncomputable def n_int3 : Str := ⟨#[105,110,116,51]⟩
theorem en_int3 : Str.ofString "int3" = n_int3 := rfl
noncomputable def n_is_absolute : Str := ⟨#[105,115,95,97,98,115,111,108,117,116,101]⟩
noncomputable def n_is_extended : Str := ⟨#[105,115,95,101,120,116,101,110,100,101,100]⟩
noncomputable def n_is_halted : Str := ⟨#[105,115,95,104,97,108,116,101,100]⟩
theorem en_is_halted : Str.ofString "is_halted" = n_is_halted := rfl
noncomputable def n_is_high : Str := ⟨#[105,115,95,104,105,103,104]⟩
noncomputable def n_is_last : Str := ⟨#[105,115,95,108,97,115,116]⟩
noncomputable def n_is_over : Str := ⟨#[105,115,95,111,118,101,114]⟩
theorem en_is_over : Str.ofString "is_over" = n_is_over := rfl
noncomputable def n_is_rip : Str := ⟨#[105,115,95,114,105,112]⟩
noncomputable def n_is_taken : Str := ⟨#[105,115,95,116,97,107,101,110]⟩
theorem en_is_taken : Str.ofString "is_taken" = n_is_taken := rfl
noncomputable def n_is_xmm : Str := ⟨#[105,115,95,120,109,109]⟩
noncomputable def n_iset : Str := ⟨#[105,115,101,116]⟩
theorem en_iset : Str.ofString "iset" = n_iset := rfl
noncomputable def n_isinstance : Str := ⟨#[105,115,105,110,115,116,97,110,99,101]⟩
theorem en_isinstance : Str.ofString "isinstance" = n_isinstance := rfl
noncomputable def n_j : Str := ⟨#[106]⟩
theorem en_j : Str.ofString "j" = n_j := rfl
noncomputable def n_jmp : Str := ⟨#[106,109,112]⟩
theorem en_jmp : Str.ofString "jmp" = n_jmp := rfl
noncomputable def n_joined : Str := ⟨#[106,111,105,110,101,100]⟩
theorem en_joined : Str.ofString "joined" = n_joined := rfl
noncomputable def n_joined_machine : Str := ⟨#[106,111,105,110,101,100,95,109,97,99,104,105,110,101]⟩
theorem en_joined_machine : Str.ofString "joined_machine" = n_joined_machine := rfl
noncomputable def n_joined_transfers : Str := ⟨#[106,111,105,110,101,100,95,116,114,97,110,115,102,101,114,115]⟩
noncomputable def n_jrcxz : Str := ⟨#[106,114,99,120,122]⟩
theorem en_jrcxz : Str.ofString "jrcxz" = n_jrcxz := rfl
noncomputable def n_jump_deed : Str := ⟨#[106,117,109,112,95,100,101,101,100]⟩
theorem en_jump_deed : Str.ofString "jump_deed" = n_jump_deed := rfl
noncomputable def n_kept : Str := ⟨#[107,101,112,116]⟩
theorem en_kept : Str.ofString "kept" = n_kept := rfl
noncomputable def n_kind : Str := ⟨#[107,105,110,100]⟩
theorem en_kind : Str.ofString "kind" = n_kind := rfl
noncomputable def n_lane_result : Str := ⟨#[108,97,110,101,95,114,101,115,117,108,116]⟩
noncomputable def n_lane_size : Str := ⟨#[108,97,110,101,95,115,105,122,101]⟩
noncomputable def n_lane_worth : Str := ⟨#[108,97,110,101,95,119,111,114,116,104]⟩
noncomputable def n_lanes : Str := ⟨#[108,97,110,101,115]⟩
noncomputable def n_late_ending : Str := ⟨#[108,97,116,101,95,101,110,100,105,110,103]⟩
theorem en_late_ending : Str.ofString "late_ending" = n_late_ending := rfl
noncomputable def n_law : Str := ⟨#[108,97,119]⟩
theorem en_law : Str.ofString "law" = n_law := rfl
noncomputable def n_law_nn0085_01 : Str := ⟨#[108,97,119,95,110,110,48,48,56,53,95,48,49]⟩
noncomputable def n_lea : Str := ⟨#[108,101,97]⟩
theorem en_lea : Str.ofString "lea" = n_lea := rfl
noncomputable def n_leave : Str := ⟨#[108,101,97,118,101]⟩
theorem en_leave : Str.ofString "leave" = n_leave := rfl
noncomputable def n_len : Str := ⟨#[108,101,110]⟩
theorem en_len : Str.ofString "len" = n_len := rfl
noncomputable def n_length : Str := ⟨#[108,101,110,103,116,104]⟩
theorem en_length : Str.ofString "length" = n_length := rfl
noncomputable def n_lift : Str := ⟨#[108,105,102,116]⟩
theorem en_lift : Str.ofString "lift" = n_lift := rfl
noncomputable def n_line : Str := ⟨#[108,105,110,101]⟩
theorem en_line : Str.ofString "line" = n_line := rfl
noncomputable def n_list : Str := ⟨#[108,105,115,116]⟩
theorem en_list : Str.ofString "list" = n_list := rfl
noncomputable def n_load : Str := ⟨#[108,111,97,100]⟩
theorem en_load : Str.ofString "load" = n_load := rfl
noncomputable def n_loop : Str := ⟨#[108,111,111,112]⟩
theorem en_loop : Str.ofString "loop" = n_loop := rfl
noncomputable def n_loope : Str := ⟨#[108,111,111,112,101]⟩
theorem en_loope : Str.ofString "loope" = n_loope := rfl
noncomputable def n_loopne : Str := ⟨#[108,111,111,112,110,101]⟩
theorem en_loopne : Str.ofString "loopne" = n_loopne := rfl
noncomputable def n_low : Str := ⟨#[108,111,119]⟩
theorem en_low : Str.ofString "low" = n_low := rfl
noncomputable def n_many : Str := ⟨#[109,97,110,121]⟩
theorem en_many : Str.ofString "many" = n_many := rfl
noncomputable def n_mask : Str := ⟨#[109,97,115,107]⟩
theorem en_mask : Str.ofString "mask" = n_mask := rfl
noncomputable def n_mem : Str := ⟨#[109,101,109]⟩
theorem en_mem : Str.ofString "mem" = n_mem := rfl
noncomputable def n_memory : Str := ⟨#[109,101,109,111,114,121]⟩
theorem en_memory : Str.ofString "memory" = n_memory := rfl
noncomputable def n_memory_at : Str := ⟨#[109,101,109,111,114,121,95,97,116]⟩
noncomputable def n_most : Str := ⟨#[109,111,115,116]⟩
theorem en_most : Str.ofString "most" = n_most := rfl
noncomputable def n_mov : Str := ⟨#[109,111,118]⟩
theorem en_mov : Str.ofString "mov" = n_mov := rfl
noncomputable def nSmovapsSpmovdqa : Str := ⟨#[109,111,118,97,112,115,32,109,111,118,100,113,97]⟩
noncomputable def nSmovapsSpmovups2783 : Str := ⟨#[109,111,118,97,112,115,32,109,111,118,117,112,115,32,109,111,118,100,113,97,32,109,111,118,100,113,117]⟩
noncomputable def n_move_deed : Str := ⟨#[109,111,118,101,95,100,101,101,100]⟩
theorem en_move_deed : Str.ofString "move_deed" = n_move_deed := rfl
noncomputable def n_n : Str := ⟨#[110]⟩
theorem en_n : Str.ofString "n" = n_n := rfl
noncomputable def n_name : Str := ⟨#[110,97,109,101]⟩
theorem en_name : Str.ofString "name" = n_name := rfl
noncomputable def n_names : Str := ⟨#[110,97,109,101,115]⟩
theorem en_names : Str.ofString "names" = n_names := rfl
noncomputable def n_need_aligned : Str := ⟨#[110,101,101,100,95,97,108,105,103,110,101,100]⟩
noncomputable def n_need_running : Str := ⟨#[110,101,101,100,95,114,117,110,110,105,110,103]⟩
theorem en_need_running : Str.ofString "need_running" = n_need_running := rfl
noncomputable def n_needs_rex : Str := ⟨#[110,101,101,100,115,95,114,101,120]⟩
noncomputable def nSnoSpdeed : Str := ⟨#[110,111,32,100,101,101,100]⟩
theorem enSnoSpdeed : Str.ofString "no deed" = nSnoSpdeed := rfl
noncomputable def nSnoSprow : Str := ⟨#[110,111,32,114,111,119]⟩
theorem enSnoSprow : Str.ofString "no row" = nSnoSprow := rfl
noncomputable def nSnoSpsuchSpregister : Str := ⟨#[110,111,32,115,117,99,104,32,114,101,103,105,115,116,101,114]⟩
theorem enSnoSpsuchSpregister : Str.ofString "no such register" = nSnoSpsuchSpregister := rfl
noncomputable def n_nop : Str := ⟨#[110,111,112]⟩
theorem en_nop : Str.ofString "nop" = n_nop := rfl
noncomputable def n_number : Str := ⟨#[110,117,109,98,101,114]⟩
theorem en_number : Str.ofString "number" = n_number := rfl
noncomputable def nSoSpnoSpbSpaeSp3053 : Str := ⟨#[111,32,110,111,32,98,32,97,101,32,101,32,110,101,32,98,101,32,97,32,115,32,110,115,32,112,32,110,112,32,108,32,103,101,32,108,101,32,103]⟩
noncomputable def n_octet : Str := ⟨#[111,99,116,101,116]⟩
theorem en_octet : Str.ofString "octet" = n_octet := rfl
noncomputable def n_octetmintDotbasics : Str := ⟨#[111,99,116,101,116,109,105,110,116,46,98,97,115,105,99,115]⟩
theorem en_octetmintDotbasics : Str.ofString "octetmint.basics" = n_octetmintDotbasics := rfl
noncomputable def n_octetmintDotdebug : Str := ⟨#[111,99,116,101,116,109,105,110,116,46,100,101,98,117,103]⟩
theorem en_octetmintDotdebug : Str.ofString "octetmint.debug" = n_octetmintDotdebug := rfl
noncomputable def n_octetmintDotdecoder : Str := ⟨#[111,99,116,101,116,109,105,110,116,46,100,101,99,111,100,101,114]⟩
theorem en_octetmintDotdecoder : Str.ofString "octetmint.decoder" = n_octetmintDotdecoder := rfl
noncomputable def n_octetmintDotflags : Str := ⟨#[111,99,116,101,116,109,105,110,116,46,102,108,97,103,115]⟩
theorem en_octetmintDotflags : Str.ofString "octetmint.flags" = n_octetmintDotflags := rfl
noncomputable def n_octetmintDotmachine : Str := ⟨#[111,99,116,101,116,109,105,110,116,46,109,97,99,104,105,110,101]⟩
theorem en_octetmintDotmachine : Str.ofString "octetmint.machine" = n_octetmintDotmachine := rfl
noncomputable def n_octetmintDotoperands : Str := ⟨#[111,99,116,101,116,109,105,110,116,46,111,112,101,114,97,110,100,115]⟩
theorem en_octetmintDotoperands : Str.ofString "octetmint.operands" = n_octetmintDotoperands := rfl
noncomputable def n_octetmintDotregisters : Str := ⟨#[111,99,116,101,116,109,105,110,116,46,114,101,103,105,115,116,101,114,115]⟩
theorem en_octetmintDotregisters : Str.ofString "octetmint.registers" = n_octetmintDotregisters := rfl
noncomputable def n_octets : Str := ⟨#[111,99,116,101,116,115]⟩
theorem en_octets : Str.ofString "octets" = n_octets := rfl
noncomputable def n_of : Str := ⟨#[111,102]⟩
theorem en_of : Str.ofString "of" = n_of := rfl
noncomputable def n_offset : Str := ⟨#[111,102,102,115,101,116]⟩
theorem en_offset : Str.ofString "offset" = n_offset := rfl
noncomputable def n_old : Str := ⟨#[111,108,100]⟩
theorem en_old : Str.ofString "old" = n_old := rfl
noncomputable def n_one : Str := ⟨#[111,110,101]⟩
theorem en_one : Str.ofString "one" = n_one := rfl
noncomputable def n_ones : Str := ⟨#[111,110,101,115]⟩
noncomputable def n_operand : Str := ⟨#[111,112,101,114,97,110,100]⟩
theorem en_operand : Str.ofString "operand" = n_operand := rfl
noncomputable def n_operands : Str := ⟨#[111,112,101,114,97,110,100,115]⟩
theorem en_operands : Str.ofString "operands" = n_operands := rfl
noncomputable def n_other : Str := ⟨#[111,116,104,101,114]⟩
theorem en_other : Str.ofString "other" = n_other := rfl
noncomputable def n_over : Str := ⟨#[111,118,101,114]⟩
theorem en_over : Str.ofString "over" = n_over := rfl
noncomputable def n_pack : Str := ⟨#[112,97,99,107]⟩
theorem en_pack : Str.ofString "pack" = n_pack := rfl
noncomputable def n_parity : Str := ⟨#[112,97,114,105,116,121]⟩
noncomputable def n_part_move : Str := ⟨#[112,97,114,116,95,109,111,118,101]⟩
noncomputable def n_part_size : Str := ⟨#[112,97,114,116,95,115,105,122,101]⟩
noncomputable def n_pen : Str := ⟨#[112,101,110]⟩
theorem en_pen : Str.ofString "pen" = n_pen := rfl
noncomputable def n_pf : Str := ⟨#[112,102]⟩
theorem en_pf : Str.ofString "pf" = n_pf := rfl
noncomputable def n_place : Str := ⟨#[112,108,97,99,101]⟩
theorem en_place : Str.ofString "place" = n_place := rfl
noncomputable def n_places : Str := ⟨#[112,108,97,99,101,115]⟩
theorem en_places : Str.ofString "places" = n_places := rfl
noncomputable def n_plant : Str := ⟨#[112,108,97,110,116]⟩
theorem en_plant : Str.ofString "plant" = n_plant := rfl
noncomputable def n_points : Str := ⟨#[112,111,105,110,116,115]⟩
theorem en_points : Str.ofString "points" = n_points := rfl
noncomputable def n_pop : Str := ⟨#[112,111,112]⟩
theorem en_pop : Str.ofString "pop" = n_pop := rfl
noncomputable def n_pop_operand : Str := ⟨#[112,111,112,95,111,112,101,114,97,110,100]⟩
theorem en_pop_operand : Str.ofString "pop_operand" = n_pop_operand := rfl
noncomputable def n_popfq : Str := ⟨#[112,111,112,102,113]⟩
theorem en_popfq : Str.ofString "popfq" = n_popfq := rfl
noncomputable def n_prefix : Str := ⟨#[112,114,101,102,105,120]⟩
theorem en_prefix : Str.ofString "prefix" = n_prefix := rfl
noncomputable def n_prefixes : Str := ⟨#[112,114,101,102,105,120,101,115]⟩
theorem en_prefixes : Str.ofString "prefixes" = n_prefixes := rfl
noncomputable def n_proceed : Str := ⟨#[112,114,111,99,101,101,100]⟩
theorem en_proceed : Str.ofString "proceed" = n_proceed := rfl
noncomputable def n_program : Str := ⟨#[112,114,111,103,114,97,109]⟩
theorem en_program : Str.ofString "program" = n_program := rfl
noncomputable def n_push : Str := ⟨#[112,117,115,104]⟩
theorem en_push : Str.ofString "push" = n_push := rfl
noncomputable def n_push_operand : Str := ⟨#[112,117,115,104,95,111,112,101,114,97,110,100]⟩
theorem en_push_operand : Str.ofString "push_operand" = n_push_operand := rfl
noncomputable def n_pushfq : Str := ⟨#[112,117,115,104,102,113]⟩
theorem en_pushfq : Str.ofString "pushfq" = n_pushfq := rfl
noncomputable def n_put : Str := ⟨#[112,117,116]⟩
theorem en_put : Str.ofString "put" = n_put := rfl
noncomputable def n_put_low : Str := ⟨#[112,117,116,95,108,111,119]⟩
theorem en_put_low : Str.ofString "put_low" = n_put_low := rfl
noncomputable def nSpxorSpporSppan3528 : Str := ⟨#[112,120,111,114,32,112,111,114,32,112,97,110,100,32,112,97,110,100,110,32,120,111,114,112,115,32,111,114,112,115,32,97,110,100,112,115]⟩
noncomputable def n_r : Str := ⟨#[114]⟩
theorem en_r : Str.ofString "r" = n_r := rfl
noncomputable def n_range : Str := ⟨#[114,97,110,103,101]⟩
theorem en_range : Str.ofString "range" = n_range := rfl
noncomputable def n_raw : Str := ⟨#[114,97,119]⟩
theorem en_raw : Str.ofString "raw" = n_raw := rfl
noncomputable def nSraxSprcxSprdxS2903 : Str := ⟨#[114,97,120,32,114,99,120,32,114,100,120,32,114,98,120,32,114,115,112,32,114,98,112,32,114,115,105,32,114,100,105]⟩
noncomputable def n_read : Str := ⟨#[114,101,97,100]⟩
theorem en_read : Str.ofString "read" = n_read := rfl
noncomputable def n_reason : Str := ⟨#[114,101,97,115,111,110]⟩
theorem en_reason : Str.ofString "reason" = n_reason := rfl
noncomputable def n_reg : Str := ⟨#[114,101,103]⟩
theorem en_reg : Str.ofString "reg" = n_reg := rfl
noncomputable def n_register : Str := ⟨#[114,101,103,105,115,116,101,114]⟩
theorem en_register : Str.ofString "register" = n_register := rfl
noncomputable def n_registers : Str := ⟨#[114,101,103,105,115,116,101,114,115]⟩
noncomputable def n_regs : Str := ⟨#[114,101,103,115]⟩
theorem en_regs : Str.ofString "regs" = n_regs := rfl
noncomputable def n_rel : Str := ⟨#[114,101,108]⟩
theorem en_rel : Str.ofString "rel" = n_rel := rfl
noncomputable def n_replaced : Str := ⟨#[114,101,112,108,97,99,101,100]⟩
noncomputable def n_ret : Str := ⟨#[114,101,116]⟩
theorem en_ret : Str.ofString "ret" = n_ret := rfl
noncomputable def n_rip : Str := ⟨#[114,105,112]⟩
theorem en_rip : Str.ofString "rip" = n_rip := rfl
noncomputable def n_row : Str := ⟨#[114,111,119]⟩
theorem en_row : Str.ofString "row" = n_row := rfl
noncomputable def n_rows : Str := ⟨#[114,111,119,115]⟩
theorem en_rows : Str.ofString "rows" = n_rows := rfl
noncomputable def n_run_planted : Str := ⟨#[114,117,110,95,112,108,97,110,116,101,100]⟩
theorem en_run_planted : Str.ofString "run_planted" = n_run_planted := rfl
noncomputable def n_scale : Str := ⟨#[115,99,97,108,101]⟩
theorem en_scale : Str.ofString "scale" = n_scale := rfl
noncomputable def n_script : Str := ⟨#[115,99,114,105,112,116]⟩
theorem en_script : Str.ofString "script" = n_script := rfl
noncomputable def n_segment : Str := ⟨#[115,101,103,109,101,110,116]⟩
theorem en_segment : Str.ofString "segment" = n_segment := rfl
noncomputable def n_segments : Str := ⟨#[115,101,103,109,101,110,116,115]⟩
theorem en_segments : Str.ofString "segments" = n_segments := rfl
noncomputable def n_self : Str := ⟨#[115,101,108,102]⟩
theorem en_self : Str.ofString "self" = n_self := rfl
noncomputable def n_set_octet : Str := ⟨#[115,101,116,95,111,99,116,101,116]⟩
theorem en_set_octet : Str.ofString "set_octet" = n_set_octet := rfl
noncomputable def n_sf : Str := ⟨#[115,102]⟩
theorem en_sf : Str.ofString "sf" = n_sf := rfl
noncomputable def n_show : Str := ⟨#[115,104,111,119]⟩
noncomputable def n_shown : Str := ⟨#[115,104,111,119,110]⟩
theorem en_shown : Str.ofString "shown" = n_shown := rfl
noncomputable def n_size : Str := ⟨#[115,105,122,101]⟩
theorem en_size : Str.ofString "size" = n_size := rfl
noncomputable def n_size_of : Str := ⟨#[115,105,122,101,95,111,102]⟩
theorem en_size_of : Str.ofString "size_of" = n_size_of := rfl
noncomputable def n_some : Str := ⟨#[115,111,109,101]⟩
theorem en_some : Str.ofString "some" = n_some := rfl
noncomputable def n_sort : Str := ⟨#[115,111,114,116]⟩
theorem en_sort : Str.ofString "sort" = n_sort := rfl
noncomputable def n_sorted : Str := ⟨#[115,111,114,116,101,100]⟩
theorem en_sorted : Str.ofString "sorted" = n_sorted := rfl
noncomputable def n_spans : Str := ⟨#[115,112,97,110,115]⟩
noncomputable def n_split : Str := ⟨#[115,112,108,105,116]⟩
theorem en_split : Str.ofString "split" = n_split := rfl
noncomputable def n_spot : Str := ⟨#[115,112,111,116]⟩
theorem en_spot : Str.ofString "spot" = n_spot := rfl
noncomputable def n_stack_deed : Str := ⟨#[115,116,97,99,107,95,100,101,101,100]⟩
theorem en_stack_deed : Str.ofString "stack_deed" = n_stack_deed := rfl
noncomputable def n_state : Str := ⟨#[115,116,97,116,101]⟩
theorem en_state : Str.ofString "state" = n_state := rfl
noncomputable def n_step_row : Str := ⟨#[115,116,101,112,95,114,111,119]⟩
theorem en_step_row : Str.ofString "step_row" = n_step_row := rfl
noncomputable def n_store : Str := ⟨#[115,116,111,114,101]⟩
theorem en_store : Str.ofString "store" = n_store := rfl
noncomputable def n_stores : Str := ⟨#[115,116,111,114,101,115]⟩
theorem en_stores : Str.ofString "stores" = n_stores := rfl
noncomputable def n_str : Str := ⟨#[115,116,114]⟩
theorem en_str : Str.ofString "str" = n_str := rfl
noncomputable def n_string_deed : Str := ⟨#[115,116,114,105,110,103,95,100,101,101,100]⟩
theorem en_string_deed : Str.ofString "string_deed" = n_string_deed := rfl
noncomputable def n_string_round : Str := ⟨#[115,116,114,105,110,103,95,114,111,117,110,100]⟩
noncomputable def n_string_stem : Str := ⟨#[115,116,114,105,110,103,95,115,116,101,109]⟩
noncomputable def n_sub_flags : Str := ⟨#[115,117,98,95,102,108,97,103,115]⟩
noncomputable def n_sum : Str := ⟨#[115,117,109]⟩
theorem en_sum : Str.ofString "sum" = n_sum := rfl
noncomputable def n_symbol : Str := ⟨#[115,121,109,98,111,108]⟩
noncomputable def n_symbols : Str := ⟨#[115,121,109,98,111,108,115]⟩
noncomputable def n_szp : Str := ⟨#[115,122,112]⟩
noncomputable def n_target : Str := ⟨#[116,97,114,103,101,116]⟩
theorem en_target : Str.ofString "target" = n_target := rfl
noncomputable def n_target_of : Str := ⟨#[116,97,114,103,101,116,95,111,102]⟩
theorem en_target_of : Str.ofString "target_of" = n_target_of := rfl
noncomputable def n_tellings : Str := ⟨#[116,101,108,108,105,110,103,115]⟩
theorem en_tellings : Str.ofString "tellings" = n_tellings := rfl
noncomputable def nStheSpplaceSpof3182 : Str := ⟨#[116,104,101,32,112,108,97,99,101,32,111,102,32,97,32,115,121,109,98,111,108,32,105,115,32,110,111,116,32,107,110,111,119,110]⟩
theorem enStheSpplaceSpof3182 : Str.ofString "the place of a symbol is not known" = nStheSpplaceSpof3182 := rfl
noncomputable def n_told : Str := ⟨#[116,111,108,100]⟩
theorem en_told : Str.ofString "told" = n_told := rfl
noncomputable def n_total : Str := ⟨#[116,111,116,97,108]⟩
theorem en_total : Str.ofString "total" = n_total := rfl
noncomputable def n_transfer_deed : Str := ⟨#[116,114,97,110,115,102,101,114,95,100,101,101,100]⟩
theorem en_transfer_deed : Str.ofString "transfer_deed" = n_transfer_deed := rfl
noncomputable def n_tuple : Str := ⟨#[116,117,112,108,101]⟩
theorem en_tuple : Str.ofString "tuple" = n_tuple := rfl
noncomputable def n_turn : Str := ⟨#[116,117,114,110]⟩
theorem en_turn : Str.ofString "turn" = n_turn := rfl
noncomputable def n_typeDot__subcl3070 : Str := ⟨#[116,121,112,101,46,95,95,115,117,98,99,108,97,115,115,101,115,95,95,46,69,120,99,101,112,116,105,111,110,46,48]⟩
noncomputable def n_typeDot__subcl3132 : Str := ⟨#[116,121,112,101,46,95,95,115,117,98,99,108,97,115,115,101,115,95,95,46,69,120,99,101,112,116,105,111,110,46,110]⟩
noncomputable def n_ud2 : Str := ⟨#[117,100,50]⟩
theorem en_ud2 : Str.ofString "ud2" = n_ud2 := rfl
noncomputable def nSud2SpintSpint32430 : Str := ⟨#[117,100,50,32,105,110,116,32,105,110,116,51,32,115,121,115,99,97,108,108,32,99,112,117,105,100]⟩
noncomputable def n_unpack : Str := ⟨#[117,110,112,97,99,107]⟩
theorem en_unpack : Str.ofString "unpack" = n_unpack := rfl
noncomputable def n_unpack_low : Str := ⟨#[117,110,112,97,99,107,95,108,111,119]⟩
noncomputable def n_vector_deed : Str := ⟨#[118,101,99,116,111,114,95,100,101,101,100]⟩
theorem en_vector_deed : Str.ofString "vector_deed" = n_vector_deed := rfl
noncomputable def n_vector_move : Str := ⟨#[118,101,99,116,111,114,95,109,111,118,101]⟩
noncomputable def n_way : Str := ⟨#[119,97,121]⟩
theorem en_way : Str.ofString "way" = n_way := rfl
noncomputable def n_what : Str := ⟨#[119,104,97,116]⟩
theorem en_what : Str.ofString "what" = n_what := rfl
noncomputable def n_whole_move : Str := ⟨#[119,104,111,108,101,95,109,111,118,101]⟩
noncomputable def n_wide : Str := ⟨#[119,105,100,101]⟩
theorem en_wide : Str.ofString "wide" = n_wide := rfl
noncomputable def n_width : Str := ⟨#[119,105,100,116,104]⟩
theorem en_width : Str.ofString "width" = n_width := rfl
noncomputable def n_world : Str := ⟨#[119,111,114,108,100]⟩
theorem en_world : Str.ofString "world" = n_world := rfl
noncomputable def n_worth : Str := ⟨#[119,111,114,116,104]⟩
theorem en_worth : Str.ofString "worth" = n_worth := rfl
noncomputable def n_wrap : Str := ⟨#[119,114,97,112]⟩
theorem en_wrap : Str.ofString "wrap" = n_wrap := rfl
noncomputable def n_write : Str := ⟨#[119,114,105,116,101]⟩
theorem en_write : Str.ofString "write" = n_write := rfl
noncomputable def n_written : Str := ⟨#[119,114,105,116,116,101,110]⟩
theorem en_written : Str.ofString "written" = n_written := rfl
noncomputable def n_xchg : Str := ⟨#[120,99,104,103]⟩
theorem en_xchg : Str.ofString "xchg" = n_xchg := rfl
noncomputable def n_xmm : Str := ⟨#[120,109,109]⟩
theorem en_xmm : Str.ofString "xmm" = n_xmm := rfl
noncomputable def n_zf : Str := ⟨#[122,102]⟩
theorem en_zf : Str.ofString "zf" = n_zf := rfl
noncomputable abbrev P := PySem.Challenge.pw_nn0085_01
noncomputable def bodyOf : Stmt → List Stmt
 | .FunctionDef _ _ b _ _ _ _ _ _ _ => b
 | .ClassDef _ _ _ b _ _ _ _ _ _ _ => b
 | _ => []
noncomputable def paramsOf : Stmt → Arguments
 | .FunctionDef _ a _ _ _ _ _ _ _ _ => a
 | _ => ⟨[], [], none, [], [], none, []⟩
noncomputable def scopeOf : Stmt → Scope
 | .FunctionDef _ _ _ _ _ _ s _ _ _ => s
 | .ClassDef _ _ _ _ _ _ s _ _ _ _ => s
 | _ => default
noncomputable def stAt (i : Nat) : Stmt := P.main.body.getD i (.Pass default)
noncomputable def mtAt (i j : Nat) : Stmt := (bodyOf (stAt i)).getD j (.Pass default)
noncomputable abbrev ke (p : Params) (x : Str) (t : Tok) (v : Value) : DictEntry := ⟨PyData.keyHash p x, .str x t, v⟩
noncomputable abbrev kr (p : Params) (x : Str) (t : Tok) (a : Addr) : DictEntry := ⟨PyData.keyHash p x, .str x t, .ref a⟩
noncomputable abbrev fO (s : Stmt) (nm qn : Str) (dV : Value) (md : Str) (t : Tok) (cd : Addr) : Obj := ⟨.type "function", none, .func ⟨nm, qn, paramsOf s, .stmts (bodyOf s), scopeOf s, 3, [], dV, .none, .none, .str md t, none, .ref cd, .none, 0⟩, #[]⟩
noncomputable abbrev myK (p : Params) : Frag := [
 (2, ⟨.none, none, .dict #[ke p n_typeDot__subcl3070 230 (.int (46) 0), ke p n_typeDot__subcl3132 231 (.int (1) 0)] 2, #[]⟩),
 (3, ⟨.type "dict", none, .dict #[ke p n___name__ 165 (.str n_law_nn0085_01 1682), ke p n___doc__ 166 .none, ke p n___package__ 167 .none, ke p n___loader__ 168 (.builtin "__main__.__loader__#opaque"), ke p n___spec__ 169 .none, kr p n___annotations__ 170 6, kr p n___builtins__ 171 4, ke p n___file__ 173 (.str nScut 172), ke p n___cached__ 174 .none, kr p n__wall 193 21, kr p n_MintError 233 46, kr p n_OperandError 249 59, kr p n_MachineError 265 71, kr p n_mask 272 80, kr p n_wrap 280 87, kr p n_bit 288 94, kr p n_ones 298 101, kr p n_parity 305 108, ke p n_TRAP 309 (.int (204) 308), ke p n_TRAP_NAME 311 (.str n_int3 310), kr p n_SoftPoints 384 158, kr p n_run_planted 397 169, kr p n_Decoded 441 193, ke p n_CONDITIONS 445 (.str nSoSpnoSpbSpaeSp3053 444), kr p n_condition_names 451 204, ke p n_CF 455 (.int (0) 454), ke p n_PF 457 (.int (2) 456), ke p n_AF 459 (.int (4) 458), ke p n_ZF 461 (.int (6) 460), ke p n_SF 463 (.int (7) 462), ke p n_DF 465 (.int (10) 464), ke p n_OF 467 (.int (11) 466), ke p n_FLAG_NAMES 469 (.str nScfSppfSpafSpzf1682 468), kr p n_Flags 570 277, kr p n_condition_number 577 288, kr p n_holds_number 587 295, kr p n_holds 595 302, kr p n_szp 605 309, kr p n_sub_flags 620 316, ke p n_NAMES_8 624 (.str nSalSpclSpdlSpbl2371 623), ke p n_NAMES_16 626 (.str nSaxSpcxSpdxSpbx1983 625), ke p n_NAMES_32 628 (.str nSeaxSpecxSpedxS2799 627), ke p n_NAMES_64 630 (.str nSraxSprcxSprdxS2903 629), kr p n_Register 700 368, kr p n_early_names 707 379, kr p n_late_ending 714 386, kr p n_gpr 723 393, ke p n_STACK 727 (.int (4) 726), ke p n_TRAPS 729 (.str nSud2SpintSpint32430 728), kr p n_Memory 853 483, kr p n_joined 862 1035, kr p n_joined_machine 863 494, kr p n_State 1016 600, kr p n_done 1026 611, kr p n_proceed 1036 618, kr p n_need_running 1043 625, kr p n_step_row 1053 632, kr p n_Operand 1105 670, kr p n_Reg 1144 705, kr p n_Imm 1186 739, kr p n_Rel 1236 780, kr p n_Mem 1312 833, kr p n_Instruction 1385 886, kr p n_string_stem 1395 897, ke p n_RAX 1399 (.int (0) 1398), ke p n_RCX 1401 (.int (1) 1400), ke p n_RSP 1403 (.int (4) 1402), ke p n_RBP 1405 (.int (5) 1404), ke p n_RSI 1407 (.int (6) 1406), ke p n_RDI 1409 (.int (7) 1408), ke p n_ALL_LANES 1415 (.int (340282366920938463463374607431768211455) 1414), ke p n_LETTERS 1417 (.str n_bwdq 1416), ke p n_WHOLE_MOVES 1419 (.str nSmovapsSpmovups2783 1418), ke p n_ALIGNED_MOVES 1421 (.str nSmovapsSpmovdqa 1420), ke p n_BIT_NAMES 1423 (.str nSpxorSpporSppan3528 1422), kr p n_exchange 1435 904, kr p n_move_deed 1447 911, kr p n_push_operand 1457 918, kr p n_pop_operand 1468 925, kr p n_stack_deed 1477 932, kr p n_target_of 1485 939, kr p n_count_down 1492 946, kr p n_is_taken 1500 953, kr p n_jump_deed 1510 960, kr p n_go_on 1520 967, kr p n_string_round 1532 974, kr p n_is_last 1541 981, kr p n_string_deed 1552 988, kr p n_is_xmm 1559 995, kr p n_need_aligned 1567 1002, kr p n_whole_move 1577 1009, kr p n_part_size 1584 1016, kr p n_part_move 1596 1023, kr p n_lanes 1602 1028, kr p n_joined_transfers 1613 1035, kr p n_lane_size 1623 1042, kr p n_lane_worth 1633 1049, kr p n_lane_result 1639 1054, kr p n_bit_result 1648 1061, kr p n_vector_move 1659 1068, kr p n_vector_deed 1673 1075, kr p n_transfer_deed 1681 1082, ke p n__law_most 1685 (.int (20) 1684), kr p n__law_raw 1693 1089, kr p n__law_draw 1701 1096, kr p n__law_reg 1708 1103, kr p n__law_row 1717 1110, kr p n__law_program 1729 1117, kr p n__law_recorded 1739 1124, kr p n__law_run 1745 1129, kr p n__law_looked 1751 1134, kr p n__law_deed 1757 1139, kr p n_law 1763 1144] 113, #[]⟩),
 (29, ⟨.type "tuple", none, .seq #[.none] 0, #[]⟩),
 (35, ⟨.type "code", none, .fields #[.str n___init__ 208, .str n_MintErrorDot__init__ 209, .str nScut 210, .int (7) 0, .int (3) 0, .int (0) 0, .int (0) 0, .int (3) 0, .ref 30, .bool true, .int (181) 0, .ref 31, .none, .ref 32, .ref 33, .ref 34, .int (214) 0, .int (7) 0, .str nScut 215], #[]⟩),
 (36, fO (mtAt 2 0) n___init__ n_MintErrorDot__init__ (.ref 29) n_octetmintDotbasics 194 35),
 (45, ⟨.type "dict", none, .dict #[ke p n___module__ 203 (.str n_octetmintDotbasics 194), ke p n___firstlineno__ 207 (.int (5) 206), kr p n___init__ 216 36, kr p n_told 223 43, kr p n___static_attributes__ 226 44, kr p n___weakref__ 228 47, ke p n___doc__ 229 .none] 3, #[]⟩),
 (46, ⟨.type "type", none, .cls ⟨n_MintError, [.type "Exception"], [.ref 46, .type "Exception", .type "BaseException", .type "object"], 45, n_MintError, true, [], [.ref 59, .ref 71], false, none, false⟩, #[some (.ref 22), none, some (.str n_MintError 196), some (.str n_MintError 204), some (.builtin "Exception.__new__"), some (.bool true)]⟩),
 (58, ⟨.type "dict", none, .dict #[ke p n___module__ 241 (.str n_octetmintDotbasics 194), ke p n___firstlineno__ 245 (.int (16) 244), kr p n___static_attributes__ 246 57, ke p n___doc__ 247 .none] 2, #[]⟩),
 (59, ⟨.type "type", none, .cls ⟨n_OperandError, [.ref 46], [.ref 59, .ref 46, .type "Exception", .type "BaseException", .type "object"], 58, n_OperandError, true, [], [], false, none, false⟩, #[some (.ref 50), none, some (.str n_OperandError 234), some (.str n_OperandError 242), some (.builtin "Exception.__new__"), some (.bool true)]⟩),
 (70, ⟨.type "dict", none, .dict #[ke p n___module__ 257 (.str n_octetmintDotbasics 194), ke p n___firstlineno__ 261 (.int (18) 260), kr p n___static_attributes__ 262 69, ke p n___doc__ 263 .none] 2, #[]⟩),
 (71, ⟨.type "type", none, .cls ⟨n_MachineError, [.ref 46], [.ref 71, .ref 46, .type "Exception", .type "BaseException", .type "object"], 70, n_MachineError, true, [], [], false, none, false⟩, #[some (.ref 62), none, some (.str n_MachineError 250), some (.str n_MachineError 258), some (.builtin "Exception.__new__"), some (.bool true)]⟩),
 (79, ⟨.type "code", none, .fields #[.str n_mask 266, .str n_mask 267, .str nScut 268, .int (20) 0, .int (1) 0, .int (0) 0, .int (0) 0, .int (3) 0, .ref 74, .bool true, .int (181) 0, .ref 75, .none, .ref 76, .ref 77, .ref 78, .int (270) 0, .int (20) 0, .str nScut 271], #[]⟩),
 (80, fO (stAt 5) n_mask n_mask .none n_octetmintDotbasics 194 79),
 (86, ⟨.type "code", none, .fields #[.str n_wrap 273, .str n_wrap 274, .str nScut 275, .int (22) 0, .int (2) 0, .int (0) 0, .int (0) 0, .int (3) 0, .ref 81, .bool true, .int (181) 0, .ref 82, .none, .ref 83, .ref 84, .ref 85, .int (278) 0, .int (22) 0, .str nScut 279], #[]⟩),
 (87, fO (stAt 6) n_wrap n_wrap .none n_octetmintDotbasics 194 86),
 (93, ⟨.type "code", none, .fields #[.str n_bit 281, .str n_bit 282, .str nScut 283, .int (24) 0, .int (2) 0, .int (0) 0, .int (0) 0, .int (3) 0, .ref 88, .bool true, .int (181) 0, .ref 89, .none, .ref 90, .ref 91, .ref 92, .int (286) 0, .int (24) 0, .str nScut 287], #[]⟩),
 (94, fO (stAt 7) n_bit n_bit .none n_octetmintDotbasics 194 93),
 (121, ⟨.type "code", none, .fields #[.str n___init__ 324, .str n_SoftPointsDot__init__ 325, .str nScut 326, .int (40) 0, .int (2) 0, .int (0) 0, .int (0) 0, .int (3) 0, .ref 116, .bool true, .int (181) 0, .ref 117, .none, .ref 118, .ref 119, .ref 120, .int (329) 0, .int (40) 0, .str nScut 330], #[]⟩),
 (122, fO (mtAt 13 0) n___init__ n_SoftPointsDot__init__ .none n_octetmintDotdebug 306 121),
 (128, ⟨.type "code", none, .fields #[.str n_put 332, .str n_SoftPointsDotput 333, .str nScut 334, .int (45) 0, .int (2) 0, .int (0) 0, .int (0) 0, .int (3) 0, .ref 123, .bool true, .int (181) 0, .ref 124, .none, .ref 125, .ref 126, .ref 127, .int (337) 0, .int (45) 0, .str nScut 338], #[]⟩),
 (129, fO (mtAt 13 1) n_put n_SoftPointsDotput .none n_octetmintDotdebug 306 128),
 (133, ⟨.type "code", none, .fields #[.str n_drop 340, .str n_SoftPointsDotdrop 341, .str nScut 342, .int (49) 0, .int (2) 0, .int (0) 0, .int (0) 0, .int (3) 0, .ref 130, .bool true, .int (181) 0, .ref 131, .none, .none, .none, .ref 132, .int (343) 0, .int (49) 0, .str nScut 344], #[]⟩),
 (134, fO (mtAt 13 2) n_drop n_SoftPointsDotdrop .none n_octetmintDotdebug 306 133),
 (140, ⟨.type "code", none, .fields #[.str n_plant 346, .str n_SoftPointsDotplant 347, .str nScut 348, .int (52) 0, .int (1) 0, .int (0) 0, .int (0) 0, .int (3) 0, .ref 135, .bool true, .int (181) 0, .ref 136, .none, .ref 137, .ref 138, .ref 139, .int (351) 0, .int (52) 0, .str nScut 352], #[]⟩),
 (141, fO (mtAt 13 3) n_plant n_SoftPointsDotplant .none n_octetmintDotdebug 306 140),
 (147, ⟨.type "code", none, .fields #[.str n_lift 354, .str n_SoftPointsDotlift 355, .str nScut 356, .int (57) 0, .int (1) 0, .int (0) 0, .int (0) 0, .int (3) 0, .ref 142, .bool true, .int (181) 0, .ref 143, .none, .ref 144, .ref 145, .ref 146, .int (359) 0, .int (57) 0, .str nScut 360], #[]⟩),
 (148, fO (mtAt 13 4) n_lift n_SoftPointsDotlift .none n_octetmintDotdebug 306 147),
 (154, ⟨.type "code", none, .fields #[.str n_octets 362, .str n_SoftPointsDotoctets 363, .str nScut 364, .int (63) 0, .int (3) 0, .int (0) 0, .int (0) 0, .int (3) 0, .ref 149, .bool true, .int (181) 0, .ref 150, .none, .ref 151, .ref 152, .ref 153, .int (371) 0, .int (63) 0, .str nScut 372], #[]⟩),
 (155, fO (mtAt 13 5) n_octets n_SoftPointsDotoctets .none n_octetmintDotdebug 306 154),
 (157, ⟨.type "dict", none, .dict #[ke p n___module__ 319 (.str n_octetmintDotdebug 306), ke p n___firstlineno__ 323 (.int (38) 322), kr p n___init__ 331 122, kr p n_put 339 129, kr p n_drop 345 134, kr p n_plant 353 141, kr p n_lift 361 148, kr p n_octets 373 155, kr p n___static_attributes__ 377 156, kr p n___dict__ 379 159, kr p n___weakref__ 381 160, ke p n___doc__ 382 .none] 4, #[]⟩),
 (158, ⟨.type "type", none, .cls ⟨n_SoftPoints, [.type "object"], [.ref 158, .type "object"], 157, n_SoftPoints, true, [], [], false, none, false⟩, #[none, none, some (.str n_SoftPoints 312), some (.str n_SoftPoints 320), some (.builtin "object.__new__"), some (.bool true)]⟩),
 (168, ⟨.type "code", none, .fields #[.str n_run_planted 385, .str n_run_planted 386, .str nScut 387, .int (69) 0, .int (4) 0, .int (0) 0, .int (0) 0, .int (3) 0, .ref 163, .bool true, .int (181) 0, .ref 164, .none, .ref 165, .ref 166, .ref 167, .int (395) 0, .int (69) 0, .str nScut 396], #[]⟩),
 (169, fO (stAt 14) n_run_planted n_run_planted .none n_octetmintDotdebug 306 168),
 (182, ⟨.type "code", none, .fields #[.str n___init__ 412, .str n_DecodedDot__init__ 413, .str nScut 414, .int (93) 0, .int (5) 0, .int (0) 0, .int (0) 0, .int (3) 0, .ref 177, .bool true, .int (181) 0, .ref 178, .none, .ref 179, .ref 180, .ref 181, .int (420) 0, .int (93) 0, .str nScut 421], #[]⟩),
 (183, fO (mtAt 16 0) n___init__ n_DecodedDot__init__ .none n_octetmintDotdecoder 398 182),
 (192, ⟨.type "dict", none, .dict #[ke p n___module__ 407 (.str n_octetmintDotdecoder 398), ke p n___firstlineno__ 411 (.int (91) 410), kr p n___init__ 422 183, kr p n_told 429 190, kr p n___static_attributes__ 434 191, kr p n___dict__ 436 194, kr p n___weakref__ 438 195, ke p n___doc__ 439 .none] 4, #[]⟩),
 (193, ⟨.type "type", none, .cls ⟨n_Decoded, [.type "object"], [.ref 193, .type "object"], 192, n_Decoded, true, [], [], false, none, false⟩, #[none, none, some (.str n_Decoded 400), some (.str n_Decoded 408), some (.builtin "object.__new__"), some (.bool true)]⟩),
 (217, ⟨.type "code", none, .fields #[.str n___init__ 482, .str n_FlagsDot__init__ 483, .str nScut 484, .int (116) 0, .int (1) 0, .int (0) 0, .int (0) 0, .int (3) 0, .ref 212, .bool true, .int (181) 0, .ref 213, .none, .ref 214, .ref 215, .ref 216, .int (486) 0, .int (116) 0, .str nScut 487], #[]⟩),
 (218, fO (mtAt 29 0) n___init__ n_FlagsDot__init__ .none n_octetmintDotflags 452 217),
 (224, ⟨.type "code", none, .fields #[.str n_told 489, .str n_FlagsDottold 490, .str nScut 491, .int (125) 0, .int (1) 0, .int (0) 0, .int (0) 0, .int (3) 0, .ref 219, .bool true, .int (181) 0, .ref 220, .none, .ref 221, .ref 222, .ref 223, .int (493) 0, .int (125) 0, .str nScut 494], #[]⟩),
 (225, fO (mtAt 29 1) n_told n_FlagsDottold .none n_octetmintDotflags 452 224),
 (231, ⟨.type "code", none, .fields #[.str n_pack 496, .str n_FlagsDotpack 497, .str nScut 498, .int (128) 0, .int (1) 0, .int (0) 0, .int (0) 0, .int (3) 0, .ref 226, .bool true, .int (181) 0, .ref 227, .none, .ref 228, .ref 229, .ref 230, .int (501) 0, .int (128) 0, .str nScut 502], #[]⟩),
 (232, fO (mtAt 29 2) n_pack n_FlagsDotpack .none n_octetmintDotflags 452 231),
 (238, ⟨.type "code", none, .fields #[.str n_unpack 504, .str n_FlagsDotunpack 505, .str nScut 506, .int (132) 0, .int (2) 0, .int (0) 0, .int (0) 0, .int (3) 0, .ref 233, .bool true, .int (181) 0, .ref 234, .none, .ref 235, .ref 236, .ref 237, .int (509) 0, .int (132) 0, .str nScut 510], #[]⟩),
 (239, fO (mtAt 29 3) n_unpack n_FlagsDotunpack .none n_octetmintDotflags 452 238),
 (252, ⟨.type "code", none, .fields #[.str n_copy 520, .str n_FlagsDotcopy 521, .str nScut 522, .int (144) 0, .int (1) 0, .int (0) 0, .int (0) 0, .int (3) 0, .ref 247, .bool true, .int (181) 0, .ref 248, .none, .ref 249, .ref 250, .ref 251, .int (525) 0, .int (144) 0, .str nScut 526], #[]⟩),
 (253, fO (mtAt 29 5) n_copy n_FlagsDotcopy .none n_octetmintDotflags 452 252),
 (276, ⟨.type "dict", none, .dict #[ke p n___module__ 477 (.str n_octetmintDotflags 452), ke p n___firstlineno__ 481 (.int (114) 480), kr p n___init__ 488 218, kr p n_told 495 225, kr p n_pack 503 232, kr p n_unpack 511 239, kr p n_unpack_low 519 246, kr p n_copy 527 253, kr p n_get 536 260, kr p n_put 548 267, kr p n_show 555 274, kr p n___static_attributes__ 563 275, kr p n___dict__ 565 278, kr p n___weakref__ 567 279, ke p n___doc__ 568 .none] 4, #[]⟩),
 (277, ⟨.type "type", none, .cls ⟨n_Flags, [.type "object"], [.ref 277, .type "object"], 276, n_Flags, true, [], [], false, none, false⟩, #[none, none, some (.str n_Flags 470), some (.str n_Flags 478), some (.builtin "object.__new__"), some (.bool true)]⟩),
 (329, ⟨.type "code", none, .fields #[.str n___init__ 643, .str n_RegisterDot__init__ 644, .str nScut 645, .int (211) 0, .int (5) 0, .int (0) 0, .int (0) 0, .int (3) 0, .ref 324, .bool true, .int (181) 0, .ref 325, .none, .ref 326, .ref 327, .ref 328, .int (651) 0, .int (211) 0, .str nScut 652], #[]⟩),
 (330, fO (mtAt 40 0) n___init__ n_RegisterDot__init__ .none n_octetmintDotregisters 621 329),
 (367, ⟨.type "dict", none, .dict #[ke p n___module__ 638 (.str n_octetmintDotregisters 621), ke p n___firstlineno__ 642 (.int (209) 641), kr p n___init__ 653 330, kr p n_code 660 337, kr p n_is_extended 667 344, kr p n_is_high 674 351, kr p n_needs_rex 681 358, kr p n_told 688 365, kr p n___static_attributes__ 693 366, kr p n___dict__ 695 369, kr p n___weakref__ 697 370, ke p n___doc__ 698 .none] 4, #[]⟩),
 (368, ⟨.type "type", none, .cls ⟨n_Register, [.type "object"], [.ref 368, .type "object"], 367, n_Register, true, [], [], false, none, false⟩, #[none, none, some (.str n_Register 631), some (.str n_Register 639), some (.builtin "object.__new__"), some (.bool true)]⟩),
 (378, ⟨.type "code", none, .fields #[.str n_early_names 701, .str n_early_names 702, .str nScut 703, .int (231) 0, .int (1) 0, .int (0) 0, .int (0) 0, .int (3) 0, .ref 373, .bool true, .int (181) 0, .ref 374, .none, .ref 375, .ref 376, .ref 377, .int (705) 0, .int (231) 0, .str nScut 706], #[]⟩),
 (379, fO (stAt 41) n_early_names n_early_names .none n_octetmintDotregisters 621 378),
 (392, ⟨.type "code", none, .fields #[.str n_gpr 715, .str n_gpr 716, .str nScut 717, .int (249) 0, .int (2) 0, .int (0) 0, .int (0) 0, .int (3) 0, .ref 387, .bool true, .int (181) 0, .ref 388, .none, .ref 389, .ref 390, .ref 391, .int (721) 0, .int (249) 0, .str nScut 722], #[]⟩),
 (393, fO (stAt 43) n_gpr n_gpr .none n_octetmintDotregisters 621 392),
 (406, ⟨.type "code", none, .fields #[.str n___init__ 742, .str n_MemoryDot__init__ 743, .str nScut 744, .int (261) 0, .int (1) 0, .int (0) 0, .int (0) 0, .int (3) 0, .ref 401, .bool true, .int (181) 0, .ref 402, .none, .ref 403, .ref 404, .ref 405, .int (746) 0, .int (261) 0, .str nScut 747], #[]⟩),
 (407, fO (mtAt 47 0) n___init__ n_MemoryDot__init__ .none n_octetmintDotmachine 724 406),
 (413, ⟨.type "code", none, .fields #[.str n_octet 749, .str n_MemoryDotoctet 750, .str nScut 751, .int (264) 0, .int (2) 0, .int (0) 0, .int (0) 0, .int (3) 0, .ref 408, .bool true, .int (181) 0, .ref 409, .none, .ref 410, .ref 411, .ref 412, .int (754) 0, .int (264) 0, .str nScut 755], #[]⟩),
 (414, fO (mtAt 47 1) n_octet n_MemoryDotoctet .none n_octetmintDotmachine 724 413),
 (420, ⟨.type "code", none, .fields #[.str n_set_octet 757, .str n_MemoryDotset_octet 758, .str nScut 759, .int (267) 0, .int (3) 0, .int (0) 0, .int (0) 0, .int (3) 0, .ref 415, .bool true, .int (181) 0, .ref 416, .none, .ref 417, .ref 418, .ref 419, .int (763) 0, .int (267) 0, .str nScut 764], #[]⟩),
 (421, fO (mtAt 47 2) n_set_octet n_MemoryDotset_octet .none n_octetmintDotmachine 724 420),
 (427, ⟨.type "code", none, .fields #[.str n_read 766, .str n_MemoryDotread 767, .str nScut 768, .int (270) 0, .int (3) 0, .int (0) 0, .int (0) 0, .int (3) 0, .ref 422, .bool true, .int (181) 0, .ref 423, .none, .ref 424, .ref 425, .ref 426, .int (774) 0, .int (270) 0, .str nScut 775], #[]⟩),
 (428, fO (mtAt 47 3) n_read n_MemoryDotread .none n_octetmintDotmachine 724 427),
 (434, ⟨.type "code", none, .fields #[.str n_write 777, .str n_MemoryDotwrite 778, .str nScut 779, .int (276) 0, .int (4) 0, .int (0) 0, .int (0) 0, .int (3) 0, .ref 429, .bool true, .int (181) 0, .ref 430, .none, .ref 431, .ref 432, .ref 433, .int (785) 0, .int (276) 0, .str nScut 786], #[]⟩),
 (435, fO (mtAt 47 4) n_write n_MemoryDotwrite .none n_octetmintDotmachine 724 434),
 (441, ⟨.type "code", none, .fields #[.str n_load 788, .str n_MemoryDotload 789, .str nScut 790, .int (280) 0, .int (3) 0, .int (0) 0, .int (0) 0, .int (3) 0, .ref 436, .bool true, .int (181) 0, .ref 437, .none, .ref 438, .ref 439, .ref 440, .int (796) 0, .int (280) 0, .str nScut 797], #[]⟩),
 (442, fO (mtAt 47 5) n_load n_MemoryDotload .none n_octetmintDotmachine 724 441),
 (451, ⟨.type "code", none, .fields #[.str n_written 805, .str n_MemoryDotwritten 806, .str nScut 807, .int (287) 0, .int (1) 0, .int (0) 0, .int (0) 0, .int (3) 0, .ref 448, .bool true, .int (181) 0, .ref 449, .none, .none, .none, .ref 450, .int (808) 0, .int (287) 0, .str nScut 809], #[]⟩),
 (452, fO (mtAt 47 7) n_written n_MemoryDotwritten .none n_octetmintDotmachine 724 451),
 (472, ⟨.type "code", none, .fields #[.str n_copy 829, .str n_MemoryDotcopy 830, .str nScut 831, .int (299) 0, .int (1) 0, .int (0) 0, .int (0) 0, .int (3) 0, .ref 467, .bool true, .int (181) 0, .ref 468, .none, .ref 469, .ref 470, .ref 471, .int (835) 0, .int (299) 0, .str nScut 836], #[]⟩),
 (473, fO (mtAt 47 10) n_copy n_MemoryDotcopy .none n_octetmintDotmachine 724 472),
 (479, ⟨.type "code", none, .fields #[.str n_told 838, .str n_MemoryDottold 839, .str nScut 840, .int (305) 0, .int (1) 0, .int (0) 0, .int (0) 0, .int (3) 0, .ref 474, .bool true, .int (181) 0, .ref 475, .none, .ref 476, .ref 477, .ref 478, .int (842) 0, .int (305) 0, .str nScut 843], #[]⟩),
 (480, fO (mtAt 47 11) n_told n_MemoryDottold .none n_octetmintDotmachine 724 479),
 (482, ⟨.type "dict", none, .dict #[ke p n___module__ 737 (.str n_octetmintDotmachine 724), ke p n___firstlineno__ 741 (.int (259) 740), kr p n___init__ 748 407, kr p n_octet 756 414, kr p n_set_octet 765 421, kr p n_read 776 428, kr p n_write 787 435, kr p n_load 798 442, kr p n_octets 804 447, kr p n_written 810 452, kr p n_spans 817 459, kr p n_find 828 466, kr p n_copy 837 473, kr p n_told 844 480, kr p n___static_attributes__ 846 481, kr p n___dict__ 848 484, kr p n___weakref__ 850 485, ke p n___doc__ 851 .none] 4, #[]⟩),
 (483, ⟨.type "type", none, .cls ⟨n_Memory, [.type "object"], [.ref 483, .type "object"], 482, n_Memory, true, [], [], false, none, false⟩, #[none, none, some (.str n_Memory 730), some (.str n_Memory 738), some (.builtin "object.__new__"), some (.bool true)]⟩),
 (493, ⟨.type "code", none, .fields #[.str n_joined 854, .str n_joined 855, .str nScut 856, .int (307) 0, .int (3) 0, .int (0) 0, .int (0) 0, .int (3) 0, .ref 488, .bool true, .int (181) 0, .ref 489, .none, .ref 490, .ref 491, .ref 492, .int (860) 0, .int (307) 0, .str nScut 861], #[]⟩),
 (494, fO (stAt 48) n_joined n_joined .none n_octetmintDotmachine 724 493),
 (507, ⟨.type "code", none, .fields #[.str n___init__ 876, .str n_StateDot__init__ 877, .str nScut 878, .int (314) 0, .int (2) 0, .int (0) 0, .int (0) 0, .int (3) 0, .ref 502, .bool true, .int (181) 0, .ref 503, .none, .ref 504, .ref 505, .ref 506, .int (881) 0, .int (314) 0, .str nScut 882], #[]⟩),
 (508, fO (mtAt 50 0) n___init__ n_StateDot__init__ .none n_octetmintDotmachine 724 507),
 (514, ⟨.type "code", none, .fields #[.str n_get 884, .str n_StateDotget 885, .str nScut 886, .int (325) 0, .int (2) 0, .int (0) 0, .int (0) 0, .int (3) 0, .ref 509, .bool true, .int (181) 0, .ref 510, .none, .ref 511, .ref 512, .ref 513, .int (889) 0, .int (325) 0, .str nScut 890], #[]⟩),
 (515, fO (mtAt 50 1) n_get n_StateDotget .none n_octetmintDotmachine 724 514),
 (521, ⟨.type "code", none, .fields #[.str n_put 892, .str n_StateDotput 893, .str nScut 894, .int (336) 0, .int (3) 0, .int (0) 0, .int (0) 0, .int (3) 0, .ref 516, .bool true, .int (181) 0, .ref 517, .none, .ref 518, .ref 519, .ref 520, .int (899) 0, .int (336) 0, .str nScut 900], #[]⟩),
 (522, fO (mtAt 50 2) n_put n_StateDotput .none n_octetmintDotmachine 724 521),
 (528, ⟨.type "code", none, .fields #[.str n_put_low 902, .str n_StateDotput_low 903, .str nScut 904, .int (348) 0, .int (4) 0, .int (0) 0, .int (0) 0, .int (3) 0, .ref 523, .bool true, .int (181) 0, .ref 524, .none, .ref 525, .ref 526, .ref 527, .int (910) 0, .int (348) 0, .str nScut 911], #[]⟩),
 (529, fO (mtAt 50 3) n_put_low n_StateDotput_low .none n_octetmintDotmachine 724 528),
 (540, ⟨.type "code", none, .fields #[.str n_offset 919, .str n_StateDotoffset 920, .str nScut 921, .int (358) 0, .int (2) 0, .int (0) 0, .int (0) 0, .int (3) 0, .ref 535, .bool true, .int (181) 0, .ref 536, .none, .ref 537, .ref 538, .ref 539, .int (925) 0, .int (358) 0, .str nScut 926], #[]⟩),
 (541, fO (mtAt 50 5) n_offset n_StateDotoffset .none n_octetmintDotmachine 724 540),
 (547, ⟨.type "code", none, .fields #[.str n_place 928, .str n_StateDotplace 929, .str nScut 930, .int (366) 0, .int (2) 0, .int (0) 0, .int (0) 0, .int (3) 0, .ref 542, .bool true, .int (181) 0, .ref 543, .none, .ref 544, .ref 545, .ref 546, .int (934) 0, .int (366) 0, .str nScut 935], #[]⟩),
 (548, fO (mtAt 50 6) n_place n_StateDotplace .none n_octetmintDotmachine 724 547),
 (554, ⟨.type "code", none, .fields #[.str n_size_of 937, .str n_StateDotsize_of 938, .str nScut 939, .int (370) 0, .int (3) 0, .int (0) 0, .int (0) 0, .int (3) 0, .ref 549, .bool true, .int (181) 0, .ref 550, .none, .ref 551, .ref 552, .ref 553, .int (944) 0, .int (370) 0, .str nScut 945], #[]⟩),
 (555, fO (mtAt 50 7) n_size_of n_StateDotsize_of .none n_octetmintDotmachine 724 554),
 (561, ⟨.type "code", none, .fields #[.str n_read 947, .str n_StateDotread 948, .str nScut 949, .int (378) 0, .int (3) 0, .int (0) 0, .int (0) 0, .int (3) 0, .ref 556, .bool true, .int (181) 0, .ref 557, .none, .ref 558, .ref 559, .ref 560, .int (953) 0, .int (378) 0, .str nScut 954], #[]⟩),
 (562, fO (mtAt 50 8) n_read n_StateDotread .none n_octetmintDotmachine 724 561),
 (568, ⟨.type "code", none, .fields #[.str n_write 956, .str n_StateDotwrite 957, .str nScut 958, .int (385) 0, .int (4) 0, .int (0) 0, .int (0) 0, .int (3) 0, .ref 563, .bool true, .int (181) 0, .ref 564, .none, .ref 565, .ref 566, .ref 567, .int (963) 0, .int (385) 0, .str nScut 964], #[]⟩),
 (569, fO (mtAt 50 9) n_write n_StateDotwrite .none n_octetmintDotmachine 724 568),
 (575, ⟨.type "code", none, .fields #[.str n_push 966, .str n_StateDotpush 967, .str nScut 968, .int (393) 0, .int (3) 0, .int (0) 0, .int (0) 0, .int (3) 0, .ref 570, .bool true, .int (181) 0, .ref 571, .none, .ref 572, .ref 573, .ref 574, .int (972) 0, .int (393) 0, .str nScut 973], #[]⟩),
 (576, fO (mtAt 50 10) n_push n_StateDotpush .none n_octetmintDotmachine 724 575),
 (582, ⟨.type "code", none, .fields #[.str n_pop 975, .str n_StateDotpop 976, .str nScut 977, .int (397) 0, .int (2) 0, .int (0) 0, .int (0) 0, .int (3) 0, .ref 577, .bool true, .int (181) 0, .ref 578, .none, .ref 579, .ref 580, .ref 581, .int (981) 0, .int (397) 0, .str nScut 982], #[]⟩),
 (583, fO (mtAt 50 11) n_pop n_StateDotpop .none n_octetmintDotmachine 724 582),
 (589, ⟨.type "code", none, .fields #[.str n_told 984, .str n_StateDottold 985, .str nScut 986, .int (402) 0, .int (1) 0, .int (0) 0, .int (0) 0, .int (3) 0, .ref 584, .bool true, .int (181) 0, .ref 585, .none, .ref 586, .ref 587, .ref 588, .int (989) 0, .int (402) 0, .str nScut 990], #[]⟩),
 (590, fO (mtAt 50 12) n_told n_StateDottold .none n_octetmintDotmachine 724 589),
 (596, ⟨.type "code", none, .fields #[.str n_copy 992, .str n_StateDotcopy 993, .str nScut 994, .int (406) 0, .int (1) 0, .int (0) 0, .int (0) 0, .int (3) 0, .ref 591, .bool true, .int (181) 0, .ref 592, .none, .ref 593, .ref 594, .ref 595, .int (997) 0, .int (406) 0, .str nScut 998], #[]⟩),
 (597, fO (mtAt 50 13) n_copy n_StateDotcopy .none n_octetmintDotmachine 724 596),
 (599, ⟨.type "dict", none, .dict #[ke p n___module__ 871 (.str n_octetmintDotmachine 724), ke p n___firstlineno__ 875 (.int (312) 874), kr p n___init__ 883 508, kr p n_get 891 515, kr p n_put 901 522, kr p n_put_low 912 529, kr p n_registers 918 534, kr p n_offset 927 541, kr p n_place 936 548, kr p n_size_of 946 555, kr p n_read 955 562, kr p n_write 965 569, kr p n_push 974 576, kr p n_pop 983 583, kr p n_told 991 590, kr p n_copy 999 597, kr p n___static_attributes__ 1009 598, kr p n___dict__ 1011 601, kr p n___weakref__ 1013 602, ke p n___doc__ 1014 .none] 4, #[]⟩),
 (600, ⟨.type "type", none, .cls ⟨n_State, [.type "object"], [.ref 600, .type "object"], 599, n_State, true, [], [], false, none, false⟩, #[none, none, some (.str n_State 864), some (.str n_State 872), some (.builtin "object.__new__"), some (.bool true)]⟩),
 (610, ⟨.type "code", none, .fields #[.str n_done 1017, .str n_done 1018, .str nScut 1019, .int (417) 0, .int (3) 0, .int (0) 0, .int (0) 0, .int (3) 0, .ref 605, .bool true, .int (181) 0, .ref 606, .none, .ref 607, .ref 608, .ref 609, .int (1024) 0, .int (417) 0, .str nScut 1025], #[]⟩),
 (611, fO (stAt 51) n_done n_done .none n_octetmintDotmachine 724 610),
 (617, ⟨.type "code", none, .fields #[.str n_proceed 1027, .str n_proceed 1028, .str nScut 1029, .int (427) 0, .int (3) 0, .int (0) 0, .int (0) 0, .int (3) 0, .ref 612, .bool true, .int (181) 0, .ref 613, .none, .ref 614, .ref 615, .ref 616, .int (1034) 0, .int (427) 0, .str nScut 1035], #[]⟩),
 (618, fO (stAt 52) n_proceed n_proceed .none n_octetmintDotmachine 724 617),
 (624, ⟨.type "code", none, .fields #[.str n_need_running 1037, .str n_need_running 1038, .str nScut 1039, .int (435) 0, .int (1) 0, .int (0) 0, .int (0) 0, .int (3) 0, .ref 619, .bool true, .int (181) 0, .ref 620, .none, .ref 621, .ref 622, .ref 623, .int (1041) 0, .int (435) 0, .str nScut 1042], #[]⟩),
 (625, fO (stAt 53) n_need_running n_need_running .none n_octetmintDotmachine 724 624),
 (631, ⟨.type "code", none, .fields #[.str n_step_row 1044, .str n_step_row 1045, .str nScut 1046, .int (438) 0, .int (3) 0, .int (0) 0, .int (0) 0, .int (3) 0, .ref 626, .bool true, .int (181) 0, .ref 627, .none, .ref 628, .ref 629, .ref 630, .int (1051) 0, .int (438) 0, .str nScut 1052], #[]⟩),
 (632, fO (stAt 54) n_step_row n_step_row .none n_octetmintDotmachine 724 631),
 (645, ⟨.type "code", none, .fields #[.str n___init__ 1068, .str n_OperandDot__init__ 1069, .str nScut 1070, .int (448) 0, .int (2) 0, .int (0) 0, .int (0) 0, .int (3) 0, .ref 640, .bool true, .int (181) 0, .ref 641, .none, .ref 642, .ref 643, .ref 644, .int (1073) 0, .int (448) 0, .str nScut 1074], #[]⟩),
 (646, fO (mtAt 56 0) n___init__ n_OperandDot__init__ .none n_octetmintDotoperands 1054 645),
 (669, ⟨.type "dict", none, .dict #[ke p n___module__ 1063 (.str n_octetmintDotoperands 1054), ke p n___firstlineno__ 1067 (.int (446) 1066), kr p n___init__ 1075 646, kr p n_told 1082 653, kr p n_symbol 1089 660, kr p n_registers 1096 667, kr p n___static_attributes__ 1098 668, kr p n___dict__ 1100 671, kr p n___weakref__ 1102 672, ke p n___doc__ 1103 .none] 4, #[]⟩),
 (670, ⟨.type "type", none, .cls ⟨n_Operand, [.type "object"], [.ref 670, .type "object"], 669, n_Operand, true, [], [.ref 705, .ref 739, .ref 780, .ref 833], false, none, false⟩, #[none, none, some (.str n_Operand 1056), some (.str n_Operand 1064), some (.builtin "object.__new__"), some (.bool true)]⟩),
 (687, ⟨.type "code", none, .fields #[.str n___init__ 1118, .str n_RegDot__init__ 1119, .str nScut 1120, .int (461) 0, .int (2) 0, .int (0) 0, .int (0) 0, .int (3) 0, .ref 682, .bool true, .int (181) 0, .ref 683, .none, .ref 684, .ref 685, .ref 686, .int (1123) 0, .int (461) 0, .str nScut 1124], #[]⟩),
 (688, fO (mtAt 57 0) n___init__ n_RegDot__init__ .none n_octetmintDotoperands 1054 687),
 (704, ⟨.type "dict", none, .dict #[ke p n___module__ 1113 (.str n_octetmintDotoperands 1054), ke p n___firstlineno__ 1117 (.int (459) 1116), kr p n___init__ 1125 688, kr p n_told 1132 695, kr p n_registers 1139 702, kr p n___static_attributes__ 1141 703, ke p n___doc__ 1142 .none] 2, #[]⟩),
 (705, ⟨.type "type", none, .cls ⟨n_Reg, [.ref 670], [.ref 705, .ref 670, .type "object"], 704, n_Reg, true, [], [], false, none, false⟩, #[some (.ref 675), none, some (.str n_Reg 1106), some (.str n_Reg 1114), some (.builtin "object.__new__"), some (.bool true)]⟩),
 (715, ⟨.type "tuple", none, .seq #[.str nS 1157] 0, #[]⟩),
 (721, ⟨.type "code", none, .fields #[.str n___init__ 1158, .str n_ImmDot__init__ 1159, .str nScut 1160, .int (472) 0, .int (3) 0, .int (0) 0, .int (0) 0, .int (3) 0, .ref 716, .bool true, .int (181) 0, .ref 717, .none, .ref 718, .ref 719, .ref 720, .int (1164) 0, .int (472) 0, .str nScut 1165], #[]⟩),
 (722, fO (mtAt 58 0) n___init__ n_ImmDot__init__ (.ref 715) n_octetmintDotoperands 1054 721),
 (738, ⟨.type "dict", none, .dict #[ke p n___module__ 1152 (.str n_octetmintDotoperands 1054), ke p n___firstlineno__ 1156 (.int (470) 1155), kr p n___init__ 1166 722, kr p n_told 1173 729, kr p n_symbol 1180 736, kr p n___static_attributes__ 1183 737, ke p n___doc__ 1184 .none] 2, #[]⟩),
 (739, ⟨.type "type", none, .cls ⟨n_Imm, [.ref 670], [.ref 739, .ref 670, .type "object"], 738, n_Imm, true, [], [], false, none, false⟩, #[some (.ref 708), none, some (.str n_Imm 1145), some (.str n_Imm 1153), some (.builtin "object.__new__"), some (.bool true)]⟩),
 (749, ⟨.type "tuple", none, .seq #[.str nS 1199] 0, #[]⟩),
 (755, ⟨.type "code", none, .fields #[.str n___init__ 1200, .str n_RelDot__init__ 1201, .str nScut 1202, .int (484) 0, .int (3) 0, .int (0) 0, .int (0) 0, .int (3) 0, .ref 750, .bool true, .int (181) 0, .ref 751, .none, .ref 752, .ref 753, .ref 754, .int (1206) 0, .int (484) 0, .str nScut 1207], #[]⟩),
 (756, fO (mtAt 59 0) n___init__ n_RelDot__init__ (.ref 749) n_octetmintDotoperands 1054 755),
 (779, ⟨.type "dict", none, .dict #[ke p n___module__ 1194 (.str n_octetmintDotoperands 1054), ke p n___firstlineno__ 1198 (.int (482) 1197), kr p n___init__ 1208 756, kr p n_told 1215 763, kr p n_symbol 1222 770, kr p n_target 1230 777, kr p n___static_attributes__ 1233 778, ke p n___doc__ 1234 .none] 2, #[]⟩),
 (780, ⟨.type "type", none, .cls ⟨n_Rel, [.ref 670], [.ref 780, .ref 670, .type "object"], 779, n_Rel, true, [], [], false, none, false⟩, #[some (.ref 742), none, some (.str n_Rel 1187), some (.str n_Rel 1195), some (.builtin "object.__new__"), some (.bool true)]⟩),
 (790, ⟨.type "tuple", none, .seq #[.int (0) 1249, .str nS 1250, .str nS 1251] 0, #[]⟩),
 (796, ⟨.type "code", none, .fields #[.str n___init__ 1252, .str n_MemDot__init__ 1253, .str nScut 1254, .int (499) 0, .int (8) 0, .int (0) 0, .int (0) 0, .int (3) 0, .ref 791, .bool true, .int (181) 0, .ref 792, .none, .ref 793, .ref 794, .ref 795, .int (1263) 0, .int (499) 0, .str nScut 1264], #[]⟩),
 (797, fO (mtAt 60 0) n___init__ n_MemDot__init__ (.ref 790) n_octetmintDotoperands 1054 796),
 (832, ⟨.type "dict", none, .dict #[ke p n___module__ 1244 (.str n_octetmintDotoperands 1054), ke p n___firstlineno__ 1248 (.int (497) 1247), kr p n___init__ 1265 797, kr p n_told 1274 804, kr p n_symbol 1281 811, kr p n_registers 1287 816, kr p n_is_rip 1294 823, kr p n_is_absolute 1301 830, kr p n___static_attributes__ 1309 831, ke p n___doc__ 1310 .none] 2, #[]⟩),
 (833, ⟨.type "type", none, .cls ⟨n_Mem, [.ref 670], [.ref 833, .ref 670, .type "object"], 832, n_Mem, true, [], [], false, none, false⟩, #[some (.ref 783), none, some (.str n_Mem 1237), some (.str n_Mem 1245), some (.builtin "object.__new__"), some (.bool true)]⟩),
 (843, ⟨.type "tuple", none, .seq #[.str nS 1325] 0, #[]⟩),
 (849, ⟨.type "code", none, .fields #[.str n___init__ 1326, .str n_InstructionDot__init__ 1327, .str nScut 1328, .int (527) 0, .int (4) 0, .int (0) 0, .int (0) 0, .int (3) 0, .ref 844, .bool true, .int (181) 0, .ref 845, .none, .ref 846, .ref 847, .ref 848, .int (1333) 0, .int (527) 0, .str nScut 1334], #[]⟩),
 (850, fO (mtAt 61 0) n___init__ n_InstructionDot__init__ (.ref 843) n_octetmintDotoperands 1054 849),
 (885, ⟨.type "dict", none, .dict #[ke p n___module__ 1320 (.str n_octetmintDotoperands 1054), ke p n___firstlineno__ 1324 (.int (525) 1323), kr p n___init__ 1335 850, kr p n_told 1341 855, kr p n_memory_at 1350 862, kr p n_memory 1358 869, kr p n_symbols 1365 876, kr p n_replaced 1374 883, kr p n___static_attributes__ 1378 884, kr p n___dict__ 1380 887, kr p n___weakref__ 1382 888, ke p n___doc__ 1383 .none] 4, #[]⟩),
 (886, ⟨.type "type", none, .cls ⟨n_Instruction, [.type "object"], [.ref 886, .type "object"], 885, n_Instruction, true, [], [], false, none, false⟩, #[none, none, some (.str n_Instruction 1313), some (.str n_Instruction 1321), some (.builtin "object.__new__"), some (.bool true)]⟩),
 (910, ⟨.type "code", none, .fields #[.str n_move_deed 1436, .str n_move_deed 1437, .str nScut 1438, .int (576) 0, .int (2) 0, .int (0) 0, .int (0) 0, .int (3) 0, .ref 905, .bool true, .int (181) 0, .ref 906, .none, .ref 907, .ref 908, .ref 909, .int (1445) 0, .int (576) 0, .str nScut 1446], #[]⟩),
 (911, fO (stAt 77) n_move_deed n_move_deed .none (Str.ofString "octetmint.transfers") 1396 910),
 (917, ⟨.type "code", none, .fields #[.str n_push_operand 1448, .str n_push_operand 1449, .str nScut 1450, .int (592) 0, .int (2) 0, .int (0) 0, .int (0) 0, .int (3) 0, .ref 912, .bool true, .int (181) 0, .ref 913, .none, .ref 914, .ref 915, .ref 916, .int (1455) 0, .int (592) 0, .str nScut 1456], #[]⟩),
 (918, fO (stAt 78) n_push_operand n_push_operand .none (Str.ofString "octetmint.transfers") 1396 917),
 (924, ⟨.type "code", none, .fields #[.str n_pop_operand 1458, .str n_pop_operand 1459, .str nScut 1460, .int (596) 0, .int (2) 0, .int (0) 0, .int (0) 0, .int (3) 0, .ref 919, .bool true, .int (181) 0, .ref 920, .none, .ref 921, .ref 922, .ref 923, .int (1466) 0, .int (596) 0, .str nScut 1467], #[]⟩),
 (925, fO (stAt 79) n_pop_operand n_pop_operand .none (Str.ofString "octetmint.transfers") 1396 924),
 (931, ⟨.type "code", none, .fields #[.str n_stack_deed 1469, .str n_stack_deed 1470, .str nScut 1471, .int (601) 0, .int (2) 0, .int (0) 0, .int (0) 0, .int (3) 0, .ref 926, .bool true, .int (181) 0, .ref 927, .none, .ref 928, .ref 929, .ref 930, .int (1475) 0, .int (601) 0, .str nScut 1476], #[]⟩),
 (932, fO (stAt 80) n_stack_deed n_stack_deed .none (Str.ofString "octetmint.transfers") 1396 931),
 (938, ⟨.type "code", none, .fields #[.str n_target_of 1478, .str n_target_of 1479, .str nScut 1480, .int (617) 0, .int (2) 0, .int (0) 0, .int (0) 0, .int (3) 0, .ref 933, .bool true, .int (181) 0, .ref 934, .none, .ref 935, .ref 936, .ref 937, .int (1483) 0, .int (617) 0, .str nScut 1484], #[]⟩),
 (939, fO (stAt 81) n_target_of n_target_of .none (Str.ofString "octetmint.transfers") 1396 938),
 (945, ⟨.type "code", none, .fields #[.str n_count_down 1486, .str n_count_down 1487, .str nScut 1488, .int (623) 0, .int (1) 0, .int (0) 0, .int (0) 0, .int (3) 0, .ref 940, .bool true, .int (181) 0, .ref 941, .none, .ref 942, .ref 943, .ref 944, .int (1490) 0, .int (623) 0, .str nScut 1491], #[]⟩),
 (946, fO (stAt 82) n_count_down n_count_down .none (Str.ofString "octetmint.transfers") 1396 945),
 (952, ⟨.type "code", none, .fields #[.str n_is_taken 1493, .str n_is_taken 1494, .str nScut 1495, .int (626) 0, .int (2) 0, .int (0) 0, .int (0) 0, .int (3) 0, .ref 947, .bool true, .int (181) 0, .ref 948, .none, .ref 949, .ref 950, .ref 951, .int (1498) 0, .int (626) 0, .str nScut 1499], #[]⟩),
 (953, fO (stAt 83) n_is_taken n_is_taken .none (Str.ofString "octetmint.transfers") 1396 952),
 (959, ⟨.type "code", none, .fields #[.str n_jump_deed 1501, .str n_jump_deed 1502, .str nScut 1503, .int (638) 0, .int (2) 0, .int (0) 0, .int (0) 0, .int (3) 0, .ref 954, .bool true, .int (181) 0, .ref 955, .none, .ref 956, .ref 957, .ref 958, .int (1508) 0, .int (638) 0, .str nScut 1509], #[]⟩),
 (960, fO (stAt 84) n_jump_deed n_jump_deed .none (Str.ofString "octetmint.transfers") 1396 959),
 (1081, ⟨.type "code", none, .fields #[.str n_transfer_deed 1674, .str n_transfer_deed 1675, .str nScut 1676, .int (780) 0, .int (2) 0, .int (0) 0, .int (0) 0, .int (3) 0, .ref 1076, .bool true, .int (181) 0, .ref 1077, .none, .ref 1078, .ref 1079, .ref 1080, .int (1679) 0, .int (780) 0, .str nScut 1680], #[]⟩),
 (1082, fO (stAt 103) n_transfer_deed n_transfer_deed .none (Str.ofString "octetmint.transfers") 1396 1081),
 (1088, ⟨.type "code", none, .fields #[.str n__law_raw 1686, .str n__law_raw 1687, .str nScut 1688, .int (788) 0, .int (1) 0, .int (0) 0, .int (0) 0, .int (3) 0, .ref 1083, .bool true, .int (181) 0, .ref 1084, .none, .ref 1085, .ref 1086, .ref 1087, .int (1691) 0, .int (788) 0, .str nScut 1692], #[]⟩),
 (1089, fO (stAt 106) n__law_raw n__law_raw .none n_law_nn0085_01 1682 1088),
 (1095, ⟨.type "code", none, .fields #[.str n__law_draw 1694, .str n__law_draw 1695, .str nScut 1696, .int (794) 0, .int (2) 0, .int (0) 0, .int (0) 0, .int (3) 0, .ref 1090, .bool true, .int (181) 0, .ref 1091, .none, .ref 1092, .ref 1093, .ref 1094, .int (1699) 0, .int (794) 0, .str nScut 1700], #[]⟩),
 (1096, fO (stAt 107) n__law_draw n__law_draw .none n_law_nn0085_01 1682 1095),
 (1102, ⟨.type "code", none, .fields #[.str n__law_reg 1702, .str n__law_reg 1703, .str nScut 1704, .int (796) 0, .int (1) 0, .int (0) 0, .int (0) 0, .int (3) 0, .ref 1097, .bool true, .int (181) 0, .ref 1098, .none, .ref 1099, .ref 1100, .ref 1101, .int (1706) 0, .int (796) 0, .str nScut 1707], #[]⟩),
 (1103, fO (stAt 108) n__law_reg n__law_reg .none n_law_nn0085_01 1682 1102),
 (1109, ⟨.type "code", none, .fields #[.str n__law_row 1709, .str n__law_row 1710, .str nScut 1711, .int (798) 0, .int (1) 0, .int (0) 0, .int (0) 0, .int (3) 0, .ref 1104, .bool true, .int (181) 0, .ref 1105, .none, .ref 1106, .ref 1107, .ref 1108, .int (1715) 0, .int (798) 0, .str nScut 1716], #[]⟩),
 (1110, fO (stAt 109) n__law_row n__law_row .none n_law_nn0085_01 1682 1109),
 (1116, ⟨.type "code", none, .fields #[.str n__law_program 1718, .str n__law_program 1719, .str nScut 1720, .int (811) 0, .int (1) 0, .int (0) 0, .int (0) 0, .int (3) 0, .ref 1111, .bool true, .int (181) 0, .ref 1112, .none, .ref 1113, .ref 1114, .ref 1115, .int (1727) 0, .int (811) 0, .str nScut 1728], #[]⟩),
 (1117, fO (stAt 110) n__law_program n__law_program .none n_law_nn0085_01 1682 1116),
 (1123, ⟨.type "code", none, .fields #[.str n__law_recorded 1730, .str n__law_recorded 1731, .str nScut 1732, .int (822) 0, .int (2) 0, .int (0) 0, .int (0) 0, .int (3) 0, .ref 1118, .bool true, .int (181) 0, .ref 1119, .none, .ref 1120, .ref 1121, .ref 1122, .int (1737) 0, .int (822) 0, .str nScut 1738], #[]⟩),
 (1124, fO (stAt 111) n__law_recorded n__law_recorded .none n_law_nn0085_01 1682 1123),
 (1128, ⟨.type "code", none, .fields #[.str n__law_run 1740, .str n__law_run 1741, .str nScut 1742, .int (831) 0, .int (2) 0, .int (0) 0, .int (0) 0, .int (3) 0, .ref 1125, .bool true, .int (181) 0, .ref 1126, .none, .none, .none, .ref 1127, .int (1743) 0, .int (831) 0, .str nScut 1744], #[]⟩),
 (1129, fO (stAt 112) n__law_run n__law_run .none n_law_nn0085_01 1682 1128),
 (1133, ⟨.type "code", none, .fields #[.str n__law_looked 1746, .str n__law_looked 1747, .str nScut 1748, .int (855) 0, .int (4) 0, .int (0) 0, .int (0) 0, .int (3) 0, .ref 1130, .bool true, .int (181) 0, .ref 1131, .none, .none, .none, .ref 1132, .int (1749) 0, .int (855) 0, .str nScut 1750], #[]⟩),
 (1134, fO (stAt 113) n__law_looked n__law_looked .none n_law_nn0085_01 1682 1133),
 (1138, ⟨.type "code", none, .fields #[.str n__law_deed 1752, .str n__law_deed 1753, .str nScut 1754, .int (863) 0, .int (6) 0, .int (0) 0, .int (0) 0, .int (3) 0, .ref 1135, .bool true, .int (181) 0, .ref 1136, .none, .none, .none, .ref 1137, .int (1755) 0, .int (863) 0, .str nScut 1756], #[]⟩),
 (1139, fO (stAt 114) n__law_deed n__law_deed .none n_law_nn0085_01 1682 1138),
 (1143, ⟨.type "code", none, .fields #[.str n_law 1758, .str n_law 1759, .str nScut 1760, .int (879) 0, .int (1) 0, .int (0) 0, .int (0) 0, .int (3) 0, .ref 1140, .bool true, .int (181) 0, .ref 1141, .none, .none, .none, .ref 1142, .int (1761) 0, .int (879) 0, .str nScut 1762], #[]⟩),
 (1144, fO (stAt 115) n_law n_law .none n_law_nn0085_01 1682 1143)]
noncomputable abbrev myAs : List Nat := [2, 3, 29, 35, 36, 45, 46, 58, 59, 70, 71, 79, 80, 86, 87, 93, 94, 121, 122, 128, 129, 133, 134, 140, 141, 147, 148, 154, 155, 157, 158, 168, 169, 182, 183, 192, 193, 217, 218, 224, 225, 231, 232, 238, 239, 252, 253, 276, 277, 329, 330, 367, 368, 378, 379, 392, 393, 406, 407, 413, 414, 420, 421, 427, 428, 434, 435, 441, 442, 451, 452, 472, 473, 479, 480, 482, 483, 493, 494, 507, 508, 514, 515, 521, 522, 528, 529, 540, 541, 547, 548, 554, 555, 561, 562, 568, 569, 575, 576, 582, 583, 589, 590, 596, 597, 599, 600, 610, 611, 617, 618, 624, 625, 631, 632, 645, 646, 669, 670, 687, 688, 704, 705, 715, 721, 722, 738, 739, 749, 755, 756, 779, 780, 790, 796, 797, 832, 833, 843, 849, 850, 885, 886, 910, 911, 917, 918, 924, 925, 931, 932, 938, 939, 945, 946, 952, 953, 959, 960, 1081, 1082, 1088, 1089, 1095, 1096, 1102, 1103, 1109, 1110, 1116, 1117, 1123, 1124, 1128, 1129, 1133, 1134, 1138, 1139, 1143, 1144]
namespace Hd
noncomputable def pick : List Nat → List Obj → List Obj
 | [], _ => []
 | g :: gs, l => match l.drop g with
  | [] => []
  | o :: r => o :: pick gs r
noncomputable def keysFrom (n : Nat) : List Nat → List Nat
 | [] => []
 | g :: gs => (n + g) :: keysFrom (n + g + 1) gs
theorem pick_at : ∀ (gs : List Nat) (l : List Obj) (n : Nat) (os : List Obj), pick gs l = os → os.length = gs.length → ∀ p ∈ (keysFrom n gs).zip os, n ≤ p.1 ∧ l[p.1 - n]? = some p.2
 | [], _, _, _, _, _, p, hp => by simp [keysFrom] at hp
 | g :: gs, l, n, os, h, hl, p, hp => by
  unfold pick at h
  cases hd : l.drop g with
  | nil => rw [hd] at h; subst h; simp at hl
  | cons o r =>
   rw [hd] at h
   dsimp only at h
   subst h
   have hg : l[g]? = some o := by
    have := congrArg (fun x => x[0]?) hd
    simpa using this
   have hr : r = l.drop (g + 1) := by
    have := congrArg List.tail hd
    simpa using this.symm
   simp only [keysFrom, List.zip_cons_cons, List.mem_cons] at hp
   rcases hp with rfl | hp
   ·exact ⟨Nat.le_add_right _ _, by simpa using hg⟩
   ·have := pick_at gs r (n + g + 1) _ rfl (by simpa using hl) p hp
    refine ⟨by lia, ?_⟩
    have h2 := this.2
    rw [hr, List.getElem?_drop] at h2
    rwa [show p.1 - n = g + 1 + (p.1 - (n + g + 1)) from by lia]
noncomputable def gapsOf (n : Nat) : List Nat → List Nat
 | [] => []
 | a :: as => (a - n) :: gapsOf (a + 1) as
noncomputable def notFreed (o : Obj) : Bool := !o.isFreed
theorem get_of_objs {h : Heap} {a : Nat} {o : Obj} (e : h.objs.toList[a]? = some o) (f : o.isFreed = false) : h.get? a = some o := by
 have e' : h.objs[a]? = some o := by rw [← Array.getElem?_toList]; exact e
 unfold Heap.get?
 rw [e']
 obtain ⟨c, d, dt, sl⟩ := o
 cases dt <;> first | rfl | cases f
noncomputable def pHook (K : Params → Frag) (as : List Nat) (e1 : keysFrom 0 (gapsOf 0 as) = as) (e2 : ∀ P, as = (K P).map (·.1)) (e3 : ∀ P, (K P).all (fun p => notFreed p.2) = true) : Hook where
 α := List Obj
 obs := fun s => pick (gapsOf 0 as) s.heap.objs.toList
 val := fun w => (K w.params).map (·.2)
 says := fun w h => InK K w h
 of := fun w s x => by
  refine InK.of e2 w s ?_
  have hlen : ((K w.params).map (·.2)).length = (gapsOf 0 as).length := by
   have h1 : (keysFrom 0 (gapsOf 0 as)).length = as.length := by rw [e1]
   have h2 : ∀ n (l : List Nat), (keysFrom n l).length = l.length := by
    intro n l; induction l generalizing n with
    | nil => rfl
    | cons a l ih => simp [keysFrom, ih]
   rw [h2] at h1
   rw [h1, e2 w.params]; simp
  have hp := pick_at (gapsOf 0 as) s.heap.objs.toList 0 _ x hlen
  rw [e1] at hp
  have hz : as.zip ((K w.params).map (·.2)) = K w.params := by
   rw [e2 w.params]
   generalize K w.params = k
   induction k with
   | nil => rfl
   | cons p k ih => simp [List.zip_cons_cons, ih]
  rw [hz] at hp
  rw [e2 w.params, List.map_map]
  refine List.map_congr_left fun p hpk => ?_
  have h1 := (hp p hpk).2
  have h3 := List.all_eq_true.mp (e3 w.params) p hpk
  exact get_of_objs (by simpa using h1) (by unfold notFreed at h3; simpa using h3)
 keeps := fun w h h' x k => InK.keeps w h h' x k
end Hd
theorem myGaps : Hd.keysFrom 0 (Hd.gapsOf 0 myAs) = myAs := by decide +kernel
section
variable (p : Program) (w : World) (n₀ : Nat) (ann : Option Value)
noncomputable def runT (st : SharedT → Thread → Option (SharedT × Thread)) (ok : Thread → Bool) : Nat → SharedT → Thread → Option SharedT
 | 0, _, _ => none
 | n + 1, s, t => match through t with
  | true => some s
  | false => match ok t with
   | false => none
   | true => match st s t with
    | some (s', t') => runT st ok n s' t'
    | none => none
theorem runT_of {tb : String → Option Builtin} : ∀ {n : Nat} {s s' : SharedT} {t : Thread}, runT (stepT (denote tb) p w) (stepOk n₀ ann) n s t = some s' → topRun tb p w n₀ ann n s.abs t = some s'.abs
 | 0, _, _, _, h => by cases h
 | n + 1, s, s', t, h => by
  unfold runT at h
  unfold topRun
  cases he : through t with
  | true => rw [he] at h; cases h; rfl
  | false =>
   rw [he] at h
   cases hk : stepOk n₀ ann t with
   | false => rw [hk] at h; cases h
   | true =>
    rw [hk] at h
    cases hs : stepT (denote tb) p w s t with
    | none => rw [hs] at h; cases h
    | some r => obtain ⟨s₂, t₂⟩ := r; rw [hs] at h; rw [stepT_spec hs]; exact runT_of h
end
noncomputable def btAt (os : List Obj) : Nat → Nat → Nat → BT
 | 0, _, _ => .nil
 | k + 1, a, b => match os[b]? with
  | some o => .node o (btAt os k (2 * a) (a + b)) (btAt os k (2 * a) (2 * a + b))
  | none => .nil
noncomputable def T0 (w : World) (os : OsState) : SharedT := ⟨btAt (boot_heap w.params).objs.toList 5 1 0, 11, (boot_heap w.params).life, #[], boot_drawn, boot_toks, os⟩
theorem T0_abs (w : World) (os : OsState) : (T0 w os).abs = ⟨boot_heap w.params, #[], boot_drawn, boot_toks, os⟩ := by kernel_rfl
noncomputable def lawQ : Program := view P [115]
noncomputable def lawL : List Str := P.boundNames.filter fun n => !(n == n_law)
noncomputable abbrev hkP : Hook := Hd.pHook myK myAs myGaps (fun P => by kernel_rfl) (fun P => by kernel_rfl)
noncomputable def lkA (w : World) (s : Shared) : Bool := staticsOk (importedModules P.main.body) (boot_heap w.params) s.heap && namesBound P s.heap && gensDone s && laidKept (boot_heap w.params) s.heap
noncomputable abbrev stepF (w : World) := PySem.W.Fast.tw10156331382660048174 (PySem.W.Fast.tw11892475500146522536 PySem.W.Fast.tw14364793385576792824) P w
noncomputable abbrev okF := PySem.W.Fast.tw6613529449190102663 11 (some (.ref 6))
theorem looks (w : World) (os : OsState) : (runT (stepF w) okF 9000 (T0 w os) (topStub P)).map (fun s => (lkA w s.abs, PySem.W.Fast.tw4187177175401517315 lawQ lawL (importedModules P.main.body) (fun _ => true) true s.abs, hkP.obs s.abs)) = some (true, openGood lawQ lawL, hkP.val w) := by kernel_rfl
theorem isNs0 (w : World) : ((boot_heap w.params).isNs mainGlobals, (boot_heap w.params).objs.size, (boot_heap w.params).nsMap mainGlobals "__annotations__") = (true, 11, some (.ref 6)) := by kernel_rfl
theorem opn : opening P = plainProg P.main.scope.names := by kernel_rfl
theorem fen (s : Shared) : fenceModules? P s = some s := by kernel_rfl
theorem topFrom_of {tb : String → Option Builtin} {p : Program} {w : World} {N m₀ : Nat} {ann : Option Value} {s₀ s₁ : Shared} (h1 : (s₀.heap.isNs mainGlobals, s₀.heap.objs.size, s₀.heap.nsMap mainGlobals "__annotations__") = (true, m₀, ann)) (hg : (s₀.gens.size == 0) = true)
  (hr : topRun tb p w m₀ ann N s₀ (topStub p) = some s₁) (hl : (staticsOk (importedModules p.main.body) s₀.heap s₁.heap && namesBound p s₁.heap && gensDone s₁ && laidKept s₀.heap s₁.heap) = true) : topFrom tb p w N s₀ = some s₁ := by
 have z1 := congrArg Prod.fst h1
 have z2 := congrArg (fun x => x.2.1) h1
 have z3 := congrArg (fun x => x.2.2) h1
 dsimp only at z1 z2 z3
 unfold topFrom
 rw [z1, z2, z3, hg, hr]
 show (match staticsOk (importedModules p.main.body) s₀.heap s₁.heap && namesBound p s₁.heap && gensDone s₁ && laidKept s₀.heap s₁.heap with | true => some s₁ | false => none) = _
 rw [hl]
theorem left : LeftO P lawQ lawL (fun _ => true) hkP.obs hkP.val 9000 := fun w => by
 obtain ⟨⟨h, gs, d, k, os⟩, hs, hv⟩ := Option.map_eq_some_iff.mp (boot_open (p := P) (N := 9000) opn rfl fen w)
 obtain ⟨rfl, rfl, rfl, rfl⟩ : h = boot_heap w.params ∧ gs = ⟨[]⟩ ∧ d = boot_drawn ∧ k = boot_toks := by simpa only [Prod.mk.injEq] using hv
 obtain ⟨s', hr, hl⟩ := Option.map_eq_some_iff.mp (looks w os)
 unfold stepF okF at hr
 rw [← PySem.W.Fast.te10156331382660048174, ← PySem.W.Fast.te11892475500146522536, ← PySem.W.Fast.te14364793385576792824, ← PySem.W.Fast.te6613529449190102663] at hr
 have hr := runT_of P w 11 (some (.ref 6)) hr
 rw [T0_abs] at hr
 unfold openEnds
 rw [hs, Option.bind_some, topFrom_of (isNs0 w) rfl hr (congrArg Prod.fst hl)]
 have l2 := congrArg Prod.snd hl
 rw [← PySem.W.Fast.te4187177175401517315] at l2
 exact congrArg some l2
theorem said : OpenLaw.wellSaid PySem.Challenge.rw_nn0085_01 = true := by
 rw [PySem.W.Fast.te9446332074065402090]
 unfold PySem.W.Fast.tw9446332074065402090
 repeat' with_reducible refine look_both ?_ ?_
 unfold PySem.W.Fast.tw17960256430627541270
 repeat' with_reducible refine look_both ?_ ?_
 unfold PySem.W.Fast.tw2436336058641802641
 repeat' with_reducible refine look_both ?_ ?_
 unfold PySem.W.Fast.tw12908688711261696721
 repeat' with_reducible refine look_both ?_ ?_
 all_goals decide +kernel
theorem defq : (defOf lawQ n_law).map (fun x => (x.2, x.1.name, kwWritten? x.1.params.kwonlyargs x.1.params.kw_defaults)) = some ([], n_law, some []) := by kernel_rfl
theorem thed : P.theDef n_law = (defOf lawQ n_law).map (fun x => (x.1.params, x.1.body, x.1.scope)) := by kernel_rfl
theorem nmL : PySem.Challenge.rw_nn0085_01.row.name = n_law := by kernel_rfl
theorem okL : (chainsOk lawQ && opensWell P && (frees PySem.Challenge.rw_nn0085_01.row.toRowW && PySem.Challenge.rw_nn0085_01.row.within.isEmpty)) = true := by kernel_rfl
theorem recL : ((recsOf lawQ).find? (fun e => e.name == n_law)).isSome = true := by kernel_rfl
theorem bareL : PySem.Challenge.rw_nn0085_01.row.prog.bare := ⟨rfl, rfl, rfl, rfl, rfl, by decide +kernel⟩
theorem promL : PySem.Challenge.rw_nn0085_01.row.toRowW.promised := by w_witness2
theorem head (call : ∀ d : DefRec, d.name = n_law → WalkO lawQ lawL (fun _ _ => True) hkP.says PySem.Challenge.rw_nn0085_01.row.toRowW d [] fun f vs => PySem.call f vs) : PySem.Challenge.rw_nn0085_01.Holds :=
 holds_law said fun sd => by
  obtain ⟨⟨d, kw⟩, hx, he⟩ := Option.map_eq_some_iff.mp defq
  obtain ⟨rfl, e2, e3⟩ : kw = [] ∧ d.name = n_law ∧ kwWritten? d.params.kwonlyargs d.params.kw_defaults = some [] := by simpa only [Prod.mk.injEq] using he
  have ht := thed
  rw [hx] at ht
  exact holds_open (r := PySem.Challenge.rw_nn0085_01.row) (q := lawQ) (loose := lawL) (Xt := fun _ => true) (XP := fun _ _ => True) (YP := hkP.says) (N := 9000) left hkP.of hkP.keeps (fun _ _ => trivial) (fun _ _ _ _ _ => trivial) (nmL ▸ hx) (nmL ▸ ht) e3 (fun s _ => recFacts_of (R := []) rfl) rfl sd okL bareL promL (call d e2)
open Lean in
def tqN (k : String) (a : List Syntax) : Syntax := .node .none (.str `Lean.Parser.Tactic k) a.toArray
open Lean in
def tqW (k : String) : Syntax := .atom .none k
open Lean in
def tqS (l : List Syntax) : Syntax := tqN "tacticSeq" [tqN "tacticSeq1Indented" [.node .none `null (l.intersperse (tqW ";")).toArray]]
open Lean in
def tqK (k : String) : Syntax := .node .none `PySem.W.tacticKp_kind_ #[tqW "kp_kind", Syntax.mkStrLit k]
open Lean in
def tqA (s : String) : MacroM Term :=
 if s == "?" then `(?_) else if s == "_" then `(_) else if s == "F" then `(fun _ => ?_) else if s == "G" then `(fun _ _ => ?_) else if s.front == '@' then pure ⟨.node .none `Lean.Parser.Term.byTactic #[tqW "by", tqS [tqK (s.drop 1).toString]]⟩ else pure (mkIdent s.toName)
open Lean in
def tqF (a : List Syntax) : Syntax := tqN "first" [tqW "first", .node .none `null (a.map fun t => .node .none `group #[tqW "|", tqS [t]]).toArray]
open Lean in
def tqL : Nat → List String → MacroM (List Syntax × List String)
 | 0, r => pure ([], r)
 | _, [] => pure ([], [])
 | k + 1, w :: r => do
  if w == ")" then return ([], r)
  let f := (r.headD "").toName
  let (t, r) ← if w == "F" || w == "(" || w == "w(" then do
     let (a, r) ← tqL k r
     pure (if w == "F" then tqF a else if w == "(" then tqN "paren" [tqW "(", tqS a, tqW ")"] else tqN "withReducible" [tqW "with_reducible", tqS a], r)
   else if w == "e" || w == "b" then do
    let (a, r) := r.tail.span (· != ".")
    let t := Syntax.mkApp (mkIdent f) (← a.mapM tqA).toArray
    pure (tqN "refine" [tqW "refine", if w == "e" then t else Syntax.mkApp (mkIdent `Det.bind) #[t]], r.tail)
   else if w == "x" then pure (tqN "exact" [tqW "exact", mkIdent f], r.tail)
   else if w == "p" then pure (tqN "apply" [tqW "apply", mkIdent f], r.tail)
   else if w == "X" then do
    let (a, r) := r.span (· != ".")
    let h ← `(_)
    pure (tqF (a.map fun x => tqN "exact" [tqW "exact", Syntax.mkApp (mkIdent x.toName) #[h]]), r.tail)
   else if w == "s" || w == "N" then do
    let (a, r) := r.span (· != ".")
    let a := (a.map fun x => mkIdent ((if w == "N" then "en" else "") ++ x).toName).toArray
    pure (← `(tactic| simp only [$[$a:ident],*]), r.tail)
   else if w == "try" then pure (← `(tactic| try $(⟨tqK (r.headD "")⟩):tactic), r.tail)
   else do
    let t : Syntax ← if w == "a" then pure (tqN "assumption" [tqW "assumption"])
     else if w == "o" then `(tactic| omega)
     else if w == "l" then `(tactic| lia)
     else if w == "kr" then `(tactic| kernel_rfl)
     else if w == "dk" then `(tactic| decide +kernel)
     else if w == "d" then `(tactic| decide)
     else if w == "R" then `(tactic| with_unfolding_all exact rfl)
     else if w == "rep" then `(tactic| repeat kp_kind "1")
     else if w == "I" then `(tactic| refine $(mkIdent `Det.ite) (fun hc => ?_) (fun hc => ?_) <;> (try simp only [beq_iff_eq, Bool.and_eq_true, decide_eq_true_eq] at hc))
     else pure (tqK w)
    pure (t, r)
  let (ts, r) ← tqL k r
  return (t :: ts, r)
open Lean in
def altOf (s : String) : MacroM Syntax := do
 let as := s.splitOn " "
 let mut args : Array Term := #[]
 let mut cs : List Syntax := []
 for a in as.tail! do
  if a == "?" || a == "F" || a == "rfl" || a.startsWith "n_" then args := args.push (← tqA a)
  else if a == "n" then args := args.push (← `($(mkIdent `nsOk) _))
  else
   let i := mkIdent (Name.mkSimple s!"a{cs.length}")
   args := args.push (← `(?$i))
   cs := cs ++ [(← `(tactic| case $i:ident => $(⟨tqK a⟩):tactic)).raw]
 let t := Syntax.mkApp (mkIdent as.head!.toName) args
 return if cs.isEmpty then tqN "refine" [tqW "refine", t] else tqN "paren" [tqW "(", tqS (tqN "refine'" [tqW "refine'", t] :: cs), tqW ")"]
def rfA : Lean.Syntax := tqS [tqN "tacticRfl" [tqW "rfl"]]
def rfB : Lean.Syntax := tqS [tqN "intros" [tqW "intros", .node .none `null #[]], tqN "tacticRfl" [tqW "rfl"]]
local macro_rules | `(tactic| kp_kind $s:str) => do
 let k := s.getString
 if k == "1" then
  let a ← ("stopT_ n_pen ?;stopT_ n_raw ?;stopT_ n_program ?;assignN_ ?;stopS_ n_place ?;stopA_ ?;stopS_ n_here ?;inOrd_ ?;inOrd0_ ?;bindN_ ?;IsChain_ rfl ?;testLink_ ?;testLast_ ?;after_cons ?;after_nil ?;args1L_ k lk k ?;AttrL_ref k lk k mem lk at R ?;AttrL_int k lk k mem lk at R F;AttrL_str k lk k mem lk at R F;MCallL_ k lk k mem R k mt kp R R ?;MCallL0_ k lk k mem R k mt kp ?;NCallK_ k R n gl k kp R R ?;AssignL_ R k ?;BinOpL_ k lk k ?;NameL_ k lk k ?;args0_ ?;execs_cons ?;after_next ?;Int_ F;callK0_ kp ?;args1_ rfl ?;Attr_ rfl ?;IsCmpT_ rfl ?;NameG_ k rfl n gl k ?;NCall_ ?;StrC_ F;getA_ref mem lk at ?;execs_nil ?;If_ ?;BinOp_ ?;tB ?;getMAppIC_ mem ?;MCall_ rfl ?;after_ret ?;Assign_ ? k;AssignA_ k ?;AssignS_ k ?;getA_int mem lk at F;Sub_ ?;Return_ ?;eqS_ ?;getA_str mem lk at F;ifF D ?;ifT D ?;callBb0_ k ?;Expr0_ k k ?;add_ F;NameGI_ gi k rfl n k F;Tuple_ ?;callBt0_ k ?;BoolC_ ?;eq_ ?;IsNot_ ?;callK_ kp rfl rfl ?;Store_ k ?;IsAnd_ ?;List_ ?;mk_ k F;IsOr_ ?;shl_ A A d F;getA_none mem lk at ?;sub_ F;fdiv_ d d F;NoneC_ ?;IfExp_ ?;bor_ F;neS_ ?;IsAnd0_ ?;NameGS_ gs k rfl n k F;ne_ ?;Compare_ rfl ?;IsOr0_ ?;ge_ ?;IsPlainT_ k ?;getMAppC_ mem ?;getA_bool mem lk at ?;callBb_ k k k ?;lt_ ?;gt_ ?;le_ ?;band_ F;getMSplC_ ?;getMC_ mem k mt ?;after_brk ?;ReturnNone_ ?;Break_ ?;getMethMC_ mem ?;isntNone_ ?;UnaryOp_ ?;tNone ?;callBt_ k k k ?;isNone_ ?;notB_ ?;Pass_ ?;NameBB_ nb k rfl rfl n k ?".splitOn ";").mapM altOf
  `(tactic| first | (with_reducible $(⟨tqF a⟩):tactic) | dsimp only)
 else match ("a=a;l=l;k=kr;R=R;d=d;dq=e of_decide_eq_true @k .;D=F dk a );A=F a d );ra=w( a );r=rep;ls=F ( w( p Nat.sub_one_lt_of_le ) l l ) l );low=F w( a ) w( e Low.at @ra ? . o ) o );sort=F w( I ) b ltAt_ @fine @ls @ls F . b rev_ @fine G . b move_ @fine G . b Det.rule ? . I );fine=F a e Like.fine @a . );like=F a ( e Like.to ? @a . a ) );lk=F x lk_hit ( p lk_miss kr lk ) a );mem=F x pt0 x pt1 x pt2 x st0 x st1 x st2 x st3 x st4 x st5 x st6 x List.mem_cons_self a ( e List.mem_cons_of_mem _ ? . mem ) ( e List.mem_append_right _ ? . mem ) ( e List.mem_append_left _ ? . mem ) ( p List.mem_append_right mem ) ( p List.mem_append_left mem ) );put=F x ptp_l x ptp_k x stp_rip x stp_beg x stp_halted x stp_mem x stp_regs x Put.here a ( e Put.there ? . put ) ( e Put.app ? _ . put ) ( p Put.there put ) );room=F ( F w( e rI ? . ) w( e rL ? . ) w( e rC ? . ) w( e rH ? . ) ) room ) e leOf @ra @R . l a ( s Cu.into Cu.less Cu.comp Cu.held . F o a x rfl ) ) );gl=X gn_mask gn_wrap gn_bit gn_early_names gn_gpr gn_joined_machine gn_done gn_proceed gn_need_running gn_step_row gn_move_deed gn_push_operand gn_pop_operand gn_stack_deed gn_target_of gn_count_down gn_is_taken gn_jump_deed gn_transfer_deed gn_run_planted gn__law_raw gn__law_draw gn__law_reg gn__law_row gn__law_program gn__law_recorded gn__law_run gn__law_looked gn__law_deed gn_MachineError gn_MintError gn_SoftPoints gn_Decoded gn_Flags gn_Register gn_Memory gn_State gn_Operand gn_Reg gn_Imm gn_Rel gn_Mem gn_Instruction .;mt=X mStaten_get mStaten_put mStaten_put_low mStaten_offset mStaten_place mStaten_size_of mStaten_read mStaten_write mStaten_push mStaten_pop mStaten_told mStaten_copy mMemoryn_octet mMemoryn_set_octet mMemoryn_read mMemoryn_write mMemoryn_load mMemoryn_written mMemoryn_copy mMemoryn_told mFlagsn_told mFlagsn_pack mFlagsn_unpack mFlagsn_copy mSoftPointsn_put mSoftPointsn_drop mSoftPointsn_plant mSoftPointsn_lift mSoftPointsn_octets .;gi=X gi_STACK gi_TRAP gi_CF gi_PF gi_AF gi_ZF gi_SF gi_DF gi_OF gi_RCX gi__law_most .;gs=X gi_TRAP_NAME gi_TRAPS gi_NAMES_64 .;nb=X nB_list nB_int nB_sum nB_range nB_len nB_bytes nB_tuple nB_sorted nB_enumerate nB_isinstance nB_Exception .;kp=e kp_ @R .;at=e at_ @dq .;wt=e wt_ @dq .;nv=s nvR nvI nvS nvN nvB List.cons_append List.nil_append List.map_cons List.map_nil List.append_nil .;pick=F x Pick.here ( p Pick.there pick ) );keep=F w( x Keep.refl ) x Keep.nil ( e Keep.cons @pick ? . keep ) ( e Keep.skip ? . keep ) x Keep.refl ( e Keep.drop _ ? . keep ) );set=e setNew @put @k @k @wt ? . try nv;px=F w( X List.Perm.refl . ) w( p px_cons px ) w( p px_app px ) );pb=F w( X List.Perm.refl . ) w( p pb_cons pb ) w( p pb_app pb ) );kb=F w( x Keep.refl ) w( e Keep.pick1 @px ? . kb ) w( e Keep.blk @pb ? . kb ) w( e Keep.skip ? . kb ) w( e Keep.drop _ ? . kb ) );names=N S _Dot0 _AF _CF _DF _Decoded _DecodedDot__init__ _Exception _Flags _FlagsDot__init__ _FlagsDotcopy _FlagsDotpack _FlagsDottold _FlagsDotunpack _Imm _ImmDot__init__ _Instruction _InstructionDot__init__ _MachineError _Mem _MemDot__init__ _Memory _MemoryDot__init__ _MemoryDotcopy _MemoryDotload _MemoryDotoctet _MemoryDotread _MemoryDotset_octet _MemoryDottold _MemoryDotwrite _MintError _MintErrorDot__init__ _NAMES_16 _NAMES_32 _NAMES_64 _NAMES_8 _OF _Operand _OperandDot__init__ _OperandError _PF _RBP _RCX _RSP _Reg _RegDot__init__ _Register _RegisterDot__init__ _Rel _RelDot__init__ _SF _STACK _SoftPoints _SoftPointsDot__init__ _SoftPointsDotlift _SoftPointsDotoctets _SoftPointsDotplant _SoftPointsDotput _State _StateDot__init__ _StateDotcopy _StateDotget _StateDotoffset _StateDotplace _StateDotpop _StateDotpush _StateDotput _StateDotput_low _StateDotread _StateDotsize_of _StateDottold _StateDotwrite _TRAP _TRAPS _TRAP_NAME _ZF ___init__ __law_advance __law_deed __law_draw __law_looked __law_most __law_program __law_raw __law_recorded __law_reg __law_row __law_run _advance _af _append _at _base _bases _begin _bit _break _bytes _call _cf _clean _copy _count _count_down _deed _deeds _df _done _drop _due _early_names _enumerate _error _exchange _fault _flags _form _found _fs _get _gpr _gs _halted _held _here _high _hlt _holds _imm _index _instruction _int _int3 _is_halted _is_over _is_taken _iset _isinstance _j _jmp _joined _joined_machine _jrcxz _jump_deed _kept _kind _late_ending _law _lea _leave _len _length _lift _line _list _load _loop _loope _loopne _low _many _mask _mem _memory _most _mov _move_deed _n _name _names _need_running SnoSpdeed SnoSprow SnoSpsuchSpregister _nop _number _octet _octetmintDotbasics _octetmintDotdebug _octetmintDotdecoder _octetmintDotflags _octetmintDotmachine _octetmintDotoperands _octetmintDotregisters _octets _of _offset _old _one _operand _operands _other _over _pack _pen _pf _place _places _plant _points _pop _pop_operand _popfq _prefix _prefixes _proceed _program _push _push_operand _pushfq _put _put_low _r _range _raw _read _reason _reg _register _regs _rel _ret _rip _row _rows _run_planted _scale _script _segment _segments _self _set_octet _sf _shown _size _size_of _some _sort _sorted _split _spot _stack_deed _state _step_row _store _stores _str _string_deed _sum _target _target_of _tellings StheSpplaceSpof3182 _told _total _transfer_deed _tuple _turn _ud2 _unpack _vector_deed _way _what _wide _width _world _worth _wrap _write _written _xchg _xmm _zf .".splitOn ";").find? (·.startsWith (k ++ "=")) with
  | some x =>
   let (a, _) ← tqL 900 ((x.drop (k.length + 1)).toString.splitOn " ")
   return tqN "paren" [tqW "(", tqS a, tqW ")"]
  | none => Lean.Macro.throwUnsupported
structure Run where
 prog : Program
 w : World
 A : Around
 E : Value → Shared → Prop
 s : Shared
 κ : SortKind
 v : Array Keyed
noncomputable def Run.Good (R : Run) (L : Nat → Nat → Bool) (n : Nat) : Prop := ∀ i j, i < n → j < n → ∀ Q : Bool → Shared → Prop, Q (L i j) R.s →
 wpAny (model R.prog R.w) R.A (keyLt' R.κ (kas_item R.v i).1 (kas_item R.v j).1) Q (fun _ _ => False) R.s
theorem ex0 {p : Nat} (h : ¬ p = 0) : ∃ k, p = k + 1 := Nat.exists_eq_succ_of_ne_zero h
theorem ex1 {p : Nat} (h : ¬ p + 1 = 1) : ∃ k, p = k + 1 := ex0 fun e => h (by rw [e])
theorem ex2 {p : Nat} (h0 : ¬ p = 0) (h1 : ¬ p = 1) : ∃ k, p = k + 2 := by
 obtain ⟨q, rfl⟩ := ex0 h0
 obtain ⟨r, rfl⟩ := ex1 h1
 exact ⟨r, rfl⟩
structure Pos' where
 p : Array Nat
 pend : Array (Nat × Nat × Nat)
 mg : Nat
noncomputable def Run.arr (R : Run) (p : Array Nat) : Array Keyed := p.map (kas_item R.v)
noncomputable def Run.st (R : Run) (q : Pos') : SortSt := SortSt.mk' R.κ (R.arr q.p) q.pend q.mg none
section
variable (L : Nat → Nat → Bool) (n : Nat)
noncomputable def Det {α : Type} (t : Run → StateT SortSt Sem α) (q : Pos') (Post : (Run → α) → Pos' → Prop) : Prop :=
 ∃ r q', Post r q' ∧ ∀ R : Run, R.Good L n → wpS (model R.prog R.w) R.A R.E R.s (t R) (fun a st => a = r R ∧ st = R.st q') (R.st q)
end
section
variable {L : Nat → Nat → Bool} {n : Nat} {α β : Type} {q : Pos'}
theorem Det.pure {r : Run → α} {Post : (Run → α) → Pos' → Prop} (h : Post r q) : Det L n (fun R => Pure.pure (r R)) q Post :=
 ⟨r, q, h, fun R _ => wpS_pure ⟨rfl, rfl⟩⟩
theorem Det.bind {t : Run → StateT SortSt Sem α} {f : Run → α → StateT SortSt Sem β} {Post : (Run → β) → Pos' → Prop}
  (h : Det L n t q (fun r q' => Det L n (fun R => f R (r R)) q' Post)) : Det L n (fun R => t R >>= f R) q Post := by
 obtain ⟨r, q', ⟨r2, q2, h1, h2⟩, h3⟩ := h
 exact ⟨r2, q2, h1, fun R hR => wpS_bind (wpS_mono (h3 R hR) fun a st ⟨e1, e2⟩ => by rw [e1, e2]; exact h2 R hR)⟩
theorem Det.mono {t : Run → StateT SortSt Sem α} {P Q : (Run → α) → Pos' → Prop} (h : Det L n t q P) (hq : ∀ r q, P r q → Q r q) : Det L n t q Q := by
 obtain ⟨r, q', h1, h2⟩ := h
 exact ⟨r, q', hq _ _ h1, h2⟩
theorem Det.get {Post : (Run → SortSt) → Pos' → Prop} (h : Post (fun R => R.st q) q) : Det L n (fun _ => (get : StateT SortSt Sem SortSt)) q Post :=
 ⟨_, q, h, fun R _ => wpS_get ⟨rfl, rfl⟩⟩
theorem Det.modify {f : Run → SortSt → SortSt} {Post : (Run → PUnit) → Pos' → Prop} (q' : Pos') (e : ∀ R, f R (R.st q) = R.st q') (h : Post (fun _ => ⟨⟩) q') : Det L n (fun R => (modify (f R) : StateT SortSt Sem PUnit)) q Post :=
 ⟨_, q', h, fun R _ => wpS_modify ⟨rfl, e R⟩⟩
theorem Det.set {f : Run → SortSt} {Post : (Run → PUnit) → Pos' → Prop} (q' : Pos') (e : ∀ R, f R = R.st q') (h : Post (fun _ => ⟨⟩) q') : Det L n (fun R => (MonadStateOf.set (f R) : StateT SortSt Sem PUnit)) q Post :=
 ⟨_, q', h, fun R _ => by
  unfold wpS
  rw [StateT.run_set]
  exact wpAny_pure ⟨rfl, rfl, e R⟩⟩
theorem Det.rule {x : String} {Post : (Run → Unit) → Pos' → Prop} (h : Post (fun _ => ()) q) : Det L n (fun _ => (liftM (PySem.rule x) : StateT SortSt Sem Unit)) q Post :=
 ⟨_, q, h, fun R _ => wpS_lift (wpAny_rule ⟨rfl, rfl, rfl⟩)⟩
theorem Det.lt {i j : Nat} {Post : (Run → Option Bool) → Pos' → Prop} (hi : i < n) (hj : j < n) (h : Post (fun _ => some (L i j)) q) :
  Det L n (fun R => lt' (kas_item R.v i) (kas_item R.v j)) q Post := by
 refine ⟨_, q, h, fun R hR => ?_⟩
 show wpS _ _ _ _ (lt' (kas_item R.v i) (kas_item R.v j)) _ _
 rw [lt'_eq]
 refine wpS_bind (wpS_get ?_)
 refine wpS_bind (wpS_lift (wpAny_attempt (wpAny_mono (hR i j hi hj (fun b s => b = L i j ∧ s = R.s) ⟨rfl, rfl⟩) (fun b s hb => ?_) fun _ _ x => x.elim)))
 refine ⟨hb.2, ?_⟩
 rw [hb.1]
 exact wpS_pure ⟨rfl, rfl⟩
theorem Det.elem {p : Array Nat} {i : Nat} {Post : (Run → Keyed) → Pos' → Prop} (hi : i < p.size) (h : Post (fun R => kas_item R.v (p.getD i 0)) q) : Det L n (fun R => elem' (R.arr p) i) q Post := by
 refine ⟨_, q, h, fun R hR => ?_⟩
 have e : (R.arr p)[i]? = some (kas_item R.v (p.getD i 0)) := by
  have e : p.getD i 0 = p[i] := by simp [Array.getD, hi]
  unfold Run.arr
  rw [e]
  simp [hi]
 show wpS _ _ _ _ (elem' (R.arr p) i) _ _
 rw [elem'_eq, e]
 exact wpS_pure ⟨rfl, rfl⟩
theorem Det.range {a b : Nat} {f : Run → Nat → β → StateT SortSt Sem (ForInStep β)} (I : Nat → (Run → β) → Pos' → Prop) {Post : (Run → β) → Pos' → Prop}
  (hstep : ∀ i c q, a ≤ i → i < b → I i c q → Det L n (fun R => f R i (c R)) q (fun r q' => (∃ c', r = (fun R => .done (c' R)) ∧ Post c' q') ∨ (∃ c', r = (fun R => .yield (c' R)) ∧ I (i + 1) c' q')))
  (hend : ∀ c q, I (max a b) c q → Post c q) {c : Run → β} (h : I a c q) : Det L n (fun R => forIn [a:b] (c R) (f R)) q Post := by
 have go : ∀ k i c q, i + k = max a b → a ≤ i → I i c q → ∃ r q', Post r q' ∧ ∀ R : Run, R.Good L n → wpS (model R.prog R.w) R.A R.E R.s (forIn (List.range' i k 1) (c R) (f R)) (fun x st => x = r R ∧ st = R.st q') (R.st q) := by
  intro k
  induction k with
  | zero =>
   intro i c q hk hi hI
   obtain rfl : i = max a b := by lia
   exact ⟨c, q, hend c q hI, fun R _ => by rw [List.range'_zero, List.forIn_nil]; exact wpS_pure ⟨rfl, rfl⟩⟩
  | succ k ih =>
   intro i c q hk hi hI
   obtain ⟨r, q1, h1, h2⟩ := hstep i c q hi (by lia) hI
   rcases h1 with ⟨c', rfl, h1⟩ | ⟨c', rfl, h1⟩
   ·refine ⟨c', q1, h1, fun R hR => ?_⟩
    rw [List.range'_succ, List.forIn_cons]
    refine wpS_bind (wpS_mono (h2 R hR) fun x st ⟨e1, e2⟩ => ?_)
    rw [e1, e2]
    exact wpS_pure ⟨rfl, rfl⟩
   ·obtain ⟨r, q2, h3, h4⟩ := ih (i + 1) c' q1 (by lia) (by lia) h1
    refine ⟨r, q2, h3, fun R hR => ?_⟩
    rw [List.range'_succ, List.forIn_cons]
    refine wpS_bind (wpS_mono (h2 R hR) fun x st ⟨e1, e2⟩ => ?_)
    rw [e1, e2]
    exact h4 R hR
 obtain ⟨r, q', h1, h2⟩ := go (max a b - a) a c q (Nat.add_sub_cancel' (Nat.le_max_left a b)) (Nat.le_refl _) h
 refine ⟨r, q', h1, fun R hR => ?_⟩
 show wpS _ _ _ _ (forIn [a:b] (c R) (f R)) _ _
 rw [Std.Legacy.Range.forIn_eq_forIn_range']
 have hsz : ([a:b] : Std.Legacy.Range).size = max a b - a := by
  rw [show ([a:b] : Std.Legacy.Range).size = b - a by simp [Std.Legacy.Range.size]]
  rcases Nat.le_total a b with e | e
  ·rw [Nat.max_eq_right e]
  ·rw [Nat.max_eq_left e, Nat.sub_self, Nat.sub_eq_zero_of_le e]
 show wpS _ _ _ _ (forIn (List.range' a ([a:b] : Std.Legacy.Range).size 1) (c R) (f R)) _ _
 rw [hsz]
 exact h2 R hR
noncomputable def gallop' : Bool → Keyed → Array Keyed → Nat → Nat → Nat → StateT SortSt Sem (Option Nat) := sortPriv% PySem.Builtin.gallop
noncomputable def mergeLo' : Array Keyed → Array Keyed → StateT SortSt Sem (Array Keyed) := sortPriv% PySem.Builtin.mergeLo
noncomputable def mergeHi' : Array Keyed → Array Keyed → StateT SortSt Sem (Array Keyed) := sortPriv% PySem.Builtin.mergeHi
end
section
variable {L : Nat → Nat → Bool} {n : Nat}
noncomputable def Low (n : Nat) (p : Array Nat) : Prop := ∀ i, i < p.size → p.getD i 0 < n
theorem Det.all {α : Type} {t : Run → StateT SortSt Sem (Option α)} {q : Pos'} {Post : (Run → Option α) → Pos' → Prop} (h : ∀ x, Post (fun _ => some x) q) (g : ∀ P : (Run → Option α) → Pos' → Prop, (∀ x, P (fun _ => some x) q) → Det L n t q P) : Det L n t q Post := g Post h
theorem Det.ite {α : Type} {q : Pos'} {c : Prop} {inst : Run → Decidable c} {t e : Run → StateT SortSt Sem α} {Post : (Run → α) → Pos' → Prop} (h1 : c → Det L n t q Post) (h2 : ¬ c → Det L n e q Post) : Det L n (fun R => @ite _ c (inst R) (t R) (e R)) q Post := by
 by_cases hc : c
 ·simp only [if_pos hc]; exact h1 hc
 ·simp only [if_neg hc]; exact h2 hc
theorem Low.at {p : Array Nat} {i : Nat} (h : Low n p) (hi : i < p.size) : p.getD i 0 < n := h i hi
theorem Det.rangeB {α β : Type} {q : Pos'} {a b : Nat} {f : Run → Nat → β → StateT SortSt Sem (ForInStep β)} {g : Run → β → StateT SortSt Sem α} {Post : (Run → α) → Pos' → Prop} {c : Run → β} (I : Nat → (Run → β) → Pos' → Prop) (J : (Run → β) → Pos' → Prop) (h : I a c q)
  (hstep : ∀ i c q, a ≤ i → i < b → I i c q → Det L n (fun R => f R i (c R)) q (fun r q' => (∃ c', r = (fun R => .done (c' R)) ∧ J c' q') ∨ (∃ c', r = (fun R => .yield (c' R)) ∧ I (i + 1) c' q')))
  (hend : ∀ c q, I (max a b) c q → J c q) (hg : ∀ c q, J c q → Det L n (fun R => g R (c R)) q Post) : Det L n (fun R => forIn [a:b] (c R) (f R) >>= g R) q Post :=
 Det.bind (Det.mono (Det.range I hstep hend h) hg)
section
noncomputable abbrev SM := StateT SortSt Sem
variable (l : Bool) (x : Keyed) (a : Array Keyed) (b n h : Nat)
noncomputable abbrev GS := Option (Option Nat) × Nat × Nat
noncomputable def ga1 (i : Nat) : SM (Option Bool) := elem' a (b + i) >>= fun y => if l = true then lt' y x else lt' x y >>= fun w => pure (Option.map (fun z => !z) w)
noncomputable def ga2 : GS → SM (ForInStep GS)
 | (_, lo, hi) => if lo ≥ hi then pure (.done (none, lo, hi)) else ga1 l x a b (lo + (hi - lo) / 2) >>= fun w => match w with
  | some w => if w = true then pure (.yield (none, lo + (hi - lo) / 2 + 1, hi)) else pure (.yield (none, lo, lo + (hi - lo) / 2))
  | _ => pure (.done (some none, lo, hi))
noncomputable def ga3 : GS → SM (Option Nat)
 | (some r, _) => pure r
 | (none, _, hi) => pure (some hi)
noncomputable def ga4 (lo hi : Nat) : SM (Option Nat) := forIn [0:n] ((none, lo, hi) : GS) (fun _ s => ga2 l x a b s) >>= ga3
noncomputable def ga5 (z : Nat) : GS → SM (ForInStep GS)
 | (_, u, v) => if v ≥ z then pure (.done (none, u, v)) else ga1 l x a b (h + v) >>= fun w => match w with
  | some w => if (!w) = true then pure (.done (none, u, v)) else pure (.yield (none, v, 2 * v + 1))
  | _ => pure (.done (some none, u, v))
noncomputable def ga6 : GS → SM (Option Nat)
 | (some r, _) => pure r
 | (none, u, v) => ga4 l x a b n (h + u + 1) (h + min v (n - h))
noncomputable def ga7 (z : Nat) : GS → SM (ForInStep GS)
 | (_, u, v) => if v ≥ z then pure (.done (none, u, v)) else ga1 l x a b (h - v) >>= fun w => match w with
  | some w => if w = true then pure (.done (none, u, v)) else pure (.yield (none, v, 2 * v + 1))
  | _ => pure (.done (some none, u, v))
noncomputable def ga8 : GS → SM (Option Nat)
 | (some r, _) => pure r
 | (none, u, v) => ga4 l x a b n (h + 1 - min v (h + 1)) (h - u)
noncomputable def ga9 (w : Option Bool) : SM (Option Nat) := match w with
 | some w => if w = true then forIn [0:n] ((none, 0, 1) : GS) (fun _ s => ga5 l x a b h (n - h) s) >>= ga6 l x a b n h else forIn [0:n] ((none, 0, 1) : GS) (fun _ s => ga7 l x a b h (h + 1) s) >>= ga8 l x a b n h
 | _ => pure none
theorem ga_eq : gallop' l x a b n h = ga1 l x a b h >>= ga9 l x a b n h := by kernel_rfl
end
section
variable {q : Pos'} {left : Bool} {k : Nat} {p : Array Nat} {base m hint : Nat} (hk : k < n) (hp : Low n p) (hb : base + m ≤ p.size)
include hk hp hb
theorem ga1_ {i : Nat} {Post : (Run → Option Bool) → Pos' → Prop} (hi : i < m) (h : ∀ w, Post (fun _ => some w) q) : Det L n (fun R => ga1 left (kas_item R.v k) (R.arr p) base i) q Post := by
 have hi' : base + i < p.size := by lia
 unfold ga1
 refine Det.bind (Det.elem hi' ?_)
 exact Det.ite (fun _ => Det.lt (hp.at hi') hk (h _)) (fun _ => Det.bind (Det.lt hk (hp.at hi') (Det.pure (h _))))
theorem ga4_ {lo hi : Nat} {Post : (Run → Option Nat) → Pos' → Prop} (hh : hi ≤ m) (h : ∀ r, r ≤ m → Post (fun _ => some r) q) : Det L n (fun R => ga4 left (kas_item R.v k) (R.arr p) base m lo hi) q Post := by
 unfold ga4
 refine Det.rangeB (I := fun i c q' => q = q' ∧ ∃ a b, c = (fun _ => (none, a, b)) ∧ b ≤ m) (J := fun c q' => q = q' ∧ ∃ a b, c = (fun _ => (none, a, b)) ∧ b ≤ m) ⟨rfl, _, _, rfl, hh⟩ ?_ (fun _ _ x => x) ?_
 ·rintro i c _ hi0 hi ⟨rfl, a, b, rfl, h1⟩
  unfold ga2
  dsimp only
  refine Det.ite (fun hc => ?_) (fun hc => ?_)
  ·exact Det.pure (.inl ⟨_, rfl, rfl, _, _, rfl, h1⟩)
  ·refine Det.bind (ga1_ hk hp hb (by lia) fun w => ?_)
   cases w with
   | true => exact Det.pure (.inr ⟨fun _ => (none, _, _), rfl, rfl, _, _, rfl, h1⟩)
   | false => exact Det.pure (.inr ⟨fun _ => (none, _, _), rfl, rfl, _, _, rfl, by lia⟩)
 ·rintro c _ ⟨rfl, a, b, rfl, h1⟩
  exact Det.pure (h b h1)
theorem gallop_ {Post : (Run → Option Nat) → Pos' → Prop} (hh : hint < m) (h : ∀ r, r ≤ m → Post (fun _ => some r) q) : Det L n (fun R => gallop' left (kas_item R.v k) (R.arr p) base m hint) q Post := by
 rw [show (fun R : Run => gallop' left (kas_item R.v k) (R.arr p) base m hint) = fun R => ga1 left (kas_item R.v k) (R.arr p) base hint >>= ga9 left (kas_item R.v k) (R.arr p) base m hint from funext fun R => ga_eq ..]
 refine Det.bind (ga1_ hk hp hb hh fun w => ?_)
 cases w with
 | true =>
  refine Det.rangeB (I := fun i c q' => q = q' ∧ ∃ a b, c = (fun _ => (none, a, b)) ∧ a < b ∧ hint + a < m) (J := fun c q' => q = q' ∧ ∃ a b, c = (fun _ => (none, a, b)) ∧ a < b ∧ hint + a < m) (c := fun _ => (none, 0, 1)) ⟨rfl, 0, 1, rfl, by lia, by lia⟩ ?_ (fun _ _ x => x) ?_
  ·rintro i c _ hi0 hi ⟨rfl, a, b, rfl, h1, h2⟩
   unfold ga5
   dsimp only
   refine Det.ite (fun hc => ?_) (fun hc => ?_)
   ·exact Det.pure (.inl ⟨_, rfl, rfl, _, _, rfl, h1, h2⟩)
   ·refine Det.bind (ga1_ hk hp hb (by lia) fun w => ?_)
    cases w with
    | true => exact Det.pure (.inr ⟨fun _ => (none, _, _), rfl, rfl, _, _, rfl, by lia, by lia⟩)
    | false => exact Det.pure (.inl ⟨fun _ => (none, _, _), rfl, rfl, _, _, rfl, h1, h2⟩)
  ·rintro c _ ⟨rfl, a, b, rfl, h1, h2⟩
   exact ga4_ hk hp hb (by lia) h
 | false =>
  refine Det.rangeB (I := fun i c q' => q = q' ∧ ∃ a b, c = (fun _ => (none, a, b)) ∧ a < b) (J := fun c q' => q = q' ∧ ∃ a b, c = (fun _ => (none, a, b)) ∧ a < b) (c := fun _ => (none, 0, 1)) ⟨rfl, 0, 1, rfl, by lia⟩ ?_ (fun _ _ x => x) ?_
  ·rintro i c _ hi0 hi ⟨rfl, a, b, rfl, h1⟩
   unfold ga7
   dsimp only
   refine Det.ite (fun hc => ?_) (fun hc => ?_)
   ·exact Det.pure (.inl ⟨_, rfl, rfl, _, _, rfl, h1⟩)
   ·refine Det.bind (ga1_ hk hp hb (by lia) fun w => ?_)
    cases w with
    | true => exact Det.pure (.inl ⟨fun _ => (none, _, _), rfl, rfl, _, _, rfl, h1⟩)
    | false => exact Det.pure (.inr ⟨fun _ => (none, _, _), rfl, rfl, _, _, rfl, by lia⟩)
  ·rintro c _ ⟨rfl, a, b, rfl, h1⟩
   exact ga4_ hk hp hb (by lia) h
end
end
section
variable {L : Nat → Nat → Bool} {n : Nat}
theorem arr_size (R : Run) (p : Array Nat) : (R.arr p).size = p.size := by unfold Run.arr; rw [Array.size_map]
theorem arr_push (R : Run) (p : Array Nat) (i : Nat) : (R.arr p).push (kas_item R.v i) = R.arr (p.push i) := by unfold Run.arr; rw [Array.map_push]
theorem arr_append (R : Run) (p p' : Array Nat) : R.arr p ++ R.arr p' = R.arr (p ++ p') := by unfold Run.arr; rw [Array.map_append]
theorem arr_reverse (R : Run) (p : Array Nat) : (R.arr p).reverse = R.arr p.reverse := by unfold Run.arr; rw [Array.map_reverse]
theorem arr_extract (R : Run) (p : Array Nat) (i j : Nat) : (R.arr p).extract i j = R.arr (p.extract i j) := by unfold Run.arr; rw [Array.map_extract]
theorem arr_one (R : Run) (i : Nat) : #[kas_item R.v i] = R.arr #[i] := by unfold Run.arr; simp
noncomputable def SetMg (q : Pos') (g : Nat) : Pos' := { q with mg := g }
noncomputable def setMinGallop' : Nat → StateT SortSt Sem PUnit := sortPriv% PySem.Builtin.setMinGallop
theorem setMg_ {q : Pos'} {g x : Nat} {Post : (Run → PUnit) → Pos' → Prop} (h : Post (fun _ => ⟨⟩) (SetMg q x)) : Det L n (fun _ => setMinGallop' x) (SetMg q g) Post :=
 Det.modify (SetMg q x) (fun R => rfl) h
theorem Low.push {p : Array Nat} {i : Nat} (h : Low n p) (hi : i < n) : Low n (p.push i) := by
 intro j hj
 rw [Array.size_push] at hj
 unfold Low at h
 rw [Array.getD_eq_getD_getElem?, Array.getElem?_push]
 split
 ·exact hi
 ·have := h j (by lia)
  rwa [Array.getD_eq_getD_getElem?] at this
theorem Low.of_mem {p : Array Nat} (h : ∀ i ∈ p, i < n) : Low n p := by
 intro j hj
 rw [Array.getD_eq_getD_getElem?, Array.getElem?_eq_getElem hj]
 exact h _ (Array.getElem_mem hj)
theorem Low.mem {p : Array Nat} (h : Low n p) : ∀ i ∈ p, i < n := by
 intro i hi
 obtain ⟨j, hj, rfl⟩ := Array.mem_iff_getElem.mp hi
 have := h j hj
 rwa [Array.getD_eq_getD_getElem?, Array.getElem?_eq_getElem hj] at this
theorem Low.append {p p' : Array Nat} (h : Low n p) (h' : Low n p') : Low n (p ++ p') := Low.of_mem fun i hi => (Array.mem_append.mp hi).elim (h.mem i) (h'.mem i)
theorem Low.reverse {p : Array Nat} (h : Low n p) : Low n p.reverse := Low.of_mem fun i hi => h.mem i (Array.mem_reverse.mp hi)
theorem Low.extract {p : Array Nat} {i j : Nat} (h : Low n p) : Low n (p.extract i j) := Low.of_mem fun k hk => h.mem k (by
 obtain ⟨x, hx, e⟩ := Array.mem_iff_getElem.mp hk
 rw [← e, Array.getElem_extract]
 exact Array.getElem_mem _)
theorem Low.one {i : Nat} (h : i < n) : Low n #[i] := Low.of_mem fun k hk => by simp at hk; rw [hk]; exact h
noncomputable def El (n : Nat) (x : Run → Keyed) : Prop := ∃ i, i < n ∧ x = fun R => kas_item R.v i
noncomputable def Arr (n k : Nat) (o : Run → Array Keyed) : Prop := ∃ p, Low n p ∧ p.size = k ∧ o = fun R => R.arr p
section
variable {o o' : Run → Array Keyed} {x y : Run → Keyed} {k k' : Nat}
theorem Arr.of {p : Array Nat} (h : Low n p) : Arr n p.size (fun R => R.arr p) := ⟨p, h, rfl, rfl⟩
theorem Arr.cast (h : Arr n k o) (e : k = k') : Arr n k' o := e ▸ h
theorem Arr.size (h : Arr n k o) (R : Run) : (o R).size = k := by obtain ⟨p, _, rfl, rfl⟩ := h; exact arr_size R p
theorem Arr.push (h : Arr n k o) (hx : El n x) : Arr n (k + 1) (fun R => (o R).push (x R)) := by
 obtain ⟨p, hp, rfl, rfl⟩ := h; obtain ⟨i, hi, rfl⟩ := hx
 exact ⟨p.push i, hp.push hi, Array.size_push .., funext fun R => arr_push R p i⟩
theorem Arr.append (h : Arr n k o) (h' : Arr n k' o') : Arr n (k + k') (fun R => o R ++ o' R) := by
 obtain ⟨p, hp, rfl, rfl⟩ := h; obtain ⟨p', hp', rfl, rfl⟩ := h'
 exact ⟨p ++ p', hp.append hp', Array.size_append .., funext fun R => arr_append R p p'⟩
theorem Arr.rev (h : Arr n k o) : Arr n k (fun R => (o R).reverse) := by
 obtain ⟨p, hp, rfl, rfl⟩ := h
 exact ⟨p.reverse, hp.reverse, Array.size_reverse .., funext fun R => arr_reverse R p⟩
theorem Arr.ex {i j : Run → Nat} {i0 j0 : Nat} (h : Arr n k o) (hi : ∀ R, i R = i0) (hj : ∀ R, j R = j0) (h2 : j0 ≤ k) : Arr n (j0 - i0) (fun R => (o R).extract (i R) (j R)) := by
 obtain ⟨p, hp, rfl, rfl⟩ := h
 refine ⟨p.extract i0 j0, hp.extract, ?_, funext fun R => ?_⟩
 ·rw [Array.size_extract]; lia
 ·rw [hi, hj]; exact arr_extract R p i0 j0
theorem Arr.one (hx : El n x) : Arr n 1 (fun R => #[x R]) := by
 obtain ⟨i, hi, rfl⟩ := hx
 exact ⟨#[i], Low.one hi, rfl, funext fun R => arr_one R i⟩
end
section
variable {α : Type} {q : Pos'} {Post : (Run → α) → Pos' → Prop} {o : Run → Array Keyed} {x y : Run → Keyed} {k : Nat}
theorem ruleB {t : String} {f : Run → Unit → StateT SortSt Sem α} (h : Det L n (fun R => f R ()) q Post) : Det L n (fun R => (liftM (PySem.rule t) : StateT SortSt Sem Unit) >>= f R) q Post := Det.bind (Det.rule h)
theorem getB {f : Run → SortSt → StateT SortSt Sem α} (h : Det L n (fun R => f R (R.st q)) q Post) : Det L n (fun R => (get : StateT SortSt Sem SortSt) >>= f R) q Post := Det.bind (Det.get h)
theorem setMgB {m : Run → Nat} (m0 : Nat) {g : Nat} {f : Run → PUnit → StateT SortSt Sem α} (hm : ∀ R, m R = m0) (h : Det L n (fun R => f R ⟨⟩) (SetMg q m0) Post) : Det L n (fun R => setMinGallop' (m R) >>= f R) (SetMg q g) Post := by
 rw [show m = fun _ => m0 from funext hm]
 exact Det.bind (setMg_ h)
theorem elemB {i : Run → Nat} (i0 : Nat) {f : Run → Keyed → StateT SortSt Sem α} (ho : Arr n k o) (hi : ∀ R, i R = i0) (hk : i0 < k) (h : ∀ x, El n x → Det L n (fun R => f R (x R)) q Post) : Det L n (fun R => elem' (o R) (i R) >>= f R) q Post := by
 obtain ⟨p, hp, rfl, rfl⟩ := ho
 rw [show i = fun _ => i0 from funext hi]
 exact Det.bind (Det.elem hk (h _ ⟨_, hp _ hk, rfl⟩))
theorem ltB {f : Run → Option Bool → StateT SortSt Sem α} (hx : El n x) (hy : El n y) (h : ∀ b, Det L n (fun R => f R (some b)) q Post) : Det L n (fun R => lt' (x R) (y R) >>= f R) q Post := by
 obtain ⟨i, hi, rfl⟩ := hx; obtain ⟨j, hj, rfl⟩ := hy
 exact Det.bind (Det.lt hi hj (h _))
theorem gallopB {left : Bool} {b m d : Run → Nat} (b0 m0 d0 : Nat) {f : Run → Option Nat → StateT SortSt Sem α} (hx : El n x) (ho : Arr n k o) (hb : ∀ R, b R = b0) (hm : ∀ R, m R = m0) (hd : ∀ R, d R = d0) (h1 : b0 + m0 ≤ k) (h2 : d0 < m0)
  (h : ∀ r, r ≤ m0 → Det L n (fun R => f R (some r)) q Post) : Det L n (fun R => gallop' left (x R) (o R) (b R) (m R) (d R) >>= f R) q Post := by
 obtain ⟨i, hi, rfl⟩ := hx; obtain ⟨p, hp, rfl, rfl⟩ := ho
 rw [show b = fun _ => b0 from funext hb, show m = fun _ => m0 from funext hm, show d = fun _ => d0 from funext hd]
 exact Det.bind (gallop_ hi hp h1 h2 h)
theorem iteN (c0 : Prop) {c : Run → Prop} {inst : ∀ R, Decidable (c R)} {t e : Run → StateT SortSt Sem α} (hc : ∀ R, c R ↔ c0) (h1 : c0 → Det L n t q Post) (h2 : ¬ c0 → Det L n e q Post) : Det L n (fun R => @ite _ (c R) (inst R) (t R) (e R)) q Post := by
 by_cases h : c0
 ·rw [show (fun R => @ite _ (c R) (inst R) (t R) (e R)) = t from funext fun R => if_pos ((hc R).mpr h)]; exact h1 h
 ·rw [show (fun R => @ite _ (c R) (inst R) (t R) (e R)) = e from funext fun R => if_neg (fun x => h ((hc R).mp x))]; exact h2 h
theorem eqN {a b : Run → Nat} {a0 b0 : Nat} (ha : ∀ R, a R = a0) (hb : ∀ R, b R = b0) : ∀ R, ((a R == b R) = true) ↔ a0 = b0 := fun R => by rw [ha, hb]; exact beq_iff_eq
theorem rangeC {β : Type} {b : Run → Nat} (B : Nat) {f : Run → Nat → β → StateT SortSt Sem (ForInStep β)} {g : Run → β → StateT SortSt Sem α} {c : Run → β} (hb : ∀ R, b R = B) (I : Nat → (Run → β) → Pos' → Prop) (J : (Run → β) → Pos' → Prop) (h : I 0 c q)
  (hstep : ∀ i c q, i < B → I i c q → Det L n (fun R => f R i (c R)) q (fun r q' => (∃ c', r = (fun R => .done (c' R)) ∧ J c' q') ∨ (∃ c', r = (fun R => .yield (c' R)) ∧ I (i + 1) c' q')))
  (hend : ∀ c q, I B c q → J c q) (hg : ∀ c q, J c q → Det L n (fun R => g R (c R)) q Post) : Det L n (fun R => forIn [0:b R] (c R) (f R) >>= g R) q Post := by
 rw [show b = fun _ => B from funext hb]
 exact Det.rangeB I J h (fun i c q _ => hstep i c q) (fun c q h => hend c q (by rwa [Nat.zero_max] at h)) hg
end
section
variable {α : Type} {q : Pos'} {Post : (Run → α) → Pos' → Prop}
theorem iteJ1 {F T G : Run → Nat → StateT SortSt Sem α} {c : Run → Nat → Prop} {inst : ∀ R m, Decidable (c R m)} (c0 : Nat → Prop) (m' : Nat → Nat) (e : ∀ R m, F R m = @ite _ (c R m) (inst R m) (T R m) (G R m)) (hc : ∀ R m, c R m ↔ c0 m) (eT : ∀ R m, T R m = G R (m' m)) (key : ∀ m, Det L n (fun R => G R m) q Post) :
  ∀ m, Det L n (fun R => F R m) q Post := fun m => by
 rw [show (fun R => F R m) = fun R => @ite _ (c R m) (inst R m) (T R m) (G R m) from funext fun R => e R m, show (fun R => @ite _ (c R m) (inst R m) (T R m) (G R m)) = fun R => @ite _ (c R m) (inst R m) (G R (m' m)) (G R m) from funext fun R => by rw [eT]]
 exact iteN (c0 m) (fun R => hc R m) (fun _ => key _) (fun _ => key m)
theorem iteJ2 {F T G : Run → (Run → Array Keyed) → Nat → StateT SortSt Sem α} {I : (Run → Array Keyed) → Nat → Prop} {c : Run → (Run → Array Keyed) → Nat → Prop} {inst : ∀ R o i, Decidable (c R o i)} (c0 : Nat → Prop) (I' : (Run → Array Keyed) → Nat → Prop)
  (e : ∀ R o i, F R o i = @ite _ (c R o i) (inst R o i) (T R o i) (G R o i)) (hc : ∀ R o i, c R o i ↔ c0 i) (hI : ∀ o i, I o i → I' o i) (key : ∀ o i, I' o i → Det L n (fun R => G R o i) q Post) (main : (∀ o i, I' o i → Det L n (fun R => G R o i) q Post) → ∀ o i, c0 i → I o i → Det L n (fun R => T R o i) q Post) :
  ∀ o i, I o i → Det L n (fun R => F R o i) q Post := fun o i h => by
 rw [show (fun R => F R o i) = fun R => @ite _ (c R o i) (inst R o i) (T R o i) (G R o i) from funext fun R => e R o i]
 exact iteN (c0 i) (fun R => hc R o i) (fun h0 => main key o i h0 h) (fun _ => key o i (hI o i h))
end
section
variable {q : Pos'} {na nb : Nat} {γ : Type}
inductive MI (n : Nat) (q : Pos') (na nb : Nat) {γ : Type} (lo : Nat) : (Run → Option (Array Keyed) × Array Keyed × Nat × Nat × γ) → Pos' → Prop
 | mk (o : Run → Array Keyed) (ia ib : Nat) (x : γ) (g : Nat) (h : Arr n (ia + ib) o) (ha : ia + 1 < na) (hb : ib < nb) (hl : lo ≤ ia + ib) : MI n q na nb lo (fun R => (none, o R, ia, ib, x)) (SetMg q g)
inductive MR (n : Nat) (q : Pos') (T : Nat) {γ : Type} : (Run → Option (Array Keyed) × γ) → Pos' → Prop
 | mk (o : Run → Array Keyed) (r : Run → γ) (g : Nat) (h : Arr n T o) : MR n q T (fun R => (some (o R), r R)) (SetMg q g)
variable {a b o : Run → Array Keyed}
theorem lo_done {i j : Run → Nat} (i0 j0 : Nat) (ha : Arr n na a) (hb : Arr n nb b) (ho : Arr n (i0 + j0) o) (hi : ∀ R, i R = i0) (hj : ∀ R, j R = j0) (h1 : i0 ≤ na) (h2 : j0 ≤ nb) : Arr n (na + nb) (fun R => o R ++ (a R).extract (i R) (a R).size ++ (b R).extract (j R) (b R).size) :=
 ((ho.append (ha.ex hi ha.size (Nat.le_refl _))).append (hb.ex hj hb.size (Nat.le_refl _))).cast (by rw [Nat.add_right_comm i0, Nat.add_sub_cancel' h1, Nat.add_assoc, Nat.add_sub_cancel' h2])
theorem lo_last {i j : Run → Nat} (i0 j0 : Nat) (ha : Arr n na a) (hb : Arr n nb b) (ho : Arr n (i0 + j0) o) (hi : ∀ R, i R = i0) (hj : ∀ R, j R = j0) (h1 : i0 ≤ na) (h2 : j0 ≤ nb) : Arr n (na + nb) (fun R => o R ++ (b R).extract (j R) (b R).size ++ (a R).extract (i R) (a R).size) :=
 ((ho.append (hb.ex hj hb.size (Nat.le_refl _))).append (ha.ex hi ha.size (Nat.le_refl _))).cast (by rw [Nat.add_assoc i0, Nat.add_sub_cancel' h2, Nat.add_right_comm, Nat.add_sub_cancel' h1])
inductive HI (n : Nat) (q : Pos') (na nb : Nat) {γ : Type} (lo : Nat) : (Run → Option (Array Keyed) × Nat × Nat × Array Keyed × γ) → Pos' → Prop
 | mk (o : Run → Array Keyed) (k p s : Nat) (x : γ) (g : Nat) (h : Arr n k o) (hs : k + p + s + 3 = na + nb) (hA : p < na) (hB : s + 1 < nb) (hl : lo ≤ k) : HI n q na nb lo (fun R => (none, p + 1, s + 2, o R, x)) (SetMg q g)
theorem HI.of {γ : Type} {lo ia ib : Nat} {x : γ} {q' : Pos'} {i j : Run → Nat} {m : Run → γ} (hi : ∀ R, i R = ia) (hj : ∀ R, j R = ib) (hm : ∀ R, m R = x) (h : HI n q na nb lo (fun R => (none, ia, ib, o R, x)) q') : HI n q na nb lo (fun R => (none, i R, j R, o R, m R)) q' := by
 rw [show i = fun _ => ia from funext hi, show j = fun _ => ib from funext hj, show m = fun _ => x from funext hm]; exact h
theorem hi_done {i j : Run → Nat} (i0 j0 : Nat) {k : Nat} (ha : Arr n na a) (hb : Arr n nb b) (ho : Arr n k o) (hi : ∀ R, i R = i0) (hj : ∀ R, j R = j0) (hs : k + i0 + j0 = na + nb) (h1 : i0 ≤ na) (h2 : j0 ≤ nb) : Arr n (na + nb) (fun R => (a R).extract 0 (i R) ++ (b R).extract 0 (j R) ++ (o R).reverse) :=
 (((ha.ex (fun _ => rfl) hi h1).append (hb.ex (fun _ => rfl) hj h2)).append ho.rev).cast (by lia)
theorem hi_first {i j : Run → Nat} (i0 j0 : Nat) {k : Nat} (ha : Arr n na a) (hb : Arr n nb b) (ho : Arr n k o) (hi : ∀ R, i R = i0) (hj : ∀ R, j R = j0) (hs : k + i0 + j0 = na + nb) (h1 : i0 ≤ na) (h2 : j0 ≤ nb) : Arr n (na + nb) (fun R => (b R).extract 0 (j R) ++ (a R).extract 0 (i R) ++ (o R).reverse) :=
 (((hb.ex (fun _ => rfl) hj h2).append (ha.ex (fun _ => rfl) hi h1)).append ho.rev).cast (by lia)
end
section
noncomputable abbrev BI := Option (Array Keyed) × Array Keyed × Nat × Nat × Nat × Nat
noncomputable abbrev BG := Option (Array Keyed) × Array Keyed × Nat × Nat × Nat × Nat × Nat
noncomputable abbrev BO := Option (Array Keyed) × Array Keyed × Nat × Nat × Nat
noncomputable def mgOf : SortSt → Nat := sortPriv% PySem.Builtin.SortState.minGallop
variable (a b : Array Keyed)
noncomputable def lD (o : Array Keyed) (i j : Nat) : Array Keyed := o ++ a.extract i a.size ++ b.extract j b.size
noncomputable def lA (o : Array Keyed) (i j : Nat) : Array Keyed := o ++ b.extract j b.size ++ a.extract i a.size
noncomputable def lo1 (g : Nat) (o : Array Keyed) (i j v : Nat) (x : Keyed) : SM (ForInStep BI) := if (j + 1 == b.size) = true then pure (.done (some (lD a b (o.push x) i (j + 1)), o.push x, i, j + 1, 0, v + 1)) else if v + 1 ≥ g then pure (.done (none, o.push x, i, j + 1, 0, v + 1)) else pure (.yield (none, o.push x, i, j + 1, 0, v + 1))
noncomputable def lo2 (g : Nat) (o : Array Keyed) (i j u : Nat) (x : Keyed) : SM (ForInStep BI) := if (i + 1 + 1 == a.size) = true then pure (.done (some (lA a b (o.push x) (i + 1) j), o.push x, i + 1, j, u + 1, 0)) else if u + 1 ≥ g then pure (.done (none, o.push x, i + 1, j, u + 1, 0)) else pure (.yield (none, o.push x, i + 1, j, u + 1, 0))
noncomputable def lo3 (g : Nat) (o : Array Keyed) (i j u v : Nat) (w : Option Bool) : SM (ForInStep BI) := match w with
 | some w => if w = true then elem' b j >>= lo1 a b g o i j v else elem' a i >>= lo2 a b g o i j u
 | _ => pure (.done (some (lD a b o i j), o, i, j, u, v))
noncomputable def lo4 (g : Nat) : BI → SM (ForInStep BI)
 | (_, o, i, j, u, v) => elem' b j >>= fun x => elem' a i >>= fun y => lt' x y >>= lo3 a b g o i j u v
noncomputable def lo5 (g : Nat) (o : Array Keyed) (i j u v : Nat) (x : Keyed) : SM (ForInStep BG) := if (i + 1 + 1 == a.size) = true then pure (.done (some (lA a b (o.push x) (i + 1) j), o.push x, i + 1, j, g, u, v)) else if (decide (u < 7) && decide (v < 7)) = true then pure (.done (none, o.push x, i + 1, j, g, u, v)) else pure (.yield (none, o.push x, i + 1, j, g, u, v))
noncomputable def lo6 (g i u v : Nat) (o : Array Keyed) (j : Nat) : SM (ForInStep BG) := elem' a i >>= lo5 a b g o i j u v
noncomputable def lo7 (g : Nat) (o : Array Keyed) (i j u v : Nat) (w : Option Nat) : SM (ForInStep BG) := match w with
 | some k => if k > 0 then if (j + k == b.size) = true then pure (.done (some (lD a b (o ++ b.extract j (j + k)) i (j + k)), o ++ b.extract j (j + k), i, j + k, g, u, k)) else lo6 a b g i u k (o ++ b.extract j (j + k)) (j + k) else lo6 a b g i u k o j
 | _ => pure (.done (some (lD a b o i j), o, i, j, g, u, v))
noncomputable def lo8 (g j u v : Nat) (o : Array Keyed) (i : Nat) : SM (ForInStep BG) := elem' b j >>= fun x => if (j + 1 == b.size) = true then pure (.done (some (lD a b (o.push x) i (j + 1)), o.push x, i, j + 1, g, u, v)) else elem' a i >>= fun y => gallop' true y b (j + 1) (b.size - (j + 1)) 0 >>= lo7 a b g (o.push x) i (j + 1) u v
noncomputable def lo9 (g : Nat) (o : Array Keyed) (i j u v : Nat) (w : Option Nat) : SM (ForInStep BG) := match w with
 | some k => if k > 0 then if (i + k + 1 == a.size) = true then pure (.done (some (lA a b (o ++ a.extract i (i + k)) (i + k) j), o ++ a.extract i (i + k), i + k, j, g, k, v)) else if (i + k == a.size) = true then pure (.done (some (lD a b (o ++ a.extract i (i + k)) (i + k) j), o ++ a.extract i (i + k), i + k, j, g, k, v)) else lo8 a b g j k v (o ++ a.extract i (i + k)) (i + k) else lo8 a b g j k v o i
 | _ => pure (.done (some (lD a b o i j), o, i, j, g, u, v))
noncomputable def lo10 (o : Array Keyed) (i j u v g : Nat) : SM (ForInStep BG) := setMinGallop' g >>= fun _ => elem' b j >>= fun x => gallop' false x a i (a.size - i) 0 >>= lo9 a b g o i j u v
noncomputable def lo11 : BG → SM (ForInStep BG)
 | (_, o, i, j, g, u, v) => if g > 1 then lo10 a b o i j u v (g - 1) else lo10 a b o i j u v g
noncomputable def lo12 : BG → SM (ForInStep BO)
 | (some r, o, i, j, g, _) => pure (.done (some r, o, i, j, g))
 | (none, o, i, j, g, _) => setMinGallop' (g + 1) >>= fun _ => pure (.yield (none, o, i, j, g + 1))
noncomputable def lo13 (g : Nat) : BI → SM (ForInStep BO)
 | (some r, o, i, j, _) => pure (.done (some r, o, i, j, g))
 | (none, o, i, j, u, v) => (liftM (PySem.rule "list.sort.gallop") : SM Unit) >>= fun _ => forIn [0:a.size + b.size] ((none, o, i, j, g + 1, u, v) : BG) (fun _ s => lo11 a b s) >>= lo12
noncomputable def lo14 : BO → SM (ForInStep BO)
 | (_, o, i, j, g) => forIn [0:a.size + b.size] ((none, o, i, j, 0, 0) : BI) (fun _ s => lo4 a b g s) >>= lo13 a b g
noncomputable def lo15 : BO → SM (Array Keyed)
 | (some r, _) => pure r
 | (none, _) => liftM (PySem.unsupported "internal:list.sort.merge-bound" : Sem (Array Keyed))
noncomputable def lo0 : SM (Array Keyed) := (liftM (PySem.rule "list.sort.merge-lo") : SM Unit) >>= fun _ => elem' b 0 >>= fun x => if (1 == b.size) = true then pure (lD a b #[x] 0 1) else if (0 + 1 == a.size) = true then pure (lA a b #[x] 0 1) else (get : SM SortSt) >>= fun st => forIn [0:a.size + b.size] ((none, #[x], 0, 1, mgOf st) : BO) (fun _ s => lo14 a b s) >>= lo15
theorem lo_eq : mergeLo' a b = lo0 a b := by kernel_rfl
end
theorem mergeLo2 {q : Pos'} {a b : Run → Array Keyed} {na nb : Nat} {Post : (Run → Array Keyed) → Pos' → Prop} (ha : Arr n na a) (hb : Arr n nb b) (h0 : 1 ≤ na) (h1 : 1 ≤ nb)
  (h : ∀ o g, Arr n (na + nb) o → Post o (SetMg q g)) : Det L n (fun R => mergeLo' (a R) (b R)) q Post := by
 rw [show (fun R => mergeLo' (a R) (b R)) = fun R => lo0 (a R) (b R) from funext fun R => lo_eq _ _]
 refine ruleB ?_
 refine elemB 0 hb (fun _ => rfl) h1 fun x hx => ?_
 refine iteN (1 = nb) (eqN (fun _ => rfl) hb.size) (fun e => ?_) (fun e => ?_)
 ·exact Det.pure (h _ q.mg (lo_done 0 1 ha hb (.one hx) (fun _ => rfl) (fun _ => rfl) (Nat.zero_le _) h1))
 refine iteN (1 = na) (eqN (fun _ => rfl) ha.size) (fun e' => ?_) (fun e' => ?_)
 ·exact Det.pure (h _ q.mg (lo_last 0 1 ha hb (.one hx) (fun _ => rfl) (fun _ => rfl) (Nat.zero_le _) h1))
 refine getB ?_
 refine rangeC (na + nb) (fun R => by rw [ha.size, hb.size]) (fun i => MI n q na nb (i + 1)) (MR n q (na + nb)) (.mk _ 0 1 q.mg q.mg (.one hx) (by lia) (by lia) (Nat.le_refl _)) ?_ ?_ ?_
 ·rintro i _ _ hi ⟨o, ia, ib, mg, g, ho, hia, hib, hl⟩
  refine rangeC (na + nb) (fun R => by rw [ha.size, hb.size]) (fun j => MI n q na nb (ia + ib + j)) (fun c q' => MR n q (na + nb) c q' ∨ MI n q na nb (ia + ib + 1) c q') (.mk o ia ib _ g ho hia hib (Nat.le_refl _)) ?_ ?_ ?_
  ·rintro j _ _ hj ⟨o, ia, ib, ⟨ac, bc⟩, g, ho, hia, hib, hl⟩
   refine elemB ib hb (fun _ => rfl) hib fun x hx => elemB ia ha (fun _ => rfl) (by lia) fun y hy => ltB hx hy fun w => ?_
   refine iteN (w = true) (fun _ => Iff.rfl) (fun _ => ?_) (fun _ => ?_)
   ·refine elemB ib hb (fun _ => rfl) hib fun x hx => ?_
    refine iteN (ib + 1 = nb) (eqN (fun _ => rfl) hb.size) (fun e => ?_) (fun e => ?_)
    ·exact Det.pure (.inl ⟨_, rfl, .inl (.mk _ _ g (lo_done ia (ib + 1) ha hb (ho.push hx) (fun _ => rfl) (fun _ => rfl) (by lia) hib))⟩)
    ·refine iteN (mg ≤ bc + 1) (fun _ => Iff.rfl) (fun _ => ?_) (fun _ => ?_)
     ·refine Det.pure (.inl ⟨_, rfl, .inr ?_⟩); exact .mk _ ia (ib + 1) (0, bc + 1) g (ho.push hx) hia (by lia) (by lia)
     ·refine Det.pure (.inr ⟨_, rfl, ?_⟩); exact .mk _ ia (ib + 1) (0, bc + 1) g (ho.push hx) hia (by lia) (by lia)
   ·refine elemB ia ha (fun _ => rfl) (by lia) fun x hx => ?_
    have ho' : Arr n (ia + 1 + ib) (fun R => (o R).push (x R)) := (ho.push hx).cast (by lia)
    refine iteN (ia + 1 + 1 = na) (eqN (fun _ => rfl) ha.size) (fun e => ?_) (fun e => ?_)
    ·exact Det.pure (.inl ⟨_, rfl, .inl (.mk _ _ g (lo_last (ia + 1) ib ha hb ho' (fun _ => rfl) (fun _ => rfl) (by lia) (by lia)))⟩)
    ·refine iteN (mg ≤ ac + 1) (fun _ => Iff.rfl) (fun _ => ?_) (fun _ => ?_)
     ·refine Det.pure (.inl ⟨_, rfl, .inr ?_⟩); exact .mk _ (ia + 1) ib (ac + 1, 0) g ho' (by lia) hib (by lia)
     ·refine Det.pure (.inr ⟨_, rfl, ?_⟩); exact .mk _ (ia + 1) ib (ac + 1, 0) g ho' (by lia) hib (by lia)
  ·rintro _ _ ⟨o, ia, ib, x, g, ho, hia, hib, hl⟩
   lia
  ·rintro _ _ (⟨o, r, g, ho⟩ | ⟨o, ia, ib, ⟨ac, bc⟩, g, ho, hia, hib, hl⟩)
   ·refine Det.pure (.inl ⟨_, rfl, ?_⟩); exact .mk o _ g ho
   ·refine ruleB ?_
    refine rangeC (na + nb) (fun R => by rw [ha.size, hb.size]) (fun j => MI n q na nb (i + 2)) (fun c q' => MR n q (na + nb) c q' ∨ MI n q na nb (i + 2) c q') (.mk o ia ib (mg + 1, ac, bc) g ho hia hib (by lia)) ?_ (fun _ _ h => .inr h) ?_
    ·rintro j _ _ hj ⟨o, ia, ib, ⟨mg, ac, bc⟩, g, ho, hia, hib, hl⟩
     revert mg
     refine' iteJ1 (fun mg => 1 < mg) (fun mg => mg - 1) ?e ?hc ?eT ?key
     case e => exact fun _ _ => rfl
     case hc => exact fun _ _ => Iff.rfl
     case eT => exact fun _ _ => rfl
     intro mg
     refine setMgB mg (fun _ => rfl) ?_
     refine elemB ib hb (fun _ => rfl) hib fun x hx => ?_
     refine gallopB ia (na - ia) 0 hx ha (fun _ => rfl) (fun R => by rw [ha.size]) (fun _ => rfl) (Nat.le_of_eq (Nat.add_sub_cancel' (Nat.le_of_lt (Nat.lt_of_succ_lt hia)))) (Nat.sub_pos_of_lt (Nat.lt_of_succ_lt hia)) fun k hk => ?_
     have hI : (Arr n (ia + ib) o ∧ ia + 1 < na ∧ i + 2 ≤ ia + ib) ∧ k ≤ na - ia := ⟨⟨ho, hia, hl⟩, hk⟩
     clear ho hia hl hk
     revert o ia
     refine' iteJ2 (fun _ => 0 < k) (fun o ia => Arr n (ia + ib) o ∧ ia + 1 < na ∧ i + 2 ≤ ia + ib) ?e2 ?hc2 ?hI2 ?key2 ?main2
     case e2 => exact fun _ _ _ => rfl
     case hc2 => exact fun _ _ _ => Iff.rfl
     case hI2 => exact fun _ _ h => h.1
     case main2 =>
      rintro key o ia hk0 ⟨⟨ho, hia, hl⟩, hk⟩
      replace hk := Nat.add_le_of_le_sub' (Nat.le_of_lt (Nat.lt_of_succ_lt hia)) hk
      have ho' : Arr n (ia + k + ib) (fun R => o R ++ (a R).extract ia (ia + k)) := (ho.append (ha.ex (i0 := ia) (j0 := ia + k) (fun _ => rfl) (fun _ => rfl) hk)).cast (by rw [Nat.add_sub_cancel_left, Nat.add_right_comm])
      refine iteN (ia + k + 1 = na) (eqN (fun _ => rfl) ha.size) (fun e => ?_) (fun e => ?_)
      ·exact Det.pure (.inl ⟨_, rfl, .inl (.mk _ _ mg (lo_last (ia + k) ib ha hb ho' (fun _ => rfl) (fun _ => rfl) (by lia) (by lia)))⟩)
      refine iteN (ia + k = na) (eqN (fun _ => rfl) ha.size) (fun e => ?_) (fun e => ?_)
      ·exact Det.pure (.inl ⟨_, rfl, .inl (.mk _ _ mg (lo_done (ia + k) ib ha hb ho' (fun _ => rfl) (fun _ => rfl) (by lia) (by lia)))⟩)
      exact key (fun R => o R ++ (a R).extract ia (ia + k)) (ia + k) ⟨ho', by lia, by lia⟩
     rintro o ia ⟨ho, hia, hl⟩
     refine elemB ib hb (fun _ => rfl) hib fun x hx => ?_
     refine iteN (ib + 1 = nb) (eqN (fun _ => rfl) hb.size) (fun e => ?_) (fun e => ?_)
     ·exact Det.pure (.inl ⟨_, rfl, .inl (.mk _ _ mg (lo_done ia (ib + 1) ha hb (ho.push hx) (fun _ => rfl) (fun _ => rfl) (by lia) hib))⟩)
     refine elemB ia ha (fun _ => rfl) (by lia) fun y hy => ?_
     refine gallopB (ib + 1) (nb - (ib + 1)) 0 hy hb (fun _ => rfl) (fun R => by rw [hb.size]) (fun _ => rfl) (Nat.le_of_eq (Nat.add_sub_cancel' hib)) (Nat.sub_pos_of_lt (Nat.lt_of_le_of_ne hib e)) fun k' hk' => ?_
     replace hk' := Nat.add_le_of_le_sub' hib hk'
     refine iteN (0 < k') (fun _ => Iff.rfl) (fun _ => ?_) (fun _ => ?_)
     ·have ho' : Arr n (ia + (ib + 1 + k')) (fun R => (o R).push (x R) ++ (b R).extract (ib + 1) (ib + 1 + k')) := ((ho.push hx).append (hb.ex (i0 := ib + 1) (j0 := ib + 1 + k') (fun _ => rfl) (fun _ => rfl) hk')).cast (by rw [Nat.add_sub_cancel_left]; lia)
      refine iteN (ib + 1 + k' = nb) (eqN (fun _ => rfl) hb.size) (fun e => ?_) (fun e => ?_)
      ·exact Det.pure (.inl ⟨_, rfl, .inl (.mk _ _ mg (lo_done ia (ib + 1 + k') ha hb ho' (fun _ => rfl) (fun _ => rfl) (by lia) (by lia)))⟩)
      refine elemB ia ha (fun _ => rfl) (by lia) fun z hz => ?_
      have hz' : Arr n (ia + 1 + (ib + 1 + k')) (fun R => ((o R).push (x R) ++ (b R).extract (ib + 1) (ib + 1 + k')).push (z R)) := (ho'.push hz).cast (by lia)
      refine iteN (ia + 1 + 1 = na) (eqN (fun _ => rfl) ha.size) (fun e => ?_) (fun e => ?_)
      ·exact Det.pure (.inl ⟨_, rfl, .inl (.mk _ _ mg (lo_last (ia + 1) (ib + 1 + k') ha hb hz' (fun _ => rfl) (fun _ => rfl) (by lia) (by lia)))⟩)
      refine iteN ((decide (k < 7) && decide (k' < 7)) = true) (fun _ => Iff.rfl) (fun _ => ?_) (fun _ => ?_)
      ·refine Det.pure (.inl ⟨_, rfl, .inr ?_⟩); exact .mk _ (ia + 1) (ib + 1 + k') (mg, k, k') mg hz' (by lia) (by lia) (by lia)
      ·refine Det.pure (.inr ⟨_, rfl, ?_⟩); exact .mk _ (ia + 1) (ib + 1 + k') (mg, k, k') mg hz' (by lia) (by lia) (by lia)
     ·refine elemB ia ha (fun _ => rfl) (by lia) fun z hz => ?_
      have hz' : Arr n (ia + 1 + (ib + 1)) (fun R => ((o R).push (x R)).push (z R)) := ((ho.push hx).push hz).cast (by lia)
      refine iteN (ia + 1 + 1 = na) (eqN (fun _ => rfl) ha.size) (fun e => ?_) (fun e => ?_)
      ·exact Det.pure (.inl ⟨_, rfl, .inl (.mk _ _ mg (lo_last (ia + 1) (ib + 1) ha hb hz' (fun _ => rfl) (fun _ => rfl) (by lia) (by lia)))⟩)
      refine iteN ((decide (k < 7) && decide (k' < 7)) = true) (fun _ => Iff.rfl) (fun _ => ?_) (fun _ => ?_)
      ·refine Det.pure (.inl ⟨_, rfl, .inr ?_⟩); exact .mk _ (ia + 1) (ib + 1) (mg, k, k') mg hz' (by lia) (by lia) (by lia)
      ·refine Det.pure (.inr ⟨_, rfl, ?_⟩); exact .mk _ (ia + 1) (ib + 1) (mg, k, k') mg hz' (by lia) (by lia) (by lia)
    ·rintro _ _ (⟨o, r, g, ho⟩ | ⟨o, ia, ib, ⟨mg, ac, bc⟩, g, ho, hia, hib, hl⟩)
     ·exact Det.pure (.inl ⟨_, rfl, .mk o _ g ho⟩)
     ·refine setMgB (mg + 1) (fun _ => rfl) ?_
      refine Det.pure (.inr ⟨_, rfl, ?_⟩); exact .mk o ia ib (mg + 1) _ ho hia hib hl
 ·rintro _ _ ⟨o, ia, ib, mg, g, ho, hia, hib, hl⟩
  lia
 ·rintro _ _ ⟨o, r, g, ho⟩
  exact Det.pure (h o g ho)
theorem mergeLo_ {q : Pos'} {pa pb : Array Nat} {Post : (Run → Array Keyed) → Pos' → Prop} (ha : Low n pa) (hb : Low n pb) (h0 : 1 ≤ pa.size) (h1 : 1 ≤ pb.size)
  (h : ∀ p' g, Low n p' → p'.size = pa.size + pb.size → Post (fun R => R.arr p') (SetMg q g)) : Det L n (fun R => mergeLo' (R.arr pa) (R.arr pb)) q Post :=
 mergeLo2 (.of ha) (.of hb) h0 h1 fun o g ⟨p, h1, h2, h3⟩ => h3 ▸ h p g h1 h2
end
section
noncomputable abbrev CI' := Option (Array Keyed) × Nat × Nat × Array Keyed × Nat × Nat
noncomputable abbrev CG := Option (Array Keyed) × Nat × Nat × Array Keyed × Nat × Nat × Nat
noncomputable abbrev CO := Option (Array Keyed) × Nat × Nat × Array Keyed × Nat
variable (a b : Array Keyed)
noncomputable def hD (o : Array Keyed) (p s : Nat) : Array Keyed := a.extract 0 p ++ b.extract 0 s ++ o.reverse
noncomputable def hB (o : Array Keyed) (p s : Nat) : Array Keyed := b.extract 0 s ++ a.extract 0 p ++ o.reverse
noncomputable def hi1 (g p s u : Nat) (o : Array Keyed) (x : Keyed) : SM (ForInStep CI') := if (p - 1 == 0) = true then pure (.done (some (hD a b (o.push x) (p - 1) s), p - 1, s, o.push x, u + 1, 0)) else if u + 1 ≥ g then pure (.done (none, p - 1, s, o.push x, u + 1, 0)) else pure (.yield (none, p - 1, s, o.push x, u + 1, 0))
noncomputable def hi2 (g p s v : Nat) (o : Array Keyed) (x : Keyed) : SM (ForInStep CI') := if (s - 1 == 1) = true then pure (.done (some (hB a b (o.push x) p (s - 1)), p, s - 1, o.push x, 0, v + 1)) else if v + 1 ≥ g then pure (.done (none, p, s - 1, o.push x, 0, v + 1)) else pure (.yield (none, p, s - 1, o.push x, 0, v + 1))
noncomputable def hi3 (g p s u v : Nat) (o : Array Keyed) (w : Option Bool) : SM (ForInStep CI') := match w with
 | some w => if w = true then elem' a (p - 1) >>= hi1 a b g p s u o else elem' b (s - 1) >>= hi2 a b g p s v o
 | _ => pure (.done (some (hD a b o p s), p, s, o, u, v))
noncomputable def hi4 (g : Nat) : CI' → SM (ForInStep CI')
 | (_, p, s, o, u, v) => elem' b (s - 1) >>= fun x => elem' a (p - 1) >>= fun y => lt' x y >>= hi3 a b g p s u v o
noncomputable def hi5 (g p s u v : Nat) (o : Array Keyed) (x : Keyed) : SM (ForInStep CG) := if (p - 1 == 0) = true then pure (.done (some (hD a b (o.push x) (p - 1) s), p - 1, s, o.push x, g, u, v)) else if (decide (u < 7) && decide (v < 7)) = true then pure (.done (none, p - 1, s, o.push x, g, u, v)) else pure (.yield (none, p - 1, s, o.push x, g, u, v))
noncomputable def hi6 (g p u v : Nat) (o : Array Keyed) (s : Nat) : SM (ForInStep CG) := elem' a (p - 1) >>= hi5 a b g p s u v o
noncomputable def hi7 (g p s u v : Nat) (o : Array Keyed) (w : Option Nat) : SM (ForInStep CG) := match w with
 | some t => if s - t > 0 then if (t == 1) = true then pure (.done (some (hB a b (o ++ (b.extract t s).reverse) p t), p, t, o ++ (b.extract t s).reverse, g, u, s - t)) else if (t == 0) = true then pure (.done (some (hD a b (o ++ (b.extract t s).reverse) p t), p, t, o ++ (b.extract t s).reverse, g, u, s - t)) else hi6 a b g p u (s - t) (o ++ (b.extract t s).reverse) t else hi6 a b g p u (s - t) o s
 | _ => pure (.done (some (hD a b o p s), p, s, o, g, u, v))
noncomputable def hi8 (g s u v : Nat) (o : Array Keyed) (p : Nat) : SM (ForInStep CG) := elem' b (s - 1) >>= fun x => if (s - 1 == 1) = true then pure (.done (some (hB a b (o.push x) p (s - 1)), p, s - 1, o.push x, g, u, v)) else elem' a (p - 1) >>= fun y => gallop' true y b 0 (s - 1) (s - 1 - 1) >>= hi7 a b g p (s - 1) u v (o.push x)
noncomputable def hi9 (g p s u v : Nat) (o : Array Keyed) (w : Option Nat) : SM (ForInStep CG) := match w with
 | some t => if p - t > 0 then if (t == 0) = true then pure (.done (some (hD a b (o ++ (a.extract t p).reverse) t s), t, s, o ++ (a.extract t p).reverse, g, p - t, v)) else hi8 a b g s (p - t) v (o ++ (a.extract t p).reverse) t else hi8 a b g s (p - t) v o p
 | _ => pure (.done (some (hD a b o p s), p, s, o, g, u, v))
noncomputable def hi10 (p s u v : Nat) (o : Array Keyed) (g : Nat) : SM (ForInStep CG) := setMinGallop' g >>= fun _ => elem' b (s - 1) >>= fun x => gallop' false x a 0 p (p - 1) >>= hi9 a b g p s u v o
noncomputable def hi11 : CG → SM (ForInStep CG)
 | (_, p, s, o, g, u, v) => if g > 1 then hi10 a b p s u v o (g - 1) else hi10 a b p s u v o g
noncomputable def hi12 : CG → SM (ForInStep CO)
 | (some r, p, s, o, g, _) => pure (.done (some r, p, s, o, g))
 | (none, p, s, o, g, _) => setMinGallop' (g + 1) >>= fun _ => pure (.yield (none, p, s, o, g + 1))
noncomputable def hi13 (g : Nat) : CI' → SM (ForInStep CO)
 | (some r, p, s, o, _) => pure (.done (some r, p, s, o, g))
 | (none, p, s, o, u, v) => (liftM (PySem.rule "list.sort.gallop") : SM Unit) >>= fun _ => forIn [0:a.size + b.size] ((none, p, s, o, g + 1, u, v) : CG) (fun _ s => hi11 a b s) >>= hi12
noncomputable def hi14 : CO → SM (ForInStep CO)
 | (_, p, s, o, g) => forIn [0:a.size + b.size] ((none, p, s, o, 0, 0) : CI') (fun _ s => hi4 a b g s) >>= hi13 a b g
noncomputable def hi15 : CO → SM (Array Keyed)
 | (some r, _) => pure r
 | (none, _) => liftM (PySem.unsupported "internal:list.sort.merge-bound" : Sem (Array Keyed))
noncomputable def hi0 : SM (Array Keyed) := (liftM (PySem.rule "list.sort.merge-hi") : SM Unit) >>= fun _ => elem' a (a.size - 1) >>= fun x => if (a.size - 1 == 0) = true then pure (hD a b #[x] (a.size - 1) b.size) else if (b.size == 1) = true then pure (hB a b #[x] (a.size - 1) b.size) else (get : SM SortSt) >>= fun st => forIn [0:a.size + b.size] ((none, a.size - 1, b.size, #[x], mgOf st) : CO) (fun _ s => hi14 a b s) >>= hi15
theorem hi_eq : mergeHi' a b = hi0 a b := by kernel_rfl
end
section
variable {L : Nat → Nat → Bool} {n : Nat}
theorem mergeHi2 {q : Pos'} {a b : Run → Array Keyed} {na nb : Nat} {Post : (Run → Array Keyed) → Pos' → Prop} (ha : Arr n na a) (hb : Arr n nb b) (h0 : 1 ≤ na) (h1 : 1 ≤ nb)
  (h : ∀ o g, Arr n (na + nb) o → Post o (SetMg q g)) : Det L n (fun R => mergeHi' (a R) (b R)) q Post := by
 rw [show (fun R => mergeHi' (a R) (b R)) = fun R => hi0 (a R) (b R) from funext fun R => hi_eq _ _]
 refine ruleB ?_
 refine elemB (na - 1) ha (fun R => by rw [ha.size]) (by lia) fun x hx => ?_
 refine iteN (na - 1 = 0) (eqN (fun R => by rw [ha.size]) (fun _ => rfl)) (fun e => ?_) (fun e => ?_)
 ·exact Det.pure (h _ q.mg (hi_done (na - 1) nb ha hb (.one hx) (fun R => by rw [ha.size]) hb.size (by lia) (by lia) (by lia)))
 refine iteN (nb = 1) (eqN hb.size (fun _ => rfl)) (fun e' => ?_) (fun e' => ?_)
 ·exact Det.pure (h _ q.mg (hi_first (na - 1) nb ha hb (.one hx) (fun R => by rw [ha.size]) hb.size (by lia) (by lia) (by lia)))
 refine getB ?_
 refine rangeC (na + nb) (fun R => by rw [ha.size, hb.size]) (fun i => HI n q na nb (i + 1)) (MR n q (na + nb)) ?_ ?_ ?_ ?_
 ·obtain ⟨p, rfl⟩ := ex2 (p := na) (fun q => absurd h0 (by rw [q]; decide)) fun q => e (by rw [q])
  obtain ⟨s, rfl⟩ := ex2 (p := nb) (fun q => absurd h1 (by rw [q]; decide)) e'
  refine HI.of (ia := p + 1) (ib := s + 2) (x := q.mg) (fun R => by rw [ha.size]; rfl) hb.size (fun R => rfl) ?_
  exact HI.mk _ 1 p s q.mg q.mg (.one hx) (by lia) (by lia) (by lia) (Nat.le_refl _)
 ·rintro i _ _ hi ⟨o, k, p, s, mg, g, ho, hs, hA, hB, hl⟩
  refine rangeC (na + nb) (fun R => by rw [ha.size, hb.size]) (fun j => HI n q na nb (i + 1 + j)) (fun c q' => MR n q (na + nb) c q' ∨ HI n q na nb (i + 2) c q') (.mk o k p s _ g ho hs hA hB hl) ?_ ?_ ?_
  ·rintro j _ _ hj ⟨o, k, p, s, ⟨ac, bc⟩, g, ho, hs, hA, hB, hl⟩
   refine elemB (s + 1) hb (fun _ => rfl) hB fun x hx => ?_
   refine elemB p ha (fun _ => rfl) hA fun y hy => ?_
   refine ltB hx hy fun w => ?_
   clear hi hj
   refine iteN (w = true) (fun _ => Iff.rfl) (fun _ => ?_) (fun _ => ?_)
   ·refine elemB p ha (fun _ => rfl) hA fun x hx => ?_
    refine iteN (p = 0) (eqN (fun _ => rfl) (fun _ => rfl)) (fun e => ?_) (fun e => ?_)
    ·exact Det.pure (.inl ⟨_, rfl, .inl (.mk _ _ g (hi_done p (s + 2) ha hb (ho.push hx) (fun _ => rfl) (fun _ => rfl) (by lia) (by lia) hB))⟩)
    obtain ⟨p, rfl⟩ := ex0 e
    refine iteN (mg ≤ ac + 1) (fun _ => Iff.rfl) (fun _ => ?_) (fun _ => ?_)
    ·refine Det.pure (.inl ⟨_, rfl, .inr ?_⟩); exact .mk _ (k + 1) p s (ac + 1, 0) g (ho.push hx) (by lia) (by lia) hB (by lia)
    ·refine Det.pure (.inr ⟨_, rfl, ?_⟩); exact .mk _ (k + 1) p s (ac + 1, 0) g (ho.push hx) (by lia) (by lia) hB (by lia)
   ·refine elemB (s + 1) hb (fun _ => rfl) hB fun x hx => ?_
    refine iteN (s + 1 = 1) (eqN (fun _ => rfl) (fun _ => rfl)) (fun e => ?_) (fun e => ?_)
    ·exact Det.pure (.inl ⟨_, rfl, .inl (.mk _ _ g (hi_first (p + 1) (s + 1) ha hb (ho.push hx) (fun _ => rfl) (fun _ => rfl) (by lia) hA (by lia)))⟩)
    obtain ⟨s, rfl⟩ := ex1 e
    refine iteN (mg ≤ bc + 1) (fun _ => Iff.rfl) (fun _ => ?_) (fun _ => ?_)
    ·refine Det.pure (.inl ⟨_, rfl, .inr ?_⟩); exact .mk _ (k + 1) p s (0, bc + 1) g (ho.push hx) (by lia) hA (by lia) (by lia)
    ·refine Det.pure (.inr ⟨_, rfl, ?_⟩); exact .mk _ (k + 1) p s (0, bc + 1) g (ho.push hx) (by lia) hA (by lia) (by lia)
  ·rintro _ _ ⟨o, k, p, s, x, g, ho, hs, hA, hB, hl⟩
   lia
  ·rintro _ _ (⟨o, r, g, ho⟩ | ⟨o, k, p, s, ⟨ac, bc⟩, g, ho, hs, hA, hB, hl⟩)
   ·refine Det.pure (.inl ⟨_, rfl, ?_⟩); exact .mk o _ g ho
   ·refine ruleB ?_
    refine rangeC (na + nb) (fun R => by rw [ha.size, hb.size]) (fun j => HI n q na nb (i + 2)) (fun c q' => MR n q (na + nb) c q' ∨ HI n q na nb (i + 2) c q') (.mk o k p s (mg + 1, ac, bc) g ho hs hA hB hl) ?_ (fun _ _ h => .inr h) ?_
    ·rintro j _ _ hj ⟨o, k, p, s, ⟨mg, ac, bc⟩, g, ho, hs, hA, hB, hl⟩
     revert mg
     refine' iteJ1 (fun mg => 1 < mg) (fun mg => mg - 1) ?e ?hc ?eT ?key
     case e => exact fun _ _ => rfl
     case hc => exact fun _ _ => Iff.rfl
     case eT => exact fun _ _ => rfl
     intro mg
     clear hi hj
     refine setMgB mg (fun _ => rfl) ?_
     refine elemB (s + 1) hb (fun _ => rfl) hB fun x hx => ?_
     refine gallopB 0 (p + 1) p hx ha (fun _ => rfl) (fun R => rfl) (fun _ => rfl) (by lia) (by lia) fun t ht => ?_
     unfold hi9
     dsimp only
     generalize hw : p + 1 - t = w
     have hI : (∃ k, Arr n k o ∧ k + p + s + 3 = na + nb ∧ p < na ∧ i + 2 ≤ k) ∧ t ≤ p + 1 ∧ p + 1 - t = w := ⟨⟨k, ho, hs, hA, hl⟩, ht, hw⟩
     clear ho hs hA hl ht hw k
     revert o p
     refine' iteJ2 (fun _ => 0 < w) (fun o p => ∃ k, Arr n k o ∧ k + p + s + 3 = na + nb ∧ p < na ∧ i + 2 ≤ k) ?e2 ?hc2 ?hI2 ?key2 ?main2
     case e2 => exact fun _ _ _ => rfl
     case hc2 => exact fun _ _ _ => Iff.rfl
     case hI2 => exact fun _ _ h => h.1
     case main2 =>
      rintro key o p hw0 ⟨⟨k, ho, hs, hA, hl⟩, ht, hw⟩
      have hq : t + w = p + 1 := hw ▸ Nat.add_sub_cancel' ht
      have ho' := ho.append (ha.ex (i0 := t) (j0 := p + 1) (fun _ => rfl) (fun _ => rfl) hA).rev
      refine iteN (t = 0) (eqN (fun _ => rfl) (fun _ => rfl)) (fun e => ?_) (fun e => ?_)
      ·exact Det.pure (.inl ⟨_, rfl, .inl (.mk _ _ mg (hi_done t (s + 2) ha hb ho' (fun _ => rfl) (fun _ => rfl) (by rw [hw]; clear hw; lia) (by clear hw; lia) hB))⟩)
      obtain ⟨t, rfl⟩ := ex0 e
      exact key (fun R => o R ++ ((a R).extract (t + 1) (p + 1)).reverse) t ⟨_, ho', by rw [hw]; clear hw; lia, by clear hw; lia, by rw [hw]; clear hw; lia⟩
     rintro o p ⟨k, ho, hs, hA, hl⟩
     refine elemB (s + 1) hb (fun _ => rfl) hB fun x hx => ?_
     refine iteN (s + 1 = 1) (eqN (fun _ => rfl) (fun _ => rfl)) (fun e => ?_) (fun e => ?_)
     ·exact Det.pure (.inl ⟨_, rfl, .inl (.mk _ _ mg (hi_first (p + 1) (s + 1) ha hb (ho.push hx) (fun _ => rfl) (fun _ => rfl) (by lia) hA (by lia)))⟩)
     refine elemB p ha (fun _ => rfl) hA fun y hy => ?_
     refine gallopB 0 (s + 1) s hy hb (fun _ => rfl) (fun R => rfl) (fun _ => rfl) (by lia) (by lia) fun u hu => ?_
     refine iteN (0 < s + 1 - u) (fun _ => Iff.rfl) (fun _ => ?_) (fun _ => ?_)
     ·have ho' := (ho.push hx).append (hb.ex (i0 := u) (j0 := s + 1) (fun _ => rfl) (fun _ => rfl) (Nat.le_of_lt hB)).rev
      have hq : u + (s + 1 - u) = s + 1 := Nat.add_sub_cancel' hu
      refine iteN (u = 1) (eqN (fun _ => rfl) (fun _ => rfl)) (fun e => ?_) (fun e1 => ?_)
      ·exact Det.pure (.inl ⟨_, rfl, .inl (.mk _ _ mg (hi_first (p + 1) u ha hb ho' (fun _ => rfl) (fun _ => rfl) (by revert hq; generalize s + 1 - u = d; intro hq; lia) hA (by clear hq; lia)))⟩)
      refine iteN (u = 0) (eqN (fun _ => rfl) (fun _ => rfl)) (fun e => ?_) (fun e => ?_)
      ·exact Det.pure (.inl ⟨_, rfl, .inl (.mk _ _ mg (hi_done (p + 1) u ha hb ho' (fun _ => rfl) (fun _ => rfl) (by revert hq; generalize s + 1 - u = d; intro hq; lia) hA (by clear hq; lia)))⟩)
      obtain ⟨v, rfl⟩ := ex2 e e1
      refine elemB p ha (fun _ => rfl) (by lia) fun z hz => ?_
      refine iteN (p = 0) (eqN (fun _ => rfl) (fun _ => rfl)) (fun e => ?_) (fun e => ?_)
      ·exact Det.pure (.inl ⟨_, rfl, .inl (.mk _ _ mg (hi_done p (v + 2) ha hb (ho'.push hz) (fun _ => rfl) (fun _ => rfl) (by revert hq; generalize s + 1 - (v + 2) = d; intro hq; lia) (by clear hq; lia) (by clear hq; lia)))⟩)
      obtain ⟨p, rfl⟩ := ex0 e
      refine iteN ((decide (w < 7) && decide (s + 1 - (v + 2) < 7)) = true) (fun _ => Iff.rfl) (fun _ => ?_) (fun _ => ?_)
      ·refine Det.pure (.inl ⟨_, rfl, .inr ?_⟩); exact .mk _ _ p (v) (mg, w, s + 1 - (v + 2)) mg (ho'.push hz) (by revert hq; generalize s + 1 - (v + 2) = d; intro hq; lia) (by clear hq; lia) (by clear hq; lia) (by clear hq; lia)
      ·refine Det.pure (.inr ⟨_, rfl, ?_⟩); exact .mk _ _ p (v) (mg, w, s + 1 - (v + 2)) mg (ho'.push hz) (by revert hq; generalize s + 1 - (v + 2) = d; intro hq; lia) (by clear hq; lia) (by clear hq; lia) (by clear hq; lia)
     ·obtain ⟨v, rfl⟩ : ∃ v', s = v' + 1 := ⟨s - 1, by lia⟩
      refine elemB p ha (fun _ => rfl) (by lia) fun z hz => ?_
      refine iteN (p = 0) (eqN (fun _ => rfl) (fun _ => rfl)) (fun e => ?_) (fun e => ?_)
      ·exact Det.pure (.inl ⟨_, rfl, .inl (.mk _ _ mg (hi_done p (v + 2) ha hb ((ho.push hx).push hz) (fun _ => rfl) (fun _ => rfl) (by lia) (by lia) (by lia)))⟩)
      obtain ⟨p, rfl⟩ := ex0 e
      refine iteN ((decide (w < 7) && decide (v + 1 + 1 - u < 7)) = true) (fun _ => Iff.rfl) (fun _ => ?_) (fun _ => ?_)
      ·refine Det.pure (.inl ⟨_, rfl, .inr ?_⟩); exact .mk _ _ p (v) (mg, w, v + 1 + 1 - u) mg ((ho.push hx).push hz) (by lia) (by lia) (by lia) (by lia)
      ·refine Det.pure (.inr ⟨_, rfl, ?_⟩); exact .mk _ _ p (v) (mg, w, v + 1 + 1 - u) mg ((ho.push hx).push hz) (by lia) (by lia) (by lia) (by lia)
    ·rintro _ _ (⟨o, r, g, ho⟩ | ⟨o, k, p, s, ⟨mg, ac, bc⟩, g, ho, hs, hA, hB, hl⟩)
     ·refine Det.pure (.inl ⟨_, rfl, ?_⟩); exact .mk o _ g ho
     ·refine setMgB (mg + 1) (fun _ => rfl) ?_
      refine Det.pure (.inr ⟨_, rfl, ?_⟩); exact .mk o k p s (mg + 1) _ ho hs hA hB hl
 ·rintro _ _ ⟨o, k, p, s, mg, g, ho, hs, hA, hB, hl⟩
  lia
 ·rintro _ _ ⟨o, r, g, ho⟩
  exact Det.pure (h o g ho)
theorem mergeHi_ {q : Pos'} {pa pb : Array Nat} {Post : (Run → Array Keyed) → Pos' → Prop} (ha : Low n pa) (hb : Low n pb) (h0 : 1 ≤ pa.size) (h1 : 1 ≤ pb.size)
  (h : ∀ p' g, Low n p' → p'.size = pa.size + pb.size → Post (fun R => R.arr p') (SetMg q g)) : Det L n (fun R => mergeHi' (R.arr pa) (R.arr pb)) q Post :=
 mergeHi2 (.of ha) (.of hb) h0 h1 fun o g ⟨p, h1, h2, h3⟩ => h3 ▸ h p g h1 h2
end
section
variable {L : Nat → Nat → Bool} {n : Nat}
structure Fine (n : Nat) (q : Pos') : Prop where
 low : Low n q.p
 size : q.p.size = n
theorem ltAt_ {q : Pos'} {i j : Nat} {Post : (Run → Option Bool) → Pos' → Prop} (f : Fine n q) (hi : i < n) (hj : j < n) (h : ∀ b, Post (fun _ => some b) q) : Det L n (fun R => ltAt' i j) q Post := by
 have e := f.size
 unfold ltAt'
 refine Det.bind (Det.get ?_)
 refine Det.bind (Det.elem (p := q.p) (by lia) ?_)
 refine Det.bind (Det.elem (p := q.p) (by lia) ?_)
 exact Det.lt (f.low _ (by lia)) (f.low _ (by lia)) (h _)
theorem rev_ {q : Pos'} {i j : Nat} {Post : (Run → Unit) → Pos' → Prop} (f : Fine n q) (h : ∀ p, Fine n { q with p := p } → Post (fun _ => ()) { q with p := p }) : Det L n (fun R => reverseSlice' i j) q Post := by
 refine Det.modify { q with p := kas_rev q.p i j } (fun R => ?_) (h _ ⟨?_, ?_⟩)
 ·show SortSt.mk' R.κ (mirror (q.p.map (kas_item R.v)) i j ((j - i) / 2)) q.pend q.mg none = SortSt.mk' R.κ ((mirror q.p i j ((j - i) / 2)).map (kas_item R.v)) q.pend q.mg none
  have e1 : mirror (q.p.map (kas_item R.v)) i j ((j - i) / 2) = (mirror q.p i j ((j - i) / 2)).map (kas_item R.v) := kas_swaps_map (kas_item R.v) (fun k => i + k) (fun k => j - 1 - k) _ q.p
  rw [e1]
 ·exact Low.of_mem fun k hk => f.low.mem k ((mirror_perm q.p i j _).mem_iff.mp hk)
 ·exact (mirror_size _ _ _ _).trans f.size
theorem move_ {q : Pos'} {k l : Nat} {Post : (Run → Unit) → Pos' → Prop} (f : Fine n q) (h : ∀ p, Fine n { q with p := p } → Post (fun _ => ()) { q with p := p }) : Det L n (fun R => moveDown' k l) q Post := by
 refine Det.modify { q with p := bubble q.p k (k - l) } (fun R => ?_) (h _ ⟨?_, ?_⟩)
 ·show SortSt.mk' R.κ (bubble (q.p.map (kas_item R.v)) k (k - l)) q.pend q.mg none = SortSt.mk' R.κ ((bubble q.p k (k - l)).map (kas_item R.v)) q.pend q.mg none
  have e1 : bubble (q.p.map (kas_item R.v)) k (k - l) = (bubble q.p k (k - l)).map (kas_item R.v) := kas_swaps_map (kas_item R.v) (fun i => k - i) (fun i => k - i - 1) _ q.p
  rw [e1]
 ·exact Low.of_mem fun i hi => f.low.mem i ((bubble_perm q.p k _).mem_iff.mp hi)
 ·exact (bubble_size _ _ _).trans f.size
noncomputable def Like (n : Nat) (q q' : Pos') : Prop := Fine n q' ∧ ∃ p, q' = { q with p := p }
theorem Like.fine {q q' : Pos'} (l : Like n q q') : Fine n q' := l.1
theorem Like.refl {q : Pos'} (f : Fine n q) : Like n q q := ⟨f, q.p, rfl⟩
theorem Like.to {q q' : Pos'} {p : Array Nat} (l : Like n q q') (f : Fine n { q' with p := p }) : Like n q { q' with p := p } := by
 obtain ⟨_, p', rfl⟩ := l
 exact ⟨f, p, rfl⟩
theorem binarySort_ {q : Pos'} {lo m ok : Nat} {Post : (Run → Bool) → Pos' → Prop} (f : Fine n q) (hm : lo + m ≤ n) (h : ∀ q', Like n q q' → Post (fun _ => true) q') : Det L n (fun R => binarySort' lo m ok) q Post := by
 unfold binarySort'
 refine Det.rangeB (I := fun i c q' => Like n q q' ∧ c = fun _ => (none, ())) (J := fun c q' => Like n q q' ∧ c = fun _ => (none, ())) ⟨.refl f, rfl⟩ ?_ (fun _ _ x => x) ?_
 ·rintro k c q1 hk0 hk ⟨l1, rfl⟩
  dsimp only
  refine Det.rangeB (I := fun i c q' => q1 = q' ∧ ∃ a b, b ≤ k ∧ c = fun _ => (none, a, b)) (J := fun c q' => q1 = q' ∧ ∃ a b, b ≤ k ∧ c = fun _ => (none, a, b)) ⟨rfl, _, _, Nat.le_refl _, rfl⟩ ?_ (fun _ _ x => x) ?_
  ·rintro i c _ hi0 hi ⟨rfl, a, b, hb, rfl⟩
   dsimp only
   kp_kind "sort"
   ·exact Det.pure (Or.inl ⟨_, rfl, rfl, _, _, hb, rfl⟩)
   ·kp_kind "sort"
    dsimp only
    kp_kind "sort"
    ·exact Det.pure (Or.inr ⟨_, rfl, rfl, _, _, by lia, rfl⟩)
    ·exact Det.pure (Or.inr ⟨_, rfl, rfl, _, _, by lia, rfl⟩)
  ·rintro c _ ⟨rfl, a, b, hb, rfl⟩
   dsimp only
   refine Det.bind (move_ l1.1 (fun p hp => ?_))
   exact Det.pure (Or.inr ⟨_, rfl, l1.to hp, rfl⟩)
 ·rintro c q' ⟨l, rfl⟩
  exact Det.pure (h q' l)
theorem Like.trans {q q' q'' : Pos'} (l : Like n q q') (l' : Like n q' q'') : Like n q q'' := by
 obtain ⟨_, p, rfl⟩ := l
 obtain ⟨f, p', rfl⟩ := l'
 exact ⟨f, p', rfl⟩
noncomputable def CI (n : Nat) (q : Pos') (lo hi : Nat) (c : Run → Option (Option Nat) × Nat) (q' : Pos') : Prop := Like n q q' ∧ ∃ m, lo ≤ m ∧ m ≤ hi ∧ c = fun _ => (none, m)
noncomputable def DI (n : Nat) (q : Pos') (lo hi : Nat) (c : Run → Option (Option Nat) × Nat × Nat) (q' : Pos') : Prop := Like n q q' ∧ ∃ m x, lo ≤ m ∧ m ≤ hi ∧ c = fun _ => (none, m, x)
section
variable (lo z : Nat)
noncomputable def cr1 : Option (Option Nat) × Nat → SM (ForInStep (Option (Option Nat) × Nat))
 | (_, m) => ltAt' (lo + m) (lo + m - 1) >>= fun w => match w with
  | some b => if b = true then pure (.done (none, m)) else pure (.yield (none, m + 1))
  | _ => pure (.done (some none, m))
noncomputable def cr2 : Option (Option Nat) × Nat → SM (Option Nat)
 | (some r, _) => pure r
 | (none, m) => pure (some m)
noncomputable def cr3 (m : Nat) : SM (Option Nat) := reverseSlice' lo (lo + m) >>= fun _ => forIn [m:z] ((none, m) : Option (Option Nat) × Nat) (fun _ s => cr1 lo s) >>= cr2
noncomputable def cr4 : Option (Option Nat) × Nat × Nat → SM (ForInStep (Option (Option Nat) × Nat × Nat))
 | (_, m, e) => ltAt' (lo + m) (lo + m - 1) >>= fun w => match w with
  | some b => if b = true then (if e > 0 then reverseSlice' (lo + m - (e + 1)) (lo + m) >>= fun _ => pure (.yield (none, m + 1, 0)) else pure (.yield (none, m + 1, 0))) else ltAt' (lo + m - 1) (lo + m) >>= fun w => match w with
   | some b => if b = true then pure (.done (none, m, e)) else pure (.yield (none, m + 1, e + 1))
   | _ => pure (.done (some none, m, e))
  | _ => pure (.done (some none, m, e))
noncomputable def cr5 : Option (Option Nat) × Nat × Nat → SM (Option Nat)
 | (some r, _) => pure r
 | (none, m, e) => if e > 0 then reverseSlice' (lo + m - (e + 1)) (lo + m) >>= fun _ => cr3 lo z m else cr3 lo z m
noncomputable def cr6 (m : Nat) : SM (Option Nat) := (liftM (PySem.rule "list.sort.descending-run") : SM Unit) >>= fun _ => forIn [m + 1:z] ((none, m + 1, 0) : Option (Option Nat) × Nat × Nat) (fun _ s => cr4 lo s) >>= cr5 lo z
noncomputable def cr7 : Option (Option Nat) × Nat → SM (Option Nat)
 | (some r, _) => pure r
 | (none, m) => if (m == z) = true then pure (some m) else if m > 1 then ltAt' lo (lo + m - 1) >>= fun w => match w with
   | some b => if b = true then pure (some m) else reverseSlice' lo (lo + m) >>= fun _ => cr6 lo z m
   | _ => pure none
  else cr6 lo z m
noncomputable def cr0 : SM (Option Nat) := forIn [1:z] ((none, 1) : Option (Option Nat) × Nat) (fun _ s => cr1 lo s) >>= cr7 lo z
theorem cr_eq : countRun' lo z = cr0 lo z := by kernel_rfl
end
section
variable {q q₁ : Pos'} {lo z m : Nat}
theorem cr1_ {q₁ : Pos'} {a : Nat} {Post : (Run → Option Nat) → Pos' → Prop} {g : Option (Option Nat) × Nat → SM (Option Nat)} (hm : lo + z ≤ n) (l : Like n q q₁) (h1 : 1 ≤ a) (h2 : a ≤ z) (h : ∀ m q', Like n q q' → 1 ≤ m → m ≤ z → Det L n (fun _ => g (none, m)) q' Post) : Det L n (fun R => forIn [a:z] ((none, a) : Option (Option Nat) × Nat) (fun _ s => cr1 lo s) >>= g) q₁ Post := by
 refine Det.rangeB (I := fun i c q' => CI n q i i c q') (J := fun c q' => CI n q 1 z c q') ⟨l, _, Nat.le_refl _, Nat.le_refl _, rfl⟩ ?_ ?_ ?_
 ·rintro i c q' hi0 hi ⟨l, m, h1, h2, rfl⟩
  unfold cr1
  dsimp only
  repeat' (first | kp_kind "sort" | dsimp only)
  ·exact Det.pure (Or.inl ⟨_, rfl, l, _, by lia, by lia, rfl⟩)
  ·exact Det.pure (Or.inr ⟨_, rfl, l, _, by lia, by lia, rfl⟩)
 ·rintro c q' ⟨l, m, h1, h2, rfl⟩
  exact ⟨l, m, by lia, by lia, rfl⟩
 ·rintro c q' ⟨l, m, h1, h2, rfl⟩
  exact h m q' l h1 h2
theorem cr3_ {Post : (Run → Option Nat) → Pos' → Prop} (hm : lo + z ≤ n) (l : Like n q q₁) (h1 : 1 ≤ m) (h2 : m ≤ z) (h : ∀ m q', Like n q q' → 1 ≤ m → m ≤ z → Post (fun _ => some m) q') : Det L n (fun R => cr3 lo z m) q₁ Post := by
 unfold cr3
 kp_kind "sort"
 exact cr1_ hm (by kp_kind "like") h1 h2 fun m q' l h1 h2 => Det.pure (h m q' l h1 h2)
theorem cr6_ {Post : (Run → Option Nat) → Pos' → Prop} (hm : lo + z ≤ n) (l : Like n q q₁) (h1 : 1 ≤ m) (h2 : m < z) (h : ∀ m q', Like n q q' → 1 ≤ m → m ≤ z → Post (fun _ => some m) q') : Det L n (fun R => cr6 lo z m) q₁ Post := by
 unfold cr6
 kp_kind "sort"
 refine Det.rangeB (I := fun i c q' => DI n q i i c q') (J := fun c q' => DI n q 1 z c q') ⟨l, _, _, Nat.le_refl _, Nat.le_refl _, rfl⟩ ?_ ?_ ?_
 ·rintro i c q' hi0 hi ⟨l, m, x, h1, h2, rfl⟩
  unfold cr4
  dsimp only
  repeat' (first | kp_kind "sort" | dsimp only)
  all_goals first
   | exact Det.pure (Or.inl ⟨_, rfl, by kp_kind "like", _, _, by lia, by lia, rfl⟩)
   | exact Det.pure (Or.inr ⟨_, rfl, by kp_kind "like", _, _, by lia, by lia, rfl⟩)
 ·rintro c q' ⟨l, m, x, h1, h2, rfl⟩
  exact ⟨l, m, x, by lia, by lia, rfl⟩
 ·rintro c q' ⟨l, m, x, h1, h2, rfl⟩
  unfold cr5
  dsimp only
  kp_kind "sort"
  ·kp_kind "sort"
   exact cr3_ hm (by kp_kind "like") h1 h2 h
  ·exact cr3_ hm l h1 h2 h
end
theorem countRun_ {q : Pos'} {lo nrem : Nat} {Post : (Run → Option Nat) → Pos' → Prop} (f : Fine n q) (h0 : 1 ≤ nrem) (hm : lo + nrem ≤ n) (h : ∀ m q', Like n q q' → 1 ≤ m → m ≤ nrem → Post (fun _ => some m) q') : Det L n (fun R => countRun' lo nrem) q Post := by
 rw [cr_eq]
 unfold cr0
 refine cr1_ hm (.refl f) (Nat.le_refl _) h0 fun m q' l h1 h2 => ?_
 unfold cr7
 dsimp only
 kp_kind "sort"
 ·exact Det.pure (h _ _ l (by lia) (by lia))
 kp_kind "sort"
 ·kp_kind "sort"
  dsimp only
  kp_kind "sort"
  ·exact Det.pure (h _ _ l (by lia) (by lia))
  ·kp_kind "sort"
   exact cr6_ hm (by kp_kind "like") h1 (by lia) h
 ·exact cr6_ hm l h1 (by lia) h
end
section
variable {L : Nat → Nat → Bool} {n : Nat}
noncomputable def Tiles (b : Nat) : Nat → List (Nat × Nat × Nat) → Prop
 | a, [] => a = b
 | a, (s, m, _) :: r => s = a ∧ 1 ≤ m ∧ Tiles b (a + m) r
theorem Tiles.app {b : Nat} : ∀ {l r : List (Nat × Nat × Nat)} {a : Nat}, Tiles b a (l ++ r) ↔ ∃ c, Tiles c a l ∧ Tiles b c r
 | [], r, a => ⟨fun h => ⟨a, rfl, h⟩, fun ⟨c, h1, h2⟩ => by cases h1; exact h2⟩
 | (s, m, w) :: l, r, a => by
  show (s = a ∧ 1 ≤ m ∧ Tiles b (a + m) (l ++ r)) ↔ ∃ c, (s = a ∧ 1 ≤ m ∧ Tiles c (a + m) l) ∧ Tiles b c r
  rw [Tiles.app]
  exact ⟨fun ⟨h1, h2, c, h3, h4⟩ => ⟨c, ⟨h1, h2, h3⟩, h4⟩, fun ⟨c, ⟨h1, h2, h3⟩, h4⟩ => ⟨h1, h2, c, h3, h4⟩⟩
theorem Tiles.le {b : Nat} : ∀ {l : List (Nat × Nat × Nat)} {a : Nat}, Tiles b a l → a ≤ b
 | [], a, h => Nat.le_of_eq h
 | (s, m, w) :: l, a, h => by have := Tiles.le h.2.2; lia
theorem fold_map (f : Nat → Keyed) (b : Nat) : ∀ (l : List Nat) (j : Nat) (xs : Array Nat), ((l.map f).zipIdx j).foldl (fun a x => a.setIfInBounds (b + x.2) x.1) (xs.map f) = ((l.zipIdx j).foldl (fun a x => a.setIfInBounds (b + x.2) x.1) xs).map f
 | [], _, _ => rfl
 | x :: l, j, xs => by
  show ((l.map f).zipIdx (j + 1)).foldl (fun a x => a.setIfInBounds (b + x.2) x.1) ((xs.map f).setIfInBounds (b + j) (f x)) = _
  rw [← Array.map_setIfInBounds]
  exact fold_map f b l (j + 1) _
theorem fold_fine (b : Nat) : ∀ (l : List Nat) (j : Nat) (xs : Array Nat), (∀ i ∈ l, i < n) → Low n xs → Low n ((l.zipIdx j).foldl (fun a x => a.setIfInBounds (b + x.2) x.1) xs) ∧ ((l.zipIdx j).foldl (fun a x => a.setIfInBounds (b + x.2) x.1) xs).size = xs.size
 | [], _, _, _, h => ⟨h, rfl⟩
 | x :: l, j, xs, hl, h => by
  have := fold_fine b l (j + 1) (xs.setIfInBounds (b + j) x) (fun i hi => hl i (.tail _ hi)) (Low.of_mem fun k hk => by
   rcases Array.mem_or_eq_of_mem_setIfInBounds hk with hk | rfl
   ·exact h.mem k hk
   ·exact hl _ (.head _))
  rw [Array.size_setIfInBounds] at this
  exact this
theorem mergeAt_ {q : Pos'} {i hi : Nat} {Post : (Run → Bool) → Pos' → Prop} (f : Fine n q) (ht : Tiles hi 0 q.pend.toList) (hn : hi ≤ n) (hi1 : i + 1 < q.pend.size)
  (h : ∀ q', Fine n q' → Tiles hi 0 q'.pend.toList → 1 ≤ q'.pend.size → Post (fun _ => true) q') : Det L n (fun R => mergeAt' i) q Post := by
 obtain ⟨⟨sa, na, w1⟩, e1⟩ : ∃ x, q.pend[i]? = some x := ⟨_, Array.getElem?_eq_getElem (by lia)⟩
 obtain ⟨⟨sb, nb, w2⟩, e2⟩ : ∃ x, q.pend[i + 1]? = some x := ⟨_, Array.getElem?_eq_getElem hi1⟩
 obtain ⟨pre, post, el, hpre⟩ : ∃ pre post, q.pend.toList = pre ++ (sa, na, w1) :: (sb, nb, w2) :: post ∧ pre.length = i := by
  have l1 : q.pend.toList[i]? = some (sa, na, w1) := by rw [Array.getElem?_toList]; exact e1
  have l2 : q.pend.toList[i + 1]? = some (sb, nb, w2) := by rw [Array.getElem?_toList]; exact e2
  have hl : q.pend.toList.length = q.pend.size := Array.length_toList
  refine ⟨q.pend.toList.take i, q.pend.toList.drop (i + 2), ?_, by rw [List.length_take]; lia⟩
  have d1 : q.pend.toList.drop i = (sa, na, w1) :: q.pend.toList.drop (i + 1) := by
   rw [List.drop_eq_getElem_cons (by lia)]
   congr 1
   rw [List.getElem?_eq_getElem (by lia)] at l1
   exact Option.some.inj l1
  have d2 : q.pend.toList.drop (i + 1) = (sb, nb, w2) :: q.pend.toList.drop (i + 2) := by
   rw [List.drop_eq_getElem_cons (by lia)]
   congr 1
   rw [List.getElem?_eq_getElem (by lia)] at l2
   exact Option.some.inj l2
  rw [← d2, ← d1, List.take_append_drop]
 have ht' := ht
 rw [el, Tiles.app] at ht'
 obtain ⟨c0, t1, rfl, hna, rfl, hnb, t2⟩ := ht'
 have hle := t2.le
 have hsz := f.size
 have tn : Tiles hi 0 ((q.pend.setIfInBounds i (sa, na + nb, w1)).eraseIdxIfInBounds (i + 1)).toList ∧ 1 ≤ ((q.pend.setIfInBounds i (sa, na + nb, w1)).eraseIdxIfInBounds (i + 1)).size := by
  have e : ((q.pend.setIfInBounds i (sa, na + nb, w1)).eraseIdxIfInBounds (i + 1)).toList = pre ++ (sa, na + nb, w1) :: post := by
   rw [Array.toList_eraseIdxIfInBounds, Array.toList_setIfInBounds, el, ← hpre]
   simp [List.set_append, List.eraseIdx_append]
   lia
  refine ⟨?_, ?_⟩
  ·rw [e, Tiles.app]
   exact ⟨sa, t1, rfl, by lia, by rw [← Nat.add_assoc]; exact t2⟩
  ·rw [← Array.length_toList, e]; simp; lia
 unfold mergeAt'
 refine Det.bind (Det.get ?_)
 have p1 : ∀ R : Run, pendingOf (R.st q) = q.pend := fun _ => rfl
 have p2 : ∀ R : Run, arrOf (R.st q) = R.arr q.p := fun _ => rfl
 dsimp only
 simp only [p1, e1, e2, p2]
 refine Det.bind (Det.set { q with pend := (q.pend.setIfInBounds i (sa, na + nb, w1)).eraseIdxIfInBounds (i + 1) } (fun R => rfl) ?_)
 have fin : ∀ p' g, Fine n { p := p', pend := (q.pend.setIfInBounds i (sa, na + nb, w1)).eraseIdxIfInBounds (i + 1), mg := g } → Post (fun _ => true) { p := p', pend := (q.pend.setIfInBounds i (sa, na + nb, w1)).eraseIdxIfInBounds (i + 1), mg := g } := fun p' g f => h _ f tn.1 tn.2
 have sure : ∀ (k : Nat) (p' : Array Nat) g, Low n p' → Det L n (fun R => (do
   modify fun s => setArr s ((R.arr p').toList.zipIdx.foldl (fun a x => a.setIfInBounds (sa + k + x.2) x.1) (arrOf s))
   let x ← get
   pure (failedOf x).isNone)) { p := q.p, pend := (q.pend.setIfInBounds i (sa, na + nb, w1)).eraseIdxIfInBounds (i + 1), mg := g } Post := by
  intro k p' g hp'
  have ff := fold_fine (n := n) (sa + k) p'.toList 0 q.p (fun i hi => hp'.mem i (by simpa using hi)) f.low
  refine Det.bind (Det.modify { p := (p'.toList.zipIdx.foldl (fun a x => a.setIfInBounds (sa + k + x.2) x.1) q.p), pend := (q.pend.setIfInBounds i (sa, na + nb, w1)).eraseIdxIfInBounds (i + 1), mg := g } (fun R => ?_) ?_)
  ·show SortSt.mk' R.κ (((p'.map (kas_item R.v)).toList.zipIdx).foldl (fun a x => a.setIfInBounds (sa + k + x.2) x.1) (q.p.map (kas_item R.v))) _ _ none = SortSt.mk' R.κ ((p'.toList.zipIdx.foldl (fun a x => a.setIfInBounds (sa + k + x.2) x.1) q.p).map (kas_item R.v)) _ _ none
   rw [Array.toList_map, fold_map]
   rfl
  ·refine Det.bind (Det.get ?_)
   exact Det.pure (r := fun _ => true) (fin _ _ ⟨ff.1, ff.2.trans f.size⟩)
 have hb : sa + na + nb ≤ q.p.size := by rw [hsz]; exact Nat.le_trans hle hn
 have lo := f.low
 have ff := f.size
 clear tn ht el e1 e2 p1 p2 hle hsz hn t1 t2 hi1 h
 refine Det.bind (Det.elem (p := q.p) (by lia) ?_)
 refine Det.bind (gallop_ (p := q.p) (f.low _ (by lia)) f.low (by lia) (by lia) (fun k hk => ?_))
 dsimp only
 refine Det.ite (fun hc => ?_) (fun hc => ?_) <;> simp only [beq_iff_eq] at hc
 ·exact Det.pure (r := fun _ => true) (fin _ _ ⟨f.low, f.size⟩)
 replace hc : k < na := Nat.lt_of_sub_ne_zero hc
 have hd : sa + k + (na - k) = sa + na := by rw [Nat.add_assoc, Nat.add_sub_cancel' (Nat.le_of_lt hc)]
 refine Det.bind (Det.elem (p := q.p) (by rw [hd]; exact Nat.sub_one_lt_of_le (by lia) (by lia)) ?_)
 refine Det.bind (gallop_ (p := q.p) (f.low _ (by rw [hd]; exact Nat.sub_one_lt_of_le (by lia) (by lia))) f.low (by lia) (Nat.sub_lt hnb Nat.one_pos) (fun k2 hk2 => ?_))
 dsimp only
 refine Det.ite (fun hc2 => ?_) (fun hc2 => ?_) <;> simp only [beq_iff_eq] at hc2
 ·exact Det.pure (r := fun _ => true) (fin _ _ ⟨f.low, f.size⟩)
 simp only [arr_extract]
 have z1 : 1 ≤ ((q.p.extract (sa + k) (sa + na)).size) := by rw [Array.size_extract]; exact Nat.le_sub_of_add_le (Nat.le_min.mpr ⟨by lia, by lia⟩)
 have z2 : 1 ≤ ((q.p.extract (sa + na) (sa + na + k2)).size) := by rw [Array.size_extract]; exact Nat.le_sub_of_add_le (Nat.le_min.mpr ⟨by lia, by lia⟩)
 refine Det.ite (fun hc3 => ?_) (fun hc3 => ?_)
 ·refine Det.bind (mergeLo_ f.low.extract f.low.extract z1 z2 (fun p' g hp' _ => ?_))
  exact sure k p' g hp'
 ·refine Det.bind (mergeHi_ f.low.extract f.low.extract z1 z2 (fun p' g hp' _ => ?_))
  exact sure k p' g hp'
end
section
variable {L : Nat → Nat → Bool} {n : Nat}
theorem back_size {α : Type} {p : Array α} {x : α} (h : p.back? = some x) : 1 ≤ p.size := by
 rcases Nat.eq_zero_or_pos p.size with e | e
 ·have : p = #[] := Array.eq_empty_of_size_eq_zero e
  subst this; simp at h
 ·exact e
theorem Tiles.modL {b w : Nat} : ∀ {l : List (Nat × Nat × Nat)} {a k : Nat}, Tiles b a l → Tiles b a (l.modify k fun x => (x.1, x.2.1, w))
 | [], a, k, h => by cases k <;> exact h
 | (s, m, v) :: l, a, 0, h => h
 | (s, m, v) :: l, a, k + 1, h => ⟨h.1, h.2.1, Tiles.modL h.2.2⟩
theorem Tiles.mod {b : Nat} {p : Array (Nat × Nat × Nat)} {a k : Nat} (w : Nat) (h : Tiles b a p.toList) : Tiles b a (p.modify k fun x => (x.1, x.2.1, w)).toList := by
 rw [Array.toList_modify]; exact Tiles.modL h
section
noncomputable def rs1 (w : Nat) : SM (ForInStep (Option Unit × Unit)) := (get : SM SortSt) >>= fun st => match (if (pendingOf st).size > 1 then (pendingOf st)[(pendingOf st).size - 2]? else none) with
 | some (_, _, v) => if v ≤ w then pure (.done (none, ())) else PyProof.Rows.mergeAt' ((pendingOf st).size - 2) >>= fun b => if (!b) = true then pure (.done (some (), ())) else pure (.yield (none, ()))
 | _ => pure (.done (none, ()))
noncomputable def rs2 (lo n : Nat) : SM (ForInStep (Option Unit × Nat)) := (modify fun s => PyProof.Rows.setPending s ((pendingOf s).push (lo, n, 0)) : SM PUnit) >>= fun _ => pure (.yield (none, lo + n))
noncomputable def rs3 (lo n w : Nat) : Option Unit × Unit → SM (ForInStep (Option Unit × Nat))
 | (some r, _) => pure (.done (some r, lo))
 | (none, _) => (modify fun s => PyProof.Rows.setPending s ((pendingOf s).modify ((pendingOf s).size - 1) fun x => match x with | (st, len, _) => (st, len, w)) : SM PUnit) >>= fun _ => rs2 lo n
noncomputable def rs4 (z lo n : Nat) : SM (ForInStep (Option Unit × Nat)) := (get : SM SortSt) >>= fun st => match (pendingOf st).back? with
 | some (s1, n1, _) => forIn [0:z] ((none, ()) : Option Unit × Unit) (fun _ _ => rs1 (PyProof.Rows.power' z (2 * s1 + n1) (2 * s1 + n1 + n1 + n) z)) >>= rs3 lo n (PyProof.Rows.power' z (2 * s1 + n1) (2 * s1 + n1 + n1 + n) z)
 | _ => rs2 lo n
noncomputable def rs5 (z : Nat) : Option Unit × Nat → SM (ForInStep (Option Unit × Nat))
 | (_, lo) => if lo ≥ z then pure (.done (none, lo)) else countRun' lo (z - lo) >>= fun w => match w with
  | some n => if n < PyProof.Rows.minRun' z z 0 then (liftM (PySem.rule "list.sort.binary-insertion") : SM Unit) >>= fun _ => binarySort' lo (min (z - lo) (PyProof.Rows.minRun' z z 0)) n >>= fun b => if (!b) = true then pure (.done (some (), lo)) else rs4 z lo (min (z - lo) (PyProof.Rows.minRun' z z 0)) else rs4 z lo n
  | _ => pure (.done (some (), lo))
noncomputable def rsI (p : Array (Nat × Nat × Nat)) : Nat := if ((if p.size - 2 > 0 then Option.map (fun x => x.2.1) p[p.size - 2 - 1]? else none).any fun x => decide (x < (p[p.size - 2 + 1]?).elim 0 fun x => x.2.1)) = true then p.size - 2 - 1 else p.size - 2
noncomputable def rs6 : SM (ForInStep (Option Unit × Unit)) := (get : SM SortSt) >>= fun st => if (pendingOf st).size ≤ 1 then pure (.done (none, ())) else PyProof.Rows.mergeAt' (rsI (pendingOf st)) >>= fun b => if (!b) = true then pure (.done (some (), ())) else pure (.yield (none, ()))
noncomputable def rs7 : Option Unit × Unit → SM Unit
 | (some r, _) => pure r
 | (none, _) => pure ()
noncomputable def rs8 (z : Nat) : Option Unit × Nat → SM Unit
 | (some r, _) => pure r
 | (none, _) => forIn [0:z] ((none, ()) : Option Unit × Unit) (fun _ _ => rs6) >>= rs7
noncomputable def rs0 : SM Unit := (get : SM SortSt) >>= fun st => forIn [0:(arrOf st).size] ((none, 0) : Option Unit × Nat) (fun _ s => rs5 (arrOf st).size s) >>= rs8 (arrOf st).size
theorem rs_eq : PyProof.Rows.sortRuns' = rs0 := by kernel_rfl
end
theorem rs2_ {q : Pos'} {lo m : Nat} {Post : (Run → ForInStep (Option Unit × Nat)) → Pos' → Prop} (f : Fine n q) (ht : Tiles lo 0 q.pend.toList) (h0 : 1 ≤ m) (h : ∀ q', Fine n q' → Tiles (lo + m) 0 q'.pend.toList → Post (fun _ => .yield (none, lo + m)) q') : Det L n (fun R => rs2 lo m) q Post := by
 unfold rs2
 refine Det.bind (Det.modify { q with pend := q.pend.push (lo, m, 0) } (fun R => rfl) ?_)
 refine Det.pure (h _ ⟨f.low, f.size⟩ ?_)
 rw [Array.toList_push, Tiles.app]
 exact ⟨lo, ht, rfl, h0, rfl⟩
theorem pd_ (R : Run) (q : Pos') : pendingOf (R.st q) = q.pend := rfl
theorem rs4_ {q : Pos'} {z lo m : Nat} {Post : (Run → ForInStep (Option Unit × Nat)) → Pos' → Prop} (f : Fine n q) (ht : Tiles lo 0 q.pend.toList) (hlo : lo ≤ n) (h0 : 1 ≤ m) (h : ∀ q', Fine n q' → Tiles (lo + m) 0 q'.pend.toList → Post (fun _ => .yield (none, lo + m)) q') : Det L n (fun R => rs4 z lo m) q Post := by
 unfold rs4
 refine Det.bind (Det.get ?_)
 simp only [pd_]
 rcases hb : q.pend.back? with _ | ⟨s1, n1, w1⟩
 ·exact rs2_ f ht h0 h
 dsimp only
 generalize PyProof.Rows.power' z (2 * s1 + n1) (2 * s1 + n1 + n1 + m) z = w
 refine Det.rangeB (I := fun i c q' => Fine n q' ∧ Tiles lo 0 q'.pend.toList ∧ 1 ≤ q'.pend.size ∧ c = fun _ => (none, ())) (J := fun c q' => Fine n q' ∧ Tiles lo 0 q'.pend.toList ∧ 1 ≤ q'.pend.size ∧ c = fun _ => (none, ())) ⟨f, ht, back_size hb, rfl⟩ ?_ (fun _ _ x => x) ?_
 ·rintro j c q4 hj0 hj ⟨f4, ht4, hs4, rfl⟩
  unfold rs1
  refine Det.bind (Det.get ?_)
  (try simp only [pd_])
  by_cases hz : q4.pend.size > 1
  ·obtain ⟨⟨x1, x2, x3⟩, ex⟩ : ∃ x, q4.pend[q4.pend.size - 2]? = some x := ⟨_, Array.getElem?_eq_getElem (by lia)⟩
   simp only [if_pos hz, ex]
   refine Det.ite (fun hc => ?_) (fun hc => ?_)
   ·exact Det.pure (Or.inl ⟨_, rfl, f4, ht4, hs4, rfl⟩)
   ·refine Det.bind (mergeAt_ f4 ht4 hlo (by lia) (fun q5 f5 ht5 hs5 => ?_))
    exact Det.pure (Or.inr ⟨_, rfl, f5, ht5, hs5, rfl⟩)
  ·simp only [hz, if_false]
   exact Det.pure (Or.inl ⟨_, rfl, f4, ht4, hs4, rfl⟩)
 ·rintro c q4 ⟨f4, ht4, hs4, rfl⟩
  show Det L n (fun R => rs3 lo m w (none, ())) _ _
  unfold rs3
  refine Det.bind (Det.modify { q4 with pend := q4.pend.modify (q4.pend.size - 1) (fun x => (x.1, x.2.1, w)) } (fun R => rfl) ?_)
  exact rs2_ ⟨f4.low, f4.size⟩ (Tiles.mod _ ht4) h0 h
theorem runs_ {q : Pos'} {Post : (Run → Unit) → Pos' → Prop} (f : Fine n q) (hq : q.pend = #[])
  (h : ∀ q', Fine n q' → Post (fun _ => ()) q') : Det L n (fun R => sortRuns') q Post := by
 rw [rs_eq]
 unfold rs0
 refine Det.bind (Det.get ?_)
 have p2 : ∀ (R : Run) q, arrOf (R.st q) = R.arr q.p := fun _ _ => rfl
 simp only [p2, arr_size, f.size]
 refine Det.rangeB (I := fun i c q' => Fine n q' ∧ ∃ lo, lo ≤ n ∧ Tiles lo 0 q'.pend.toList ∧ c = fun _ => (none, lo)) (J := fun c q' => Fine n q' ∧ ∃ lo, lo ≤ n ∧ Tiles lo 0 q'.pend.toList ∧ c = fun _ => (none, lo)) ⟨f, 0, by lia, by rw [hq]; rfl, rfl⟩ ?_ (fun _ _ x => x) ?_
 ·rintro i c q1 hi0 hi ⟨f1, lo, hlo, ht, rfl⟩
  unfold rs5
  dsimp only
  refine Det.ite (fun hc => ?_) (fun hc => ?_)
  ·exact Det.pure (Or.inl ⟨_, rfl, f1, lo, hlo, ht, rfl⟩)
  refine Det.bind (countRun_ f1 (by lia) (by lia) (fun m q2 l2 hm1 hm2 => ?_))
  dsimp only
  have ht2 : Tiles lo 0 q2.pend.toList := by obtain ⟨_, p, rfl⟩ := l2; exact ht
  refine Det.ite (fun hc2 => ?_) (fun hc2 => ?_)
  ·refine Det.bind (Det.rule ?_)
   refine Det.bind (binarySort_ l2.fine (Nat.le_trans (Nat.add_le_add_left (Nat.min_le_left _ _) lo) (Nat.le_of_eq (Nat.add_sub_cancel' hlo))) (fun q3 l3 => ?_))
   have ht3 : Tiles lo 0 q3.pend.toList := by obtain ⟨_, p, rfl⟩ := l3; exact ht2
   simp only [Bool.not_true, Bool.false_eq_true, if_false]
   have hk : m < PyProof.Rows.minRun' n n 0 := hc2
   exact rs4_ l3.fine ht3 hlo (Nat.le_min.mpr ⟨Nat.le_trans hm1 hm2, Nat.le_trans hm1 (Nat.le_of_lt hk)⟩) fun q' f' t' => Or.inr ⟨fun _ => (none, _), rfl, f', _, by lia, t', rfl⟩
  ·exact rs4_ l2.fine ht2 hlo hm1 fun q' f' t' => Or.inr ⟨fun _ => (none, _), rfl, f', _, by lia, t', rfl⟩
 ·rintro c q1 ⟨f1, lo, hlo, ht, rfl⟩
  unfold rs8
  dsimp only
  refine Det.rangeB (I := fun i c q' => Fine n q' ∧ Tiles lo 0 q'.pend.toList ∧ c = fun _ => (none, ())) (J := fun c q' => Fine n q' ∧ Tiles lo 0 q'.pend.toList ∧ c = fun _ => (none, ())) ⟨f1, ht, rfl⟩ ?_ (fun _ _ x => x) ?_
  ·rintro j c q4 hj0 hj ⟨f4, ht4, rfl⟩
   unfold rs6
   refine Det.bind (Det.get ?_)
   simp only [pd_]
   refine Det.ite (fun hc => ?_) (fun hc => ?_)
   ·exact Det.pure (Or.inl ⟨_, rfl, f4, ht4, rfl⟩)
   ·refine Det.bind (mergeAt_ f4 ht4 hlo ?_ (fun q5 f5 ht5 hs5 => ?_))
    ·obtain ⟨k, hk⟩ := Nat.exists_eq_add_of_le' (Nat.lt_of_not_le hc)
     have le1 : ∀ (b : Prop) [Decidable b] (x : Nat), (if b then x - 1 else x) ≤ x := fun b _ x => by split <;> first | exact Nat.sub_le _ _ | exact Nat.le_refl _
     refine Nat.lt_of_le_of_lt (Nat.succ_le_succ (m := q4.pend.size - 2) ?_) (by rw [hk, Nat.add_sub_cancel]; exact Nat.lt_succ_self _)
     unfold rsI
     split <;> exact le1 _ _
    exact Det.pure (Or.inr ⟨_, rfl, f5, ht5, rfl⟩)
  ·rintro c q4 ⟨f4, ht4, rfl⟩
   exact Det.pure (r := fun _ => ()) (h _ f4)
end
noncomputable abbrev Loc := List (Str × Value)
noncomputable def nv : Value → Value
 | .int i _ => .int i 0
 | .str s _ => .str s 0
 | .bytes b _ => .bytes b 0
 | .float b _ => .float b 0
 | v => v
inductive DT where
 | int (i : Int)
 | bool (b : Bool)
 | tup (l : List DT)
mutual
noncomputable def DT.at (h : Heap) : DT → Value → List Addr → Prop
 | .int i, v, _ => ∃ t, v = .int i t
 | .bool b, v, _ => v = .bool b
 | .tup l, v, as => ∃ a vs k, v = .ref a ∧ a ∈ as ∧ h.get? a = some { cls := .type "tuple", data := .seq vs k } ∧ DT.atL h l vs.toList as
noncomputable def DT.atL (h : Heap) : List DT → List Value → List Addr → Prop
 | [], vs, _ => vs = []
 | t :: ts, vs, as => ∃ v vr, vs = v :: vr ∧ DT.at h t v as ∧ DT.atL h ts vr as
end
mutual
theorem DT.at_of {h h' : Heap} : ∀ (t : DT) (v : Value) (as bs : List Addr), (∀ b ∈ as, b ∈ bs ∧ h'.get? b = h.get? b) → t.at h v as → t.at h' v bs
 | .int i, v, as, bs, _, x => by unfold DT.at at x ⊢; exact x
 | .bool i, v, as, bs, _, x => by unfold DT.at at x ⊢; exact x
 | .tup l, v, as, bs, k, x => by
  unfold DT.at at x ⊢
  obtain ⟨a, vs, ep, e1, e2, e3, e4⟩ := x
  exact ⟨a, vs, ep, e1, (k a e2).1, (k a e2).2.trans e3, DT.atL_of l vs.toList as bs k e4⟩
theorem DT.atL_of {h h' : Heap} : ∀ (ts : List DT) (vs : List Value) (as bs : List Addr), (∀ b ∈ as, b ∈ bs ∧ h'.get? b = h.get? b) → DT.atL h ts vs as → DT.atL h' ts vs bs
 | [], vs, as, bs, _, x => by unfold DT.atL at x ⊢; exact x
 | t :: ts, vs, as, bs, k, x => by
  unfold DT.atL at x ⊢
  obtain ⟨v, vr, e1, e3, e4⟩ := x
  exact ⟨v, vr, e1, DT.at_of t v as bs k e3, DT.atL_of ts vr as bs k e4⟩
end
inductive AObj where
 | inst (C d : Addr) (as : List (Str × Value))
 | one (pr : Obj → Prop)
 | deep (t : DT) (as : List Addr)
noncomputable abbrev Led := List (Addr × AObj)
noncomputable def NsD (as : List (Str × Value)) (od : Obj) : Prop := ∃ es k, od.data = .dict es k ∧ StrKeys es ∧ es.size ≤ as.length ∧ ∀ x, (nsFind es x).map nv = as.lookup x
noncomputable def Rep (h : Heap) (a : Addr) : AObj → Prop
 | .inst C d as => h.get? a = some (instObj C d) ∧ ∃ od, h.get? d = some od ∧ NsD as od
 | .one pr => ∃ o, h.get? a = some o ∧ pr o
 | .deep t as => t.at h (.ref a) as ∧ ∀ b ∈ as, ∃ o, h.get? b = some o
noncomputable def fp (p : Addr × AObj) : List Addr := match p.2 with
 | .inst _ d _ => [p.1, d]
 | .one _ => [p.1]
 | .deep _ as => as
noncomputable def foot (n : Led) : List Addr := n.flatMap fp
noncomputable def AObj.list (xs : List Value) : AObj := .one fun o => ∃ vs k, o = listOf vs k ∧ vs.toList.map nv = xs
noncomputable def AObj.tup (xs : List Value) : AObj := .one fun o => ∃ vs k, o = { cls := .type "tuple", data := .seq vs k } ∧ vs.toList.map nv = xs
noncomputable def DictO {prog : Program} {w : World} {K : Type} [DecidableEq K] (knd : PySem.KeyKind prog w K) (kvs : List (K × Value)) (ep : Nat) (o : Obj) : Prop :=
 ∃ es, o.ExactDict ∧ o.data = .dict es ep ∧ PySem.KeysOf knd es ∧ PySem.Pairs knd es.toList kvs ∧ (kvs.map (·.1)).Nodup
noncomputable def AObj.imap (w : World) (es : List (Int × Value)) : AObj := .one fun o => ∃ kvs ep, DictO (intKind P w) kvs ep o ∧ kvs.map (fun p => (p.1, nv p.2)) = es
noncomputable def AObj.smap (w : World) (es : List (Str × Value)) : AObj := .one fun o => ∃ kvs ep, DictO (strKind P w) kvs ep o ∧ kvs.map (fun p => (p.1, nv p.2)) = es
noncomputable def AObj.imapE (w : World) (kvs : List (Int × Value)) (ep : Nat) : AObj := .one fun o => DictO (intKind P w) kvs ep o
noncomputable def AObj.edict (as : List (Str × Value)) : AObj := .one (NsD as)
noncomputable def AObj.cell (v : Value) : AObj := .one fun o => ∃ v', o.data = .cell (some v') ∧ nv v' = v
noncomputable def AObj.raw (o : Obj) : AObj := .one fun o' => o' = o
theorem Rep.of {h h' : Heap} {p : Addr × AObj} (k : ∀ b ∈ fp p, h'.get? b = h.get? b) (r : Rep h p.1 p.2) : Rep h' p.1 p.2 := by
 obtain ⟨a, o⟩ := p
 cases o <;> simp only [fp, List.mem_cons, List.not_mem_nil, or_false, forall_eq_or_imp, forall_eq] at k <;> simp only [Rep] at r ⊢
 ·rw [k.1, k.2]; exact r
 ·rw [k]; exact r
 ·exact ⟨DT.at_of _ _ _ _ (fun b hb => ⟨hb, k b hb⟩) r.1, fun b hb => let ⟨o, e⟩ := r.2 b hb; ⟨o, (k b hb).trans e⟩⟩
theorem Rep.there {h : Heap} {p : Addr × AObj} (r : Rep h p.1 p.2) : ∀ b ∈ fp p, ∃ o, h.get? b = some o := by
 obtain ⟨a, o⟩ := p
 cases o <;> simp only [fp, List.mem_cons, List.not_mem_nil, or_false, forall_eq_or_imp, forall_eq] <;> simp only [Rep] at r
 ·exact ⟨⟨_, r.1⟩, let ⟨od, x, y⟩ := r.2; ⟨_, x⟩⟩
 ·exact let ⟨o, x, y⟩ := r; ⟨_, x⟩
 ·exact r.2
theorem Rep.keeps {h h' : Heap} {a : Addr} {o : AObj} (k : ∀ b o, h.get? b = some o → h'.get? b = some o) (r : Rep h a o) : Rep h' a o :=
 Rep.of (p := (a, o)) (fun b hb => by obtain ⟨x, e⟩ := Rep.there (p := (a, o)) r b hb; rw [e, k b x e]) r
structure Cx where
 w : World
 b₀ : Heap
 gens : Array GenState
 drawn : Drawn
 os : OsState
noncomputable abbrev Cx.K (c : Cx) : Frag := myK c.w.params
structure Cx.Ok (c : Cx) : Prop where
 X : c.K.In c.b₀
 b : ∃ mb, c.b₀.Ns builtinsNs mb ∧ ∀ x : Str, x ≠ "__name__" → mb x = bootBuiltins x
 nolimit : c.b₀.NoLimit
 low : sysModules < c.b₀.objs.size
structure FmOk (c : Cx) (n : Led) (h : Heap) (f : Env × Loc) : Prop where
 ns : h.Ns f.1.locals (fun x => f.2.lookup x)
 size : c.b₀.objs.size ≤ f.1.locals
 out : f.1.locals ∉ foot n
theorem none_above {h : Heap} {b : Addr} (hb : h.objs.size ≤ b) : h.get? b = none := by
 cases q : h.get? b with
 | none => rfl
 | some o => exact absurd (Heap.lt_size q) (Nat.not_lt.mpr hb)
theorem FmOk.new {c : Cx} {n : Led} {h : Heap} {f : Env × Loc} (x : FmOk c n h f) : c.b₀.get? f.1.locals = none := none_above x.size
structure Mod (c : Cx) (fs : List (Env × Loc)) (n : Led) (h : Heap) : Prop where
 keep : ∀ b o, c.b₀.get? b = some o → h.get? b = some o
 frs : ∀ f ∈ fs, FmOk c n h f
 fnd : (fs.map (·.1.locals)).Nodup
 led : ∀ p ∈ n, Rep h p.1 p.2
 new : ∀ b ∈ foot n, c.b₀.get? b = none
 nd : (foot n).Nodup
theorem Heap.Ns.of_get {h h' : Heap} {a : Addr} {m : Str → Option Value} (x : h.Ns a m) (k : h'.get? a = h.get? a) : h'.Ns a m := by
 obtain ⟨o, es, ep, ho, r⟩ := x
 exact ⟨o, es, ep, k.trans ho, r⟩
theorem Mod.ext {c : Cx} {fs : List (Env × Loc)} {n : Led} {h h' : Heap} (d : Mod c fs n h) (k : ∀ b o, h.get? b = some o → h'.get? b = some o) : Mod c fs n h' where
 keep := fun b o e => k b o (d.keep b o e)
 frs := fun f hf => ⟨(d.frs f hf).ns.keeps k, (d.frs f hf).size, (d.frs f hf).out⟩
 fnd := d.fnd
 led := fun p hp => (d.led p hp).keeps k
 new := d.new
 nd := d.nd
theorem foot_cons (p : Addr × AObj) (n : Led) : foot (p :: n) = fp p ++ foot n := by simp [foot]
theorem foot_append (n n' : Led) : foot (n ++ n') = foot n ++ foot n' := by simp [foot]
theorem mem_foot {p : Addr × AObj} {n : Led} (hp : p ∈ n) {b : Addr} (hb : b ∈ fp p) : b ∈ foot n := List.mem_flatMap.mpr ⟨p, hp, hb⟩
theorem Mod.there {c : Cx} {fs : List (Env × Loc)} {n : Led} {h : Heap} (d : Mod c fs n h) {b : Addr} (hb : b ∈ foot n) : ∃ o, h.get? b = some o := by
 obtain ⟨p, hp, hb⟩ := List.mem_flatMap.mp hb
 exact (d.led p hp).there b hb
theorem Mod.more {c : Cx} {fs : List (Env × Loc)} {n : Led} {h h' : Heap} {a : Addr} {o : AObj} (d : Mod c fs n h) (k : ∀ b o, h.get? b = some o → h'.get? b = some o)
  (r : Rep h' a o) (hn : ∀ b ∈ fp (a, o), h.get? b = none) (hnd : (fp (a, o)).Nodup) : Mod c fs ((a, o) :: n) h' := by
 have d' := d.ext k
 have nb : ∀ b ∈ fp (a, o), b ∉ foot n := fun b hb hm => by
  obtain ⟨o', ho'⟩ := d.there hm
  rw [hn b hb] at ho'; cases ho'
 refine ⟨d'.keep, fun f hf => ⟨(d'.frs f hf).ns, (d'.frs f hf).size, ?_⟩, d.fnd, fun p hp => ?_, fun b hb => ?_, ?_⟩
 ·rw [foot_cons, List.mem_append]
  rintro (hm | hm)
  ·obtain ⟨o', es, ep, ho', _⟩ := (d.frs f hf).ns
   rw [hn _ hm] at ho'; cases ho'
  ·exact (d.frs f hf).out hm
 ·rcases List.mem_cons.mp hp with rfl | hp
  ·exact r
  ·exact d'.led p hp
 ·rw [foot_cons, List.mem_append] at hb
  rcases hb with hb | hb
  ·cases q : c.b₀.get? b with
   | none => rfl
   | some o' => have := d.keep b o' q; rw [hn b hb] at this; cases this
  ·exact d.new b hb
 ·rw [foot_cons]
  exact List.nodup_append.mpr ⟨hnd, d.nd, fun x hx y hy e => nb x hx (e ▸ hy)⟩
theorem Mod.turn {c : Cx} {fs : List (Env × Loc)} {pre post : Led} {h h' : Heap} {a x : Addr} {o o' : AObj} (d : Mod c fs (pre ++ (a, o) :: post) h)
  (hs : ∀ b, b ≠ x → h'.get? b = h.get? b) (hx : x ∈ fp (a, o)) (hf : fp (a, o') = fp (a, o)) (r : Rep h' a o') : Mod c fs (pre ++ (a, o') :: post) h' := by
 have hfoot : foot (pre ++ (a, o') :: post) = foot (pre ++ (a, o) :: post) := by
  rw [foot_append, foot_cons, foot_append, foot_cons, hf]
 have hxf : x ∈ foot (pre ++ (a, o) :: post) := mem_foot (List.mem_append_right _ (.head _)) hx
 have nd := d.nd
 rw [foot_append, foot_cons] at nd
 have n1 := List.nodup_append.mp nd
 have n2 := List.nodup_append.mp n1.2.1
 refine ⟨fun b ob e => ?_, fun f hf' => ⟨?_, (d.frs f hf').size, ?_⟩, d.fnd, fun p hp => ?_, fun b hb => ?_, ?_⟩
 ·rw [hs b fun q => by rw [q, d.new x hxf] at e; cases e]
  exact d.keep b ob e
 ·exact Heap.Ns.of_get (d.frs f hf').ns (hs _ fun q => (d.frs f hf').out (q ▸ hxf))
 ·rw [hfoot]; exact (d.frs f hf').out
 ·rcases List.mem_append.mp hp with hp | hp
  ·refine Rep.of (fun b hb => hs b fun q => ?_) (d.led p (List.mem_append_left _ hp))
   exact n1.2.2 b (mem_foot hp hb) x (List.mem_append_left _ hx) q
  ·rcases List.mem_cons.mp hp with rfl | hp
   ·exact r
   ·refine Rep.of (fun b hb => hs b fun q => ?_) (d.led p (List.mem_append_right _ (.tail _ hp)))
    exact n2.2.2 x hx b (mem_foot hp hb) q.symm
 ·rw [hfoot] at hb; exact d.new b hb
 ·rw [hfoot]; exact d.nd
theorem Mod.store {c : Cx} {env : Env} {m m' : Loc} {fs : List (Env × Loc)} {n : Led} {h h' : Heap} (d : Mod c ((env, m) :: fs) n h)
  (hs : ∀ b, b ≠ env.locals → h'.get? b = h.get? b) (hn : h'.Ns env.locals (fun x => m'.lookup x)) : Mod c ((env, m') :: fs) n h' := by
 have f0 := d.frs (env, m) (.head _)
 have fnd := d.fnd
 simp only [List.map_cons, List.nodup_cons] at fnd
 refine ⟨fun b ob e => ?_, fun f hf => ?_, by simpa using fnd, fun p hp => ?_, d.new, d.nd⟩
 ·rw [hs b fun q => by rw [q, f0.new] at e; cases e]
  exact d.keep b ob e
 ·rcases List.mem_cons.mp hf with rfl | hf
  ·exact ⟨hn, f0.size, f0.out⟩
  ·have f1 := d.frs f (.tail _ hf)
   exact ⟨Heap.Ns.of_get f1.ns (hs _ fun q => fnd.1 (q ▸ List.mem_map_of_mem (f := fun x : Env × Loc => x.1.locals) hf)), f1.size, f1.out⟩
 ·exact Rep.of (fun b hb => hs b fun q => f0.out (q ▸ mem_foot hp hb)) (d.led p hp)
theorem Mod.pop {c : Cx} {f : Env × Loc} {fs : List (Env × Loc)} {n : Led} {h : Heap} (d : Mod c (f :: fs) n h) : Mod c fs n h :=
 ⟨d.keep, fun g hg => d.frs g (.tail _ hg), (List.nodup_cons.mp (by simpa using d.fnd)).2, d.led, d.new, d.nd⟩
theorem Mod.push {c : Cx} {env : Env} {m : Loc} {fs : List (Env × Loc)} {n : Led} {h h' : Heap} (d : Mod c fs n h) (k : ∀ b o, h.get? b = some o → h'.get? b = some o)
  (hn : h'.Ns env.locals (fun x => m.lookup x)) (hnew : h.objs.size ≤ env.locals) (hb : c.b₀.objs.size ≤ env.locals) : Mod c ((env, m) :: fs) n h' := by
 have d' := d.ext k
 refine ⟨d'.keep, fun f hf => ?_, ?_, d'.led, d.new, d.nd⟩
 ·rcases List.mem_cons.mp hf with rfl | hf
  ·refine ⟨hn, hb, fun hm => ?_⟩
   obtain ⟨o', ho'⟩ := d.there hm
   rw [none_above hnew] at ho'; cases ho'
  ·exact d'.frs f hf
 ·simp only [List.map_cons, List.nodup_cons]
  refine ⟨fun hm => ?_, d.fnd⟩
  obtain ⟨f, hf, e⟩ := List.mem_map.mp hm
  obtain ⟨o', es, ep, ho', _⟩ := (d.frs f hf).ns
  rw [e, none_above hnew] at ho'; cases ho'
theorem Mod.size {c : Cx} {f : Env × Loc} {fs : List (Env × Loc)} {n : Led} {h : Heap} (d : Mod c (f :: fs) n h) : c.b₀.objs.size ≤ h.objs.size := by
 obtain ⟨o, es, ep, ho, _⟩ := (d.frs f (.head _)).ns
 exact Nat.le_of_lt (Nat.lt_of_le_of_lt (d.frs f (.head _)).size (Heap.lt_size ho))
theorem pick {α β : Type} {R : α → β → Prop} : ∀ l : List α, (∀ a ∈ l, ∃ b, R a b) → ∃ r : List (α × β), (∀ p ∈ r, R p.1 p.2 ∧ p.1 ∈ l) ∧ ∀ a ∈ l, ∃ b, (a, b) ∈ r
 | [], _ => ⟨[], ⟨fun p hp => (by cases hp), fun a ha => (by cases ha)⟩⟩
 | a :: l, h => by
  obtain ⟨b, hb⟩ := h a (.head _)
  obtain ⟨r, h1, h2⟩ := pick l fun a ha => h a (.tail _ ha)
  refine ⟨(a, b) :: r, fun p hp => ?_, fun x hx => ?_⟩
  ·rcases List.mem_cons.mp hp with rfl | hp
   ·exact ⟨hb, .head _⟩
   ·exact ⟨(h1 p hp).1, .tail _ (h1 p hp).2⟩
  ·rcases List.mem_cons.mp hx with rfl | hx
   ·exact ⟨b, .head _⟩
   ·obtain ⟨b, hb⟩ := h2 x hx
    exact ⟨b, .tail _ hb⟩
theorem Mod.news {c : Cx} {env : Env} {m : Loc} {fs : List (Env × Loc)} {n : Led} {h : Heap} (d : Mod c ((env, m) :: fs) n h) :
  Fr c.b₀ env.locals h (fun x => m.lookup x) ∧ ∃ news, News c.b₀ env.locals h news ∧ (∀ a o, a ∈ foot n → h.get? a = some o → (a, o) ∈ news) ∧ (∀ f ∈ fs, ∃ o, (f.1.locals, o) ∈ news) ∧
   ∀ h', Fr c.b₀ env.locals h' (fun x => m.lookup x) → News c.b₀ env.locals h' news → Mod c ((env, m) :: fs) n h' := by
 have f0 := d.frs (env, m) (.head _)
 have fnd := d.fnd
 simp only [List.map_cons, List.nodup_cons] at fnd
 obtain ⟨r, h1, h2⟩ := pick (R := fun a o => h.get? a = some o) (foot n ++ fs.map (·.1.locals)) (fun a ha => by
  rcases List.mem_append.mp ha with ha | ha
  ·exact d.there ha
  ·obtain ⟨f, hf, rfl⟩ := List.mem_map.mp ha
   obtain ⟨o, es, ep, ho, _⟩ := (d.frs f (.tail _ hf)).ns
   exact ⟨o, ho⟩)
 refine ⟨⟨f0.ns, d.keep, f0.size⟩, r, fun p hp => ?_, fun a o ha ho => ?_, fun f hf => h2 _ (List.mem_append_right _ (List.mem_map_of_mem (f := fun x : Env × Loc => x.1.locals) hf)), fun h' F N => ?_⟩
 ·obtain ⟨k1, k2⟩ := h1 p hp
  refine ⟨k1, ?_, ?_⟩
  ·rcases List.mem_append.mp k2 with k2 | k2
   ·rintro e; exact f0.out (e ▸ k2)
   ·rintro e; exact fnd.1 (e ▸ k2)
  ·rcases List.mem_append.mp k2 with k2 | k2
   ·exact d.new _ k2
   ·obtain ⟨f, hf, e⟩ := List.mem_map.mp k2
    rw [← e]; exact (d.frs f (.tail _ hf)).new
 ·obtain ⟨o', ho'⟩ := h2 a (List.mem_append_left _ ha)
  have := (h1 _ ho').1
  rw [ho] at this; cases this
  exact ho'
 ·have same : ∀ b ∈ foot n ++ fs.map (·.1.locals), h'.get? b = h.get? b := fun b hb => by
   obtain ⟨o', ho'⟩ := h2 b hb
   rw [(N _ ho').1, (h1 _ ho').1]
  refine ⟨F.keep, fun f hf => ?_, d.fnd, fun p hp => ?_, d.new, d.nd⟩
  ·rcases List.mem_cons.mp hf with rfl | hf
   ·exact ⟨F.ns, f0.size, f0.out⟩
   ·have f1 := d.frs f (.tail _ hf)
    exact ⟨Heap.Ns.of_get f1.ns (same _ (List.mem_append_right _ (List.mem_map_of_mem (f := fun x : Env × Loc => x.1.locals) hf))), f1.size, f1.out⟩
  ·exact Rep.of (fun b hb => same b (List.mem_append_left _ (mem_foot hp hb))) (d.led p hp)
theorem Mod.sub {c : Cx} {fs : List (Env × Loc)} {n n' : Led} {h : Heap} (d : Mod c fs n h) (hp : n'.Sublist n) : Mod c fs n' h := by
 have hs : (foot n').Sublist (foot n) := by
  clear d
  induction hp with
  | slnil => exact .slnil
  | cons p _ ih => rw [foot_cons]; exact ih.trans (List.sublist_append_right _ _)
  | cons_cons p _ ih => rw [foot_cons, foot_cons]; exact List.Sublist.append (List.Sublist.refl _) ih
 exact ⟨d.keep, fun f hf => ⟨(d.frs f hf).ns, (d.frs f hf).size, fun hm => (d.frs f hf).out (hs.subset hm)⟩, d.fnd, fun p hp' => d.led p (hp.subset hp'), fun b hb => d.new b (hs.subset hb), d.nd.sublist hs⟩
theorem Mod.perm {c : Cx} {fs : List (Env × Loc)} {n n' : Led} {h : Heap} (d : Mod c fs n h) (hp : n'.Perm n) : Mod c fs n' h := by
 have hs : (foot n').Perm (foot n) := List.Perm.flatMap_right fp hp
 exact ⟨d.keep, fun f hf => ⟨(d.frs f hf).ns, (d.frs f hf).size, fun hm => (d.frs f hf).out (hs.subset hm)⟩, d.fnd, fun p hp' => d.led p (hp.subset hp'), fun b hb => d.new b (hs.subset hb), hs.nodup_iff.mpr d.nd⟩
theorem Mod.re {c : Cx} {fs : List (Env × Loc)} {n n' : Led} {h : Heap} (d : Mod c fs n h) (hs : (foot n').Perm (foot n)) (hr : (∀ p ∈ n, Rep h p.1 p.2) → ∀ p ∈ n', Rep h p.1 p.2) : Mod c fs n' h :=
 ⟨d.keep, fun f hf => ⟨(d.frs f hf).ns, (d.frs f hf).size, fun hm => (d.frs f hf).out (hs.subset hm)⟩, d.fnd, hr d.led, fun b hb => d.new b (hs.subset hb), hs.nodup_iff.mpr d.nd⟩
structure Cu where
 hd : Option Value
 r : Nat
 fl : List Env
 fs : List (Env × Loc)
theorem lessD {a k r L : Nat} (h1 : 1 ≤ r) (hk : k ≤ 1) (h : a + r < L) : a + k + (r - 1) < L :=
 Nat.lt_of_le_of_lt (by rw [Nat.add_assoc]; exact Nat.add_le_add_left (Nat.le_trans (Nat.add_le_add_right hk _) (Nat.le_of_eq (Nat.add_sub_cancel' h1))) a) h
theorem lessU {a k r L : Nat} (h1 : 1 ≤ r) (hk : k ≤ 8) (h : a + 8 * r < L) : a + k + 8 * (r - 1) < L := by
 cases r with
 | zero => exact absurd h1 (Nat.not_succ_le_zero 0)
 | succ p =>
  refine Nat.lt_of_le_of_lt ?_ h
  rw [Nat.add_assoc, Nat.succ_sub_one, Nat.mul_succ, Nat.add_comm (8 * p)]
  exact Nat.add_le_add_left (Nat.add_le_add_right hk _) a
structure Fits (u : Cu) (env : Env) (A : Around) : Prop where
 frames : A.frames = some u.fl
 handled : A.handled = u.hd
 depth : A.depth + u.r < recursionLimit
 units : A.units + 8 * u.r < cLine
 kind : env.scope.kind = .function
 own : ∀ e ∈ u.fl, e ∈ env :: u.fs.map (·.1) ∧ e.frame = some e.locals ∧ e.scope.kind = .function
noncomputable def Same (c : Cx) (s : Shared) : Prop := s.gens = c.gens ∧ s.drawn = c.drawn ∧ s.os = c.os
theorem Same.eq {c : Cx} {s : Shared} (h : Same c s) : s = ⟨s.heap, c.gens, c.drawn, s.toks, c.os⟩ := by
 obtain ⟨h1, h2, h3⟩ := h
 cases s; subst h1 h2 h3; rfl
structure Ex (c : Cx) (n : Led) (h : Heap) (e d : Addr) (k : Option Value) : Prop where
 out : e ∉ foot n
 new : c.b₀.get? e = none
 at_ : ∃ oe vs, h.get? e = some oe ∧ oe.cls = .ref 71 ∧ oe.dict = some d ∧ oe.data = .fields vs ∧
  (match k with
   | some v => ∃ T oT ts, vs[1]? = some (.ref T) ∧ T ∉ foot n ∧ c.b₀.get? T = none ∧ T ≠ e ∧ h.get? T = some oT ∧ oT.data = .fields ts ∧ ts[3]? = some v
   | none => vs[1]? = some .none)
noncomputable def OkK (env : Env) (k : Option Value) : Prop := k = none ∨ k = some .none ∨ k = some (rawInt env.locals)
noncomputable abbrev EP := Option Value → Addr → Addr → Loc → Led → Prop
variable {α β γ : Type}
inductive PV (c : Cx) (fs : List (Env × Loc)) (env : Env) (P : Loc → Led → Prop) (s : Shared) : Prop
 | mk (x : Same c s) (m : Loc) (n : Led) (y : Mod c ((env, m) :: fs) n s.heap) (z : P m n)
inductive PE (c : Cx) (fs : List (Env × Loc)) (env : Env) (E : EP) (x : Value) (s : Shared) : Prop
 | mk (sm : Same c s) (fl : Option Value) (e d : Addr) (m : Loc) (n : Led) (hx : x = .ref e) (y : Mod c ((env, m) :: fs) n s.heap) (g : Ex c n s.heap e d fl) (o : OkK env fl) (z : E fl e d m n)
structure V {α : Type} (c : Cx) (u : Cu) (env : Env) (t : Sem α) (Q : α → Loc → Led → Prop) (E : EP) (m : Loc) (n : Led) : Prop where
 i ::
 go : c.Ok → ∀ A h tk, Fits u env A → Mod c ((env, m) :: u.fs) n h →
  wpAny (model P c.w) A t (fun a => PV c u.fs env (Q a))
   (PE c u.fs env E) ⟨h, c.gens, c.drawn, tk, c.os⟩
section
variable {c : Cx} {u : Cu} {env : Env} {Q Q' : α → Loc → Led → Prop} {E E' : EP} {m : Loc} {n : Led}
@[elab_as_elim] theorem PV.el {P : Loc → Led → Prop} {s : Shared} {fs : List (Env × Loc)} {G : Shared → Prop} (q : PV c fs env P s) (k : ∀ h tk m n, Mod c ((env, m) :: fs) n h → P m n → G ⟨h, c.gens, c.drawn, tk, c.os⟩) : G s := by
 obtain ⟨x, m, n, y, z⟩ := q
 rw [x.eq]
 exact k _ _ m n y z
@[elab_as_elim] theorem PE.el {x : Value} {s : Shared} {fs : List (Env × Loc)} {G : Value → Shared → Prop} (q : PE c fs env E x s) (k : ∀ h tk fl e d m n, Mod c ((env, m) :: fs) n h → Ex c n h e d fl → OkK env fl → E fl e d m n → G (.ref e) ⟨h, c.gens, c.drawn, tk, c.os⟩) : G x s := by
 obtain ⟨x, fl, e, d, m, n, rfl, y, g, o, z⟩ := q
 rw [x.eq]
 exact k _ _ fl e d m n y g o z
theorem PV.go {t : Sem α} {s : Shared} {A : Around} (q : PV c u.fs env (V c u env t Q E) s) (ok : c.Ok) (fit : Fits u env A) : wpAny (model P c.w) A t (fun a => PV c u.fs env (Q a)) (PE c u.fs env E) s :=
 q.el fun _ _ _ _ y z => z.go ok A _ _ fit y
theorem V.run2 {t : Sem β} {f : β → Sem α} {A : Around} {h : Heap} {tk : Nat} (x : V c u env t (fun a => V c u env (f a) Q E) E m n) (ok : c.Ok) (fit : Fits u env A) (md : Mod c ((env, m) :: u.fs) n h) :
  wpAny (model P c.w) A t (fun a => wpAny (model P c.w) A (f a) (fun b => PV c u.fs env (Q b)) (PE c u.fs env E)) (PE c u.fs env E) ⟨h, c.gens, c.drawn, tk, c.os⟩ :=
 wpAny_mono (x.go ok A h tk fit md) (fun _ _ q => q.go ok fit) fun _ _ x => x
theorem PV.go2 {t : Sem β} {f : β → Sem α} {A : Around} {s : Shared} (q : PV c u.fs env (V c u env t (fun a => V c u env (f a) Q E) E) s) (ok : c.Ok) (fit : Fits u env A) :
  wpAny (model P c.w) A t (fun a => wpAny (model P c.w) A (f a) (fun b => PV c u.fs env (Q b)) (PE c u.fs env E)) (PE c u.fs env E) s :=
 q.el fun _ _ _ _ y z => z.run2 ok fit y
theorem V.run3 {t : Sem γ} {t' : γ → Sem β} {f : γ → β → Sem α} {A : Around} {h : Heap} {tk : Nat} (x : V c u env t (fun a => V c u env (t' a) (fun b => V c u env (f a b) Q E) E) E m n) (ok : c.Ok) (fit : Fits u env A) (md : Mod c ((env, m) :: u.fs) n h) :
  wpAny (model P c.w) A t (fun a => wpAny (model P c.w) A (t' a) (fun b => wpAny (model P c.w) A (f a b) (fun b => PV c u.fs env (Q b)) (PE c u.fs env E)) (PE c u.fs env E)) (PE c u.fs env E) ⟨h, c.gens, c.drawn, tk, c.os⟩ :=
 wpAny_mono (x.go ok A h tk fit md) (fun _ _ q => q.go2 ok fit) fun _ _ x => x
@[elab_as_elim] theorem PV.is {v a : α} {s : Shared} {fs : List (Env × Loc)} {G : α → Shared → Prop} (q : PV c fs env (fun m' n' => a = v ∧ m' = m ∧ n' = n) s) (k : ∀ h tk, Mod c ((env, m) :: fs) n h → G v ⟨h, c.gens, c.drawn, tk, c.os⟩) : G a s :=
 q.el fun h tk _ _ y ⟨e1, e2, e3⟩ => by subst e1 e2 e3; exact k h tk y
theorem V.of_eq {t t' : Sem α} (e : t = t') (h : V c u env t' Q E m n) : V c u env t Q E m n := e ▸ h
theorem V.pure {a : α} (h : Q a m n) : V c u env (Pure.pure a) Q E m n := V.i fun _ _ _ _ _ md => wpAny_pure ⟨⟨rfl, rfl, rfl⟩, m, n, md, h⟩
theorem V.mono {t : Sem α} (h : V c u env t Q E m n) (hQ : ∀ a m n, Q a m n → Q' a m n) (hE : ∀ fl e d m n, E fl e d m n → E' fl e d m n) : V c u env t Q' E' m n :=
 V.i fun ok A hp tk fit md => wpAny_mono (h.go ok A hp tk fit md) (fun a s q => q.el fun _ _ m n y z => ⟨⟨rfl, rfl, rfl⟩, m, n, y, hQ a m n z⟩) fun e s q => q.el fun _ _ fl e d m n y g o z => ⟨⟨rfl, rfl, rfl⟩, fl, e, d, m, n, rfl, y, g, o, hE _ _ _ _ _ z⟩
theorem V.le {t t' : Sem α} (l : ∀ {A : Around} {Q : α → Shared → Prop} {E : Value → Shared → Prop} {s : Shared}, wpAny (model P c.w) A t' Q E s → wpAny (model P c.w) A t Q E s) (h : V c u env t' Q E m n) : V c u env t Q E m n :=
 V.i fun ok A hp tk fit md => l (h.go ok A hp tk fit md)
theorem V.bind {t : Sem β} {f : β → Sem α} (h : V c u env t (fun a m n => V c u env (f a) Q E m n) E m n) : V c u env (t >>= f) Q E m n :=
 V.i fun ok A hp tk fit md => wpAny_bind (h.run2 ok fit md)
theorem V.seq {t1 : Sem β} {f : β → Sem α} {t : Sem α} (H : ∀ {M A Q E s}, wpAny M A t1 (fun a s' => wpAny M A (f a) Q E s') E s → wpAny M A t Q E s)
  (h : V c u env t1 (fun a m n => V c u env (f a) Q E m n) E m n) : V c u env t Q E m n :=
 V.i fun ok A hp tk fit md => H (h.run2 ok fit md)
theorem V.seq2 {t1 : Sem β} {t2 : β → Sem γ} {f : β → γ → Sem α} {t : Sem α}
  (H : ∀ {M A Q E s}, wpAny M A t1 (fun a s' => wpAny M A (t2 a) (fun b s'' => wpAny M A (f a b) Q E s'') E s') E s → wpAny M A t Q E s)
  (h : V c u env t1 (fun a m n => V c u env (t2 a) (fun b m n => V c u env (f a b) Q E m n) E m n) E m n) : V c u env t Q E m n :=
 V.i fun ok A hp tk fit md => H (h.run3 ok fit md)
theorem V.val {t : Sem α} (v : α) (H : ∀ A h tk, c.Ok → Fits u env A → Mod c ((env, m) :: u.fs) n h → ∀ {Q' : α → Shared → Prop} {E'}, (∀ tk', Q' v ⟨h, c.gens, c.drawn, tk', c.os⟩) → wpAny (model P c.w) A t Q' E' ⟨h, c.gens, c.drawn, tk, c.os⟩)
  (h : Q v m n) : V c u env t Q E m n := V.i fun ok A hp tk fit md => H A hp tk ok fit md fun _ => ⟨⟨rfl, rfl, rfl⟩, m, n, md, h⟩
theorem V.vals {t : Sem α} (S : α → Prop) (H : ∀ A h tk, c.Ok → Fits u env A → Mod c ((env, m) :: u.fs) n h → ∀ {Q' : α → Shared → Prop} {E'}, (∀ v tk', S v → Q' v ⟨h, c.gens, c.drawn, tk', c.os⟩) → wpAny (model P c.w) A t Q' E' ⟨h, c.gens, c.drawn, tk, c.os⟩)
  (h : ∀ v, S v → Q v m n) : V c u env t Q E m n := V.i fun ok A hp tk fit md => H A hp tk ok fit md fun v _ hv => ⟨⟨rfl, rfl, rfl⟩, m, n, md, h v hv⟩
theorem V.tok {t : Sem α} (v : Tok → α) (H : ∀ A h tk, c.Ok → Fits u env A → Mod c ((env, m) :: u.fs) n h → ∀ {Q' : α → Shared → Prop} {E'}, (∀ k tk', Q' (v k) ⟨h, c.gens, c.drawn, tk', c.os⟩) → wpAny (model P c.w) A t Q' E' ⟨h, c.gens, c.drawn, tk, c.os⟩)
  (h : ∀ k, Q (v k) m n) : V c u env t Q E m n := V.i fun ok A hp tk fit md => H A hp tk ok fit md fun k _ => ⟨⟨rfl, rfl, rfl⟩, m, n, md, h k⟩
theorem V.act {t : Sem α} (S : α → Loc → Led → Prop) (H : ∀ A h tk, c.Ok → Fits u env A → Mod c ((env, m) :: u.fs) n h → ∀ {Q' : α → Shared → Prop} {E'}, (∀ v h' tk' m' n', Mod c ((env, m') :: u.fs) n' h' → S v m' n' → Q' v ⟨h', c.gens, c.drawn, tk', c.os⟩) → wpAny (model P c.w) A t Q' E' ⟨h, c.gens, c.drawn, tk, c.os⟩)
  (h : ∀ v m' n', S v m' n' → Q v m' n') : V c u env t Q E m n := V.i fun ok A hp tk fit md => H A hp tk ok fit md fun v h' _ m' n' md' hv => ⟨⟨rfl, rfl, rfl⟩, m', n', md', h v m' n' hv⟩
theorem V.perm {t : Sem α} {n' : Led} (hp : n'.Perm n) (h : V c u env t Q E m n') : V c u env t Q E m n := V.i fun ok A hh tk fit md => h.go ok A hh tk fit (md.perm hp)
theorem V.re {t : Sem α} {n' : Led} (hs : (foot n').Perm (foot n)) (hr : ∀ hp, (∀ p ∈ n, Rep hp p.1 p.2) → ∀ p ∈ n', Rep hp p.1 p.2) (h : V c u env t Q E m n') : V c u env t Q E m n := V.i fun ok A hh tk fit md => h.go ok A hh tk fit (md.re hs (hr _))
theorem V.lose {t : Sem α} (h : V c u env t (fun a m n => ∃ n', n'.Sublist n ∧ Q a m n') E m n) : V c u env t Q E m n :=
 V.i fun ok A hp tk fit md => wpAny_mono (h.go ok A hp tk fit md) (fun a s q => q.el fun _ _ m n y ⟨n', hs, z⟩ => ⟨⟨rfl, rfl, rfl⟩, m, n', y.sub hs, z⟩) fun _ _ x => x
theorem V.drop {t : Sem α} {n' : Led} (hp : n'.Sublist n) (h : V c u env t Q E m n') : V c u env t Q E m n := V.i fun ok A hh tk fit md => h.go ok A hh tk fit (md.sub hp)
end
section
variable (c : Cx) (u : Cu) (env : Env) (E : EP)
noncomputable abbrev Kf {α β : Type} (f : α → Sem β) (Q : β → Loc → Led → Prop) (a : α) (m : Loc) (n : Led) : Prop := V c u env (f a) Q E m n
noncomputable abbrev Kt {α β γ : Type} (t : Sem β) (g : α → β → Sem γ) (Q : γ → Loc → Led → Prop) (a : α) (m : Loc) (n : Led) : Prop := V c u env t (Kf c u env E (g a) Q) E m n
noncomputable abbrev K3 {α β γ δ : Type} (t : Sem β) (t' : Sem γ) (g : α → β → γ → Sem δ) (Q : δ → Loc → Led → Prop) (a : α) (m : Loc) (n : Led) : Prop := V c u env t (Kt c u env E t' (g a) Q) E m n
noncomputable abbrev KI {α : Type} (t e : Sem α) (Q : α → Loc → Led → Prop) (b : Bool) (m : Loc) (n : Led) : Prop := if b then V c u env t Q E m n else V c u env e Q E m n
noncomputable abbrev KAnd (t : Sem Bool) (Q : Bool → Loc → Led → Prop) (b : Bool) (m : Loc) (n : Led) : Prop := if b then V c u env t Q E m n else Q false m n
noncomputable abbrev KOr (t : Sem Bool) (Q : Bool → Loc → Led → Prop) (b : Bool) (m : Loc) (n : Led) : Prop := if b then Q true m n else V c u env t Q E m n
noncomputable abbrev KCons {α : Type} (v : α) (Q : List α → Loc → Led → Prop) (vs : List α) : Loc → Led → Prop := Q (v :: vs)
noncomputable abbrev KA {α : Type} (t : Sem (List α)) (Q : List α → Loc → Led → Prop) (v : α) (m : Loc) (n : Led) : Prop := V c u env t (KCons v Q) E m n
end
noncomputable abbrev KN {α : Type} (Q : Flow → Loc → Led → Prop) (_ : α) : Loc → Led → Prop := Q .next
noncomputable abbrev KR (Q : Flow → Loc → Led → Prop) (v : Value) : Loc → Led → Prop := Q (.ret v)
noncomputable abbrev KNot (Q : Bool → Loc → Led → Prop) (b : Bool) : Loc → Led → Prop := Q (!b)
noncomputable abbrev KU {α : Type} (P : Loc → Led → Prop) (_ : α) : Loc → Led → Prop := P
noncomputable abbrev KIn (i N : Nat) (J : Nat → Loc → Led → Prop) (m : Loc) (n : Led) : Prop := i < N ∧ J (i + 1) m n
noncomputable abbrev KLt (k : Nat) (J : Nat → Loc → Led → Prop) (m : Loc) (n : Led) : Prop := ∃ j, j < k ∧ J j m n
noncomputable abbrev KLp (P : Loc → Led → Prop) (Q : Flow → Loc → Led → Prop) (f : Flow) (m : Loc) (n : Led) : Prop := match f with | .next | .cont => P m n | .brk => Q .next m n | .ret v => Q (.ret v) m n
noncomputable abbrev KWh (c : Cx) (u : Cu) (env : Env) (E : EP) (body orelse : List Stmt) (P : Loc → Led → Prop) (Q : Flow → Loc → Led → Prop) (b : Bool) (m : Loc) (n : Led) : Prop := if b = true then V c u env (execs body env) (KLp P Q) E m n else V c u env (execs orelse env) Q E m n
noncomputable abbrev KMk (o : List Value → AObj) (Q : Value → Loc → Led → Prop) (vs : List Value) (m : Loc) (n : Led) : Prop := vs.length ≤ 10000 ∧ ∀ a, Q (.ref a) m ((a, o vs) :: n)
noncomputable abbrev tupO (vs : List Value) : AObj := .tup (vs.map nv)
noncomputable abbrev listO (vs : List Value) : AObj := .list (vs.map nv)
theorem mk_ {o : List Value → AObj} {Q : Value → Loc → Led → Prop} {vs : List Value} {m : Loc} {n : Led} (h1 : Nat.ble vs.length 10000 = true) (h : ∀ a, Q (.ref a) m ((a, o vs) :: n)) : KMk o Q vs m n := ⟨Nat.le_of_ble_eq_true h1, h⟩
noncomputable abbrev callA (f : Value) (first vs : List Value) : Sem Value := call f (first ++ vs)
noncomputable abbrev callM (pos : Pos) (args : List (Bool × Sem Value)) (kw : List (Option Str × Sem Value)) (fx : Value × List Value) : Sem Value := callWith pos fx.1 fx.2 args kw
noncomputable abbrev methA (name : Str) (pl : Sem Bool) (o : Value) : Sem (Value × List Value) := getMethod o name pl
noncomputable abbrev attrA (attr : Str) (o : Value) : Sem Value := getAttr o attr true
noncomputable abbrev setAt_ (attr : Str) (v o : Value) : Sem Unit := setAttr o attr v
noncomputable abbrev setIt_ (v o i : Value) : Sem Unit := setItem o i v
section
variable {c : Cx} {u : Cu} {env : Env} {Q : Flow → Loc → Led → Prop} {E : EP} {m : Loc} {n : Led}
theorem execs_nil (h : Q .next m n) : V c u env (execs [] env) Q E m n := V.pure h
noncomputable def after (c : Cx) (u : Cu) (env : Env) (rest : List Stmt) (Q : Flow → Loc → Led → Prop) (E : EP) : Flow → Loc → Led → Prop
 | .next => V c u env (execs rest env) Q E
 | f => Q f
theorem execs_cons {st : Stmt} {rest : List Stmt} (h : V c u env (exec st env) (after c u env rest Q E) E m n) : V c u env (execs (st :: rest) env) Q E m n :=
 V.i fun ok A hp tk fit md => wpAny_execs_cons (wpAny_mono (h.go ok A hp tk fit md) (fun f s q => by
  cases f with
  | next => exact PV.go q ok fit
  | _ => exact q) fun _ _ x => x)
theorem Return_ {e : Expr} {pos : Pos} (h : V c u env (eval e env) (KR Q) E m n) : V c u env (exec (.Return (some e) pos) env) Q E m n :=
 V.i fun ok A hp tk fit md => wpAny_Return_some (h.go ok A hp tk fit md)
theorem ReturnNone_ {pos : Pos} (h : Q (.ret .none) m n) : V c u env (exec (.Return none pos) env) Q E m n :=
 V.i fun ok A hp tk fit md => wpAny_Return_none ⟨⟨rfl, rfl, rfl⟩, m, n, md, h⟩
theorem Assign_ {x : Str} {pos' pos : Pos} {value : Expr} (h : V c u env (eval value env) (Kf c u env E (storeName env x) (KN Q)) E m n)
  (hs : autoParam (swapsWith value (some (.Name x pos')) pos.line env = pure false) rfA) : V c u env (exec (.Assign [.Name x pos'] value pos) env) Q E m n :=
 V.i fun ok A hp tk fit md => wpAny_Assign_Name (h.run2 ok fit md) hs
theorem If_ {test : Expr} {body orelse : List Stmt} {pos : Pos}
  (h : V c u env (isTrue test env (eval test env)) (KI c u env E (execs body env) (execs orelse env) Q) E m n) : V c u env (exec (.If test body orelse pos) env) Q E m n :=
 V.i fun ok A hp tk fit md => wpAny_If (wpAny_mono (h.go ok A hp tk fit md) (fun b s q => by cases b <;> exact PV.go q ok fit) fun _ _ x => x)
end
section
variable {c : Cx} {u : Cu} {env : Env} {Q : Value → Loc → Led → Prop} {E : EP} {m : Loc} {n : Led}
theorem Int_ {i : Int} {k : Nat} {pos : Pos} (h : ∀ t, Q (.int i t) m n) : V c u env (eval (.Constant (.int i) k pos) env) Q E m n :=
 V.tok (fun t => .int i t) (fun A h tk ok fit md Q' E' hq => wpAny_Constant_int (hq _ _)) h
theorem StrC_ {x : Str} {k : Nat} {pos : Pos} (h : ∀ t, Q (.str x t) m n) : V c u env (eval (.Constant (.str x) k pos) env) Q E m n :=
 V.tok (fun t => .str x t) (fun A h tk ok fit md Q' E' hq => Calls.Constant_str (hq _ _)) h
theorem NoneC_ {k : Nat} {pos : Pos} (h : Q .none m n) : V c u env (eval (.Constant .none k pos) env) Q E m n := V.pure h
theorem BoolC_ {b : Bool} {k : Nat} {pos : Pos} (h : Q (.bool b) m n) : V c u env (eval (.Constant (.bool b) k pos) env) Q E m n := V.pure h
theorem BinOp_ {l r : Expr} {op : Operator} {pos : Pos} (h : V c u env (eval l env) (Kt c u env E (eval r env) (binaryOp op) Q) E m n) :
  V c u env (eval (.BinOp l op r pos) env) Q E m n := V.seq2 wpAny_BinOp h
theorem Compare_ {l r : Expr} {op : CmpOp} {pos : Pos} (hm : behindInMarks op r = false) (h : V c u env (eval l env) (Kt c u env E (eval r env) (compareOp op) Q) E m n) :
  V c u env (eval (.Compare l [op] [r] pos) env) Q E m n := V.seq2 (fun h => wpAny_Compare1 h hm) h
theorem UnaryOp_ {x : Expr} {op : UnaryOp} {pos : Pos} (h : V c u env (eval x env) (Kf c u env E (unaryOp op) Q) E m n) :
  V c u env (eval (.UnaryOp op x pos) env) Q E m n := V.seq wpAny_UnaryOp h
theorem IfExp_ {test body orelse : Expr} {pos : Pos}
  (h : V c u env (isTrue test env (eval test env)) (KI c u env E (eval body env) (eval orelse env) Q) E m n) : V c u env (eval (.IfExp test body orelse pos) env) Q E m n :=
 V.i fun ok A hp tk fit md => wpAny_IfExp (wpAny_mono (h.go ok A hp tk fit md) (fun b s q => by cases b <;> exact PV.go q ok fit) fun _ _ x => x)
theorem NameL_ {x : Str} {pos : Pos} {v : Value} (hl : env.kindOf x = some .local) (hv : m.lookup x = some v) (hd : (x == ("__debug__" : Str)) = false) (h : Q v m n) :
  V c u env (eval (.Name x pos) env) Q E m n :=
 V.val v (fun A h tk ok fit md Q' E' hq => wpAny_Name (wpAny_loadName_local fit.kind hl (md.frs (env, m) (.head _)).ns hv (hq _)) hd) h
theorem NameG_ {x : Str} {pos : Pos} {v : Value} (hl : env.kindOf x = some .globalImplicit) (hg : env.globals = mainGlobals) (hns : nsOkIn c.K mainGlobals = true) (hv : nsIn c.K mainGlobals x = some (some v)) (hd : (x == ("__debug__" : Str)) = false) (h : Q v m n) :
  V c u env (eval (.Name x pos) env) Q E m n :=
 V.val v (fun A h tk ok fit md Q' E' hq => by
  have N0 : c.b₀.Ns mainGlobals (c.b₀.nsMap mainGlobals) := .of_isNs (isNs_of_in ok.X hns)
  have N : c.b₀.Ns env.globals (c.b₀.nsMap mainGlobals) := hg ▸ N0
  exact Name_function_global fit.kind hl (loadGlobal_global (env := env) (N.keeps md.keep) (mg_of ok.X N0 hv) (hq _)) hd) h
theorem NameB_ {x : Str} {pos : Pos} {v : Value} (hl : env.kindOf x = some .globalImplicit) (hg : env.globals = mainGlobals) (hb : env.builtins = builtinsNs) (hns : nsOkIn c.K mainGlobals = true) (hv : nsIn c.K mainGlobals x = some none) (hx : bootBuiltins x = some v) (hn : x ≠ "__name__") (hd : (x == ("__debug__" : Str)) = false) (h : Q v m n) :
  V c u env (eval (.Name x pos) env) Q E m n :=
 V.val v (fun A h tk ok fit md Q' E' hq => by
  have N0 : c.b₀.Ns mainGlobals (c.b₀.nsMap mainGlobals) := .of_isNs (isNs_of_in ok.X hns)
  have N : c.b₀.Ns env.globals (c.b₀.nsMap mainGlobals) := hg ▸ N0
  obtain ⟨mb, B, hB⟩ := ok.b
  exact Name_function_global fit.kind hl (loadGlobal_builtin (env := env) (N.keeps md.keep) (mg_none_of ok.X N0 hv) (hb ▸ B.keeps md.keep) ((hB x hn).trans hx) (hq _)) hd) h
theorem Store_ {x : Str} {v : Value} {Q : Unit → Loc → Led → Prop} (hl : env.kindOf x = some .local) (h : Q () ((x, v) :: m) n) : V c u env (storeName env x v) Q E m n :=
 V.act (fun _ m' n' => m' = (x, v) :: m ∧ n' = n) (fun A h tk ok fit md Q' E' hq => wpAny_storeName_local hl (md.frs (env, m) (.head _)).ns (fun h' hn hs => by
  refine hq () h' _ ((x, v) :: m) n (md.store (fun b hb => hs.2 b hb) ?_) ⟨rfl, rfl⟩
  have e : (fun y => if y = x then some v else m.lookup y) = fun y => ((x, v) :: m).lookup y := by
   funext y
   rw [List.lookup_cons]
   by_cases q : y = x
   ·subst q; simp
   ·have : (y == x) = false := by simpa using q
    simp [q, this]
  exact e ▸ hn) (by rw [fit.kind]; rfl)) (fun _ m' n' e => by obtain ⟨rfl, rfl⟩ := e; exact h)
end
section
variable {c : Cx} {u : Cu} {env : Env} {Q : Value → Loc → Led → Prop} {E : EP} {m : Loc} {n : Led}
noncomputable abbrev retV : Flow → Value
 | .ret v => v
 | _ => .none
end
noncomputable def Tr (S X : List Addr) (h h' : Heap) : Prop := ∀ b o, h.get? b = some o → b ∉ X → ∃ sl, h'.get? b = some { o with slots := sl } ∧ (b ∉ S → sl = o.slots)
theorem Tr.refl (S X : List Addr) (h : Heap) : Tr S X h h := fun b o e _ => ⟨o.slots, e, fun _ => rfl⟩
theorem Tr.trans {S X : List Addr} {h h' h'' : Heap} (x : Tr S X h h') (y : Tr S X h' h'') : Tr S X h h'' := fun b o e hb => by
 obtain ⟨sl, e1, k1⟩ := x b o e hb
 obtain ⟨sl', e2, k2⟩ := y b _ e1 hb
 exact ⟨sl', e2, fun hS => (k2 hS).trans (k1 hS)⟩
theorem Tr.of_slots {S X : List Addr} {h h' : Heap} (x : Heap.SlotsOnly S h h') : Tr S X h h' := fun b o e _ => by
 by_cases hb : b ∈ S
 ·obtain ⟨sl, e'⟩ := x.2.2 b o e
  exact ⟨sl, e', fun q => absurd hb q⟩
 ·exact ⟨o.slots, (x.2.1 b hb).trans e, fun _ => rfl⟩
theorem Tr.of_push {S X : List Addr} {h : Heap} {o : Obj} : Tr S X h (h.push o) := fun b o' e _ => ⟨o'.slots, Heap.get?_push_of_some _ e, fun _ => rfl⟩
theorem Tr.of_update {S X : List Addr} {h : Heap} {a : Addr} {f : Obj → Obj} (ha : a ∈ X) : Tr S X h (h.update a f) := fun b o e hb =>
 ⟨o.slots, (Heap.get?_update_other _ _ (fun q : a = b => hb (by rw [← q]; exact ha))).trans e, fun _ => rfl⟩
theorem Mod.through {c : Cx} {fs : List (Env × Loc)} {n : Led} {h h' : Heap} {S X : List Addr} (d : Mod c fs n h) (t : Tr S X h h') (hX : ∀ x ∈ X, x ∉ foot n ∧ c.b₀.get? x = none) (hXf : ∀ x ∈ X, ∀ f ∈ fs, x ≠ f.1.locals)
  (hS : ∀ x ∈ S, x ∉ foot n ∧ c.b₀.get? x = none) : Mod c fs n h' := by
 have get : ∀ b o, h.get? b = some o → (b ∈ foot n ∨ ∃ o', c.b₀.get? b = some o') → h'.get? b = some o := fun b o e hb => by
  have out : ∀ l : List Addr, (∀ x ∈ l, x ∉ foot n ∧ c.b₀.get? x = none) → b ∉ l := fun l hl q => by
   have := hl b q
   rcases hb with hb | ⟨o', hb⟩
   ·exact this.1 hb
   ·rw [this.2] at hb; cases hb
  obtain ⟨sl, e', k⟩ := t b o e (out X hX)
  rw [e', k (out S hS)]
 refine ⟨fun b o e => get b o (d.keep b o e) (.inr ⟨o, e⟩), fun f hf => ⟨?_, (d.frs f hf).size, (d.frs f hf).out⟩, d.fnd, fun p hp => ?_, d.new, d.nd⟩
 ·obtain ⟨o, es, ep, ho, hd, r⟩ := (d.frs f hf).ns
  obtain ⟨sl, e', _⟩ := t _ o ho (fun q => hXf _ q f hf rfl)
  exact ⟨_, es, ep, e', hd, r⟩
 ·refine Rep.of (fun b hb => ?_) (d.led p hp)
  obtain ⟨o, ho⟩ := (d.led p hp).there b hb
  rw [ho, get b o ho (.inl (mem_foot hp hb))]
section
variable {M : Model} {A : Around} {c : Cx} {u : Cu} {env : Env} {m : Loc} {n : Led} {h : Heap} {e d : Addr} {tk : Nat} {E' : Value → Shared → Prop}
theorem Mod.notFields {fs : List (Env × Loc)} (md : Mod c fs n h) {f : Env × Loc} (hf : f ∈ fs) {x : Addr} {o : Obj} {vs : Array Value} (ho : h.get? x = some o) (hd : o.data = .fields vs) : x ≠ f.1.locals := by
 rintro rfl
 obtain ⟨o', es, ep, ho', hd', _⟩ := (md.frs f hf).ns
 rw [ho] at ho'; cases ho'; rw [hd] at hd'; cases hd'
theorem Fits.frame_mem {fs : List (Env × Loc)} {env : Env} {m : Loc} {A : Around} (fit : Fits u env A) (md : Mod c ((env, m) :: u.fs) n h) {x : Addr} (hx : x ∈ u.fl.filterMap (·.frame)) : x ∉ foot n ∧ c.b₀.get? x = none ∧ ∃ o, h.get? x = some o ∧ ∀ vs, o.data ≠ .fields vs := by
 obtain ⟨e, he, hf⟩ := List.mem_filterMap.mp hx
 obtain ⟨h1, h2, h3⟩ := fit.own e he
 rw [h2] at hf
 obtain rfl := Option.some.inj hf
 clear hf
 have : ∃ f ∈ (env, m) :: u.fs, f.1 = e := by
  rcases List.mem_cons.mp h1 with rfl | h1
  ·exact ⟨_, .head _, rfl⟩
  ·obtain ⟨f, hf, rfl⟩ := List.mem_map.mp h1
   exact ⟨f, .tail _ hf, rfl⟩
 obtain ⟨f, hf, rfl⟩ := this
 have k := md.frs f hf
 obtain ⟨o, es, ep, ho, hd, _⟩ := k.ns
 exact ⟨k.out, k.new, o, ho, fun vs q => by rw [hd] at q; cases q⟩
theorem Fits.funFrames {m : Loc} (fit : Fits u env A) (md : Mod c ((env, m) :: u.fs) n h) : h.FunFrames c.b₀ u.fl := by
 have : ∀ l : List Env, (∀ e ∈ l, e ∈ u.fl) → h.FunFrames c.b₀ l := by
  intro l
  induction l with
  | nil => intro _; trivial
  | cons e l ih =>
   intro hl
   have he := hl e (.head _)
   obtain ⟨h1, h2, h3⟩ := fit.own e he
   obtain ⟨k1, k2, o, ho, hd⟩ := fit.frame_mem (fs := []) md (x := e.locals) (List.mem_filterMap.mpr ⟨e, he, h2⟩)
   exact ⟨by rw [h3]; decide, ⟨e.locals, o, h2, k2, ho, hd⟩, ih fun e' he' => hl e' (.tail _ he')⟩
 exact this _ fun _ h => h
theorem note_ {m : Loc} {k : Option Value} {outer : List Env} {Q' : Unit → Shared → Prop} (fit : Fits u env A) (hfl : u.fl = env :: outer) (md : Mod c ((env, m) :: u.fs) n h) (x : Ex c n h e d k)
  (hk : k = none ∨ k = some .none ∨ k = some (rawInt env.locals))
  (hq : ∀ h', Mod c ((env, m) :: u.fs) n h' → Ex c n h' e d (some (rawInt env.locals)) → Q' () ⟨h', c.gens, c.drawn, tk, c.os⟩) :
  wpAny M A (noteFrame (.ref e) env) Q' E' ⟨h, c.gens, c.drawn, tk, c.os⟩ := by
 have hf : env.frame = some env.locals := (fit.own env (hfl ▸ List.mem_cons_self)).2.1
 obtain ⟨oe, vs, he, hc, hdd, hd, hst⟩ := x.at_
 have hXe : ∀ f ∈ (env, m) :: u.fs, e ≠ f.1.locals := fun f hf' => md.notFields hf' he hd
 unfold noteFrame
 simp only [hf]
 have rest : ∀ (head : Value) (hadNext : Bool) (h₁ : Heap) (oe₁ : Obj) (vs₁ : Array Value), Mod c ((env, m) :: u.fs) n h₁ → h₁.get? e = some oe₁ → oe₁.cls = .ref 71 → oe₁.dict = some d → oe₁.data = .fields vs₁ → 1 < vs₁.size →
   wpAny M A (do let a ← frameOf env; let pl ← entryPlaceOf env.locals hadNext; let b ← EntryCells.newEntry head a .none (rawInt env.locals) .none pl; setField (.ref e) 1 b) Q' E' ⟨h₁, c.gens, c.drawn, tk, c.os⟩ := by
  intro head hadNext h₁ oe₁ vs₁ md₁ he₁ hc₁ hdd₁ hd₁ hsz
  refine wpAny_bind (wpAny_frameOf_fun (base := c.b₀) (outer := outer) (hfl ▸ fit.frames) (hfl ▸ fit.funFrames md₁) hf fun h₂ hs => ?_)
  have t2 : Tr (u.fl.filterMap (·.frame)) [e] h₁ h₂ := Tr.of_slots (hfl ▸ hs)
  refine wpAny_bind (wpAny_entryPlaceOf fun pl hpl => ?_)
  unfold EntryCells.newEntry newFields
  refine wpAny_bind (wpAny_newObj_type ?_ (hpl.sizeOk5 _ _ _ _ _))
  have heS : e ∉ u.fl.filterMap (·.frame) := fun hm => by
   obtain ⟨_, _, o, ho, hnf⟩ := fit.frame_mem (fs := []) md₁ hm
   rw [he₁] at ho; cases ho; exact hnf _ hd₁
  have he₂ : h₂.get? e = some oe₁ := (hs.2.1 e (hfl ▸ heS)).trans he₁
  have he₃ := Heap.get?_push_of_some (h := h₂) { cls := .type "traceback", dict := none, data := .fields ([head, .ref env.locals, .none, rawInt env.locals, .none] ++ (if pl.isEmpty then List.replicate 6 Value.none else pl)).toArray } he₂
  refine wpAny_setField he₃ hd₁ hsz (hq _ ?_ ?_)
  ·refine md₁.through (S := u.fl.filterMap (·.frame)) (X := [e]) ((t2.trans Tr.of_push).trans (Tr.of_update (.head _))) ?_ ?_ ?_
   ·intro y hy; rw [List.mem_singleton.mp hy]; exact ⟨x.out, x.new⟩
   ·intro y hy f hf'; rw [List.mem_singleton.mp hy]; exact hXe f hf'
   ·intro y hy; exact ⟨(fit.frame_mem (fs := []) md₁ hy).1, (fit.frame_mem (fs := []) md₁ hy).2.1⟩
  ·have hTe : h₂.objs.size ≠ e := Nat.ne_of_gt (Heap.lt_size he₂)
   have hd₄ := Obj.data_mapFields hd₁ (·.setIfInBounds 1 (Value.ref h₂.objs.size))
   have he₄ := Heap.get?_update_self (Obj.mapFields (·.setIfInBounds 1 (Value.ref h₂.objs.size))) he₃ (Obj.isFreed_of_fields hd₄)
   refine ⟨x.out, x.new, _, _, he₄, (Obj.cls_mapFields _ _).trans hc₁, ?_, hd₄, h₂.objs.size, _, _, by simp [hsz], ?_, ?_, hTe,
    (Heap.get?_update_other _ _ (Ne.symm hTe)).trans (Heap.get?_push_size h₂ rfl), rfl, by first | (simp; done) | (rcases hpl with rfl | ⟨_, _, _, _, _, _, _, rfl⟩ <;> simp)⟩
   ·obtain ⟨a1, a2, a3, a4⟩ := oe₁
    dsimp only at hd₁; subst hd₁; exact hdd₁
   ·intro hm
    obtain ⟨o, ho⟩ := md₁.there hm
    have := Heap.lt_size ho
    rw [← hs.1] at this; exact Nat.lt_irrefl _ this
   ·cases q : c.b₀.get? h₂.objs.size with
    | none => rfl
    | some o =>
     have := Heap.lt_size (md₁.keep _ _ q)
     rw [← hs.1] at this; exact absurd this (Nat.lt_irrefl _)
 rcases hk with rfl | rfl | rfl
 ·have hst : vs[1]? = some .none := hst
  refine wpAny_bind (wpAny_field he hd hst ?_)
  exact rest .none false h oe vs md he hc hdd hd (Array.getElem?_eq_some_iff.mp hst).1
 ·obtain ⟨T, oT, ts, h1, hTf, hTb, hTe, hT, hdT, h3⟩ := hst
  refine wpAny_bind (wpAny_field he hd h1 ?_)
  rw [if_pos (show (Value.ref T != Value.none) = true from by simp)]
  refine wpAny_bind (wpAny_field hT hdT h3 ?_)
  rw [if_neg (show ¬ ((Value.none == rawInt env.locals) = true) from by simp [rawInt])]
  refine wpAny_bind (wpAny_setField hT hdT (Array.getElem?_eq_some_iff.mp h3).1 ?_)
  have hXT : ∀ f ∈ (env, m) :: u.fs, T ≠ f.1.locals := fun f hf' => md.notFields hf' hT hdT
  refine rest (.ref T) _ _ oe vs (md.through (S := []) (X := [T]) (Tr.of_update (.head _)) ?_ ?_ (fun y hy => nomatch hy)) ((Heap.get?_update_other _ _ hTe).trans he) hc hdd hd (Array.getElem?_eq_some_iff.mp h1).1
  ·intro y hy; rw [List.mem_singleton.mp hy]; exact ⟨hTf, hTb⟩
  ·intro y hy f hf'; rw [List.mem_singleton.mp hy]; exact hXT f hf'
 ·have hst' := hst
  obtain ⟨T, oT, ts, h1, hTf, hTb, hTe, hT, hdT, h3⟩ := hst
  refine wpAny_bind (wpAny_field he hd h1 ?_)
  rw [if_pos (show (Value.ref T != Value.none) = true from by simp)]
  refine wpAny_bind (wpAny_field hT hdT h3 ?_)
  rw [if_pos (show (rawInt env.locals == rawInt env.locals) = true from by simp)]
  exact wpAny_pure (hq h md x)
theorem flight_ {fs : List (Env × Loc)} {v : Value} {fr : Option Addr} {Q' : Unit → Shared → Prop} (md : Mod c fs n h) (x : Ex c n h e d (some v))
  (hq : ∀ h', Mod c fs n h' → Ex c n h' e d (some (fr.elim .none fun f => rawInt f)) → Q' () ⟨h', c.gens, c.drawn, tk, c.os⟩) :
  wpAny M A (setFlight (.ref e) fr) Q' E' ⟨h, c.gens, c.drawn, tk, c.os⟩ := by
 obtain ⟨oe, vs, he, hc, hdd, hd, T, oT, ts, h1, hTf, hTb, hTe, hT, hdT, h3⟩ := x.at_
 unfold setFlight
 refine wpAny_bind (wpAny_field he hd h1 ?_)
 rw [if_pos (show (Value.ref T != Value.none) = true from by simp)]
 have hsz := (Array.getElem?_eq_some_iff.mp h3).1
 refine wpAny_setField hT hdT hsz (hq _ ?_ ?_)
 ·refine md.through (S := []) (X := [T]) (Tr.of_update (.head _)) ?_ ?_ (fun y hy => nomatch hy)
  ·intro y hy; rw [List.mem_singleton.mp hy]; exact ⟨hTf, hTb⟩
  ·intro y hy f hf'; rw [List.mem_singleton.mp hy]; exact md.notFields hf' hT hdT
 ·have hd₄ := Obj.data_mapFields hdT (·.setIfInBounds 3 (fr.elim .none fun f => rawInt f))
  exact ⟨x.out, x.new, oe, vs, (Heap.get?_update_other _ _ hTe).trans he, hc, hdd, hd, T, _, _, h1, hTf, hTb, hTe, Heap.get?_update_self _ hT (Obj.isFreed_of_fields hd₄), hd₄, by simp [hsz]⟩
theorem leave_ {m : Loc} {k : Option Value} {outer : List Env} {Q' : Unit → Shared → Prop} (fit : Fits u env A) (hfl : u.fl = env :: outer) (md : Mod c ((env, m) :: u.fs) n h) (x : Ex c n h e d k)
  (hk : k = none ∨ k = some .none ∨ k = some (rawInt env.locals))
  (hq : ∀ h', Mod c ((env, m) :: u.fs) n h' → Ex c n h' e d (some .none) → Q' () ⟨h', c.gens, c.drawn, tk, c.os⟩) :
  wpAny M A (leaving env (.ref e)) Q' E' ⟨h, c.gens, c.drawn, tk, c.os⟩ :=
 wpAny_bind (note_ fit hfl md x hk fun h' md' x' => flight_ md' x' fun h'' md'' x'' => hq h'' md'' x'')
end
structure Fn0 (K : Frag) (f cd : Addr) (qual : Str) (params : Arguments) (body : List Stmt) (scope : Scope) (dV : Value) : Prop where
 at_ : ∃ oc od osl name pm, K.lookup f = some ⟨oc, od, .func (fnX name qual params body scope [] dV .none .none pm none (.ref cd) .none), osl⟩
 code : codeIn K (.ref cd) qual = true
 kind : scope.kind = .function
 co : scope.isCoroutine = false
 gen : scope.isGenerator = false
structure Fn (K : Frag) (f cd : Addr) (qual : Str) (params : Arguments) (body : List Stmt) (scope : Scope) (dV : Value) : Prop extends Fn0 K f cd qual params body scope dV where
 cell : (scope.names.all fun x => x.2 != .cell) = true
noncomputable def Binds (K : Frag) (qual : Str) (params : Arguments) (dV : Value) (args : Args) (binds : List (Str × Value)) : Prop :=
 ∀ (h : Heap), K.In h → ∀ (s : Shared), s.heap = h → ∀ name body scope pm cd, BindsTo s (fnX name qual params body scope [] dV .none .none pm none cd .none) args binds
theorem Binds.pure {K : Frag} {qual : Str} {params : Arguments} {dV : Value} {args : Args} {binds : List (Str × Value)}
  (e : ∀ name body scope pm cd, bindArgs (fnX name qual params body scope [] dV .none .none pm none cd .none) args = Pure.pure binds) : Binds K qual params dV args binds :=
 fun _ _ _ _ _ _ _ _ _ => BindsTo.of_eq (e _ _ _ _ _)
noncomputable abbrev KRet (Q : Value → Loc → Led → Prop) (m : Loc) (fl : Flow) (_ : Loc) (n : Led) : Prop := Q (retV fl) m n
noncomputable abbrev KRet0 (Q : Value → Loc → Led → Prop) (v : Value) (m : Loc) (fl : Flow) (_ : Loc) (n : Led) : Prop := retV fl = .none ∧ Q v m n
noncomputable abbrev KRetC (Q : Value → Loc → Led → Prop) (m : Loc) (fl : Flow) (_ : Loc) (n : Led) : Prop := ∃ n'', n''.Sublist n ∧ Q (retV fl) m n''
noncomputable abbrev ECall (E : EP) (m : Loc) (_ : Option Value) (e d : Addr) (_ : Loc) (n : Led) : Prop := E (some .none) e d m n
section
variable {c : Cx} {u : Cu} {env : Env} {Q : Value → Loc → Led → Prop} {E : EP} {m : Loc} {n : Led}
noncomputable def Cu.into (u : Cu) (env' env : Env) (m : Loc) : Cu := ⟨u.hd, u.r - 1, env' :: u.fl, (env, m) :: u.fs⟩
theorem codeCall {f cd : Addr} {qual : Str} {params : Arguments} {body : List Stmt} {scope : Scope} {dV : Value} {args : Args} {binds m₀ : List (Str × Value)} {R : Result → Shared → Prop} {A : Around} {h : Heap} {tk : Nat}
  (F : Fn c.K f cd qual params body scope dV) (B : Binds c.K qual params dV args binds) (hloc : (binds.all fun y => decide (scope.names.lookup y.1 = some .local)) = true) (hm₀ : binds.reverse = m₀) (hr : 1 ≤ u.r)
  (ok : c.Ok) (fit : Fits u env A) (md : Mod c ((env, m) :: u.fs) n h)
  (hv : ∀ L, V c (u.into (envX qual scope L f (.ref cd) []) env m) (envX qual scope L f (.ref cd) []) (execs body (envX qual scope L f (.ref cd) [])) (KRet Q m) (ECall E m) m₀ n)
  (hq : ∀ v h' tk' n', Mod c ((env, m) :: u.fs) n' h' → Q v m n' → R (.ok (.ret v)) ⟨h', c.gens, c.drawn, tk', c.os⟩)
  (he : ∀ e d h' tk' n', Mod c ((env, m) :: u.fs) n' h' → Ex c n' h' e d (some .none) → E (some .none) e d m n' → R (.error (.ref e)) ⟨h', c.gens, c.drawn, tk', c.os⟩) :
  codeAny (model P c.w) A (.call (.ref f) args) R ⟨h, c.gens, c.drawn, tk, c.os⟩ := by
 subst hm₀
 obtain ⟨oc, od, osl, name, pm, hat⟩ := F.at_
 have X := ok.X.keeps md.keep
 have hd : A.depth < recursionLimit := Nat.lt_of_le_of_lt (Nat.le_add_right _ _) fit.depth
 refine codeAny_call_def (fd := fnX name qual params body scope [] dV .none .none pm none (.ref cd) .none) (body := body) (binds := binds) hd (X _ _ hat) rfl (ok.nolimit.keeps md.keep) (codeRec_of X F.code) rfl
  (B h X _ rfl _ _ _ _ _) (fun x hx => ?_) (locs hloc) (fun h₁ hns hk₁ => ?_) F.co F.gen F.kind
 ·have := List.all_eq_true.mp F.cell x hx
  simpa using this
 ·let env' : Env := envX qual scope h.objs.size f (.ref cd) []
  show wpAny (model P c.w) (A.deeper env') (execs body env') _ _ _
  have fit' : Fits (u.into env' env m) env' (A.deeper env') := by
   refine ⟨?_, fit.handled, ?_, ?_, F.kind, fun e he => ?_⟩
   ·show A.frames.map (env' :: ·) = some (env' :: u.fl); rw [fit.frames]; rfl
   ·exact lessD hr (Nat.le_refl 1) fit.depth
   ·exact lessU hr (k := 3) (by decide) fit.units
   ·rcases List.mem_cons.mp he with rfl | he
    ·exact ⟨.head _, rfl, F.kind⟩
    ·have := fit.own e he
     exact ⟨List.mem_cons_of_mem _ (by simpa only [Cu.into, List.map_cons] using this.1), this.2⟩
  have md' : Mod c ((env', binds.reverse) :: (u.into env' env m).fs) n h₁ := md.push hk₁ hns (Nat.le_refl _) md.size
  refine wpAny_mono ((hv h.objs.size).go ok _ h₁ _ fit' md') (fun fl s q => ?_) (fun x s q => ?_)
  ·exact q.el fun _ _ _ _ y z => hq _ _ _ _ y.pop z
  ·refine q.el fun _ _ _ _ _ _ _ y g o z => ?_
   exact leave_ fit' rfl y g o fun h'' y' g' => he _ _ _ _ _ y'.pop g' z
theorem Call_ {f cd : Addr} {qual : Str} {params : Arguments} {body : List Stmt} {scope : Scope} {dV : Value} {args : List Value} {kw : List (Str × Value)} {binds m₀ : List (Str × Value)}
  (F : Fn c.K f cd qual params body scope dV) (B : Binds c.K qual params dV ⟨args, kw⟩ binds) (hloc : (binds.all fun y => decide (scope.names.lookup y.1 = some .local)) = true) (hm₀ : binds.reverse = m₀) (hr : 1 ≤ u.r)
  (hv : ∀ L, let e := envX qual scope L f (.ref cd) []; let w := u.into e env m; let q := KRet Q m; let x := ECall E m; V c w e (execs body e) q x m₀ n) :
  V c u env (call (.ref f) args kw) Q E m n := V.i fun ok A h tk fit md =>
 wpAny_call (codeCall F B hloc hm₀ hr ok fit md hv (fun v h' tk' n' y z => ⟨⟨rfl, rfl, rfl⟩, m, n', y, z⟩) fun e d h' tk' n' y g z => ⟨⟨rfl, rfl, rfl⟩, _, e, d, m, n', rfl, y, g, .inr (.inl rfl), z⟩)
end
section
variable {c : Cx} {u : Cu} {env : Env} {Q : Value → Loc → Led → Prop} {E : EP} {m : Loc} {n : Led}
theorem nv_ref {v : Value} {a : Addr} (h : nv v = .ref a) : v = .ref a := by cases v <;> simp_all [nv]
theorem nv_none {v : Value} (h : nv v = .none) : v = .none := by cases v <;> simp_all [nv]
theorem nv_bool {v : Value} {b : Bool} (h : nv v = .bool b) : v = .bool b := by cases v <;> simp_all [nv]
theorem nv_int {v : Value} {i : Int} {t : Tok} (h : nv v = .int i t) : ∃ t, v = .int i t := by cases v <;> simp_all [nv]
theorem nv_str {v : Value} {x : Str} {t : Tok} (h : nv v = .str x t) : ∃ t, v = .str x t := by cases v <;> simp_all [nv]
section
variable {Q : Value → Loc → Led → Prop} {m : Loc} {n : Led}
theorem rf {a : Addr} (h : Q (.ref a) m n) : ∀ v, nv v = .ref a → Q v m n := fun v hv => by rw [nv_ref hv]; exact h
theorem it_ {i : Int} {t₀ : Tok} (h : ∀ t, Q (.int i t) m n) : ∀ v, nv v = .int i t₀ → Q v m n := fun v hv => by obtain ⟨t, rfl⟩ := nv_int hv; exact h t
theorem st_ {x : Str} {t₀ : Tok} (h : ∀ t, Q (.str x t) m n) : ∀ v, nv v = .str x t₀ → Q v m n := fun v hv => by obtain ⟨t, rfl⟩ := nv_str hv; exact h t
theorem bo_ {b : Bool} (h : Q (.bool b) m n) : ∀ v, nv v = .bool b → Q v m n := fun v hv => by rw [nv_bool hv]; exact h
end
theorem Attr_ {value : Expr} {attr : Str} {pos : Pos} (hb : attributeBase value attr env (eval value env) = eval value env)
  (h : V c u env (eval value env) (Kf c u env E (attrA attr) Q) E m n) : V c u env (eval (.Attribute value attr pos) env) Q E m n := by
 refine V.of_eq (arm_eval_Attribute _ _ _ _) ?_
 rw [hb]
 refine V.bind (V.mono h (fun o m n h => ?_) fun _ _ _ _ _ h => h)
 refine V.i fun ok A hp tk fit md => ?_
 refine wpAny_bind (wpAny_standAt (wpAny_bind (wpAny_holding (wpAny_mono (h.go ok A hp tk fit md) (fun r s z => ?_) fun _ _ z => z))))
 exact wpAny_bind (wpAny_letTemporaryGo (wpAny_pure z))
theorem MCall_ {o : Expr} {name : Str} {apos pos : Pos} {args : List Expr} {pl : Sem Bool}
  (he : eval (.Call (.Attribute o name apos) args [] pos) env = (do
   let ov ← eval o env
   standAt apos.atName
   let (f, first) ← holding [ov] (getMethod ov name pl)
   callWith pos f first (backTo pos (starEach args env)) []))
  (h : V c u env (eval o env) (Kf c u env E (methA name pl) (Kf c u env E (callM pos (backTo pos (starEach args env)) []) Q)) E m n) :
  V c u env (eval (.Call (.Attribute o name apos) args [] pos) env) Q E m n := V.seq2 (fun h => MethodCall_ h he) h
theorem NCall_ {id : Str} {p pos : Pos} {args : List Expr}
  (h : V c u env (eval (.Name id p) env) (Kf c u env E (fun f => callWith pos f [] (backTo pos (starEach args env)) []) Q) E m n) : V c u env (eval (.Call (.Name id p) args [] pos) env) Q E m n :=
 V.seq wpAny_Call_Name_kw h
theorem args0_ {pos : Pos} {Q : List Value → Loc → Led → Prop} (h : Q [] m n) : V c u env (spliced (backTo pos (starEach [] env))) Q E m n := V.pure h
theorem args1_ {e : Expr} {rest : List Expr} {pos : Pos} {Q : List Value → Loc → Led → Prop} (he : starEach (e :: rest) env = (false, eval e env) :: starEach rest env)
  (h : V c u env (eval e env) (KA c u env E (spliced (backTo pos (starEach rest env))) Q) E m n) : V c u env (spliced (backTo pos (starEach (e :: rest) env))) Q E m n :=
 V.i fun ok A hp tk fit md => spliced_more (wpAny_mono (h.go ok A hp tk fit md) (fun _ _ q => q.go ok fit) fun _ _ x => x) he
theorem callK_ {f : Value} {first : List Value} {a : Expr} {r : List Expr} {pos : Pos} (hk : keepIn c.K f = true) (he : starEach (a :: r) env = (false, eval a env) :: starEach r env) (hp : ((backTo pos (starEach (a :: r) env)).any (·.1)) = false)
  (h : V c u env (spliced (backTo pos (starEach (a :: r) env))) (Kf c u env E (callA f first) Q) E m n) : V c u env (callWith pos f first (backTo pos (starEach (a :: r) env)) []) Q E m n :=
 V.i fun ok A hh tk fit md => callWith_of (P := fun h => c.K.In h) (by rw [hp]; rfl) (keeps_K hk) (by
  have key := wpAny_mono (h.go ok A hh tk fit md) (fun vs s q => q.el (G := fun s => c.K.In s.heap ∧ wpAny (model P c.w) A (call f (first ++ vs) []) _ _ s) fun _ _ _ _ y z => ⟨ok.X.keeps y.keep, z.go ok A _ _ fit y⟩) fun _ _ x => x
  rw [he] at key ⊢
  exact evalArgs_plain key)
theorem callK0_ {f : Value} {first : List Value} {pos : Pos} (hk : keepIn c.K f = true)
  (h : V c u env (call f (first ++ [])) Q E m n) : V c u env (callWith pos f first (backTo pos (starEach [] env)) []) Q E m n :=
 V.i fun ok A hh tk fit md => callWith_of (P := fun h => c.K.In h) rfl (keeps_K hk) (evalArgs_nil3 ⟨ok.X.keeps md.keep, h.go ok A hh tk fit md⟩)
theorem callB_ {f : Value} {first : List Value} {a : Expr} {r : List Expr} {pos : Pos} (hf : keeperOf f = Pure.pure .machine) (he : starEach (a :: r) env = (false, eval a env) :: starEach r env) (hp : ((backTo pos (starEach (a :: r) env)).any (·.1)) = false)
  (h : V c u env (spliced (backTo pos (starEach (a :: r) env))) (Kf c u env E (callA f first) Q) E m n) : V c u env (callWith pos f first (backTo pos (starEach (a :: r) env)) []) Q E m n :=
 V.i fun ok A hh tk fit md => callWith_of (P := fun h => c.K.In h) (by rw [hp]; rfl) (fun _ _ => ⟨.machine, .inr (.inl rfl), Looks.of_pure hf⟩) (by
  have key := wpAny_mono (h.go ok A hh tk fit md) (fun vs s q => q.el (G := fun s => c.K.In s.heap ∧ wpAny (model P c.w) A (call f (first ++ vs) []) _ _ s) fun _ _ _ _ y z => ⟨ok.X.keeps y.keep, z.go ok A _ _ fit y⟩) fun _ _ x => x
  rw [he] at key ⊢
  exact evalArgs_plain key)
theorem callB0_ {f : Value} {first : List Value} {pos : Pos} (hf : keeperOf f = Pure.pure .machine)
  (h : V c u env (call f (first ++ [])) Q E m n) : V c u env (callWith pos f first (backTo pos (starEach [] env)) []) Q E m n :=
 V.i fun ok A hh tk fit md => callWith_of (P := fun h => c.K.In h) rfl (fun _ _ => ⟨.machine, .inr (.inl rfl), Looks.of_pure hf⟩) (evalArgs_nil3 ⟨ok.X.keeps md.keep, h.go ok A hh tk fit md⟩)
end
structure AttrIn (K : Frag) (C : Addr) (name : Str) : Prop where
 ga : findIn K (.ref C) "__getattribute__" = some (some (.builtin "object.__getattribute__"))
 free : findIn K (.ref C) name = some none
 dict : (clsIn K C).any (·.hasDict) = true
structure MethIn (K : Frag) (C : Addr) (name : Str) (f : Addr) : Prop where
 get : plainGet K C name = true
 at_ : findIn K (.ref C) name = some (some (.ref f))
 fn : typeIn K (.ref f) = some (.type "function")
structure SetIn (K : Frag) (C : Addr) (name : Str) : Prop where
 sa : findIn K (.ref C) "__setattr__" = some (some (.builtin "object.__setattr__"))
 over : plainOver K C = true
 taker : takerIn K C name = some none
 dict : (clsIn K C).any (·.hasDict) = true
theorem lookIn_of {od : Obj} {es : Array DictEntry} {k : Nat} {name : Str} (hd : od.data = .dict es k) (hk : StrKeys es) : lookIn name od = some (nsFind es name) := by
 unfold lookIn
 rw [hd]
 dsimp only
 have hany : es.toList.any (·.refKey) = false := by
  rw [List.any_eq_false]; intro e he; obtain ⟨n, t, h⟩ := hk e (Array.mem_toList_iff.mp he); simp [DictEntry.refKey, h]
 unfold nsFind findBy
 rw [← Array.find?_toList]
 cases es.toList.find? (·.key.isStr name) with
 | some e => rfl
 | none => simp [hany]
theorem AttrIn.find {K : Frag} {C : Addr} {name : Str} (a : AttrIn K C name) {od : Obj} {v : Value} (hl : lookIn name od = some (some v)) : findObj K C (some od) name = some (.value v) := by
 obtain ⟨h1, h2, h3⟩ := a
 obtain ⟨cd, hc, hd⟩ := any_some h3
 unfold findObj
 rw [hc, Option.bind_some, h2, Option.bind_some]
 simp only [Option.bind_some]
 unfold PySem.W.ownOf
 rw [if_pos hd]
 dsimp only
 rw [hl]; rfl
section
variable {c : Cx} {u : Cu} {env : Env} {E : EP} {m : Loc} {n : Led}
theorem inst_at {h : Heap} {a C d : Addr} {as : List (Str × Value)} (r : Rep h a (.inst C d as)) : ∃ od es k, InstAt h a (instObj C d) C (some od) ∧ h.get? d = some od ∧ od.data = .dict es k ∧ StrKeys es ∧ es.size ≤ as.length ∧ ∀ x, (nsFind es x).map nv = as.lookup x := by
 obtain ⟨h1, od, h2, es, k, h3, h4, h5, h6⟩ := r
 exact ⟨od, es, k, ⟨h1, rfl, rfl, h2⟩, h2, h3, h4, h5, h6⟩
theorem getA {a C d : Addr} {as : List (Str × Value)} {name : Str} {v₀ : Value} {ex : Bool} {Q : Value → Loc → Led → Prop} (hm : (a, AObj.inst C d as) ∈ n) (st : AttrIn c.K C name) (hl : as.lookup name = some v₀) (hh : ∀ v, nv v = v₀ → handedIn v = true)
  (h : ∀ v, nv v = v₀ → Q v m n) : V c u env (getAttr (.ref a) name ex) Q E m n :=
 V.vals (fun v => nv v = v₀) (fun A hp tk ok fit md Q' E' hq => by
  obtain ⟨od, es, k, I, h2, h3, h4, h5, h6⟩ := inst_at (md.led _ hm)
  have h7 := h6 name
  rw [hl] at h7
  obtain ⟨v, hv, hnv⟩ := Option.map_eq_some_iff.mp h7
  exact get_value (ok.X.keeps md.keep) I st.ga (st.find ((lookIn_of h3 h4).trans (congrArg some hv))) (hh v hnv) (hq v _ hnv)) h
theorem getA_ref {a C d x : Addr} {as : List (Str × Value)} {name : Str} {ex : Bool} {Q : Value → Loc → Led → Prop} (hm : (a, AObj.inst C d as) ∈ n) (hl : as.lookup name = some (.ref x)) (st : AttrIn c.K C name)
  (h : Q (.ref x) m n) : V c u env (getAttr (.ref a) name ex) Q E m n :=
 getA hm st hl (fun v hv => by rw [nv_ref hv]; rfl) fun v hv => by rw [nv_ref hv]; exact h
theorem getA_int {a C d : Addr} {i : Int} {t : Tok} {as : List (Str × Value)} {name : Str} {ex : Bool} {Q : Value → Loc → Led → Prop} (hm : (a, AObj.inst C d as) ∈ n) (hl : as.lookup name = some (.int i t)) (st : AttrIn c.K C name)
  (h : ∀ t, Q (.int i t) m n) : V c u env (getAttr (.ref a) name ex) Q E m n :=
 getA hm st hl (fun v hv => by obtain ⟨t, rfl⟩ := nv_int hv; rfl) fun v hv => by obtain ⟨t, rfl⟩ := nv_int hv; exact h t
theorem getA_str {a C d : Addr} {x : Str} {t : Tok} {as : List (Str × Value)} {name : Str} {ex : Bool} {Q : Value → Loc → Led → Prop} (hm : (a, AObj.inst C d as) ∈ n) (hl : as.lookup name = some (.str x t)) (st : AttrIn c.K C name)
  (h : ∀ t, Q (.str x t) m n) : V c u env (getAttr (.ref a) name ex) Q E m n :=
 getA hm st hl (fun v hv => by obtain ⟨t, rfl⟩ := nv_str hv; rfl) fun v hv => by obtain ⟨t, rfl⟩ := nv_str hv; exact h t
theorem getA_none {a C d : Addr} {as : List (Str × Value)} {name : Str} {ex : Bool} {Q : Value → Loc → Led → Prop} (hm : (a, AObj.inst C d as) ∈ n) (hl : as.lookup name = some .none) (st : AttrIn c.K C name)
  (h : Q .none m n) : V c u env (getAttr (.ref a) name ex) Q E m n :=
 getA hm st hl (fun v hv => by rw [nv_none hv]; rfl) fun v hv => by rw [nv_none hv]; exact h
theorem getA_bool {a C d : Addr} {b : Bool} {as : List (Str × Value)} {name : Str} {ex : Bool} {Q : Value → Loc → Led → Prop} (hm : (a, AObj.inst C d as) ∈ n) (hl : as.lookup name = some (.bool b)) (st : AttrIn c.K C name)
  (h : Q (.bool b) m n) : V c u env (getAttr (.ref a) name ex) Q E m n :=
 getA hm st hl (fun v hv => by rw [nv_bool hv]; rfl) fun v hv => by rw [nv_bool hv]; exact h
theorem getM {a C d f : Addr} {as : List (Str × Value)} {name : Str} {pl : Sem Bool} {Q : Value × List Value → Loc → Led → Prop} (hm : (a, AObj.inst C d as) ∈ n) (hl : as.lookup name = none) (st : MethIn c.K C name f)
  (h : Q (.ref f, [.ref a]) m n) : V c u env (getMethod (.ref a) name pl) Q E m n :=
 V.val (Value.ref f, [Value.ref a]) (fun A hp tk ok fit md Q' E' hq => by
  obtain ⟨od, es, k, I, h2, h3, h4, h5, h6⟩ := inst_at (md.led _ hm)
  have h7 := h6 name
  rw [hl, Option.map_eq_none_iff] at h7
  exact method_fn (ok.X.keeps md.keep) I (plainGet_of st.get).1 (plainGet_of st.get).2 st.at_ st.fn (by
   show (lookIn name od).map _ = _
   rw [lookIn_of h3 h4, h7]; rfl) (hq _)) h
end
noncomputable def setL (x : Str) (v : Value) : Loc → Loc
 | [] => [(x, v)]
 | (y, w) :: r => if x == y then (x, v) :: r else (y, w) :: setL x v r
theorem lookup_setL (x : Str) (v : Value) (y : Str) : ∀ l : Loc, (setL x v l).lookup y = if y = x then some v else l.lookup y
 | [] => by
  by_cases q : y = x
  ·subst q; simp [setL]
  ·have : (y == x) = false := by simpa using q
   simp [setL, q, List.lookup_cons, this]
 | (z, w) :: r => by
  unfold setL
  by_cases hz : x = z
  ·subst hz
   simp only [beq_self_eq_true, if_true, List.lookup_cons]
   by_cases q : y = x
   ·subst q; simp
   ·have : (y == x) = false := by simpa using q
    simp [q, this]
  ·have hz' : (x == z) = false := by simpa using hz
   simp only [hz', Bool.false_eq_true, if_false, List.lookup_cons, lookup_setL x v y r]
   by_cases q : y = x
   ·subst q
    simp [hz']
   ·simp [q]
theorem length_setL (x : Str) (v : Value) : ∀ l : Loc, (setL x v l).length = l.length + (if (l.lookup x).isSome then 0 else 1)
 | [] => by simp [setL]
 | (z, w) :: r => by
  unfold setL
  by_cases hz : x = z
  ·subst hz
   simp [List.lookup_cons]
  ·have hz' : (x == z) = false := by simpa using hz
   simp only [hz', Bool.false_eq_true, if_false, List.lookup_cons, List.length_cons, length_setL x v r]
   lia
inductive Put (a : Addr) (o o' : AObj) : Led → Led → Prop
 | here {r : Led} : Put a o o' ((a, o) :: r) ((a, o') :: r)
 | there {p : Addr × AObj} {r r' : Led} : Put a o o' r r' → Put a o o' (p :: r) (p :: r')
theorem Put.split {a : Addr} {o o' : AObj} {n n' : Led} (h : Put a o o' n n') : ∃ pre post, n = pre ++ (a, o) :: post ∧ n' = pre ++ (a, o') :: post := by
 induction h with
 | here => exact ⟨[], _, rfl, rfl⟩
 | there _ ih => obtain ⟨pre, post, rfl, rfl⟩ := ih; exact ⟨_ :: pre, post, rfl, rfl⟩
theorem Put.mem {a : Addr} {o o' : AObj} {n n' : Led} (h : Put a o o' n n') : (a, o) ∈ n := by
 obtain ⟨pre, post, rfl, rfl⟩ := h.split
 exact List.mem_append_right _ (.head _)
theorem Mod.put {c : Cx} {fs : List (Env × Loc)} {n n' : Led} {h h' : Heap} {a x : Addr} {o o' : AObj} (d : Mod c fs n h) (p : Put a o o' n n')
  (hs : ∀ b, b ≠ x → h'.get? b = h.get? b) (hx : x ∈ fp (a, o)) (hf : fp (a, o') = fp (a, o)) (r : Rep h' a o') : Mod c fs n' h' := by
 obtain ⟨pre, post, rfl, rfl⟩ := p.split
 exact d.turn hs hx hf r
theorem putName_facts {od : Obj} {es : Array DictEntry} {k : Nat} {name : Str} {hash : Int} {t : Tok} {v : Value} (hd : od.data = .dict es k) (hk : StrKeys es) :
  ∃ es' k', (Obj.putName name hash (.str name t) v od).data = .dict es' k' ∧ StrKeys es' ∧ (∀ x, nsFind es' x = if x = name then some v else nsFind es x) ∧ es'.size = es.size + (if (nsFind es name).isSome then 0 else 1) := by
 obtain ⟨c, d, dt, sl⟩ := od
 subst hd
 have hf : nsFind es name = match es.findIdx? (fun e => e.key.isStr name) with | some i => es[i]?.map (·.val) | none => none := findBy_of_findIdx? (fun n v => v.isStr n) es name
 cases hi : es.findIdx? (·.key.isStr name) with
 | some i =>
  have hlt : i < es.size := (Array.findIdx?_eq_some_iff_getElem.mp hi).1
  refine ⟨_, _, by simp only [Obj.putName_eq, Obj.putNameByArray, hi]; rfl, hk.modify _ _, fun x => findBy_modify (fun n v => v.isStr n) Value.isStr_inj es name x v i hi, ?_⟩
  rw [hf, hi]
  simp [hlt]
 | none =>
  refine ⟨_, _, by simp only [Obj.putName_eq, Obj.putNameByArray, hi]; rfl, hk.push _ _ _ _, fun x => findBy_push (fun n v => v.isStr n) es name x _ _ v (fun y => by
   show (name == y) = decide (y = name)
   by_cases h : y = name
   ·subst h; simp
   ·have : ¬ name = y := fun e => h e.symm
    simp [h, this]) hi, ?_⟩
  rw [hf, hi]
  simp
section
variable {c : Cx} {u : Cu} {env : Env} {E : EP} {m : Loc} {n n' : Led}
theorem setA {a C d : Addr} {as : List (Str × Value)} {name : Str} {v : Value} {Q : Unit → Loc → Led → Prop} (hp : Put a (.inst C d as) (.inst C d (setL name (nv v) as)) n n') (hz : as.length ≤ 1000) (st : SetIn c.K C name)
  (h : Q () m n') : V c u env (setAttr (.ref a) name v) Q E m n :=
 V.act (fun _ m' n'' => m' = m ∧ n'' = n') (fun A hp' tk ok fit md Q' E' hq => by
  obtain ⟨od, es, k, I, h2, h3, h4, h5, h6⟩ := inst_at (md.led _ hp.mem)
  have X := ok.X.keeps md.keep
  refine set_plain X I st.sa ?_
  refine osa_open (s := ⟨hp', c.gens, c.drawn, tk + 1, c.os⟩) X I st.over st.taker fun b => ?_
  obtain ⟨cd, hc, hd'⟩ := any_some st.dict
  refine wpAny_bind (wpAny_pure (wpAny_bind (wpAny_bind (wpAny_loadPart I.at_ (wpAny_bind ((looks_clsIn X hc).here ?_))))))
  rw [hd']
  refine wpAny_pure (a := some d) (wpAny_bind (wpAny_pure (wpAny_bind ?_)))
  unfold nsSet
  refine wpAny_bind (wpAny_bind (wpAny_askSetting (wpAny_pure (wpAny_bind (wpAny_mkText (wpAny_bind (wpAny_loadPart h2 ?_)))))))
  rw [h3]
  dsimp only
  have cc : aRefKeyMayBeTheName name es = false := by
   rw [aRefKeyMayBeTheName_at]
   have : es.any (·.refKey) = false := by
    rw [Array.any_eq_false']; intro e he; obtain ⟨n, t, h⟩ := h4 e he; simp [DictEntry.refKey, h]
   rw [this, Bool.and_false]
  rw [cc]
  obtain ⟨es', k', f1, f2, f3, f4⟩ := putName_facts (name := name) (hash := PyData.keyHash c.w.params name) (t := tk + 1) (v := v) h3 h4
  refine wpAny_updatePart h2 ?_
  have D' := Heap.get?_update_self (Obj.putName name (PyData.keyHash c.w.params name) (.str name (tk + 1)) v) h2 (Obj.isFreed_of_dict f1)
  have h7 := h6 name
  have hsz : es'.size ≤ (setL name (nv v) as).length := by
   rw [length_setL, f4, ← h7, Option.isSome_map]
   lia
  refine wpAny_bind (wpAny_lookBehind D' (by rw [f1]; refine pastItsLine_dict ?_; rw [sizeLine_eq]; have := length_setL name (nv v) as; split at this <;> lia) ?_)
  refine wpAny_pure (hq () _ _ m n' (md.put (x := d) hp (fun b hb => Heap.get?_update_other _ _ (Ne.symm hb)) (by simp [fp]) rfl ⟨?_, _, D', es', k', f1, f2, hsz, fun x => ?_⟩) ⟨rfl, rfl⟩)
  ·have nd := md.nd
   obtain ⟨pre, post, rfl, rfl⟩ := hp.split
   rw [foot_append, foot_cons] at nd
   have n2 := (List.nodup_append.mp (List.nodup_append.mp nd).2.1).1
   simp [fp] at n2
   rw [Heap.get?_update_other _ _ (Ne.symm n2)]
   exact I.at_
  ·rw [f3, lookup_setL]
   split
   ·rfl
   ·exact h6 x) (fun _ m' n'' e => by obtain ⟨rfl, rfl⟩ := e; exact h)
theorem AssignA_ {o : Expr} {attr : Str} {pos' pos : Pos} {value : Expr} {Q : Flow → Loc → Led → Prop} (hs : swapsWith value (some (.Attribute o attr pos')) pos.line env = pure false)
  (h : V c u env (eval value env) (Kt c u env E (eval o env) (setAt_ attr) (KN Q)) E m n) : V c u env (exec (.Assign [.Attribute o attr pos'] value pos) env) Q E m n :=
 V.i fun ok A hp tk fit md => plainObj_wpAny_Assign_Attribute (h.run3 ok fit md) hs
theorem AssignS_ {o i : Expr} {pos' pos : Pos} {value : Expr} {Q : Flow → Loc → Led → Prop} (hs : swapsWith value (some (.Subscript o i pos')) pos.line env = pure false)
  (h : V c u env (eval value env) (K3 c u env E (eval o env) (eval i env) setIt_ (KN Q)) E m n) : V c u env (exec (.Assign [.Subscript o i pos'] value pos) env) Q E m n :=
 V.i fun ok A hp tk fit md => wpAny_Assign_Subscript (wpAny_mono (h.go ok A hp tk fit md) (fun _ _ q => q.el fun _ _ _ _ y z => z.run3 ok fit y) fun _ _ x => x) hs
noncomputable def Cu.less (u : Cu) : Cu := { u with r := u.r - 1 }
theorem Fits.under {c' : Code} {A : Around} (fit : Fits u env A) (h1 : c'.weight ≤ 1) (h2 : c'.cUnits ≤ 8) (h3 : c'.envs = []) (hr : 1 ≤ u.r) : Fits u.less env (A.under c') := by
 refine ⟨?_, fit.handled, ?_, ?_, fit.kind, fit.own⟩
 ·show pushEnvs c'.envs A.frames = some u.fl; rw [h3]; exact fit.frames
 ·exact lessD hr h1 fit.depth
 ·exact lessU hr h2 fit.units
theorem Make_ {C f cd : Addr} {qual : Str} {params : Arguments} {body : List Stmt} {scope : Scope} {dV : Value} {args : List Value} {kw : List (Str × Value)} {binds m₀ : Value → List (Str × Value)} {Q : Value → Loc → Led → Prop}
  (hm : makesIn c.K C = true) (hi : findIn c.K (.ref C) "__init__" = some (some (.ref f))) (ht : typeIn c.K (.ref f) = some (.type "function"))
  (F : Fn c.K f cd qual params body scope dV) (B : ∀ x, Binds c.K qual params dV ⟨x :: args, kw⟩ (binds x)) (hloc : ∀ x, ((binds x).all fun y => decide (scope.names.lookup y.1 = some .local)) = true) (hm₀ : ∀ x, (binds x).reverse = m₀ x) (hr : 2 ≤ u.r)
  (hv : ∀ a d L, let e := envX qual scope L f (.ref cd) []; let w := u.less.into e env m; let q := KRet0 Q (.ref a) m; let x := ECall E m; V c w e (execs body e) q x (m₀ (.ref a)) ((a, .inst C d []) :: n)) :
  V c u env (call (.ref C) args kw) Q E m n := V.i fun ok A h tk fit md => by
 have X := ok.X.keeps md.keep
 have N1 : ∀ b o, h.get? b = some o → ((h.push emptyDict).push (instObj C h.objs.size)).get? b = some o := fun b o e => Heap.get?_push_of_some _ (Heap.get?_push_of_some _ e)
 have none_at : ∀ b, h.objs.size ≤ b → h.get? b = none := fun b hb => by
  cases q : h.get? b with
  | none => rfl
  | some o => exact absurd (Heap.lt_size q) (Nat.not_lt.mpr hb)
 have md' : Mod c ((env, m) :: u.fs) ((h.objs.size + 1, .inst C h.objs.size []) :: n) ((h.push emptyDict).push (instObj C h.objs.size)) := by
  refine md.more N1 ⟨?_, emptyDict, ?_, #[], 0, rfl, fun e he => by simp at he, Nat.le_refl _, fun x => rfl⟩ (fun b hb => ?_) ?_
  ·have := Heap.get?_push_size (h.push emptyDict) (o := instObj C h.objs.size) rfl
   rwa [Heap.size_push] at this
  ·exact Heap.get?_push_of_some _ (Heap.get?_push_size h (o := emptyDict) rfl)
  ·simp only [fp, List.mem_cons, List.not_mem_nil, or_false] at hb
   rcases hb with rfl | rfl <;> exact none_at _ (by lia)
  ·simp [fp]
 have fit' : Fits u.less env (A.under (.builtin "type.__call__" ⟨.ref C :: args, kw⟩)) := fit.under (Nat.le_of_eq (by kernel_rfl)) (Nat.le_trans (Nat.le_of_eq (by kernel_rfl : _ = 1)) (by decide)) (by kernel_rfl) (by lia)
 refine wpAny_call (make_core (makes_of X hm) (looks_findIn X hi) (fun self => bind_fn X self ht) (.inl rfl) ?_)
 refine codeCall (u := u.less) F (B (.ref (h.objs.size + 1))) (hloc _) (hm₀ _) (by show 1 ≤ u.r - 1; lia) ok fit' md' (Q := fun v m' n' => v = .none ∧ Q (.ref (h.objs.size + 1)) m' n') (E := E) (hv _ _) ?_ ?_
 ·intro v h' tk' n' y z
  exact ⟨z.1, ⟨rfl, rfl, rfl⟩, m, n', y, z.2⟩
 ·intro e d h' tk' n' y g z
  exact ⟨⟨rfl, rfl, rfl⟩, _, e, d, m, n', rfl, y, g, .inr (.inl rfl), z⟩
end
theorem lk_hit {x : Str} {v : Value} {l : Loc} : ((x, v) :: l).lookup x = some v := by simp
theorem lk_miss {x y : Str} {v w : Value} {l : Loc} (h : (x == y) = false) (k : l.lookup x = some v) : ((y, w) :: l).lookup x = some v := by rw [List.lookup_cons, h]; exact k
section
variable {α β γ δ : Type} {c : Cx} {u : Cu} {env : Env} {E : EP} {m : Loc} {n : Led}
theorem V.seq3 {Q : α → Loc → Led → Prop} {t1 : Sem β} {t2 : β → Sem γ} {t3 : β → γ → Sem δ} {f : β → γ → δ → Sem α} {t : Sem α}
  (H : ∀ {M A Q E s}, wpAny M A t1 (fun a s' => wpAny M A (t2 a) (fun b s'' => wpAny M A (t3 a b) (fun d s₃ => wpAny M A (f a b d) Q E s₃) E s'') E s') E s → wpAny M A t Q E s)
  (h : V c u env t1 (fun a m n => V c u env (t2 a) (fun b m n => V c u env (t3 a b) (fun d m n => V c u env (f a b d) Q E m n) E m n) E m n) E m n) : V c u env t Q E m n :=
 V.i fun ok A hp tk fit md => H (wpAny_mono (h.go ok A hp tk fit md) (fun _ _ q => q.el fun _ _ _ _ y z => z.run3 ok fit y) fun _ _ x => x)
theorem V.fork {Q : α → Loc → Led → Prop} {t1 : Sem β} {t : Sem α} {G : β → Loc → Led → Prop}
  (H : ∀ {A : Around} {h : Heap} {tk : Nat}, c.Ok → Fits u env A → Mod c ((env, m) :: u.fs) n h →
   wpAny (model P c.w) A t1 (fun a => PV c u.fs env (G a))
   (PE c u.fs env E) ⟨h, c.gens, c.drawn, tk, c.os⟩ →
   wpAny (model P c.w) A t (fun a => PV c u.fs env (Q a))
   (PE c u.fs env E) ⟨h, c.gens, c.drawn, tk, c.os⟩)
  (h : V c u env t1 G E m n) : V c u env t Q E m n := V.i fun ok A hp tk fit md => H ok fit md (h.go ok A hp tk fit md)
end
section
variable {c : Cx} {u : Cu} {env : Env} {E : EP} {m : Loc} {n : Led} {Q : Value → Loc → Led → Prop} {QB : Bool → Loc → Led → Prop}
theorem after_next {rest : List Stmt} {Q : Flow → Loc → Led → Prop} (h : V c u env (execs rest env) Q E m n) : after c u env rest Q E .next m n := h
theorem after_ret {rest : List Stmt} {v : Value} {Q : Flow → Loc → Led → Prop} (h : Q (.ret v) m n) : after c u env rest Q E (.ret v) m n := h
theorem after_brk {rest : List Stmt} {Q : Flow → Loc → Led → Prop} (h : Q .brk m n) : after c u env rest Q E .brk m n := h
theorem Pass_ {pos : Pos} {Q : Flow → Loc → Led → Prop} (h : Q .next m n) : V c u env (exec (.Pass pos) env) Q E m n := V.i fun _ _ _ _ _ md => wpAny_Pass ⟨⟨rfl, rfl, rfl⟩, m, n, md, h⟩
theorem Break_ {pos : Pos} {Q : Flow → Loc → Led → Prop} (h : Q .brk m n) : V c u env (exec (.Break pos) env) Q E m n := V.i fun _ _ _ _ _ md => wpAny_Break ⟨⟨rfl, rfl, rfl⟩, m, n, md, h⟩
theorem tB {b : Bool} (h : QB b m n) : V c u env (truthy (.bool b)) QB E m n := V.pure h
theorem tNone (h : QB false m n) : V c u env (truthy .none) QB E m n := V.val false (fun A hp tk ok fit md Q' E' hq => truthy_none (hq _)) h
theorem IsCmp_ {l r : Expr} {op : CmpOp} {pos : Pos} {whole : Sem Value} (hm : behindInMarks op r = false)
  (h : V c u env (eval l env) (Kt c u env E (eval r env) (compareOp op) (Kf c u env E truthy QB)) E m n) : V c u env (isTrue (.Compare l [op] [r] pos) env whole) QB E m n :=
 V.seq3 (fun h => wpAny_isTrue_Compare1 h hm) h
theorem IsNot_ {x : Expr} {pos : Pos} {whole : Sem Value} (h : V c u env (isTrue x env (eval x env)) (KNot QB) E m n) : V c u env (isTrue (.UnaryOp .Not x pos) env whole) QB E m n :=
 V.fork (fun _ _ _ h => isTrue_not h) h
theorem IsPlain_ {e : Expr} {whole : Sem Value} (he : isTrue e env whole = (do let v ← whole; standAt e.pos; holding [v] (truthy v)))
  (h : V c u env whole (Kf c u env E truthy QB) E m n) : V c u env (isTrue e env whole) QB E m n := V.seq (fun h => isTrue_plain h he) h
theorem IsAnd0_ {pos : Pos} {whole : Sem Value} (h : QB true m n) : V c u env (isTrue (.BoolOp .And [] pos) env whole) QB E m n := V.pure (a := true) h
theorem IsOr0_ {pos : Pos} {whole : Sem Value} (h : QB false m n) : V c u env (isTrue (.BoolOp .Or [] pos) env whole) QB E m n := V.pure (a := false) h
theorem IsAnd_ {x : Expr} {rest : List Expr} {pos : Pos} {whole : Sem Value}
  (h : V c u env (isTrue x env (eval x env)) (KAnd c u env E (isTrue (.BoolOp .And rest pos) env whole) QB) E m n) : V c u env (isTrue (.BoolOp .And (x :: rest) pos) env whole) QB E m n :=
 V.i fun ok A hp tk fit md => isTrue_and (wpAny_mono (h.go ok A hp tk fit md) (fun b s q => by
  cases b
  ·exact q
  ·exact PV.go q ok fit) fun _ _ x => x)
theorem IsOr_ {x : Expr} {rest : List Expr} {pos : Pos} {whole : Sem Value}
  (h : V c u env (isTrue x env (eval x env)) (KOr c u env E (isTrue (.BoolOp .Or rest pos) env whole) QB) E m n) : V c u env (isTrue (.BoolOp .Or (x :: rest) pos) env whole) QB E m n :=
 V.i fun ok A hp tk fit md => isTrue_or (wpAny_mono (h.go ok A hp tk fit md) (fun b s q => by
  cases b
  ·exact PV.go q ok fit
  ·exact q) fun _ _ x => x)
theorem BoolOne_ {op : BoolOp} {e : Expr} {pos : Pos} (h : V c u env (eval e env) Q E m n) : V c u env (eval (.BoolOp op [e] pos) env) Q E m n := h
theorem BAnd_ {e₁ e₂ : Expr} {rest : List Expr} {pos : Pos}
  (h : V c u env (eval e₁ env) (fun v m n => V c u env (truthy v) (fun b m n => if b then V c u env (eval (.BoolOp .And (e₂ :: rest) pos) env) Q E m n else Q v m n) E m n) E m n) : V c u env (eval (.BoolOp .And (e₁ :: e₂ :: rest) pos) env) Q E m n :=
 V.i fun ok A hp tk fit md => BoolOp_and (wpAny_mono (h.go ok A hp tk fit md) (fun v s q => wpAny_mono (q.go ok fit) (fun b s q => by
   cases b
   ·exact q
   ·exact PV.go q ok fit) fun _ _ x => x) fun _ _ x => x)
theorem notB_ {b : Bool} (h : Q (.bool (!b)) m n) : V c u env (unaryOp .Not (.bool b)) Q E m n := V.val (.bool (!b)) (fun A hp tk ok fit md Q' E' hq => not_of (wpAny_pure (hq _))) h
section
variable {a b : Int} {t t' : Tok}
theorem add_ (h : ∀ t, Q (.int (a + b) t) m n) : V c u env (binaryOp .Add (.int a t) (.int b t')) Q E m n := V.tok (fun t => .int (a + b) t) (fun A hp tk ok fit md Q' E' hq => add_int (hq _ _)) h
theorem sub_ (h : ∀ t, Q (.int (a - b) t) m n) : V c u env (binaryOp .Sub (.int a t) (.int b t')) Q E m n := V.tok (fun t => .int (a - b) t) (fun A hp tk ok fit md Q' E' hq => PyProof.Rows.sub_int (hq _ _)) h
theorem mul_ (hm : IntMulOk a b) (h : ∀ t, Q (.int (a * b) t) m n) : V c u env (binaryOp .Mult (.int a t) (.int b t')) Q E m n := V.tok (fun t => .int (a * b) t) (fun A hp tk ok fit md Q' E' hq => mul_int (hq _ _) hm) h
theorem mod_ (hb : b ≠ 0) (h : ∀ t, Q (.int (a.fmod b) t) m n) : V c u env (binaryOp .Mod (.int a t) (.int b t')) Q E m n := V.tok (fun t => .int (a.fmod b) t) (fun A hp tk ok fit md Q' E' hq => mod_int' hb (hq _ _)) h
theorem fdiv_ (hb : b ≠ 0) (hs : b.natAbs < 1073741824) (h : ∀ t, Q (.int (a.fdiv b) t) m n) : V c u env (binaryOp .FloorDiv (.int a t) (.int b t')) Q E m n :=
 V.tok (fun t => .int (a.fdiv b) t) (fun A hp tk ok fit md Q' E' hq => floordiv_int hb (hq _ _) (.inl (PyProof.noPylong_small hs))) h
theorem shl_ (h0 : 0 ≤ b) (h1 : b ≤ 1000000) (ha : a.natAbs < 2 ^ 64) (h : ∀ t, Q (.int (a * 2 ^ b.toNat) t) m n) : V c u env (binaryOp .LShift (.int a t) (.int b t')) Q E m n :=
 V.tok (fun t => .int (a * 2 ^ b.toNat) t) (fun A hp tk ok fit md Q' E' hq => lshift_int_small h0 h1 ha (hq _ _)) h
theorem shr_ (h0 : 0 ≤ b) (h : ∀ t, Q (.int (a.fdiv (2 ^ b.toNat)) t) m n) : V c u env (binaryOp .RShift (.int a t) (.int b t')) Q E m n :=
 V.tok (fun t => .int (a.fdiv (2 ^ b.toNat)) t) (fun A hp tk ok fit md Q' E' hq => rshift_int h0 (hq _ _)) h
theorem band_ (h : ∀ t, Q (.int (Builtin.bitAnd a b) t) m n) : V c u env (binaryOp .BitAnd (.int a t) (.int b t')) Q E m n := V.tok (fun t => .int (Builtin.bitAnd a b) t) (fun A hp tk ok fit md Q' E' hq => and_int (hq _ _)) h
theorem bor_ (h : ∀ t, Q (.int (Builtin.bitOr a b) t) m n) : V c u env (binaryOp .BitOr (.int a t) (.int b t')) Q E m n := V.tok (fun t => .int (Builtin.bitOr a b) t) (fun A hp tk ok fit md Q' E' hq => or_int (hq _ _)) h
theorem lt_ (h : Q (.bool (decide (a < b))) m n) : V c u env (compareOp .Lt (.int a t) (.int b t')) Q E m n := V.val _ (fun A hp tk ok fit md Q' E' hq => lt_int (hq _)) h
theorem gt_ (h : Q (.bool (decide (b < a))) m n) : V c u env (compareOp .Gt (.int a t) (.int b t')) Q E m n := V.val _ (fun A hp tk ok fit md Q' E' hq => gt_int (hq _)) h
theorem le_ (h : Q (.bool (decide (a ≤ b))) m n) : V c u env (compareOp .LtE (.int a t) (.int b t')) Q E m n := V.val _ (fun A hp tk ok fit md Q' E' hq => le_int (hq _)) h
theorem ge_ (h : Q (.bool (decide (b ≤ a))) m n) : V c u env (compareOp .GtE (.int a t) (.int b t')) Q E m n := V.val _ (fun A hp tk ok fit md Q' E' hq => ge_int (hq _)) h
theorem eq_ (h : Q (.bool (a == b)) m n) : V c u env (compareOp .Eq (.int a t) (.int b t')) Q E m n := V.val _ (fun A hp tk ok fit md Q' E' hq => eq_int (hq _)) h
theorem ne_ (h : Q (.bool (a != b)) m n) : V c u env (compareOp .NotEq (.int a t) (.int b t')) Q E m n := V.val _ (fun A hp tk ok fit md Q' E' hq => ne_int (hq _)) h
end
theorem isNone_ {v : Value} (h : Q (.bool (v == .none)) m n) : V c u env (compareOp .Is v .none) Q E m n := V.val _ (fun A hp tk ok fit md Q' E' hq => is_none_gen (hq _)) h
theorem isntNone_ {v : Value} (h : Q (.bool (!(v == .none))) m n) : V c u env (compareOp .IsNot v .none) Q E m n := V.val _ (fun A hp tk ok fit md Q' E' hq => isnot_none_gen (hq _)) h
theorem eqS_ {x y : Str} {t t' : Tok} (h : Q (.bool (x == y)) m n) : V c u env (compareOp .Eq (.str x t) (.str y t')) Q E m n := V.val _ (fun A hp tk ok fit md Q' E' hq => eq_str (hq _)) h
theorem neS_ {x y : Str} {t t' : Tok} (h : Q (.bool (x != y)) m n) : V c u env (compareOp .NotEq (.str x t) (.str y t')) Q E m n := V.val _ (fun A hp tk ok fit md Q' E' hq => ne_str (hq _)) h
end
theorem list_at {h : Heap} {a : Addr} {xs : List Value} (r : Rep h a (.list xs)) : ∃ vs k, h.get? a = some (listOf vs k) ∧ vs.toList.map nv = xs := by
 obtain ⟨o, ho, vs, k, rfl, e⟩ := r
 exact ⟨vs, k, ho, e⟩
theorem tup_at {h : Heap} {a : Addr} {xs : List Value} (r : Rep h a (.tup xs)) : ∃ vs k, h.get? a = some { cls := .type "tuple", data := .seq vs k } ∧ vs.toList.map nv = xs := by
 obtain ⟨o, ho, vs, k, rfl, e⟩ := r
 exact ⟨vs, k, ho, e⟩
theorem imap_at {h : Heap} {a : Addr} {w : World} {es : List (Int × Value)} (r : Rep h a (.imap w es)) : ∃ kvs, h.DictOf (intKind P w) a kvs ∧ kvs.map (fun p => (p.1, nv p.2)) = es := by
 obtain ⟨o, ho, kvs, ep, ⟨es', h1, h2, h3, h4, h5⟩, e⟩ := r
 exact ⟨kvs, ⟨o, es', ep, ho, h1, h2, h3, h4, h5⟩, e⟩
theorem smap_at {h : Heap} {a : Addr} {w : World} {es : List (Str × Value)} (r : Rep h a (.smap w es)) : ∃ kvs, h.DictOf (strKind P w) a kvs ∧ kvs.map (fun p => (p.1, nv p.2)) = es := by
 obtain ⟨o, ho, kvs, ep, ⟨es', h1, h2, h3, h4, h5⟩, e⟩ := r
 exact ⟨kvs, ⟨o, es', ep, ho, h1, h2, h3, h4, h5⟩, e⟩
theorem imap_rep {h : Heap} {a : Addr} {w : World} {kvs : List (Int × Value)} (d : h.DictOf (intKind P w) a kvs) : Rep h a (.imap w (kvs.map fun p => (p.1, nv p.2))) := by
 obtain ⟨o, es', ep, ho, h1, h2, h3, h4, h5⟩ := d
 exact ⟨o, ho, kvs, ep, ⟨es', h1, h2, h3, h4, h5⟩, rfl⟩
theorem smap_rep {h : Heap} {a : Addr} {w : World} {kvs : List (Str × Value)} (d : h.DictOf (strKind P w) a kvs) : Rep h a (.smap w (kvs.map fun p => (p.1, nv p.2))) := by
 obtain ⟨o, es', ep, ho, h1, h2, h3, h4, h5⟩ := d
 exact ⟨o, ho, kvs, ep, ⟨es', h1, h2, h3, h4, h5⟩, rfl⟩
theorem fp_one {a : Addr} {pr : Obj → Prop} : a ∈ fp (a, .one pr) := .head _
theorem get_map {vs : Array Value} {xs : List Value} {j : Nat} {x : Value} (e : vs.toList.map nv = xs) (hx : xs[j]? = some x) : ∃ v, vs[j]? = some v ∧ nv v = x := by
 subst e
 rw [List.getElem?_map, Option.map_eq_some_iff] at hx
 obtain ⟨v, h1, h2⟩ := hx
 exact ⟨v, by simpa using h1, h2⟩
theorem seqIndex_nat {k : Int} {n j : Nat} (h0 : 0 ≤ k) (hj : k.toNat = j) (hn : j < n) : seqIndex? k n = some j := by
 have : ¬ k < 0 := by lia
 unfold seqIndex?
 simp only [this, if_false]
 split
 ·simp; lia
 ·rename_i q; simp at q; lia
section
variable {c : Cx} {u : Cu} {env : Env} {E : EP} {m : Loc} {n : Led} {Q : Value → Loc → Led → Prop} {QB : Bool → Loc → Led → Prop}
theorem Mod.pushed {fs : List (Env × Loc)} {h : Heap} {o : Obj} {pr : Obj → Prop} (md : Mod c fs n h) (hf : o.isFreed = false) (hp : pr o) : Mod c fs ((h.objs.size, .one pr) :: n) (h.push o) :=
 md.more (fun b o e => Heap.get?_push_of_some _ e) ⟨o, Heap.get?_push_size h hf, hp⟩ (fun b hb => by
  simp only [fp, List.mem_singleton] at hb
  subst hb; exact none_above (Nat.le_refl _)) (by simp [fp])
theorem Mod.gain {env : Env} {m : Loc} {fs : List (Env × Loc)} {h h' : Heap} {D : Addr} {o : Obj} {pr : Obj → Prop} (md : Mod c ((env, m) :: fs) n h) {news : List (Addr × Obj)}
  (back : ∀ h', Fr c.b₀ env.locals h' (fun x => m.lookup x) → News c.b₀ env.locals h' news → Mod c ((env, m) :: fs) n h')
  (cover : ∀ f ∈ fs, ∃ o, (f.1.locals, o) ∈ news) (cover2 : ∀ a ∈ foot n, ∃ o, (a, o) ∈ news)
  (F : Fr c.b₀ env.locals h' (fun x => m.lookup x)) (N : News c.b₀ env.locals h' ((D, o) :: news)) (l : ∀ p ∈ news, p.1 < D) (hp : pr o) : Mod c ((env, m) :: fs) ((D, .one pr) :: n) h' := by
 have md' := back h' F (fun p hp => N p (.tail _ hp))
 have ND := N (D, o) (.head _)
 have out : D ∉ foot n := fun hm => by
  obtain ⟨o', ho'⟩ := cover2 _ hm
  exact absurd (l _ ho') (Nat.lt_irrefl _)
 refine ⟨md'.keep, fun f hf => ⟨(md'.frs f hf).ns, (md'.frs f hf).size, ?_⟩, md'.fnd, fun p hp' => ?_, fun b hb => ?_, ?_⟩
 ·rw [foot_cons, List.mem_append]
  rintro (hm | hm)
  ·simp only [fp, List.mem_singleton] at hm
   rcases List.mem_cons.mp hf with rfl | hf
   ·exact ND.2.1 hm.symm
   ·obtain ⟨o', ho'⟩ := cover f hf
    have := l _ ho'
    rw [hm] at this; exact absurd this (Nat.lt_irrefl _)
  ·exact (md'.frs f hf).out hm
 ·rcases List.mem_cons.mp hp' with rfl | hp'
  ·exact ⟨o, ND.1, hp⟩
  ·exact md'.led p hp'
 ·rw [foot_cons, List.mem_append] at hb
  rcases hb with hb | hb
  ·simp only [fp, List.mem_singleton] at hb
   subst hb; exact ND.2.2
  ·exact md'.new b hb
 ·rw [foot_cons]
  exact List.nodup_append.mpr ⟨by simp [fp], md'.nd, fun x hx y hy e => by
   simp only [fp, List.mem_singleton] at hx
   subst hx; subst e; exact out hy⟩
theorem List_ {elts : List Expr} {pos : Pos} (h : V c u env (spliced (backTo pos (starEach elts env))) (KMk listO Q) E m n) : V c u env (eval (.List elts pos) env) Q E m n :=
 V.i fun ok A hp tk fit md => wpAny_List (wpAny_mono (h.go ok A hp tk fit md) (fun vs s ⟨x, m', n', y, hz, z⟩ => ⟨by rw [sizeLine_eq]; lia, x, m', _, y.pushed (o := listOf vs.toArray 0) rfl ⟨_, _, rfl, by simp⟩, z _⟩) fun _ _ x => x)
theorem Tuple_ {elts : List Expr} {k : Nat} {pos : Pos} (h : V c u env (spliced (backTo pos (starEach elts env))) (KMk tupO Q) E m n) : V c u env (eval (.Tuple elts k pos) env) Q E m n :=
 V.i fun ok A hp tk fit md => wpAny_Tuple (wpAny_mono (h.go ok A hp tk fit md) (fun vs s ⟨x, m', n', y, hz, z⟩ => ⟨by rw [sizeLine_eq]; lia, x, m', _, y.pushed (o := { cls := .type "tuple", data := .seq vs.toArray 0 }) rfl ⟨_, _, rfl, by simp⟩, z _⟩) fun _ _ x => x)
theorem DictNil_ {pos : Pos} (h : ∀ a, (a == sysModules) = false → Q (.ref a) m ((a, .imap c.w []) :: n)) : V c u env (eval (.Dict [] [] pos) env) Q E m n :=
 V.i fun ok A hp tk fit md => wpAny_Dict_empty ⟨⟨rfl, rfl, rfl⟩, m, _, md.pushed rfl ⟨[], 0, ⟨#[], ⟨rfl, rfl, rfl⟩, rfl, (fun e he => by simp at he), .nil, by simp⟩, rfl⟩, h _ (beq_eq_false_iff_ne.mpr (Nat.ne_of_gt (Nat.lt_of_lt_of_le (show sysModules < c.b₀.objs.size from ok.low) (show c.b₀.objs.size ≤ hp.objs.size from md.size))))⟩
theorem Sub_ {value slice : Expr} {pos : Pos} (h : V c u env (eval value env) (Kt c u env E (eval slice env) (subscriptTail value slice) Q) E m n) : V c u env (eval (.Subscript value slice pos) env) Q E m n :=
 V.seq2 Subscript_ h
theorem subL_ {value slice : Expr} {a : Addr} {xs : List Value} {k : Int} {t : Tok} {x : Value} (hm : (a, AObj.list xs) ∈ n) (h0 : 0 ≤ k) (hk : k < 10000) (hx : xs[k.toNat]? = some x)
  (hs : subscripted slice false (.ref a) (.int k t) = operate [.ref a, .int k t] (getItem (.ref a) (.int k t))) (h : ∀ v, nv v = x → Q v m n) : V c u env (subscriptTail value slice (.ref a) (.int k t)) Q E m n :=
 V.vals (fun v => nv v = x) (fun A hp tk ok fit md Q' E' hq => by
  obtain ⟨vs, e, ho, em⟩ := list_at (md.led _ hm)
  obtain ⟨v, hv, hn⟩ := get_map em hx
  have hl : hp.IsList a vs := ⟨_, ho, rfl, e, rfl⟩
  exact tail_any (Heap.IsList.typeIs (s := ⟨hp, _, _, _, _⟩) hl) slot_list_getitem.lookup (wpAny_getItem_list hl h0 (by lia) hv (hq v _ hn)) hs) h
theorem subT_ {value slice : Expr} {a : Addr} {xs : List Value} {k : Int} {t : Tok} {x : Value} (hm : (a, AObj.tup xs) ∈ n) (h0 : 0 ≤ k) (hk : k < 10000) (hx : xs[k.toNat]? = some x)
  (hs : subscripted slice false (.ref a) (.int k t) = operate [.ref a, .int k t] (getItem (.ref a) (.int k t))) (h : ∀ v, nv v = x → Q v m n) : V c u env (subscriptTail value slice (.ref a) (.int k t)) Q E m n :=
 V.vals (fun v => nv v = x) (fun A hp tk ok fit md Q' E' hq => by
  obtain ⟨vs, e, ho, em⟩ := tup_at (md.led _ hm)
  obtain ⟨v, hv, hn⟩ := get_map em hx
  have hl : IsTup hp a vs := ⟨_, ho, rfl, e, rfl⟩
  refine tail_any (IsTup.typeIs (s := ⟨hp, _, _, _, _⟩) hl) slot_tuple_getitem.lookup (PyProof.Rows.getItem_tuple hl (by lia) (by lia) (seqIndex_nat h0 rfl (Array.getElem?_eq_some_iff.mp hv).1) hv (hq v _ hn)) hs) h
theorem setItemL_ {n' : Led} {a : Addr} {xs : List Value} {k : Int} {t : Tok} {v : Value} {Q : Unit → Loc → Led → Prop} (hp : Put a (.list xs) (.list (xs.set k.toNat (nv v))) n n') (h0 : 0 ≤ k) (hk : k < 10000) (hx : k.toNat < xs.length)
  (h : Q () m n') : V c u env (setItem (.ref a) (.int k t) v) Q E m n := V.i fun ok A hh tk fit md => by
 obtain ⟨vs, e, ho, em⟩ := list_at (md.led _ hp.mem)
 have hlen : vs.size = xs.length := by rw [← em]; simp
 refine ki_setAt ho h0 (by lia) (by lia) ⟨⟨rfl, rfl, rfl⟩, m, n', md.put (x := a) hp (fun b hb => Heap.get?_update_other _ _ (Ne.symm hb)) fp_one rfl ⟨_, PySem.IsL.update (n := e) ho _, _, _, rfl, ?_⟩, h⟩
 rw [← em]
 simp [List.map_set]
theorem append_ {n' : Led} {a : Addr} {xs : List Value} {v : Value} (hp : Put a (.list xs) (.list (xs ++ [nv v])) n n') (hz : xs.length ≤ 10000) (h : Q .none m n') : V c u env (call (.builtin "list.append") [.ref a, v]) Q E m n :=
 V.i fun ok A hh tk fit md => by
 obtain ⟨vs, e, ho, em⟩ := list_at (md.led _ hp.mem)
 have hlen : vs.size = xs.length := by rw [← em]; simp
 refine append_at ho (fun h' hs ho' => ⟨⟨rfl, rfl, rfl⟩, m, n', md.put (x := a) hp (fun b hb => hs.2 b hb) fp_one rfl ⟨_, ho', _, _, rfl, ?_⟩, h⟩) (by rw [sizeLine_eq, hlen]; lia)
 rw [← em]
 simp
theorem getMAppend_ {a : Addr} {xs : List Value} {pl : Sem Bool} {Q : Value × List Value → Loc → Led → Prop} (hm : (a, AObj.list xs) ∈ n) (h : Q (.builtin "list.append", [.ref a]) m n) : V c u env (getMethod (.ref a) (Str.ofString "append") pl) Q E m n :=
 V.val _ (fun A hp tk ok fit md Q' E' hq => by
  obtain ⟨vs, e, ho, em⟩ := list_at (md.led _ hm)
  exact getMethod_list_append ho rfl rfl (hq _)) h
theorem len_ {a : Addr} {xs : List Value} (hm : (a, AObj.list xs) ∈ n) (hz : xs.length ≤ 10000) (h : ∀ t, Q (.int xs.length t) m n) : V c u env (call (.builtin "len") [.ref a]) Q E m n :=
 V.tok (fun t => .int xs.length t) (fun A hp tk ok fit md Q' E' hq => by
  obtain ⟨vs, e, ho, em⟩ := list_at (md.led _ hm)
  have hlen : vs.size = xs.length := by rw [← em]; simp
  have hl : hp.IsList a vs := ⟨_, ho, rfl, e, rfl⟩
  refine PySem.Calls.call_len_list hl (by lia) ?_
  rw [hlen]; exact hq _ _) h
theorem tupleOf_ {a : Addr} {xs : List Value} (hm : (a, AObj.list xs) ∈ n) (hz : xs.length ≤ 10000) (h : ∀ b, Q (.ref b) m ((b, .tup xs) :: n)) : V c u env (call (.type "tuple") [.ref a]) Q E m n :=
 V.i fun ok A hp tk fit md => by
  obtain ⟨vs, e, ho, em⟩ := list_at (md.led _ hm)
  have hlen : vs.size = xs.length := by rw [← em]; simp
  have hl : hp.IsList a vs := ⟨_, ho, rfl, e, rfl⟩
  exact call_tuple_list hl (fun h' hk => ⟨⟨rfl, rfl, rfl⟩, m, _, (md.ext hk).pushed (o := { cls := .type "tuple", data := .seq vs 0 }) rfl ⟨vs, 0, rfl, em⟩, h _⟩) (by rw [sizeLine_eq, hlen]; lia)
theorem V.lib {α : Type} {t : Sem α} {Q : α → Loc → Led → Prop} (H : ∀ A h tk, c.Ok → Fits u env A → Mod c ((env, m) :: u.fs) n h → ∀ news, Fr c.b₀ env.locals h (fun x => m.lookup x) → News c.b₀ env.locals h news → (∀ a o, a ∈ foot n → h.get? a = some o → (a, o) ∈ news) →
  ∀ {Q' : α → Shared → Prop} {E'}, (∀ v h' tk', Fr c.b₀ env.locals h' (fun x => m.lookup x) → News c.b₀ env.locals h' news → Q v m n → Q' v ⟨h', c.gens, c.drawn, tk', c.os⟩) →
   (∀ (f : Addr → α) (pr : Obj → Prop) D o h' tk', Fr c.b₀ env.locals h' (fun x => m.lookup x) → News c.b₀ env.locals h' ((D, o) :: news) → (∀ p ∈ news, p.1 < D) → pr o → Q (f D) m ((D, .one pr) :: n) → Q' (f D) ⟨h', c.gens, c.drawn, tk', c.os⟩) →
   wpAny (model P c.w) A t Q' E' ⟨h, c.gens, c.drawn, tk, c.os⟩) : V c u env t Q E m n := V.i fun ok A hh tk fit md => by
 obtain ⟨F, news, N, cov, cover, back⟩ := md.news
 have cover2 : ∀ a ∈ foot n, ∃ o, (a, o) ∈ news := fun a ha => by
  obtain ⟨o, ho⟩ := md.there ha
  exact ⟨o, cov a o ha ho⟩
 exact H A hh tk ok fit md news F N cov (fun v h' tk' F' N' hq => ⟨⟨rfl, rfl, rfl⟩, m, n, back h' F' N', hq⟩)
  fun f pr D o h' tk' F' N' l hp hq => ⟨⟨rfl, rfl, rfl⟩, m, _, md.gain back cover cover2 F' N' l hp, hq⟩
theorem listCopy_ {a : Addr} {xs : List Value} (hm : (a, AObj.list xs) ∈ n) (hz : xs.length ≤ 10000) (h : ∀ b, Q (.ref b) m ((b, .list xs) :: n)) : V c u env (call (.type "list") [.ref a]) Q E m n :=
 V.lib fun A hp tk ok fit md news F N cov Q' E' q1 q2 => by
  obtain ⟨vs, e, ho, em⟩ := list_at (md.led _ hm)
  have hlen : vs.size = xs.length := by rw [← em]; simp
  have hl : hp.IsList a vs := ⟨_, ho, rfl, e, rfl⟩
  exact list_copyK F N hl (fun D k h' F' N' l => q2 .ref _ D _ h' _ F' N' l ⟨vs, k, rfl, em⟩ (h D)) (by rw [sizeLine_eq, hlen]; lia)
theorem listOfT_ {a : Addr} {xs : List Value} (hm : (a, AObj.tup xs) ∈ n) (hz : xs.length ≤ 10000) (h : ∀ b, Q (.ref b) m ((b, .list xs) :: n)) : V c u env (call (.type "list") [.ref a]) Q E m n :=
 V.lib fun A hp tk ok fit md news F N cov Q' E' q1 q2 => by
  obtain ⟨vs, e, ho, em⟩ := tup_at (md.led _ hm)
  have hlen : vs.size = xs.length := by rw [← em]; simp
  have hl : IsTup hp a vs := ⟨_, ho, rfl, e, rfl⟩
  exact list_copyKT F N hl (fun D k h' F' N' l => q2 .ref _ D _ h' _ F' N' l ⟨vs, k, rfl, em⟩ (h D)) (by rw [sizeLine_eq, hlen]; lia)
noncomputable def vi (i : Int) : Value := .int i 0
noncomputable def vx (x : Str) : Value := .str x 0
theorem ints_of : ∀ {vs : List Value} {ns : List Int}, vs.map nv = ns.map vi → IntsAre vs ns
 | [], [], _ => .nil
 | [], _ :: _, e => by simp at e
 | _ :: _, [], e => by simp at e
 | v :: vs, i :: ns, e => by
  simp only [List.map_cons, List.cons.injEq] at e
  obtain ⟨t, rfl⟩ := nv_int e.1
  exact .cons _ _ (ints_of e.2)
theorem of_ints : ∀ {vs : List Value} {ns : List Int}, IntsAre vs ns → vs.map nv = ns.map vi
 | _, _, .nil => rfl
 | _, _, .cons i t r => by rw [List.map_cons, List.map_cons, of_ints r]; rfl
theorem strs_of : ∀ {vs : List Value} {ns : List Str}, vs.map nv = ns.map vx → StrsAre vs ns
 | [], [], _ => .nil
 | [], _ :: _, e => by simp at e
 | _ :: _, [], e => by simp at e
 | v :: vs, i :: ns, e => by
  simp only [List.map_cons, List.cons.injEq] at e
  obtain ⟨t, rfl⟩ := nv_str e.1
  exact .cons _ _ (strs_of e.2)
theorem of_strs : ∀ {vs : List Value} {ns : List Str}, StrsAre vs ns → vs.map nv = ns.map vx
 | _, _, .nil => rfl
 | _, _, .cons i t r => by rw [List.map_cons, List.map_cons, of_strs r]; rfl
theorem sum_ {a : Addr} {ns : List Int} (hd : u.hd = none) (hm : (a, AObj.list (ns.map vi)) ∈ n) (h : ∀ t, Q (.int ns.sum t) m n) : V c u env (call (.builtin "sum") [.ref a]) Q E m n :=
 V.lib fun A hp tk ok fit md news F N cov Q' E' q1 q2 => by
  obtain ⟨vs, e, ho, em⟩ := list_at (md.led _ hm)
  exact LSm.sum_ints F N (fit.handled.trans hd) (vs := vs.toList) ⟨_, ho, rfl, e, rfl⟩ (ints_of em) fun h' tk t F' N' => q1 _ h' _ F' N' (h _)
theorem sorted_ {a : Addr} {ns : List Int} (hm : (a, AObj.list (ns.map vi)) ∈ n) (h64 : ns.length < 64) (h : ∀ (b : Addr) (ns' : List Int), ns'.Perm ns → Q (.ref b) m ((b, .list (ns'.map vi)) :: n)) : V c u env (call (.builtin "sorted") [.ref a]) Q E m n :=
 V.lib fun A hp tk ok fit md news F N cov Q' E' q1 q2 => by
  obtain ⟨vs, e, ho, em⟩ := list_at (md.led _ hm)
  have hlen : vs.toList.length = ns.length := by have := congrArg List.length em; simpa using this
  exact sorted_N F N (vs := vs.toList) ⟨_, ho, rfl, e, rfl⟩ (ints_of em) (by lia) fun h' vs' ns' e' F' N' i' p' _ => q2 .ref _ _ _ h' _ F' N' (fun p hp => by
   have := Heap.lt_size (N p hp).1; exact Nat.lt_succ_of_lt this) ⟨_, _, rfl, by rw [← of_ints i']⟩ (h _ ns' p')
theorem intInt_ {i : Int} {t : Tok} (h : Q (.int i t) m n) : V c u env (call (.type "int") [.int i t]) Q E m n := V.val _ (fun A hp tk ok fit md Q' E' hq => PySem.call_int_int (hq _)) h
theorem bytes_ {a : Addr} {ns : List Int} (hd : u.hd = none) (hm : (a, AObj.list (ns.map vi)) ∈ n) (hz : ns.length ≤ 10000) (hr : ∀ i ∈ ns, 0 ≤ i ∧ i < 256) (h : ∀ t, Q (.bytes (byteArr ns) t) m n) : V c u env (call (.type "bytes") [.ref a]) Q E m n :=
 V.i fun ok A hp tk fit md => by
  obtain ⟨vs, e, ho, em⟩ := list_at (md.led _ hm)
  have hlen : vs.toList.length = ns.length := by have := congrArg List.length em; simpa using this
  exact call_bytes_ints (vs := vs.toList) ⟨_, ho, rfl, e, rfl⟩ (ints_of em) hr (by rw [sizeLine_eq]; lia) (fit.handled.trans hd) fun h' t k hk => ⟨⟨rfl, rfl, rfl⟩, m, n, md.ext hk, h t⟩
theorem mulL_ {a : Addr} {xs : List Value} {x : Int} {t : Tok} (hm : (a, AObj.list xs) ∈ n) (h0 : 0 ≤ x) (h1 : x ≤ 256) (hz : xs.length * x.toNat ≤ 256) (h : ∀ b, Q (.ref b) m ((b, .list (List.replicate x.toNat xs).flatten) :: n)) : V c u env (binaryOp .Mult (.ref a) (.int x t)) Q E m n :=
 V.lib fun A hp tk ok fit md news F N cov Q' E' q1 q2 => by
  obtain ⟨vs, e, ho, em⟩ := list_at (md.led _ hm)
  have hlen : vs.toList.length = xs.length := by have := congrArg List.length em; simpa using this
  exact KMa.mul F N (vs := vs.toList) ⟨_, ho, rfl, e, rfl⟩ (by lia) (by lia) (by rw [hlen]; exact hz) rfl fun D h' F' N' l => q2 .ref _ _ _ h' _ F' N' l ⟨_, _, rfl, by
   rw [← em]; simp [List.map_flatten, List.map_replicate]⟩ (h D)
theorem addL_ {a b : Addr} {xs ys : List Value} (hm : (a, AObj.list xs) ∈ n) (hb : (b, AObj.list ys) ∈ n) (hz : xs.length + ys.length ≤ 10000) (h : ∀ d, Q (.ref d) m ((d, .list (xs ++ ys)) :: n)) : V c u env (binaryOp .Add (.ref a) (.ref b)) Q E m n :=
 V.i fun ok A hp tk fit md => by
  obtain ⟨vs, e, ho, em⟩ := list_at (md.led _ hm)
  obtain ⟨us, e', ho', em'⟩ := list_at (md.led _ hb)
  have hlen : vs.size = xs.length := by rw [← em]; simp
  have hlen' : us.size = ys.length := by rw [← em']; simp
  exact PySem.P.add_list (items := vs) (n := e) (items2 := us) (n2 := e') ho ho' ⟨⟨rfl, rfl, rfl⟩, m, _, md.pushed rfl ⟨_, _, rfl, by simp [em, em']⟩, h _⟩ (by rw [sizeLine_eq]; lia)
theorem inL_ {a : Addr} {ns : List Int} {k : Int} {t : Tok} (hm : (a, AObj.list (ns.map vi)) ∈ n) (h : Q (.bool (ns.any (· == k))) m n) : V c u env (compareOp .In (.int k t) (.ref a)) Q E m n :=
 V.val _ (fun A hp tk ok fit md Q' E' hq => by
  obtain ⟨vs, e, ho, em⟩ := list_at (md.led _ hm)
  exact in_list_ints (vs := vs.toList) ⟨_, ho, rfl, e, rfl⟩ (ints_of em) (hq _)) h
theorem notInL_ {a : Addr} {ns : List Int} {k : Int} {t : Tok} (hm : (a, AObj.list (ns.map vi)) ∈ n) (h : Q (.bool (!(ns.any (· == k)))) m n) : V c u env (compareOp .NotIn (.int k t) (.ref a)) Q E m n :=
 V.val _ (fun A hp tk ok fit md Q' E' hq => by
  obtain ⟨vs, e, ho, em⟩ := list_at (md.led _ hm)
  exact notin_list_ints (vs := vs.toList) ⟨_, ho, rfl, e, rfl⟩ (ints_of em) (hq _)) h
theorem inLS_ {a : Addr} {ns : List Str} {k : Str} {t : Tok} (hm : (a, AObj.list (ns.map vx)) ∈ n) (h : Q (.bool (ns.any (· == k))) m n) : V c u env (compareOp .In (.str k t) (.ref a)) Q E m n :=
 V.val _ (fun A hp tk ok fit md Q' E' hq => by
  obtain ⟨vs, e, ho, em⟩ := list_at (md.led _ hm)
  exact in_list_strs (vs := vs.toList) ⟨_, ho, rfl, e, rfl⟩ (strs_of em) (hq _)) h
theorem inT_ {a : Addr} {ns : List Int} {k : Int} {t : Tok} (hm : (a, AObj.tup (ns.map vi)) ∈ n) (h : Q (.bool (ns.any (· == k))) m n) : V c u env (compareOp .In (.int k t) (.ref a)) Q E m n :=
 V.val _ (fun A hp tk ok fit md Q' E' hq => by
  obtain ⟨vs, e, ho, em⟩ := tup_at (md.led _ hm)
  exact in_tuple_ints ⟨_, ho, rfl, e, rfl⟩ (ints_of em) (hq _)) h
theorem valueAt_map {K : Type} [DecidableEq K] (kvs : List (K × Value)) (k : K) : valueAt (kvs.map fun p => (p.1, nv p.2)) k = (valueAt kvs k).map nv := by
 unfold valueAt
 induction kvs with
 | nil => rfl
 | cons p r ih =>
  simp only [List.map_cons, List.find?_cons]
  by_cases q : p.1 = k
  ·simp [q]
  ·simp only [q, decide_false]; exact ih
theorem stored_map {K : Type} [DecidableEq K] (kvs : List (K × Value)) (k : K) (v : Value) : (stored kvs k v).map (fun p => (p.1, nv p.2)) = stored (kvs.map fun p => (p.1, nv p.2)) k (nv v) := by
 unfold stored
 have e : (kvs.map fun p => (p.1, nv p.2)).any (fun kv => kv.1 = k) = kvs.any (fun kv => kv.1 = k) := by
  rw [List.any_map]; rfl
 rw [e]
 split
 ·rw [List.map_map, List.map_map]
  refine List.map_congr_left fun p _ => ?_
  simp only [Function.comp]
  split <;> rfl
 ·simp
theorem subI_ {value slice : Expr} {a : Addr} {es : List (Int × Value)} {k : Int} {t : Tok} {x : Value} (hm : (a, AObj.imap c.w es) ∈ n) (hx : valueAt es k = some x) (hs : subscripted slice false (.ref a) (.int k t) = operate [.ref a, .int k t] (getItem (.ref a) (.int k t)))
  (h : ∀ v, nv v = x → Q v m n) : V c u env (subscriptTail value slice (.ref a) (.int k t)) Q E m n :=
 V.vals (fun v => nv v = x) (fun A hp tk ok fit md Q' E' hq => by
  obtain ⟨kvs, d, em⟩ := imap_at (md.led _ hm)
  subst em
  rw [valueAt_map, Option.map_eq_some_iff] at hx
  obtain ⟨v, hv, hn⟩ := hx
  exact tail_any (Heap.MapOf.typeIs (s := ⟨hp, _, _, _, _⟩) d.mapOf) slot_dict_getitem.lookup (wpAny_getItem_of (intKind_is P c.w _ _) d.mapOf hv (hq v _ hn)) hs) h
theorem subS_ {value slice : Expr} {a : Addr} {es : List (Str × Value)} {k : Str} {t : Tok} {x : Value} (hm : (a, AObj.smap c.w es) ∈ n) (hx : valueAt es k = some x) (hs : subscripted slice false (.ref a) (.str k t) = operate [.ref a, .str k t] (getItem (.ref a) (.str k t)))
  (h : ∀ v, nv v = x → Q v m n) : V c u env (subscriptTail value slice (.ref a) (.str k t)) Q E m n :=
 V.vals (fun v => nv v = x) (fun A hp tk ok fit md Q' E' hq => by
  obtain ⟨kvs, d, em⟩ := smap_at (md.led _ hm)
  subst em
  rw [valueAt_map, Option.map_eq_some_iff] at hx
  obtain ⟨v, hv, hn⟩ := hx
  exact tail_any (Heap.MapOf.typeIs (s := ⟨hp, _, _, _, _⟩) d.mapOf) slot_dict_getitem.lookup (wpAny_getItem_of (strKind_is P c.w _ _) d.mapOf hv (hq v _ hn)) hs) h
theorem setI_ {n' : Led} {a : Addr} {es : List (Int × Value)} {k : Int} {t : Tok} {v : Value} {Q : Unit → Loc → Led → Prop} (hp : Put a (.imap c.w es) (.imap c.w (stored es k (nv v))) n n') (hz : es.length ≤ 10000) (h : Q () m n') : V c u env (setItem (.ref a) (.int k t) v) Q E m n :=
 V.i fun ok A hh tk fit md => by
  obtain ⟨kvs, d, em⟩ := imap_at (md.led _ hp.mem)
  have hlen : kvs.length = es.length := by rw [← em]; simp
  refine wpAny_setItem_pairs (intKind_is P c.w _ _) d (fun h' d' hs => ⟨⟨rfl, rfl, rfl⟩, m, n', md.put (x := a) hp (fun b hb => hs.2 b hb) fp_one rfl ?_, h⟩) (by rw [sizeLine_eq]; lia)
  rw [← em, ← stored_map]
  exact imap_rep d'
theorem setS_ {n' : Led} {a : Addr} {es : List (Str × Value)} {k : Str} {t : Tok} {v : Value} {Q : Unit → Loc → Led → Prop} (hp : Put a (.smap c.w es) (.smap c.w (stored es k (nv v))) n n') (hz : es.length ≤ 10000) (h : Q () m n') : V c u env (setItem (.ref a) (.str k t) v) Q E m n :=
 V.i fun ok A hh tk fit md => by
  obtain ⟨kvs, d, em⟩ := smap_at (md.led _ hp.mem)
  have hlen : kvs.length = es.length := by rw [← em]; simp
  refine wpAny_setItem_pairs (strKind_is P c.w _ _) d (fun h' d' hs => ⟨⟨rfl, rfl, rfl⟩, m, n', md.put (x := a) hp (fun b hb => hs.2 b hb) fp_one rfl ?_, h⟩) (by rw [sizeLine_eq]; lia)
  rw [← em, ← stored_map]
  exact smap_rep d'
end
noncomputable def noE : EP := fun _ _ _ _ _ => False
noncomputable def AObj.liter (l : Addr) (i : Nat) : AObj := .one fun o => o.cls = .type "list_iterator" ∧ o.data = .fields #[.ref l, .int i 0]
noncomputable def AObj.riter (x left : Int) : AObj := .one fun o => o = { cls := .type "range_iterator", dict := none, data := .fields #[rawInt x, rawInt left, rawInt 1], slots := #[] }
noncomputable def AObj.range (a b : Int) : AObj := .one fun o => ∃ t u v, o = { cls := .type "range", data := .fields #[.int a t, .int b u, .int 1 v] }
noncomputable def AObj.kiter (d : Addr) (i n ep : Nat) : AObj := .one fun o => o.cls = .type "dict_keyiterator" ∧ o.data = .fields #[.ref d, .int i 0, .int n 0, .int ep 0]
noncomputable def AObj.enum (it : Addr) (i : Int) : AObj := .one fun o => ∃ old, o = { cls := .type "enumerate", dict := none, data := .fields #[.none, .bool false, .ref it, rawInt i, .none, old], slots := #[] }
theorem Mod.without {c : Cx} {fs : List (Env × Loc)} {n : Led} {h h' : Heap} {a : Addr} {o : AObj} (d : Mod c fs ((a, o) :: n) h) (ha : a ∈ fp (a, o)) (k : ∀ b o, b ≠ a → h.get? b = some o → h'.get? b = some o) : Mod c fs n h' := by
 have haf : a ∈ foot ((a, o) :: n) := mem_foot (.head _) ha
 have nd := d.nd
 rw [foot_cons] at nd
 have same : ∀ b, b ≠ a → ∀ o, h.get? b = some o → h'.get? b = h.get? b := fun b hb o e => by rw [k b o hb e, e]
 refine ⟨fun b ob e => k b ob (fun q => by rw [q, d.new a haf] at e; cases e) (d.keep b ob e), fun f hf => ?_, d.fnd, fun p hp => ?_, fun b hb => d.new b (by rw [foot_cons]; exact List.mem_append_right _ hb), (List.nodup_append.mp nd).2.1⟩
 ·have f1 := d.frs f hf
  obtain ⟨o', es, ep, ho', r⟩ := id f1.ns
  have hne : f.1.locals ≠ a := fun q => f1.out (q ▸ haf)
  exact ⟨Heap.Ns.of_get f1.ns (same _ hne _ ho'), f1.size, fun hm => f1.out (by rw [foot_cons]; exact List.mem_append_right _ hm)⟩
 ·refine Rep.of (fun b hb => ?_) (d.led p (.tail _ hp))
  obtain ⟨o', ho'⟩ := (d.led p (.tail _ hp)).there b hb
  exact same b (fun q => (List.nodup_append.mp nd).2.2 a ha b (mem_foot hp hb) q.symm) _ ho'
section
variable {c : Cx} {u : Cu} {env : Env} {E : EP} {m : Loc} {n : Led}
noncomputable def Turn (c : Cx) (u : Cu) (env : Env) (target : Expr) (it : Value) (K D : Loc → Led → Prop) (E : EP) (m : Loc) (n : Led) : Prop :=
 V c u env (pyNext it) (fun r m n => match r with
  | none => D m n
  | some v => V c u env (letOwnedTupleGo target it v) (fun _ m n => V c u env (assign target env v) (fun _ m n => K m n) E m n) E m n) E m n
theorem noteOk {x : Value} {s : Shared} {R : Value → Shared → Prop} (h : PE c u.fs env noE x s) : R x s := by
 obtain ⟨_, _, _, _, _, _, _, _, _, _, h⟩ := h
 exact h.elim
theorem PV.goN {α : Type} {t : Sem α} {Q : α → Loc → Led → Prop} {s : Shared} {A : Around} {R : Value → Shared → Prop} (q : PV c u.fs env (V c u env t Q noE) s) (ok : c.Ok) (fit : Fits u env A) : wpAny (model P c.w) A t (fun a => PV c u.fs env (Q a)) R s :=
 wpAny_mono (q.go ok fit) (fun _ _ x => x) fun _ _ hx => noteOk hx
theorem V.goN {α : Type} {t : Sem α} {Q : α → Loc → Led → Prop} {A : Around} {h : Heap} {tk : Nat} {R : Value → Shared → Prop} (x : V c u env t Q noE m n) (ok : c.Ok) (fit : Fits u env A) (md : Mod c ((env, m) :: u.fs) n h) : wpAny (model P c.w) A t (fun a => PV c u.fs env (Q a)) R ⟨h, c.gens, c.drawn, tk, c.os⟩ :=
 wpAny_mono (x.go ok A h tk fit md) (fun _ _ x => x) fun _ _ hx => noteOk hx
noncomputable abbrev KAt (N : Nat) (J : Nat → Loc → Led → Prop) (k : Nat) (m : Loc) (n : Led) : Prop := ∃ i, i + k = N ∧ J i m n
theorem at_less {N i k : Nat} {J : Nat → Loc → Led → Prop} {fs : List (Env × Loc)} (hk : i + k = N) (s : Shared) (q : PV c fs env (KIn i N J) s) : ∃ k', k' < k ∧ PV c fs env (KAt N J k') s :=
 q.el (G := fun s => ∃ k', k' < k ∧ PV c fs env (KAt N J k') s) fun _ _ m n y z => by
  obtain ⟨hlt, hj⟩ := z
  cases k with
  | zero => exact absurd hk (Nat.ne_of_lt hlt)
  | succ k => exact ⟨k, Nat.lt_succ_self k, ⟨⟨rfl, rfl, rfl⟩, m, n, y, i + 1, (Nat.succ_add_eq_add_succ i k).trans hk, hj⟩⟩
noncomputable abbrev KFor (c : Cx) (u : Cu) (env : Env) (target : Expr) (body orelse : List Stmt) (Q : Flow → Loc → Led → Prop) (it : Value) (m : Loc) (n : Led) : Prop := ∃ (N : Nat) (J : Nat → Loc → Led → Prop), J 0 m n ∧ (let j := J; ∀ i m n, i ≤ N → j i m n →
 Turn c u env target it (V c u env (execs body env) (KLp (KIn i N j) Q) noE) (V c u env (execs orelse env) Q noE) noE m n)
theorem For_ {target iter : Expr} {body orelse : List Stmt} {pos : Pos} {Q : Flow → Loc → Led → Prop}
  (h : V c u env (eval iter env) (Kf c u env E pyIter (KFor c u env target body orelse Q)) E m n)
  (hs : autoParam (∀ x, foldedSetIterable iter env x = pure x) rfB) : V c u env (exec (.For target iter body orelse pos) env) Q E m n :=
 V.i fun ok A hp tk fit md => by
  refine wpAny_For (wpAny_mono (h.go ok A hp tk fit md) (fun x s q => wpAny_mono (q.go ok fit) (fun it s q => ?_) fun _ _ x => x) fun _ _ x => x) hs
  refine q.el fun _ _ m' n' y ⟨N, J, j0, turn⟩ => ?_
  refine codeAny_forLoop_any (fun k => PV c u.fs env (KAt N J k)) (fun k s q => ?_) N ⟨⟨rfl, rfl, rfl⟩, m', n', y, 0, by lia, j0⟩
  refine q.el fun _ _ m' n' y ⟨i, hk, hj⟩ => ?_
  refine wpAny_mono ((turn i m' n' (by lia) hj).goN ok fit y) (fun r s q => ?_) fun _ _ x => x
  cases r with
  | none => exact PV.goN q ok fit
  | some v =>
   refine wpAny_mono (PV.goN q ok fit) (fun _ s q => wpAny_mono (PV.goN q ok fit) (fun _ s q => wpAny_mono (PV.goN q ok fit) (fun f s q => ?_) fun _ _ x => x) fun _ _ x => x) fun _ _ x => x
   cases f with
   | next => exact at_less hk s q
   | cont => exact at_less hk s q
   | brk => exact q
   | ret v => exact q
noncomputable abbrev KNx (x : Str) (K D : Loc → Led → Prop) (r : Option Value) (m : Loc) (n : Led) : Prop := match r with | none => D m n | some v => K ((x, v) :: m) n
theorem turnName {x : Str} {p : Pos} {it : Value} {K D : Loc → Led → Prop} (hl : env.kindOf x = some .local)
  (h : V c u env (pyNext it) (KNx x K D) E m n) : Turn c u env (.Name x p) it K D E m n :=
 V.mono h (fun r m n h => by
  cases r with
  | none => exact h
  | some v =>
   refine V.of_eq (t' := Pure.pure ()) (by rfl) (V.pure ?_)
   exact V.le wpAny_assign_Name (Store_ hl h)) fun _ _ _ _ _ h => h
theorem iterL_ {l : Addr} {xs : List Value} {Q : Value → Loc → Led → Prop} (hm : (l, AObj.list xs) ∈ n) (h : ∀ it, Q (.ref it) m ((it, .liter l 0) :: n)) : V c u env (pyIter (.ref l)) Q E m n :=
 V.i fun ok A hp tk fit md => by
  obtain ⟨vs, e, ho, em⟩ := list_at (md.led _ hm)
  exact wpAny_pyIter_list (items := vs) ⟨_, ho, rfl, e, rfl⟩ ⟨⟨rfl, rfl, rfl⟩, m, _, md.pushed rfl ⟨rfl, rfl⟩, h _⟩
theorem nextL_ {it l : Addr} {i : Nat} {xs : List Value} {Q : Option Value → Loc → Led → Prop} (hd : u.hd = none) (hm : (l, AObj.list xs) ∈ n)
  (h1 : ∀ x, xs[i]? = some x → ∀ v, nv v = x → Q (some v) m ((it, .liter l (i + 1)) :: n)) (h0 : xs[i]? = none → Q none m n) : V c u env (pyNext (.ref it)) Q E m ((it, .liter l i) :: n) :=
 V.i fun ok A hp tk fit md => by
  obtain ⟨vs, e, ho, em⟩ := list_at (md.led _ (.tail _ hm))
  obtain ⟨o, ho', hi⟩ := md.led _ (.head _)
  have hit : hp.IsListIter it l i := ⟨o, ho', hi⟩
  have hl : hp.IsList l vs := ⟨_, ho, rfl, e, rfl⟩
  cases q : vs[i]? with
  | some v =>
   have hx : xs[i]? = some (nv v) := by rw [← em, List.getElem?_map]; simp [q]
   exact wpAny_pyNext_list_item hit hl q fun h' ⟨o', k1, k2⟩ hs => ⟨⟨rfl, rfl, rfl⟩, m, _, md.put (x := it) (o := .liter l i) (o' := .liter l (i + 1)) .here (fun b hb => hs.2 b hb) fp_one rfl ⟨o', k1, k2⟩, h1 _ hx v rfl⟩
  | none =>
   have hx : xs[i]? = none := by rw [← em, List.getElem?_map]; simp [q]
   exact wpAny_pyNext_list_end (fit.handled.trans hd) hit hl q fun h' hs => ⟨⟨rfl, rfl, rfl⟩, m, _, md.without fp_one (fun b o hb e => hs b o hb e), h0 hx⟩
theorem range_ {k : Int} {t : Tok} {Q : Value → Loc → Led → Prop} (h : ∀ r, Q (.ref r) m ((r, .range 0 k) :: n)) : V c u env (call (.type "range") [.int k t]) Q E m n :=
 V.i fun ok A hp tk fit md => PySem.call_range_1 ⟨⟨rfl, rfl, rfl⟩, m, _, md.pushed rfl ⟨_, _, _, rfl⟩, h _⟩
theorem iterR_ {r : Addr} {a b : Int} {Q : Value → Loc → Led → Prop} (hm : (r, AObj.range a b) ∈ n) (h0 : 0 ≤ a) (hab : a ≤ b) (h1 : b ≤ 100000) (h : ∀ it, Q (.ref it) m ((it, .riter a (b - a)) :: n)) : V c u env (pyIter (.ref r)) Q E m n :=
 V.i fun ok A hp tk fit md => by
  obtain ⟨o, ho, t, u', v, rfl⟩ := md.led _ hm
  have e : Builtin.Range.rangeSize a b 1 = b - a := by rw [PySem.rangeSize_one]; split <;> lia
  refine wpAny_pyIter_range ho (PySem.small_one (by lia) (by lia) (by lia) (by lia)) ?_
  rw [e]
  exact ⟨⟨rfl, rfl, rfl⟩, m, (hp.objs.size, AObj.riter a (b - a)) :: n, md.pushed (pr := fun o => o = { cls := .type "range_iterator", dict := none, data := .fields #[rawInt a, rawInt (b - a), rawInt 1], slots := #[] }) rfl rfl, h _⟩
theorem nextR_ {it : Addr} {x left : Int} {Q : Option Value → Loc → Led → Prop} (hd : u.hd = none)
  (h1 : 0 < left → ∀ t, Q (some (.int x t)) m ((it, .riter (x + 1) (left - 1)) :: n)) (h0 : left ≤ 0 → Q none m n) : V c u env (pyNext (.ref it)) Q E m ((it, .riter x left) :: n) :=
 V.i fun ok A hp tk fit md => by
  obtain ⟨o, ho', rfl⟩ := md.led _ (.head _)
  by_cases q : 0 < left
  ·exact wpAny_pyNext_range_item ho' q fun h' k1 hs => ⟨⟨rfl, rfl, rfl⟩, m, _, md.put (x := it) (o := .riter x left) (o' := .riter (x + 1) (left - 1)) .here (fun b hb => hs.2 b hb) fp_one rfl ⟨_, k1, rfl⟩, h1 q _⟩
  ·exact wpAny_pyNext_range_end (fit.handled.trans hd) ho' (by lia) fun h' hs => ⟨⟨rfl, rfl, rfl⟩, m, _, md.without fp_one (fun b o hb e => hs b o hb e), h0 (by lia)⟩
theorem V.freeze {α : Type} {t : Sem α} {Q : α → Loc → Led → Prop} {d : Addr} {es : List (Int × Value)} (h : ∀ kvs ep, kvs.map (fun p => (p.1, nv p.2)) = es → V c u env t Q E m ((d, .imapE c.w kvs ep) :: n)) : V c u env t Q E m ((d, .imap c.w es) :: n) :=
 V.i fun ok A hp tk fit md => by
  obtain ⟨o, ho, kvs, ep, hd, em⟩ := md.led _ (.head _)
  refine (h kvs ep em).go ok A hp tk fit ?_
  exact md.re (n' := (d, .imapE c.w kvs ep) :: n) (.refl _) fun led p hp' => by
   rcases List.mem_cons.mp hp' with rfl | hp'
   ·exact ⟨o, ho, hd⟩
   ·exact led p (.tail _ hp')
theorem V.thaw {α : Type} {t : Sem α} {Q : α → Loc → Led → Prop} {d : Addr} {kvs : List (Int × Value)} {ep : Nat} {es : List (Int × Value)} (em : kvs.map (fun p => (p.1, nv p.2)) = es) (h : V c u env t Q E m ((d, .imap c.w es) :: n)) : V c u env t Q E m ((d, .imapE c.w kvs ep) :: n) :=
 V.re (n' := (d, .imap c.w es) :: n) (.refl _) (fun hp led p hp' => by
  rcases List.mem_cons.mp hp' with rfl | hp'
  ·obtain ⟨o, ho, hd⟩ := led _ (.head _)
   exact ⟨o, ho, kvs, ep, hd, em⟩
  ·exact led p (.tail _ hp')) h
theorem imapE_at {h : Heap} {a : Addr} {w : World} {kvs : List (Int × Value)} {ep : Nat} (r : Rep h a (.imapE w kvs ep)) : h.DictAt (intKind P w) a kvs ep := by
 obtain ⟨o, ho, es', h1, h2, h3, h4, h5⟩ := r
 exact ⟨o, es', ho, h1, h2, h3, h4, h5⟩
theorem subE_ {value slice : Expr} {a : Addr} {kvs : List (Int × Value)} {ep : Nat} {k : Int} {t : Tok} {x : Value} {Q : Value → Loc → Led → Prop} (hm : (a, AObj.imapE c.w kvs ep) ∈ n) (hx : valueAt kvs k = some x) (hs : subscripted slice false (.ref a) (.int k t) = operate [.ref a, .int k t] (getItem (.ref a) (.int k t)))
  (h : Q x m n) : V c u env (subscriptTail value slice (.ref a) (.int k t)) Q E m n :=
 V.val x (fun A hp tk ok fit md Q' E' hq => by
  have d := (imapE_at (md.led _ hm)).dictOf
  exact tail_any (Heap.MapOf.typeIs (s := ⟨hp, _, _, _, _⟩) d.mapOf) slot_dict_getitem.lookup (wpAny_getItem_of (intKind_is P c.w _ _) d.mapOf hx (hq _)) hs) h
theorem iterD_ {d : Addr} {kvs : List (Int × Value)} {ep : Nat} {Q : Value → Loc → Led → Prop} (hm : (d, AObj.imapE c.w kvs ep) ∈ n) (hs : (d == sysModules) = false) (h : ∀ it, Q (.ref it) m ((it, .kiter d 0 kvs.length ep) :: n)) : V c u env (pyIter (.ref d)) Q E m n :=
 V.i fun ok A hp tk fit md => wpAny_pyIter_dict hs (imapE_at (md.led _ hm)) ⟨⟨rfl, rfl, rfl⟩, m, _, md.pushed rfl ⟨rfl, rfl⟩, h _⟩
theorem nextD_ {it d : Addr} {i ep : Nat} {kvs : List (Int × Value)} {Q : Option Value → Loc → Led → Prop} (hd : u.hd = none) (hm : (d, AObj.imapE c.w kvs ep) ∈ n)
  (h1 : ∀ k v, kvs[i]? = some (k, v) → ∀ t, Q (some (.int k t)) m ((it, .kiter d (i + 1) kvs.length ep) :: n)) (h0 : kvs[i]? = none → Q none m n) : V c u env (pyNext (.ref it)) Q E m ((it, .kiter d i kvs.length ep) :: n) :=
 V.i fun ok A hp tk fit md => by
  have D := imapE_at (md.led _ (.tail _ hm))
  obtain ⟨o, ho', hi⟩ := md.led _ (.head _)
  cases q : kvs[i]? with
  | some kv =>
   refine wpAny_pyNext_dict_item (k := kv.1) (v := kv.2) ⟨o, ho', hi⟩ D q fun key h' hk ⟨o', k1, k2⟩ hs => ?_
   obtain ⟨t, rfl⟩ := Value.isInt_shape hk
   exact ⟨⟨rfl, rfl, rfl⟩, m, _, md.put (x := it) (o := .kiter d i kvs.length ep) (o' := .kiter d (i + 1) kvs.length ep) .here (fun b hb => hs.2 b hb) fp_one rfl ⟨o', k1, k2⟩, h1 _ _ q _⟩
  | none => exact wpAny_pyNext_dict_end (fit.handled.trans hd) ⟨o, ho', hi⟩ D q fun h' hs => ⟨⟨rfl, rfl, rfl⟩, m, _, md.without fp_one (fun b o hb e => hs b o hb e), h0 q⟩
end
theorem Mod.popBut {c : Cx} {f : Env × Loc} {fs : List (Env × Loc)} {n : Led} {h h' : Heap} (d : Mod c (f :: fs) n h) (k : ∀ b, b ≠ f.1.locals → h'.get? b = h.get? b) : Mod c fs n h' := by
 have f0 := d.frs f (.head _)
 have fnd := d.fnd
 simp only [List.map_cons, List.nodup_cons] at fnd
 refine ⟨fun b ob e => ?_, fun g hg => ?_, fnd.2, fun p hp => ?_, d.new, d.nd⟩
 ·rw [k b fun q => by rw [q, f0.new] at e; cases e]
  exact d.keep b ob e
 ·have f1 := d.frs g (.tail _ hg)
  exact ⟨Heap.Ns.of_get f1.ns (k _ fun q => fnd.1 (q ▸ List.mem_map_of_mem (f := fun x : Env × Loc => x.1.locals) hg)), f1.size, f1.out⟩
 ·exact Rep.of (fun b hb => k b fun q => f0.out (q ▸ mem_foot hp hb)) (d.led p hp)
noncomputable def Cu.comp (u : Cu) (env : Env) (m : Loc) : Cu := { u with fs := (env, m) :: u.fs }
theorem Fits.comp {u : Cu} {env : Env} {m : Loc} {A : Around} {scope : Scope} {cl : List (Str × Addr)} {C : Addr} (fit : Fits u env A) (hk : scope.kind = .function) : Fits (u.comp env m) (compEnvC scope cl C env) A := by
 refine ⟨fit.frames, fit.handled, fit.depth, fit.units, by simp [compEnvC, relabel, hk], fun e he => ?_⟩
 have := fit.own e he
 exact ⟨by
  simp only [Cu.comp, List.map_cons]
  exact List.mem_cons_of_mem _ this.1, this.2⟩
noncomputable abbrev EE (c : Cx) (u : Cu) (env : Env) (E : EP) : Value → Shared → Prop := PE c u.fs env E
theorem Mod.store2 {c : Cx} {f : Env × Loc} {fs : List (Env × Loc)} {env : Env} {m m' : Loc} {n : Led} {h h' : Heap} (d : Mod c (f :: (env, m) :: fs) n h) (hs : ∀ b, b ≠ env.locals → h'.get? b = h.get? b) (hn : h'.Ns env.locals (fun x => m'.lookup x)) : Mod c (f :: (env, m') :: fs) n h' := by
 have d1 := d.pop.store hs hn
 have f0 := d.frs f (.head _)
 have fnd := d.fnd
 simp only [List.map_cons, List.nodup_cons, List.mem_cons] at fnd
 refine ⟨d1.keep, fun g hg => ?_, ?_, d1.led, d1.new, d1.nd⟩
 ·rcases List.mem_cons.mp hg with rfl | hg
  ·exact ⟨Heap.Ns.of_get f0.ns (hs _ fun q => fnd.1 (.inl q)), f0.size, f0.out⟩
  ·exact d1.frs g hg
 ·simp only [List.map_cons, List.nodup_cons, List.mem_cons]
  exact fnd
section
variable {c : Cx} {u : Cu} {env : Env} {E : EP} {m : Loc} {n : Led}
noncomputable abbrev appA (D : Addr) (x : Value) : Sem Value := call (.builtin "list.append") [.ref D, x]
noncomputable abbrev KNo (P : Loc → Led → Prop) (m : Loc) (_ : Loc) (n : Led) : Prop := P m n
noncomputable abbrev KSelf (it : Value) (m : Loc) (n : Led) (it' : Value) (m' : Loc) (n' : Led) : Prop := it' = it ∧ m' = m ∧ n' = n
noncomputable abbrev KC0 (c : Cx) (u : Cu) (env : Env) (scope : Scope) (cl : List (Str × Addr)) (target elt : Expr) (G : Addr → Loc → Led → Prop) (it : Value) (m : Loc) (n : Led) : Prop := ∀ C D : Addr, let w := u.comp env m; let e := compEnvC scope cl C env; ∃ (N : Nat) (J : Nat → Loc → Led → Prop), J 0 [] ((D, .list []) :: n) ∧
 (let j := J; ∀ mc n', j 0 mc n' → V c w e (pyIter it) (KSelf it mc n') noE mc n') ∧
 (let j := J; ∀ i mc n', i ≤ N → j i mc n' → Turn c w e target it (V c w e (eval elt e) (Kf c w e noE (appA D) (KU (KIn i N j))) noE) (KNo (G D) m) noE mc n')
noncomputable abbrev KT1 (c : Cx) (u : Cu) (env : Env) (elt : Expr) (D : Addr) (P : Loc → Led → Prop) (b : Bool) (m : Loc) (n : Led) : Prop := if b = true then V c u env (eval elt env) (Kf c u env noE (appA D) (KU P)) noE m n else P m n
noncomputable abbrev KC1 (c : Cx) (u : Cu) (env : Env) (scope : Scope) (cl : List (Str × Addr)) (target elt test : Expr) (G : Addr → Loc → Led → Prop) (it : Value) (m : Loc) (n : Led) : Prop := ∀ C D : Addr, let w := u.comp env m; let e := compEnvC scope cl C env; ∃ (N : Nat) (J : Nat → Loc → Led → Prop), J 0 [] ((D, .list []) :: n) ∧
 (let j := J; ∀ mc n', j 0 mc n' → V c w e (pyIter it) (KSelf it mc n') noE mc n') ∧
 (let j := J; ∀ i mc n', i ≤ N → j i mc n' → Turn c w e target it (V c w e (isTrue test e (eval test e)) (KT1 c w e elt D (KIn i N j)) noE) (KNo (G D) m) noE mc n')
noncomputable abbrev GQ (Q : Value → Loc → Led → Prop) (D : Addr) : Loc → Led → Prop := Q (.ref D)
noncomputable abbrev GA (y : Str) (Q : Flow → Loc → Led → Prop) (D : Addr) (m : Loc) (n : Led) : Prop := Q .next ((y, .ref D) :: m) n
theorem CompCore0_ {elt target iter : Expr} {scope : Scope} {cl : List (Str × Addr)} {pos : Pos} {G : Addr → Loc → Led → Prop} {QQ : Value → Shared → Prop} {use : Option (Value → Sem Unit)} {A : Around} {hp : Heap} {tk : Nat} {p : Pos} (ok : c.Ok) (fit : Fits u env A) (md : Mod c ((env, m) :: u.fs) n hp)
  (hclos : closureFor scope env = pure cl) (hcell : ∀ y ∈ scope.names, y.2 ≠ .cell) (hkind : scope.kind = .function) (hnames : ∀ y ∈ scope.names, y.2 = .local → scope.names.lookup y.1 = some .local)
  (h : V c u env (eval iter env) (Kf c u env E pyIter (KC0 c u env scope cl target elt G)) E m n)
  (fin : ∀ C D m mc n' s', Same c s' → Mod c ((compEnvC scope cl C env, mc) :: (env, m) :: u.fs) n' s'.heap → G D m n' → compPost (model P c.w) A (EE c u env E) use QQ (.ref D) C (.ok .next) s')
  (hs : autoParam (∀ x, foldedSetIterable iter env x = pure x) rfB) : wpAny (model P c.w) A (comprehension (.ListComp elt [⟨target, iter, [], 0⟩] scope pos) scope env p (newList []) false (eval iter env) use) QQ (EE c u env E) ⟨hp, c.gens, c.drawn, tk, c.os⟩ := by
  refine wpAny_comprehension_free (use := use) rfl hs hclos hkind hnames (wpAny_mono (h.go ok A hp tk fit md) (fun x s q => wpAny_mono (q.go ok fit) (fun it s q => ?_) fun _ _ x => x) fun _ _ x => x)
  refine q.el fun h₀ t₀ m₁ n₁ y z => ?_
  refine wpAny_newObj_type (wpAny_newFunctionEnv hcell (by intro y hy; simp at hy) (fun h₁ hns₁ hsb₁ => ?_) hkind)
  dsimp only at hns₁ hsb₁ ⊢
  generalize hH2 : h₀.push { cls := .type "list", dict := none, data := .seq ([] : List Value).toArray } = H2 at hns₁ hsb₁ ⊢
  have y1 : Mod c ((env, m₁) :: u.fs) ((h₀.objs.size, .list []) :: n₁) H2 := hH2 ▸ y.pushed (o := listOf #[] 0) rfl ⟨_, _, rfl, rfl⟩
  obtain ⟨N, J, j0, self, turn⟩ := z H2.objs.size h₀.objs.size
  have fit' := fit.comp (m := m₁) (cl := cl) (C := H2.objs.size) hkind
  have y2 : Mod c ((compEnvC scope cl H2.objs.size env, []) :: (u.comp env m₁).fs) ((h₀.objs.size, .list []) :: n₁) h₁ :=
   y1.push (env := compEnvC scope cl H2.objs.size env) (fun b o e => hsb₁.extBut b o (Nat.ne_of_lt (Heap.lt_size e)) (Heap.get?_push_of_some _ e)) hns₁ (Nat.le_refl _) y1.size
  have loop : ∀ s₃, PV c (u.comp env m₁).fs (compEnvC scope cl H2.objs.size env) (J 0) s₃ → codeAny (model P c.w) A (.compLoop (.ListComp elt [⟨target, iter, [], 0⟩] scope pos) 0 it (.ref h₀.objs.size) (compEnvC scope cl H2.objs.size env))
    (compPost (model P c.w) A (EE c u env E) use QQ (.ref h₀.objs.size) H2.objs.size) s₃ := fun s₃ q => q.el fun _ _ mc n' y2 j0 => by
   refine kcp_loop (fun k => PV c (u.comp env m₁).fs (compEnvC scope cl H2.objs.size env) (KAt N J k)) (fun k s q => ?_) N ⟨⟨rfl, rfl, rfl⟩, mc, n', y2, 0, by lia, j0⟩
   refine q.el fun _ _ m' n' y ⟨i, hk, hj⟩ => ?_
   refine wpAny_mono ((turn i m' n' (by lia) hj).goN ok fit' y) (fun r s q => ?_) fun _ _ x => x
   cases r with
   | none => exact q.el fun _ _ m' n' y z => fin _ _ m₁ m' n' _ ⟨rfl, rfl, rfl⟩ y z
   | some v =>
    exact wpAny_mono (PV.goN q ok fit') (fun _ s q => wpAny_mono (PV.goN q ok fit') (fun _ s q => wpAny_mono (PV.goN q ok fit') (fun _ s q => wpAny_mono (PV.goN q ok fit') (fun f s q => at_less hk s q) fun _ _ x => x) fun _ _ x => x) fun _ _ x => x) fun _ _ x => x
  refine codeAny_compStart_list (loop ⟨h₁, _, _, _, _⟩ ⟨⟨rfl, rfl, rfl⟩, _, _, y2, j0⟩) ?_
  exact wpAny_mono ((self _ _ j0).goN ok fit' y2) (fun it' s q => q.is (G := fun v s => codeAny (model P c.w) A (.compLoop (.ListComp elt [⟨target, iter, [], 0⟩] scope pos) 0 v (.ref h₀.objs.size) (compEnvC scope cl H2.objs.size env)) (compPost (model P c.w) A (EE c u env E) use QQ (.ref h₀.objs.size) H2.objs.size) s) fun h₂ _ y => loop ⟨h₂, _, _, _, _⟩ ⟨⟨rfl, rfl, rfl⟩, _, _, y, j0⟩) fun _ _ x => x
theorem CompCore1_ {elt target iter test : Expr} {scope : Scope} {cl : List (Str × Addr)} {pos : Pos} {G : Addr → Loc → Led → Prop} {QQ : Value → Shared → Prop} {use : Option (Value → Sem Unit)} {A : Around} {hp : Heap} {tk : Nat} {p : Pos} (ok : c.Ok) (fit : Fits u env A) (md : Mod c ((env, m) :: u.fs) n hp)
  (hclos : closureFor scope env = pure cl) (hcell : ∀ y ∈ scope.names, y.2 ≠ .cell) (hkind : scope.kind = .function) (hnames : ∀ y ∈ scope.names, y.2 = .local → scope.names.lookup y.1 = some .local)
  (h : V c u env (eval iter env) (Kf c u env E pyIter (KC1 c u env scope cl target elt test G)) E m n)
  (fin : ∀ C D m mc n' s', Same c s' → Mod c ((compEnvC scope cl C env, mc) :: (env, m) :: u.fs) n' s'.heap → G D m n' → compPost (model P c.w) A (EE c u env E) use QQ (.ref D) C (.ok .next) s')
  (hs : autoParam (∀ x, foldedSetIterable iter env x = pure x) rfB) : wpAny (model P c.w) A (comprehension (.ListComp elt [⟨target, iter, [test], 0⟩] scope pos) scope env p (newList []) false (eval iter env) use) QQ (EE c u env E) ⟨hp, c.gens, c.drawn, tk, c.os⟩ := by
  refine wpAny_comprehension_free (use := use) rfl hs hclos hkind hnames (wpAny_mono (h.go ok A hp tk fit md) (fun x s q => wpAny_mono (q.go ok fit) (fun it s q => ?_) fun _ _ x => x) fun _ _ x => x)
  refine q.el fun h₀ t₀ m₁ n₁ y z => ?_
  refine wpAny_newObj_type (wpAny_newFunctionEnv hcell (by intro y hy; simp at hy) (fun h₁ hns₁ hsb₁ => ?_) hkind)
  dsimp only at hns₁ hsb₁ ⊢
  generalize hH2 : h₀.push { cls := .type "list", dict := none, data := .seq ([] : List Value).toArray } = H2 at hns₁ hsb₁ ⊢
  have y1 : Mod c ((env, m₁) :: u.fs) ((h₀.objs.size, .list []) :: n₁) H2 := hH2 ▸ y.pushed (o := listOf #[] 0) rfl ⟨_, _, rfl, rfl⟩
  obtain ⟨N, J, j0, self, turn⟩ := z H2.objs.size h₀.objs.size
  have fit' := fit.comp (m := m₁) (cl := cl) (C := H2.objs.size) hkind
  have y2 : Mod c ((compEnvC scope cl H2.objs.size env, []) :: (u.comp env m₁).fs) ((h₀.objs.size, .list []) :: n₁) h₁ :=
   y1.push (env := compEnvC scope cl H2.objs.size env) (fun b o e => hsb₁.extBut b o (Nat.ne_of_lt (Heap.lt_size e)) (Heap.get?_push_of_some _ e)) hns₁ (Nat.le_refl _) y1.size
  have loop : ∀ s₃, PV c (u.comp env m₁).fs (compEnvC scope cl H2.objs.size env) (J 0) s₃ → codeAny (model P c.w) A (.compLoop (.ListComp elt [⟨target, iter, [test], 0⟩] scope pos) 0 it (.ref h₀.objs.size) (compEnvC scope cl H2.objs.size env))
    (compPost (model P c.w) A (EE c u env E) use QQ (.ref h₀.objs.size) H2.objs.size) s₃ := fun s₃ q => q.el fun _ _ mc n' y2 j0 => by
   refine kct_loop (fun k => PV c (u.comp env m₁).fs (compEnvC scope cl H2.objs.size env) (KAt N J k)) (fun k s q => ?_) N ⟨⟨rfl, rfl, rfl⟩, mc, n', y2, 0, by lia, j0⟩
   refine q.el fun _ _ m' n' y ⟨i, hk, hj⟩ => ?_
   refine wpAny_mono ((turn i m' n' (by lia) hj).goN ok fit' y) (fun r s q => ?_) fun _ _ x => x
   cases r with
   | none => exact q.el fun _ _ m' n' y z => fin _ _ m₁ m' n' _ ⟨rfl, rfl, rfl⟩ y z
   | some v =>
    refine wpAny_mono (PV.goN q ok fit') (fun _ s q => wpAny_mono (PV.goN q ok fit') (fun _ s q => wpAny_mono (PV.goN q ok fit') (fun b s q => ?_) fun _ _ x => x) fun _ _ x => x) fun _ _ x => x
    cases b with
    | false => exact at_less hk s q
    | true => exact wpAny_mono (PV.goN q ok fit') (fun _ s q => wpAny_mono (PV.goN q ok fit') (fun f s q => at_less hk s q) fun _ _ x => x) fun _ _ x => x
  refine codeAny_compStart_list (loop ⟨h₁, _, _, _, _⟩ ⟨⟨rfl, rfl, rfl⟩, _, _, y2, j0⟩) ?_
  exact wpAny_mono ((self _ _ j0).goN ok fit' y2) (fun it' s q => q.is (G := fun v s => codeAny (model P c.w) A (.compLoop (.ListComp elt [⟨target, iter, [test], 0⟩] scope pos) 0 v (.ref h₀.objs.size) (compEnvC scope cl H2.objs.size env)) (compPost (model P c.w) A (EE c u env E) use QQ (.ref h₀.objs.size) H2.objs.size) s) fun h₂ _ y => loop ⟨h₂, _, _, _, _⟩ ⟨⟨rfl, rfl, rfl⟩, _, _, y, j0⟩) fun _ _ x => x
theorem Comp0_ {elt target iter : Expr} {scope : Scope} {cl : List (Str × Addr)} {pos : Pos} {Q : Value → Loc → Led → Prop}
  (hclos : closureFor scope env = pure cl) (hcell : ∀ y ∈ scope.names, y.2 ≠ .cell) (hkind : scope.kind = .function) (hnames : ∀ y ∈ scope.names, y.2 = .local → scope.names.lookup y.1 = some .local)
  (h : V c u env (eval iter env) (Kf c u env E pyIter (KC0 c u env scope cl target elt (GQ Q))) E m n)
  (hs : autoParam (∀ x, foldedSetIterable iter env x = pure x) rfB) : V c u env (eval (.ListComp elt [⟨target, iter, [], 0⟩] scope pos) env) Q E m n :=
 V.i fun ok A hp tk fit md => by
  rw [eval_ListComp]
  exact CompCore0_ (G := fun D m n => Q (.ref D) m n) ok fit md hclos hcell hkind hnames h (fun C D m mc n' s' sm y z => ⟨_, (y.frs _ (.head _)).ns, fun h' hs' => ⟨sm, m, n', y.popBut fun b hb => hs'.2 b hb, z⟩⟩) hs
theorem AssignComp0_ {elt target iter : Expr} {scope : Scope} {cl : List (Str × Addr)} {pos spos py : Pos} {y : Str} {Q : Flow → Loc → Led → Prop} (hsw : swapsWith (.ListComp elt [⟨target, iter, [], 0⟩] scope pos) (some (.Name y py)) spos.line env = pure true) (hy : env.kindOf y = some .local)
  (hclos : closureFor scope env = pure cl) (hcell : ∀ y ∈ scope.names, y.2 ≠ .cell) (hkind : scope.kind = .function) (hnames : ∀ y ∈ scope.names, y.2 = .local → scope.names.lookup y.1 = some .local)
  (h : V c u env (eval iter env) (Kf c u env E pyIter (KC0 c u env scope cl target elt (GA y Q))) E m n)
  (hs : autoParam (∀ x, foldedSetIterable iter env x = pure x) rfB) : V c u env (exec (.Assign [.Name y py] (.ListComp elt [⟨target, iter, [], 0⟩] scope pos) spos) env) Q E m n :=
 V.i fun ok A hp tk fit md => by
  rw [exec_Assign_Name_used _ _ _ _ hsw]
  refine wpAny_bind (wpAny_standAt (wpAny_bind ?_))
  show wpAny _ A (do let _ ← comprehension (.ListComp elt [⟨target, iter, [], 0⟩] scope pos) scope env _ (newList []) false (eval iter env) (some (assign (.Name y py) env))) _ _ _
  refine wpAny_bind (wpAny_mono (CompCore0_ (QQ := fun _ => PV c u.fs env (Q .next)) (G := fun D m n => Q .next ((y, .ref D) :: m) n) (use := some (assign (.Name y py) env)) ok fit md hclos hcell hkind hnames h (fun C D m mc n' s' sm yy z => ?_) hs) (fun _ s' hq => wpAny_pure (wpAny_pure hq)) fun _ _ e => e)
  show wpAny _ A (assign (.Name y py) env (.ref D)) _ _ _
  have f1 := yy.frs (env, m) (.tail _ (.head _))
  have fnd := yy.fnd
  simp only [List.map_cons, List.nodup_cons, List.mem_cons] at fnd
  refine wpAny_assign_Name (wpAny_storeName_local hy f1.ns (fun h₂ hn₂ hs₂ => ?_) (by rw [fit.kind]; rfl))
  have e : (fun z => if z = y then some (.ref D) else m.lookup z) = fun z => ((y, Value.ref D) :: m).lookup z := by
   funext z
   rw [List.lookup_cons]
   by_cases q : z = y
   ·subst q; simp
   ·have : (z == y) = false := by simpa using q
    simp [q, this]
  have y2 := yy.store2 (fun b hb => hs₂.2 b hb) (e ▸ hn₂)
  refine ⟨_, (y2.frs _ (.head _)).ns, fun h₃ hs₃ => ⟨sm, _, n', y2.popBut fun b hb => hs₃.2 b hb, z⟩⟩
theorem Comp1_ {elt target iter test : Expr} {scope : Scope} {cl : List (Str × Addr)} {pos : Pos} {Q : Value → Loc → Led → Prop}
  (hclos : closureFor scope env = pure cl) (hcell : ∀ y ∈ scope.names, y.2 ≠ .cell) (hkind : scope.kind = .function) (hnames : ∀ y ∈ scope.names, y.2 = .local → scope.names.lookup y.1 = some .local)
  (h : V c u env (eval iter env) (Kf c u env E pyIter (KC1 c u env scope cl target elt test (GQ Q))) E m n)
  (hs : autoParam (∀ x, foldedSetIterable iter env x = pure x) rfB) : V c u env (eval (.ListComp elt [⟨target, iter, [test], 0⟩] scope pos) env) Q E m n :=
 V.i fun ok A hp tk fit md => by
  rw [eval_ListComp]
  exact CompCore1_ (G := fun D m n => Q (.ref D) m n) ok fit md hclos hcell hkind hnames h (fun C D m mc n' s' sm y z => ⟨_, (y.frs _ (.head _)).ns, fun h' hs' => ⟨sm, m, n', y.popBut fun b hb => hs'.2 b hb, z⟩⟩) hs
theorem AssignComp1_ {elt target iter test : Expr} {scope : Scope} {cl : List (Str × Addr)} {pos spos py : Pos} {y : Str} {Q : Flow → Loc → Led → Prop} (hsw : swapsWith (.ListComp elt [⟨target, iter, [test], 0⟩] scope pos) (some (.Name y py)) spos.line env = pure true) (hy : env.kindOf y = some .local)
  (hclos : closureFor scope env = pure cl) (hcell : ∀ y ∈ scope.names, y.2 ≠ .cell) (hkind : scope.kind = .function) (hnames : ∀ y ∈ scope.names, y.2 = .local → scope.names.lookup y.1 = some .local)
  (h : V c u env (eval iter env) (Kf c u env E pyIter (KC1 c u env scope cl target elt test (GA y Q))) E m n)
  (hs : autoParam (∀ x, foldedSetIterable iter env x = pure x) rfB) : V c u env (exec (.Assign [.Name y py] (.ListComp elt [⟨target, iter, [test], 0⟩] scope pos) spos) env) Q E m n :=
 V.i fun ok A hp tk fit md => by
  rw [exec_Assign_Name_used _ _ _ _ hsw]
  refine wpAny_bind (wpAny_standAt (wpAny_bind ?_))
  show wpAny _ A (do let _ ← comprehension (.ListComp elt [⟨target, iter, [test], 0⟩] scope pos) scope env _ (newList []) false (eval iter env) (some (assign (.Name y py) env))) _ _ _
  refine wpAny_bind (wpAny_mono (CompCore1_ (QQ := fun _ => PV c u.fs env (Q .next)) (G := fun D m n => Q .next ((y, .ref D) :: m) n) (use := some (assign (.Name y py) env)) ok fit md hclos hcell hkind hnames h (fun C D m mc n' s' sm yy z => ?_) hs) (fun _ s' hq => wpAny_pure (wpAny_pure hq)) fun _ _ e => e)
  show wpAny _ A (assign (.Name y py) env (.ref D)) _ _ _
  have f1 := yy.frs (env, m) (.tail _ (.head _))
  have fnd := yy.fnd
  simp only [List.map_cons, List.nodup_cons, List.mem_cons] at fnd
  refine wpAny_assign_Name (wpAny_storeName_local hy f1.ns (fun h₂ hn₂ hs₂ => ?_) (by rw [fit.kind]; rfl))
  have e : (fun z => if z = y then some (.ref D) else m.lookup z) = fun z => ((y, Value.ref D) :: m).lookup z := by
   funext z
   rw [List.lookup_cons]
   by_cases q : z = y
   ·subst q; simp
   ·have : (z == y) = false := by simpa using q
    simp [q, this]
  have y2 := yy.store2 (fun b hb => hs₂.2 b hb) (e ▸ hn₂)
  refine ⟨_, (y2.frs _ (.head _)).ns, fun h₃ hs₃ => ⟨sm, _, n', y2.popBut fun b hb => hs₃.2 b hb, z⟩⟩
end
noncomputable def AObj.cellO (v : Option Value) : AObj := .one fun o => ∃ v', o.data = .cell v' ∧ v'.map nv = v
theorem Mod.moreL {c : Cx} {fs fs' : List (Env × Loc)} {n l : Led} {h h' : Heap} (d : Mod c fs n h) (d' : Mod c fs' n h')
  (r : ∀ p ∈ l, Rep h' p.1 p.2) (hn : ∀ b ∈ foot l, h.get? b = none) (hnd : (foot l).Nodup) (ho : ∀ f ∈ fs', f.1.locals ∉ foot l) : Mod c fs' (l ++ n) h' := by
 have nb : ∀ b ∈ foot l, b ∉ foot n := fun b hb hm => by
  obtain ⟨o', ho'⟩ := d.there hm
  rw [hn b hb] at ho'; cases ho'
 refine ⟨d'.keep, fun f hf => ⟨(d'.frs f hf).ns, (d'.frs f hf).size, ?_⟩, d'.fnd, fun p hp => ?_, fun b hb => ?_, ?_⟩
 ·rw [foot_append, List.mem_append]
  rintro (hm | hm)
  ·exact ho f hf hm
  ·exact (d'.frs f hf).out hm
 ·rcases List.mem_append.mp hp with hp | hp
  ·exact r p hp
  ·exact d'.led p hp
 ·rw [foot_append, List.mem_append] at hb
  rcases hb with hb | hb
  ·cases q : c.b₀.get? b with
   | none => rfl
   | some o' => have := d.keep b o' q; rw [hn b hb] at this; cases this
  ·exact d'.new b hb
 ·rw [foot_append]
  exact List.nodup_append.mpr ⟨hnd, d'.nd, fun x hx y hy e => nb x hx (e ▸ hy)⟩
noncomputable def ledC (cs : List (Str × Addr)) (bs : List (Str × Value)) : Led := cs.map fun p => (p.2, .cellO ((bs.lookup p.1).map nv))
theorem foot_ledC (cs : List (Str × Addr)) (bs : List (Str × Value)) : foot (ledC cs bs) = cs.map (·.2) := by
 induction cs with
 | nil => rfl
 | cons p r ih => rw [ledC, List.map_cons, foot_cons, ← ledC, ih]; rfl
theorem bindL_eq (k : Str → Option NameKind) (x : Str) : ∀ (binds : List (Str × Value)) (l : List (Str × Value)), bindL k binds (fun y => l.lookup y) x = ((binds.filter fun b => decide (k b.1 = some .local)).reverse ++ l).lookup x
 | [], l => by simp [bindL]
 | (y, v) :: r, l => by
  unfold bindL
  by_cases q : k y = some .local
  ·rw [if_pos q]
   have := bindL_eq k x r ((y, v) :: l)
   rw [show (fun z => if z = y then some v else l.lookup z) = fun z => ((y, v) :: l).lookup z by
    funext z
    rw [List.lookup_cons]
    by_cases e : z = y
    ·subst e; simp
    ·have : (z == y) = false := by simpa using e
     simp [e, this]]
   rw [this]
   simp [q]
  ·rw [if_neg q, bindL_eq k x r l]
   simp [q]
theorem bindC_eq (k : Str → Option NameKind) (x : Str) : ∀ (binds : List (Str × Value)) (l : List (Str × Value)), bindC k binds (fun y => l.lookup y) x = ((binds.filter fun b => !decide (k b.1 = some .local)).reverse ++ l).lookup x
 | [], l => by simp [bindC]
 | (y, v) :: r, l => by
  unfold bindC
  by_cases q : k y = some .local
  ·rw [if_pos q, bindC_eq k x r l]
   simp [q]
  ·rw [if_neg q]
   have := bindC_eq k x r ((y, v) :: l)
   rw [show (fun z => if z = y then some v else l.lookup z) = fun z => ((y, v) :: l).lookup z by
    funext z
    rw [List.lookup_cons]
    by_cases e : z = y
    ·subst e; simp
    ·have : (z == y) = false := by simpa using e
     simp [e, this]]
   rw [this]
   simp [q]
section
variable {c : Cx} {u : Cu} {env : Env} {E : EP} {m : Loc} {n : Led}
theorem CallF_ {n : Led} {fs : List (Env × Loc)} {A : Around} {uu : Env → Cu} {Q : Value → Led → Prop} {f cd : Addr} {qual : Str} {params : Arguments} {body : List Stmt} {scope : Scope} {dV : Value} {args : List Value} {binds m₀ b₀ : List (Str × Value)} {cs : Addr → List (Str × Addr)}
  (F : Fn0 c.K f cd qual params body scope dV) (B : ∀ name pm cd', bindArgs (fnX name qual params body scope [] dV .none .none pm none cd' .none) ⟨args, []⟩ = Pure.pure binds)
  (hnd : ((cellsFrom 0 scope.names []).map (·.1)).Nodup) (hk : (binds.all fun x => decide (scope.names.lookup x.1 = some .local) || (decide (scope.names.lookup x.1 = some .cell) && ((cellsFrom 0 scope.names []).map (·.1)).contains x.1)) = true)
  (hcs : ∀ L, cellsFrom (L + 1) scope.names [] = cs L) (hm₀ : (binds.filter fun b => decide (scope.names.lookup b.1 = some .local)).reverse = m₀) (hb₀ : (binds.filter fun b => !decide (scope.names.lookup b.1 = some .local)).reverse = b₀)
  (hv : ∀ L, V c (uu (envX qual scope L f (.ref cd) (cs L))) (envX qual scope L f (.ref cd) (cs L)) (execs body (envX qual scope L f (.ref cd) (cs L))) (fun fl _ n' => ∃ n'', n''.Sublist n' ∧ Q (retV fl) n'') noE m₀ (ledC (cs L) b₀ ++ n))
  {h : Heap} {tk : Nat} (ok : c.Ok) (md : Mod c fs n h) (huf : ∀ e, (uu e).fs = fs) (hfit : ∀ L, Fits (uu (envX qual scope L f (.ref cd) (cs L))) (envX qual scope L f (.ref cd) (cs L)) (A.deeper (envX qual scope L f (.ref cd) (cs L)))) (hd : A.depth < recursionLimit) (hsz : c.b₀.objs.size ≤ h.objs.size) :
  wpAny (model P c.w) A (call (.ref f) args) (fun v s' => Same c s' ∧ ∃ n', Mod c fs n' s'.heap ∧ Q v n') (fun _ _ => False) ⟨h, c.gens, c.drawn, tk, c.os⟩ := by
 subst hm₀ hb₀
 obtain ⟨oc, od, osl, name, pm, hat⟩ := F.at_
 have X := ok.X.keeps md.keep
 have names : ∀ (l : List (Str × NameKind)) (k k' : Nat) (a a' : List (Str × Addr)), a.map (·.1) = a'.map (·.1) → (cellsFrom k l a).map (·.1) = (cellsFrom k' l a').map (·.1) := by
  intro l
  induction l with
  | nil => intro k k' a a' e; exact e
  | cons p r ih =>
   intro k k' a a' e
   obtain ⟨x, kd⟩ := p
   unfold cellsFrom
   split
   ·exact ih _ _ _ _ (by simp [e])
   ·exact ih _ _ _ _ e
 refine wpAny_call (codeAny_call_cells (fd := fnX name qual params body scope [] dV .none .none pm none (.ref cd) .none) (body := body) (binds := binds) hd (X _ _ hat) rfl (ok.nolimit.keeps md.keep) (codeRec_of X F.code) rfl (B _ _ _) rfl (fun x hx => ?_) (fun s₁ ic => ?_) F.co F.gen F.kind)
 ·have := List.all_eq_true.mp hk x hx
  rcases Bool.or_eq_true_iff.mp this with q | q
  ·exact .inl (of_decide_eq_true q)
  ·rw [Bool.and_eq_true] at q
   refine .inr ⟨of_decide_eq_true q.1, ?_⟩
   have q2 := q.2
   rw [names scope.names 0 (h.objs.size + 1) [] [] rfl] at q2
   rw [List.contains_eq_mem, decide_eq_true_eq] at q2
   obtain ⟨p, hp, e⟩ := List.mem_map.mp q2
   have : ∀ (l : List (Str × Addr)), p ∈ l → (l.lookup x.1).isSome = true := by
    intro l
    induction l with
    | nil => intro hp; cases hp
    | cons y r ih =>
     intro hp
     rw [List.lookup_cons]
     cases q : x.1 == y.1 with
     | true => rfl
     | false =>
      rcases List.mem_cons.mp hp with rfl | hp
      ·rw [e] at q; simp at q
      ·exact ih hp
   exact this _ hp
 ·let env' : Env := envX qual scope h.objs.size f (.ref cd) (cs h.objs.size)
  have ee : callEnvC (fnX name qual params body scope [] dV .none .none pm none (.ref cd) .none) h.objs.size f = env' := by
   show _ = envX qual scope h.objs.size f (.ref cd) (cs h.objs.size)
   rw [← hcs]; rfl
  rw [show (⟨h, c.gens, c.drawn, tk, c.os⟩ : Shared).heap.objs.size = h.objs.size from rfl, ee] at ic ⊢
  obtain ⟨h₁, tk₁, rfl⟩ := ic.toInCall.same
  have hk₁ := ic.toInCall.keep
  have kl : ∀ y, env'.kindOf y = scope.names.lookup y := fun y => rfl
  have hns : h₁.Ns env'.locals (fun x => ((binds.filter fun b => decide (scope.names.lookup b.1 = some .local)).reverse).lookup x) := by
   have := ic.toInCall.ns
   have e : bindL env'.kindOf binds (fun _ => none) = fun x => ((binds.filter fun b => decide (scope.names.lookup b.1 = some .local)).reverse).lookup x := by
    funext x
    have := bindL_eq env'.kindOf x binds []
    simp only [List.append_nil] at this
    exact this
   rwa [e] at this
  have md' : Mod c ((env', (binds.filter fun b => decide (scope.names.lookup b.1 = some .local)).reverse) :: fs) n h₁ := md.push hk₁ hns (Nat.le_refl _) hsz
  have above : ∀ p ∈ cs h.objs.size, h.objs.size < p.2 := fun p hp => ic.above p.1 p.2 hp
  have md'' : Mod c ((env', (binds.filter fun b => decide (scope.names.lookup b.1 = some .local)).reverse) :: fs) (ledC (cs h.objs.size) ((binds.filter fun b => !decide (scope.names.lookup b.1 = some .local)).reverse) ++ n) h₁ := by
   have hnd' : ((cs h.objs.size).map (·.1)).Nodup := by
    rw [← hcs, names scope.names (h.objs.size + 1) 0 [] [] rfl]; exact hnd
   refine md.moreL md' (fun p hp => ?_) (fun b hb => ?_) ?_ (fun f hf hm => ?_)
   ·obtain ⟨q, hq, rfl⟩ := List.mem_map.mp hp
    have lk : ∀ l : List (Str × Addr), (l.map (·.1)).Nodup → q ∈ l → l.lookup q.1 = some q.2 := by
     intro l
     induction l with
     | nil => intro _ h; cases h
     | cons y r ih =>
      intro hn hm
      simp only [List.map_cons, List.nodup_cons] at hn
      rw [List.lookup_cons]
      rcases List.mem_cons.mp hm with rfl | hm
      ·simp
      ·have : (q.1 == y.1) = false := by
        rw [beq_eq_false_iff_ne]
        exact fun e => hn.1 (e ▸ List.mem_map_of_mem (f := (·.1)) hm)
       rw [this]
       exact ih hn.2 hm
    obtain ⟨o, ho, hd⟩ := ic.cell q.1 q.2 (lk _ hnd' hq)
    have e := bindC_eq env'.kindOf q.1 binds []
    simp only [List.append_nil] at e
    have e' : bindC env'.kindOf binds (fun _ => none) q.1 = ((binds.filter fun b => !decide (scope.names.lookup b.1 = some .local)).reverse).lookup q.1 := e
    exact ⟨o, ho, _, hd, by rw [e']⟩
   ·rw [foot_ledC] at hb
    obtain ⟨q, hq, rfl⟩ := List.mem_map.mp hb
    exact none_above (Nat.le_of_lt (above q hq))
   ·rw [foot_ledC]
    exact List.pairwise_map.mpr ic.apart
   ·rw [foot_ledC] at hm
    obtain ⟨q, hq, e⟩ := List.mem_map.mp hm
    have ab := above q hq
    rcases List.mem_cons.mp hf with rfl | hf
    ·have : env'.locals = h.objs.size := rfl
     rw [e, this] at ab; exact Nat.lt_irrefl _ ab
    ·obtain ⟨o, es, ep, ho, _⟩ := (md.frs f hf).ns
     have := Heap.lt_size ho
     rw [← e] at this; exact absurd (Nat.lt_trans ab this) (Nat.lt_irrefl _)
  refine wpAny_mono ((hv h.objs.size).go ok _ h₁ _ (hfit _) (by rw [huf]; exact md'')) (fun fl s ⟨x, m', n', y, n'', hs, z⟩ => ?_) (fun x s hx => by obtain ⟨_, _, _, _, _, _, _, _, _, _, h⟩ := hx; exact h.elim)
  rw [x.eq]
  rw [huf] at y
  exact ⟨⟨rfl, rfl, rfl⟩, n'', (y.pop).sub hs, z⟩
theorem CallC_ {Q : Value → Loc → Led → Prop} {f cd : Addr} {qual : Str} {params : Arguments} {body : List Stmt} {scope : Scope} {dV : Value} {args : List Value} {binds m₀ b₀ : List (Str × Value)} {cs : Addr → List (Str × Addr)}
  (F : Fn0 c.K f cd qual params body scope dV) (B : ∀ name pm cd', bindArgs (fnX name qual params body scope [] dV .none .none pm none cd' .none) ⟨args, []⟩ = Pure.pure binds)
  (hnd : ((cellsFrom 0 scope.names []).map (·.1)).Nodup) (hk : (binds.all fun x => decide (scope.names.lookup x.1 = some .local) || (decide (scope.names.lookup x.1 = some .cell) && ((cellsFrom 0 scope.names []).map (·.1)).contains x.1)) = true)
  (hcs : ∀ L, cellsFrom (L + 1) scope.names [] = cs L) (hm₀ : (binds.filter fun b => decide (scope.names.lookup b.1 = some .local)).reverse = m₀) (hb₀ : (binds.filter fun b => !decide (scope.names.lookup b.1 = some .local)).reverse = b₀) (hr : 1 ≤ u.r)
  (hv : ∀ L, let e := envX qual scope L f (.ref cd) (cs L); let w := u.into e env m; let q := KRetC Q m; let x := noE; V c w e (execs body e) q x m₀ (ledC (cs L) b₀ ++ n)) :
  V c u env (call (.ref f) args) Q E m n := V.i fun ok A h tk fit md => by
 refine wpAny_mono (CallF_ (uu := fun e => u.into e env m) (Q := fun v n' => Q v m n') F B hnd hk hcs hm₀ hb₀ hv ok md (fun _ => rfl) (fun L => ?_) (Nat.lt_of_le_of_lt (Nat.le_add_right _ _) fit.depth) md.size) (fun v s' ⟨x, n', y, z⟩ => ⟨x, m, n', y, z⟩) fun _ _ x => x.elim
 refine ⟨?_, fit.handled, ?_, ?_, F.kind, fun e he => ?_⟩
 ·show A.frames.map (_ :: ·) = some (_ :: u.fl); rw [fit.frames]; rfl
 ·exact lessD hr (Nat.le_refl 1) fit.depth
 ·exact lessU hr (k := 3) (by decide) fit.units
 ·rcases List.mem_cons.mp he with rfl | he
  ·exact ⟨.head _, rfl, F.kind⟩
  ·have := fit.own e he
   exact ⟨List.mem_cons_of_mem _ (by simpa only [Cu.into, List.map_cons] using this.1), this.2⟩
theorem NameC_ {Q : Value → Loc → Led → Prop} {x : Str} {pos : Pos} {a : Addr} {v₀ : Value} (hk : env.scope.kind = .function) (hl : env.kindOf x = some .cell) (hc : env.cells.lookup x = some a) (hm : (a, AObj.cellO (some v₀)) ∈ n) (hd : (x == ("__debug__" : Str)) = false) (h : ∀ v, nv v = v₀ → Q v m n) :
  V c u env (eval (.Name x pos) env) Q E m n :=
 V.vals (fun v => nv v = v₀) (fun A hp tk ok fit md Q' E' hq => by
  obtain ⟨o, ho, v', hd', e⟩ := md.led _ hm
  obtain ⟨v, rfl, hn⟩ := Option.map_eq_some_iff.mp e
  exact wpAny_Name (wpAny_loadName_cell hk hl hc ⟨o, ho, hd'⟩ (hq v _ hn)) hd) h
theorem NameF_ {Q : Value → Loc → Led → Prop} {x : Str} {pos : Pos} {a : Addr} {v₀ : Value} (hk : env.scope.kind = .function) (hl : env.kindOf x = some .free) (hc : env.cells.lookup x = some a) (hm : (a, AObj.cellO (some v₀)) ∈ n) (hd : (x == ("__debug__" : Str)) = false) (hd2 : (x == ("__classdict__" : Str)) = false) (h : ∀ v, nv v = v₀ → Q v m n) :
  V c u env (eval (.Name x pos) env) Q E m n :=
 V.vals (fun v => nv v = v₀) (fun A hp tk ok fit md Q' E' hq => by
  obtain ⟨o, ho, v', hd', e⟩ := md.led _ hm
  obtain ⟨v, rfl, hn⟩ := Option.map_eq_some_iff.mp e
  exact wpAny_Name (wpAny_loadName_free hk hl hc ⟨o, ho, hd'⟩ (hq v _ hn) hd2) hd) h
theorem StoreC_ {x : Str} {v : Value} {a : Addr} {v₀ : Option Value} {n' : Led} {Q : Unit → Loc → Led → Prop} (hk : env.scope.kind = .function) (hl : env.kindOf x = some .cell) (hc : env.cells.lookup x = some a) (hp : Put a (.cellO v₀) (.cellO (some (nv v))) n n') (h : Q () m n') : V c u env (storeName env x v) Q E m n :=
 V.i fun ok A hh tk fit md => by
  obtain ⟨o, ho, v', hd', e⟩ := md.led _ hp.mem
  exact wpAny_storeName_cell hk hl hc ⟨o, ho, hd'⟩ fun h' ⟨o', ho', hd''⟩ hs => ⟨⟨rfl, rfl, rfl⟩, m, n', md.put (x := a) hp (fun b hb => hs.2 b hb) fp_one rfl ⟨o', ho', _, hd'', rfl⟩, h⟩
end
section
variable {c : Cx} {u : Cu} {env : Env} {E : EP} {m : Loc} {n : Led}
theorem less_of {k : Nat} {J : Nat → Loc → Led → Prop} {fs : List (Env × Loc)} (s : Shared) (q : PV c fs env (KLt k J) s) : ∃ k', k' < k ∧ PV c fs env (J k') s :=
 q.el (G := fun s => ∃ k', k' < k ∧ PV c fs env (J k') s) fun _ _ m n y ⟨j, hj, z⟩ => ⟨j, hj, ⟨rfl, rfl, rfl⟩, m, n, y, z⟩
theorem While_ {test : Expr} {body orelse : List Stmt} {pos : Pos} {Q : Flow → Loc → Led → Prop} (J : Nat → Loc → Led → Prop) (k : Nat) (j0 : J k m n)
  (turn : let j := J; ∀ k m n, j k m n → V c u env (isTrue test env (eval test env)) (KWh c u env noE body orelse (KLt k j) Q) noE m n) : V c u env (exec (.While test body orelse pos) env) Q E m n :=
 V.i fun ok A hp tk fit md => by
  refine wpAny_While (codeAny_whileLoop (fun k => PV c u.fs env (J k)) (fun k s q => ?_) k ⟨⟨rfl, rfl, rfl⟩, m, n, md, j0⟩)
  refine q.el fun _ _ m' n' y hj => ?_
  refine wpAny_mono ((turn k m' n' hj).goN ok fit y) (fun b s q => ?_) fun _ _ x => x
  cases b with
  | false => exact PV.goN q ok fit
  | true =>
   refine wpAny_mono (PV.goN q ok fit) (fun f s q => ?_) fun _ _ x => x
   cases f with
   | next => exact less_of s q
   | cont => exact less_of s q
   | brk => exact q
   | ret v => exact q
end
noncomputable def excL (e d T : Addr) (v : Value) : Led := [(e, .one fun o => o.cls = .ref 71 ∧ o.dict = some d ∧ ∃ vs, o.data = .fields vs ∧ vs[1]? = some (.ref T)), (T, .one fun o => ∃ ts, o.data = .fields ts ∧ ts[3]? = some v)]
theorem Mod.adopt {c : Cx} {fs : List (Env × Loc)} {n : Led} {h : Heap} {e d : Addr} {v : Value} (md : Mod c fs n h) (x : Ex c n h e d (some v)) : ∃ T, Mod c fs (excL e d T v ++ n) h := by
 obtain ⟨oe, vs, he, hc, hdd, hd, T, oT, ts, h1, hTf, hTb, hTe, hT, hdT, h3⟩ := x.at_
 refine ⟨T, ⟨md.keep, fun f hf => ⟨(md.frs f hf).ns, (md.frs f hf).size, ?_⟩, md.fnd, fun p hp => ?_, fun b hb => ?_, ?_⟩⟩
 ·show f.1.locals ∉ foot ((e, _) :: (T, _) :: n)
  rw [foot_cons, foot_cons]
  simp only [fp, List.mem_append, List.mem_singleton]
  rintro (q | q | q)
  ·exact md.notFields hf he hd q.symm
  ·exact md.notFields hf hT hdT q.symm
  ·exact (md.frs f hf).out q
 ·rcases List.mem_cons.mp hp with rfl | hp
  ·exact ⟨oe, he, hc, hdd, vs, hd, h1⟩
  ·rcases List.mem_cons.mp hp with rfl | hp
   ·exact ⟨oT, hT, ts, hdT, h3⟩
   ·exact md.led p hp
 ·have hb : b ∈ foot ((e, (AObj.one fun o => o.cls = .ref 71 ∧ o.dict = some d ∧ ∃ vs, o.data = .fields vs ∧ vs[1]? = some (.ref T))) :: (T, .one fun o => ∃ ts, o.data = .fields ts ∧ ts[3]? = some v) :: n) := hb
  rw [foot_cons, foot_cons] at hb
  simp only [fp, List.mem_append, List.mem_singleton] at hb
  rcases hb with rfl | rfl | hb
  ·exact x.new
  ·exact hTb
  ·exact md.new b hb
 ·show (foot ((e, (AObj.one fun o => o.cls = .ref 71 ∧ o.dict = some d ∧ ∃ vs, o.data = .fields vs ∧ vs[1]? = some (.ref T))) :: (T, .one fun o => ∃ ts, o.data = .fields ts ∧ ts[3]? = some v) :: n)).Nodup
  rw [foot_cons, foot_cons]
  simp only [fp, List.singleton_append, List.nodup_cons, List.mem_cons]
  exact ⟨by rintro (q | q); exact hTe q.symm; exact x.out q, hTf, md.nd⟩
theorem Mod.release {c : Cx} {fs : List (Env × Loc)} {n : Led} {h : Heap} {e d T : Addr} {v : Value} (md : Mod c fs (excL e d T v ++ n) h) : Mod c fs n h ∧ Ex c n h e d (some v) := by
 obtain ⟨oe, he, hc, hdd, vs, hd, h1⟩ := md.led _ (.head _)
 obtain ⟨oT, hT, ts, hdT, h3⟩ := md.led _ (.tail _ (.head _))
 have nd := md.nd
 have nw := md.new
 rw [excL, List.cons_append, List.cons_append, List.nil_append, foot_cons, foot_cons] at nd nw
 simp only [fp, List.singleton_append, List.nodup_cons, List.mem_cons] at nd nw
 refine ⟨md.sub (.cons _ (.cons _ (.refl _))), ⟨fun q => nd.1 (.inr q), nw e (.inl rfl), oe, vs, he, hc, hdd, hd, T, oT, ts, h1, nd.2.1, nw T (.inr (.inl rfl)), fun q => nd.1 (.inl q.symm), hT, hdT, h3⟩⟩
theorem Mod.cls71 {c : Cx} {fs : List (Env × Loc)} {n : Led} {h : Heap} {e d T : Addr} {v : Value} (md : Mod c fs (excL e d T v ++ n) h) : Looks (model P c.w) h (typeOf (.ref e)) (.ref 71) := by
 obtain ⟨oe, he, hc, _⟩ := md.led _ (.head _)
 rw [← hc]
 exact (Looks.ld he).andThen .now
noncomputable def Cu.held (u : Cu) (e : Addr) : Cu := { u with hd := some (.ref e) }
theorem Fits.held {u : Cu} {env : Env} {A : Around} {e : Addr} (fit : Fits u env A) : Fits (u.held e) env (A.mark (some (.ref e))) := ⟨fit.frames, rfl, fit.depth, fit.units, fit.kind, fit.own⟩
section
variable {c : Cx} {u : Cu} {env : Env} {E : EP} {m : Loc} {n : Led}
noncomputable abbrev KHd (c : Cx) (u : Cu) (env : Env) (E : EP) (hs : List ExceptHandler) (Q : Flow → Loc → Led → Prop) : EP := fun _ e d m n => ∀ T, V c u env (handleBy (.ref e) env hs) Q E m (excL e d T .none ++ n)
theorem Try_ {body orelse : List Stmt} {h₀ : ExceptHandler} {hs : List ExceptHandler} {pos : Pos} {outer : List Env} {Q : Flow → Loc → Led → Prop} (hfl : u.fl = env :: outer)
  (h : V c u env (execs body env) (after c u env orelse Q E) (KHd c u env E (h₀ :: hs) Q) m n) : V c u env (exec (.Try body (h₀ :: hs) orelse [] pos) env) Q E m n :=
 V.i fun ok A hp tk fit md => by
  refine wpAny_Try_except (wpAny_mono (h.go ok A hp tk fit md) (fun f s q => ?_) (fun x s q => ?_))
  ·cases f with
   | next => exact PV.go q ok fit
   | _ => exact q
  ·obtain ⟨sm, fl, e, d, m', n', hx, y, g, o, z⟩ := q
   subst hx
   rw [sm.eq]
   refine note_ fit hfl y g o fun h' y' g' => flight_ y' g' fun h'' y'' g'' => ?_
   obtain ⟨T, y3⟩ := y''.adopt g''
   exact (z T).go ok A _ _ fit y3
theorem Handle_ {e d T C : Addr} {t : Expr} {b₀ : Stmt} {suite : List Stmt} {pos : Pos} {rest : List ExceptHandler} {Q : Flow → Loc → Led → Prop}
  (hx : exmOne c.K (.ref 71) (.ref C) = some true)
  (ht : V c (u.held e) env (eval t env) (fun cv m' n' => cv = .ref C ∧ m' = m ∧ n' = excL e d T .none ++ n) noE m (excL e d T .none ++ n))
  (hb : ∀ T, V c (u.held e) env (execs (b₀ :: suite) env) Q noE m (excL e d T .none ++ n)) :
  V c u env (handleBy (.ref e) env (.ExceptHandler (some t) none (b₀ :: suite) pos :: rest)) Q E m (excL e d T .none ++ n) :=
 V.i fun ok A hp tk fit md => by
  refine wpAny_handleBy_cons (codeAny_handlers_test (wpAny_mono (ht.go ok _ _ _ fit.held md) (fun cv s q => ?_) fun _ _ hx => noteOk (u := u.held e) (env := env) hx)) (by intro q; cases q)
  refine q.is fun h₀ _ y => ?_
  refine (exm_one (ok.X.keeps y.keep) y.cls71 hx).here ?_
  simp only [if_true]
  obtain ⟨y1, g1⟩ := y.release
  refine codeAny_handlers_suite (flight_ y1 g1 fun h' y' g' => ?_)
  obtain ⟨T', y3⟩ := y'.adopt g'
  exact (hb T').goN ok fit.held y3
theorem goes_ {nm : Str} {pos : Pos} {A : Around} {h : Heap} {tk : Nat} {Q : Unit → Shared → Prop} {E' : Value → Shared → Prop} (hl : env.kindOf nm = some .local) (hk : env.scope.kind = .function) (md : Mod c ((env, m) :: u.fs) n h)
  (hq : ∀ m' h' tk', (∀ x, x ≠ nm → m'.lookup x = m.lookup x) → Mod c ((env, m') :: u.fs) n h' → (∀ b, b ≠ env.locals → h'.get? b = h.get? b) → Q () ⟨h', c.gens, c.drawn, tk', c.os⟩) : wpAny (model P c.w) A (do bindName env nm .none; unbindBehindTheSuite env nm pos) Q E' ⟨h, c.gens, c.drawn, tk, c.os⟩ := by
 refine wpAny_bind (wpAny_bindName (wpAny_storeName_local hl (md.frs _ (.head _)).ns (fun h₁ hn₁ hs₁ => ?_) (by rw [hk]; rfl)))
 unfold unbindBehindTheSuite
 refine wpAny_onRaise ?_
 unfold unbindName
 refine wpAny_bind (wpAny_point (wpAny_bind ?_))
 unfold deleteName
 have hp : (env.scope.kind == .class || (env.scope.kind == .module && env.locals != env.globals)) = false := by rw [hk]; rfl
 simp only [hl, hp]
 rw [if_neg (by decide)]
 refine wpAny_bind (wpAny_nsDel_keeps hn₁ fun h₂ v hn₂ hs₂ => ?_)
 simp only [if_true, Option.isSome_some, Bool.not_true, Bool.false_eq_true, if_false]
 refine wpAny_pure (wpAny_point ?_)
 have hs : ∀ b, b ≠ env.locals → h₂.get? b = h.get? b := fun b hb => (hs₂.2 b hb).trans (hs₁.2 b hb)
 have key : ∃ m' : Loc, (∀ x, (if x = nm then v else m.lookup x) = m'.lookup x) := by
  have cut : ∀ (l : Loc) x, (l.filter fun p => p.1 != nm).lookup x = if x = nm then none else l.lookup x := by
   intro l x
   induction l with
   | nil => simp
   | cons p r ih =>
    obtain ⟨y, w⟩ := p
    by_cases q : y = nm
    ·subst q
     rw [List.filter_cons_of_neg (by simp), ih]
     by_cases e : x = y
     ·simp [e]
     ·have : (x == y) = false := by simpa using e
      simp [e, List.lookup_cons, this]
    ·rw [List.filter_cons_of_pos (by simpa using q), List.lookup_cons, ih, List.lookup_cons]
     by_cases e : x = nm
     ·subst e
      have : (x == y) = false := by simpa using fun h => q (Eq.symm h)
      simp [this]
     ·simp [e]
  cases v with
  | none => exact ⟨m.filter fun p => p.1 != nm, fun x => (cut m x).symm⟩
  | some v => exact ⟨(nm, v) :: m, fun x => by
    rw [List.lookup_cons]
    by_cases e : x = nm
    ·subst e; simp
    ·have : (x == nm) = false := by simpa using e
     simp [e, this]⟩
 obtain ⟨m', hm'⟩ := key
 refine hq m' h₂ _ (fun x hx => by rw [← hm', if_neg hx]) (md.store hs ?_) hs
 have e : (fun x => if x = nm then v else if x = nm then some Value.none else m.lookup x) = fun x => m'.lookup x := by
  funext x
  rw [← hm']
  by_cases e : x = nm <;> simp [e]
 exact e ▸ hn₂
theorem HandleAs_ {e d T C : Addr} {t : Expr} {nm : Str} {b₀ : Stmt} {suite : List Stmt} {pos : Pos} {rest : List ExceptHandler} {Q : Flow → Loc → Led → Prop} (hl : env.kindOf nm = some .local)
  (hx : exmOne c.K (.ref 71) (.ref C) = some true)
  (ht : V c (u.held e) env (eval t env) (fun cv m' n' => cv = .ref C ∧ m' = m ∧ n' = excL e d T .none ++ n) noE m (excL e d T .none ++ n))
  (hb : ∀ T, V c (u.held e) env (execs (b₀ :: suite) env) (fun f m n => ∀ m', (∀ x, x ≠ nm → m'.lookup x = m.lookup x) → Q f m' n) noE ((nm, .ref e) :: m) (excL e d T .none ++ n)) :
  V c u env (handleBy (.ref e) env (.ExceptHandler (some t) (some nm) (b₀ :: suite) pos :: rest)) Q E m (excL e d T .none ++ n) :=
 V.i fun ok A hp tk fit md => by
  refine wpAny_handleBy_cons (codeAny_handlers_test (wpAny_mono (ht.go ok _ _ _ fit.held md) (fun cv s q => ?_) fun _ _ hx => noteOk (u := u.held e) (env := env) hx)) (by intro q; cases q)
  refine q.is fun h₀ _ y => ?_
  refine (exm_one (ok.X.keeps y.keep) y.cls71 hx).here ?_
  simp only [if_true]
  obtain ⟨y1, g1⟩ := y.release
  refine codeAny_handlers_suite_as (flight_ y1 g1 fun h' y' g' => ?_)
  obtain ⟨T', y3⟩ := y'.adopt g'
  refine wpAny_mono ((Store_ (E := noE) (Q := fun _ m'' n'' => m'' = (nm, .ref e) :: m ∧ n'' = excL e d T' .none ++ n) hl ⟨rfl, rfl⟩ : V c (u.held e) env (storeName env nm (.ref e)) _ _ m (excL e d T' .none ++ n)).go ok _ _ _ fit.held y3) (fun _ s q => ?_) fun _ _ hx => noteOk (u := u.held e) (env := env) hx
  refine q.el fun _ _ m' n' y ⟨hm, hn⟩ => ?_
  subst hm hn
  refine wpAny_mono ((hb T').goN ok fit.held y) (fun f s q => ?_) fun _ _ x => x
  refine q.el fun _ _ m' n' y z => ?_
  exact goes_ (u := u) hl fit.kind y fun m'' h'' tk'' hm hmd _ => ⟨⟨rfl, rfl, rfl⟩, m'', n', hmd, z m'' hm⟩
theorem Ex.same {h h' : Heap} {e d : Addr} {k : Option Value} {fs : List (Env × Loc)} {f : Env × Loc} (x : Ex c n h e d k) (md : Mod c fs n h) (hf : f ∈ fs) (hs : ∀ b, b ≠ f.1.locals → h'.get? b = h.get? b) : Ex c n h' e d k := by
 obtain ⟨oe, vs, he, hc, hdd, hd, hst⟩ := x.at_
 refine ⟨x.out, x.new, oe, vs, (hs e (md.notFields hf he hd)).trans he, hc, hdd, hd, ?_⟩
 cases k with
 | none => exact hst
 | some v =>
  obtain ⟨T, oT, ts, h1, hTf, hTb, hTe, hT, hdT, h3⟩ := hst
  exact ⟨T, oT, ts, h1, hTf, hTb, hTe, (hs T (md.notFields hf hT hdT)).trans hT, hdT, h3⟩
theorem passOn_ {α : Type} {what : String} {e d : Addr} {v : Value} {A : Around} {h : Heap} {tk : Nat} {Q : α → Shared → Prop} {E' : Value → Shared → Prop} (hf : env.frame = some env.locals) (md : Mod c ((env, m) :: u.fs) n h) (x : Ex c n h e d (some v))
  (hq : ∀ h', Mod c ((env, m) :: u.fs) n h' → Ex c n h' e d (some (rawInt env.locals)) → E' (.ref e) ⟨h', c.gens, c.drawn, tk, c.os⟩) : wpAny (model P c.w) A (passOn what (.ref e) env : Sem α) Q E' ⟨h, c.gens, c.drawn, tk, c.os⟩ := by
 obtain ⟨oe, vs, he, hc, hdd, hd, T, oT, ts, h1, r⟩ := x.at_
 unfold PySem.passOn
 refine wpAny_bind (wpAny_field he hd h1 ?_)
 rw [if_neg (show ¬ ((Value.ref T == Value.none) = true) from by simp)]
 refine wpAny_bind ?_
 rw [hf]
 exact flight_ md x fun h' y g => wpAny_throw (hq h' y g)
theorem cameBack_ {e d : Addr} {v : Value} {A : Around} {h : Heap} {tk : Nat} {E' : Value → Shared → Prop} (hf : env.frame = some env.locals) (md : Mod c ((env, m) :: u.fs) n h) (x : Ex c n h e d (some v))
  (hq : ∀ h', Mod c ((env, m) :: u.fs) n h' → Ex c n h' e d (some (rawInt env.locals)) → E' (.ref e) ⟨h', c.gens, c.drawn, tk, c.os⟩) : cameBackBy (model P c.w) A env E' (.ref e) ⟨h, c.gens, c.drawn, tk, c.os⟩ := by
 obtain ⟨oe, vs, he, hc, hdd, hd, T, oT, ts, h1, r⟩ := x.at_
 unfold cameBackBy
 refine wpAny_bind (wpAny_field he hd h1 ?_)
 rw [if_neg (show ¬ ((Value.ref T == Value.none) = true) from by simp)]
 rw [hf]
 exact flight_ md x fun h' y g => hq h' y g
theorem HandleRe_ {e d T C : Addr} {t : Expr} {nm : Str} {b₀ : Stmt} {suite : List Stmt} {pos : Pos} {rest : List ExceptHandler} {outer : List Env} {Q : Flow → Loc → Led → Prop} (hfl : u.fl = env :: outer) (hl : env.kindOf nm = some .local)
  (hx : exmOne c.K (.ref 71) (.ref C) = some true)
  (ht : V c (u.held e) env (eval t env) (fun cv m' n' => cv = .ref C ∧ m' = m ∧ n' = excL e d T .none ++ n) noE m (excL e d T .none ++ n))
  (hb : ∀ T, V c (u.held e) env (execs (b₀ :: suite) env) (fun _ _ _ => False) (fun fl e' d' m n => e' = e ∧ d' = d ∧ ∀ fl m', (∀ x, x ≠ nm → m'.lookup x = m.lookup x) → E fl e d m' n) ((nm, .ref e) :: m) (excL e d T .none ++ n)) :
  V c u env (handleBy (.ref e) env (.ExceptHandler (some t) (some nm) (b₀ :: suite) pos :: rest)) Q E m (excL e d T .none ++ n) :=
 V.i fun ok A hp tk fit md => by
  have hf : env.frame = some env.locals := (fit.own env (hfl ▸ List.mem_cons_self)).2.1
  refine wpAny_handleBy_cons (codeAny_handlers_test (wpAny_mono (ht.go ok _ _ _ fit.held md) (fun cv s q => ?_) fun _ _ hx => noteOk (u := u.held e) (env := env) hx)) (by intro q; cases q)
  refine q.is fun h₀ _ y => ?_
  refine (exm_one (ok.X.keeps y.keep) y.cls71 hx).here ?_
  simp only [if_true]
  obtain ⟨y1, g1⟩ := y.release
  refine codeAny_handlers_suite_as (flight_ y1 g1 fun h' y' g' => ?_)
  obtain ⟨T', y3⟩ := y'.adopt g'
  refine wpAny_mono ((Store_ (E := noE) (Q := fun _ m'' n'' => m'' = (nm, .ref e) :: m ∧ n'' = excL e d T' .none ++ n) hl ⟨rfl, rfl⟩ : V c (u.held e) env (storeName env nm (.ref e)) _ _ m (excL e d T' .none ++ n)).go ok _ _ _ fit.held y3) (fun _ s q => ?_) fun _ _ hx => noteOk (u := u.held e) (env := env) hx
  refine q.el fun _ _ m' n' y ⟨hm, hn⟩ => ?_
  subst hm hn
  refine wpAny_mono ((hb T').go ok _ _ _ fit.held y) (fun f s q => q.el fun _ _ _ _ _ z => z.elim) (fun x s hx => ?_)
  obtain ⟨sm, fl, e', d', m9, n9, rfl, y9, g9, o9, z9⟩ := hx
  obtain ⟨rfl, rfl, z⟩ := z9
  rw [sm.eq]
  refine note_ (fit.held (e := e')) hfl y9 g9 o9 fun h₁ y₁ g₁ => ?_
  refine goes_ (u := u) hl fit.kind y₁ fun m₂ h₂ tk₂ hm₂ y₂ same => ?_
  have g₂ := g₁.same y₁ (f := (env, m9)) (.head _) same
  refine passOn_ hf y₂ g₂ fun h₃ y₃ g₃ => ?_
  show notedBy _ _ _ _ _ _
  unfold notedBy
  refine note_ (fit.held (e := e')) hfl y₃ g₃ (.inr (.inr rfl)) fun h₄ y₄ g₄ => ?_
  exact cameBack_ hf y₄ g₄ fun h₅ y₅ g₅ => ⟨⟨rfl, rfl, rfl⟩, _, e', d', m₂, n9, rfl, y₅, g₅, .inr (.inr rfl), z _ m₂ hm₂⟩
structure ExcK (K : Frag) : Prop where
 base : subIn K (.ref 71) (.type "BaseException") = some true
 typ : typeIn K (.ref 71) = some (.type "type")
inductive RaiseAt (c : Cx) (A : Around) (E' : Value → Shared → Prop) (v : Value) (s : Shared) : Prop
 | mk (sm : Same c s) (e d : Addr) (k : Option Value) (n : Led) (fs : List (Env × Loc)) (hv : v = .ref e) (hh : A.handled = none ∨ A.handled = some (.ref e)) (md : Mod c fs n s.heap) (g : Ex c n s.heap e d k)
  (hq : ∀ h', Mod c fs n h' → Ex c n h' e d (k.map fun _ => .none) → E' (.ref e) ⟨h', c.gens, c.drawn, s.toks, c.os⟩)
theorem raise_core {A : Around} {s₀ : Shared} {x : Sem Value} {Q : Flow → Shared → Prop} {E' : Value → Shared → Prop} (ok : c.Ok) (hK : ExcK c.K)
  (hx : wpAny (model P c.w) A x (RaiseAt c A E') E' s₀) : wpAny (model P c.w) A (raiseStmt env (some x) none) Q E' s₀ := by
 unfold raiseStmt
 refine wpAny_bind (wpAny_mono hx (fun v s r => ?_) fun _ _ x => x)
 obtain ⟨sm, e, d, k, n, fs, hv, hh, md, g, hq⟩ := r
 subst hv
 rw [sm.eq]
 obtain ⟨h, gg, dd, tk, os⟩ := s
 obtain ⟨e1, e2, e3⟩ := sm
 dsimp only at e1 e2 e3 md g hq ⊢
 have X : c.K.In h := ok.X.keeps md.keep
 obtain ⟨oe, vs, he, hc, hdd, hd, hst⟩ := id g.at_
 have LT : Looks (model P c.w) h (typeOf (.ref e)) (.ref 71) := by
  rw [← hc]
  exact (Looks.ld he).andThen .now
 have LS : Looks (model P c.w) h (isSubtype (.ref 71) (.type "BaseException")) true := looks_subIn X hK.base
 have LY : Looks (model P c.w) h (typeOf (.ref 71)) (.type "type") := looks_typeIn X hK.typ
 have LI : Looks (model P c.w) h (PySem.isType (.ref e)) false := by
  intro A' Q E s k q
  refine wpAny_bind (wpAny_loadPart (k _ _ he) ?_)
  rw [hd]
  exact wpAny_pure q
 have last : ∀ h', A.handled = none ∨ A.handled = some (.ref e) → E' (.ref e) ⟨h', c.gens, c.drawn, tk, c.os⟩ → wpAny (model P c.w) A (raiseNew (.ref e) : Sem Flow) Q E' ⟨h', c.gens, c.drawn, tk, c.os⟩ := by
  rintro h' (hh | hh) q
  ·exact wpAny_raiseNew_none hh q
  ·unfold raiseNew
   refine wpAny_bind (wpAny_handled ?_)
   rw [hh]
   simp only [bne_self_eq_false, Bool.false_eq_true, if_false]
   exact wpAny_bind (wpAny_pure (wpAny_throw q))
 refine wpAny_bind (wpAny_pure ?_)
 refine wpAny_bind (wpAny_holding ?_)
 ·unfold excFromValue isExcClass
  refine wpAny_bind (wpAny_bind (LI.here ?_))
  simp only [Bool.false_eq_true, if_false]
  refine wpAny_pure ?_
  simp only [Bool.false_eq_true, if_false]
  unfold isInstance
  refine wpAny_bind (wpAny_bind (LT.here (LS.here ?_)))
  simp only [if_true]
  refine wpAny_pure ?_
  refine wpAny_bind (LI.here ?_)
  simp only [Bool.false_eq_true, if_false]
  refine wpAny_bind ?_
  unfold raisedInstance
  refine wpAny_bind (LT.here (wpAny_bind (LY.here ?_)))
  rw [if_pos (by decide)]
  refine wpAny_pure ?_
  refine wpAny_bind ?_
  cases k with
  | none =>
   unfold setFlight
   refine wpAny_bind (wpAny_field he hd hst ?_)
   rw [if_neg (show ¬ ((Value.none != Value.none) = true) from by simp)]
   exact wpAny_pure (last h hh (hq h md g))
  | some v => exact flight_ md g fun h' y g' => last h' hh (hq h' y g')
theorem RaiseHeld_ {e d T : Addr} {x : Str} {p pos : Pos} {v : Value} {Q : Flow → Loc → Led → Prop} (hu : u.hd = some (.ref e)) (hl : env.kindOf x = some .local) (hv : m.lookup x = some (.ref e)) (hd : (x == ("__debug__" : Str)) = false)
  (hK : ExcK c.K) (h : E (some .none) e d m n) : V c u env (exec (.Raise (some (.Name x p)) none pos) env) Q E m (excL e d T v ++ n) :=
 V.i fun ok A hp tk fit md => by
  obtain ⟨y, g⟩ := md.release
  rw [arm_exec_Raise]
  refine wpAny_bind (wpAny_standAt ?_)
  show wpAny _ _ (raiseStmt env (some (eval (.Name x p) env >>= fun v => standAt pos >>= fun _ => Pure.pure v)) none) _ _ _
  refine raise_core ok hK ?_
  exact wpAny_bind (wpAny_Name (wpAny_loadName_local fit.kind hl (md.frs (env, m) (.head _)).ns hv (wpAny_bind (wpAny_standAt (wpAny_pure
   ⟨⟨rfl, rfl, rfl⟩, e, d, _, n, _, rfl, .inr (fit.handled.trans hu), y, g, fun h' y' g' => ⟨⟨rfl, rfl, rfl⟩, _, e, d, m, n, rfl, y', g', .inr (.inl rfl), h⟩⟩)))) hd)
end
noncomputable def AObj.exc0 (d : Option Addr) : AObj := .one fun o => o.cls = .ref 71 ∧ o.dict = d ∧ ∃ t, o.data = .fields #[.ref t, .none, .none, .none, .bool false, .none]
theorem refuse_exc (self : Value) : refuseLoop self "__setattr__" [.ref 71, .ref 46, .type "Exception", .type "BaseException", .type "object"] = pure () := by
 rw [refuseLoop_ref, refuseLoop_ref]
 kernel_rfl
theorem storeD_ {w : World} {A : Around} {h : Heap} {g : Array GenState} {dr : Drawn} {tk : Nat} {os : OsState} {d : Addr} {od : Obj} {as : List (Str × Value)} {name : Str} {tk' : Tok} {v : Value} {Q : PySem.Fin → Shared → Prop} {E' : Value → Shared → Prop} (h2 : h.get? d = some od) (hn : NsD as od) (hz : as.length ≤ 1000)
  (hq : ∀ h' od' k, (∀ b, b ≠ d → h'.get? b = h.get? b) → h'.get? d = some od' → NsD (setL name (nv v) as) od' → Q (.done (.ret .none)) ⟨h', g, dr, k, os⟩) : wpAny (model P w) A (Builtin.ObjectAttr.storeInDict d (.str name tk') name v) Q E' ⟨h, g, dr, tk, os⟩ := by
 obtain ⟨es, k, h3, h4, h5, h6⟩ := hn
 unfold Builtin.ObjectAttr.storeInDict
 refine wpAny_bind (wpAny_pure (wpAny_bind ?_))
 unfold nsSet
 refine wpAny_bind (wpAny_bind (wpAny_askSetting (wpAny_pure (wpAny_bind (wpAny_mkText (wpAny_bind (wpAny_loadPart h2 ?_)))))))
 rw [h3]
 dsimp only
 have cc : aRefKeyMayBeTheName name es = false := by
  rw [aRefKeyMayBeTheName_at]
  have : es.any (·.refKey) = false := by
   rw [Array.any_eq_false']; intro e he; obtain ⟨n, t, h⟩ := h4 e he; simp [DictEntry.refKey, h]
  rw [this, Bool.and_false]
 rw [cc]
 obtain ⟨es', k', f1, f2, f3, f4⟩ := putName_facts (name := name) (hash := PyData.keyHash w.params name) (t := tk) (v := v) h3 h4
 refine wpAny_updatePart h2 ?_
 have D' := Heap.get?_update_self (Obj.putName name (PyData.keyHash w.params name) (.str name tk) v) h2 (Obj.isFreed_of_dict f1)
 have h7 := h6 name
 have hsz : es'.size ≤ (setL name (nv v) as).length := by
  rw [length_setL, f4, ← h7, Option.isSome_map]
  omega
 refine wpAny_bind (wpAny_lookBehind D' (by rw [f1]; refine pastItsLine_dict ?_; rw [sizeLine_eq]; have := length_setL name (nv v) as; split at this <;> omega) ?_)
 refine wpAny_pure (hq _ _ _ (fun b hb => Heap.get?_update_other _ _ (Ne.symm hb)) D' ⟨es', k', f1, f2, hsz, fun x => ?_⟩)
 rw [f3, lookup_setL]
 split
 ·rfl
 ·exact h6 x
section
variable {c : Cx} {u : Cu} {env : Env} {E : EP} {m : Loc} {n n' : Led}
structure ExcS (K : Frag) (name : Str) : Prop where
 sa : findIn K (.ref 71) "__setattr__" = some (some (.builtin "object.__setattr__"))
 mro : (clsIn K 71).map (·.mro) = some [.ref 71, .ref 46, .type "Exception", .type "BaseException", .type "object"]
 none_ : findIn K (.ref 71) name = some none
 dict : (clsIn K 71).any (·.hasDict) = true
theorem osa_exc {ox : Obj} {od : Option Obj} {name : Str} {tk : Tok} {v : Value} {x : Addr} {A : Around} {s : Shared} {R : Result → Shared → Prop} (X : c.K.In s.heap) (I : PySem.W.InstAt s.heap x ox 71 od) (st : ExcS c.K name)
  (h : ∀ b, wpAny (model P c.w) A.in1 (Builtin.ObjectAttr.storeInOwnDict (.ref x) (.ref 71) (.str name tk) name v b)
   (fun fin s' => match fin with | .done f => R (.ok f) s' | .again c' => c'.quiet = true ∧ codeAny (model P c.w) A c' R s') (fun e s' => R (.error e) s') s) :
  codeAny (model P c.w) A (.call (.builtin "object.__setattr__") ⟨[.ref x, .str name tk, v], []⟩) R s := by
 have SF := PySem.F.store_object
 obtain ⟨cd, hc, ho⟩ := Option.map_eq_some_iff.mp st.mro
 have hm : Looks (model P c.w) s.heap (mroOf (.ref 71)) cd.mro := (looks_clsIn X hc).andThen .now
 have sub : Looks (model P c.w) s.heap (isInstance (.ref x) (.type "object")) true := I.type.andThen (looks_mroIn X (by unfold mroIn; rw [hc, Option.bind_some, ho]; rfl))
 refine codeAny_call_builtin SF.slot.plain SF.entry (@check_slot (model P c.w) _ _ s "object.__setattr__" "object" "__setattr__" (.ref x) [.str name tk, v] [] _ SF.kind SF.split sub (SF.args (.ref x) (.str name tk) v) ?_)
 rw [osa_eq, refuse_eq]
 refine wpAny_bind (wpAny_bind (I.type.here (wpAny_bind (hm.here ?_))))
 rw [ho, refuse_exc]
 refine wpAny_pure (wpAny_bind (I.type.here (wpAny_bind ((looks_findIn X st.none_).here (wpAny_bind (wpAny_pure ?_))))))
 exact h _
theorem setE0_ {e : Addr} {name : Str} {v : Value} {Q : Unit → Loc → Led → Prop} (st : ExcS c.K name) (h : ∀ d, Q () m ((e, .exc0 (some d)) :: (d, .edict [(name, nv v)]) :: n)) : V c u env (setAttr (.ref e) name v) Q E m ((e, .exc0 none) :: n) :=
 V.i fun ok A hp tk fit md => by
  have X := ok.X.keeps md.keep
  obtain ⟨o, ho, hc, hd, t, hdat⟩ := md.led _ (.head _)
  have I : PySem.W.InstAt hp e o 71 none := ⟨ho, hc, by unfold notCls; rw [hdat], by rw [hd]; trivial⟩
  refine set_plain X I st.sa ?_
  refine osa_exc (s := ⟨hp, c.gens, c.drawn, tk + 1, c.os⟩) X I st fun b => ?_
  obtain ⟨cd, hcd, hdict⟩ := any_some st.dict
  refine wpAny_bind (wpAny_pure (wpAny_bind (wpAny_bind (wpAny_loadPart I.at_ ?_))))
  rw [hc]
  refine wpAny_bind ((looks_clsIn X hcd).here ?_)
  rw [hdict, hd]
  simp only [Bool.not_true, Bool.false_eq_true, if_false]
  rw [if_neg (show ¬ ((false || !typeHasDict (Value.ref 71)) = true) from by decide), hdat]
  dsimp only
  have hne : e ≠ hp.objs.size := Nat.ne_of_lt (Heap.lt_size ho)
  refine wpAny_bind (wpAny_alloc (wpAny_bind (wpAny_update (Heap.get?_push_of_some _ ho) (wpAny_pure ?_))))
  have g0 : ((hp.push emptyDict).update e fun o => { cls := o.cls, dict := some hp.objs.size, data := o.data, slots := o.slots }).get? hp.objs.size = some emptyDict := by
   rw [Heap.get?_update_other _ _ hne]
   exact Heap.get?_push_size hp (o := emptyDict) rfl
  have g1 := Heap.get?_update_self (fun o => ({ cls := o.cls, dict := some hp.objs.size, data := o.data, slots := o.slots } : Obj)) (Heap.get?_push_of_some emptyDict ho) (Obj.isFreed_of_fields (show ({ cls := o.cls, dict := some hp.objs.size, data := o.data, slots := o.slots } : Obj).data = .fields _ from hdat))
  have md1 : Mod c ((env, m) :: u.fs) ((e, .exc0 none) :: (hp.objs.size, .edict []) :: n) (hp.push emptyDict) := by
   have := md.pushed (o := emptyDict) (pr := NsD []) rfl ⟨#[], 0, rfl, fun e he => by simp at he, Nat.le_refl _, fun x => rfl⟩
   exact this.perm (.swap _ _ _)
  have md2 : Mod c ((env, m) :: u.fs) ((e, .exc0 (some hp.objs.size)) :: (hp.objs.size, .edict []) :: n) ((hp.push emptyDict).update e fun o => { cls := o.cls, dict := some hp.objs.size, data := o.data, slots := o.slots }) :=
   md1.put (x := e) (o := .exc0 none) (o' := .exc0 (some hp.objs.size)) .here (fun b hb => Heap.get?_update_other _ _ (Ne.symm hb)) fp_one rfl ⟨_, g1, hc, rfl, t, hdat⟩
  refine storeD_ (as := []) g0 ⟨#[], 0, rfl, fun e he => by simp at he, Nat.le_refl _, fun x => rfl⟩ (by decide) fun h' od' k s1 s2 s3 => ?_
  exact ⟨⟨rfl, rfl, rfl⟩, m, _, md2.put (x := hp.objs.size) (o := .edict []) (o' := .edict [(name, nv v)]) (.there .here) s1 fp_one rfl ⟨od', s2, s3⟩, h _⟩
theorem setE1_ {e d : Addr} {as : List (Str × Value)} {name : Str} {v : Value} {Q : Unit → Loc → Led → Prop} (st : ExcS c.K name) (hz : as.length ≤ 1000) (h : Q () m ((e, .exc0 (some d)) :: (d, .edict (setL name (nv v) as)) :: n)) : V c u env (setAttr (.ref e) name v) Q E m ((e, .exc0 (some d)) :: (d, .edict as) :: n) :=
 V.i fun ok A hp tk fit md => by
  have X := ok.X.keeps md.keep
  obtain ⟨o, ho, hc, hd, t, hdat⟩ := md.led _ (.head _)
  obtain ⟨od, hod, hns⟩ := md.led _ (.tail _ (.head _))
  have I : PySem.W.InstAt hp e o 71 (some od) := ⟨ho, hc, by unfold notCls; rw [hdat], by rw [hd]; exact hod⟩
  refine set_plain X I st.sa ?_
  refine osa_exc (s := ⟨hp, c.gens, c.drawn, tk + 1, c.os⟩) X I st fun b => ?_
  obtain ⟨cd, hcd, hdict⟩ := any_some st.dict
  refine wpAny_bind (wpAny_pure (wpAny_bind (wpAny_bind (wpAny_loadPart I.at_ ?_))))
  rw [hc]
  refine wpAny_bind ((looks_clsIn X hcd).here ?_)
  rw [hdict, hd]
  refine wpAny_pure (a := some d) ?_
  refine storeD_ hod hns hz fun h' od' k s1 s2 s3 => ?_
  exact ⟨⟨rfl, rfl, rfl⟩, m, _, md.put (x := d) (o := .edict as) (o' := .edict (setL name (nv v) as)) (.there .here) s1 fp_one rfl ⟨od', s2, s3⟩, h⟩
noncomputable def bm71 : List Value := [.ref 46, .type "Exception", .type "BaseException", .type "object"]
structure ExcO (K : Frag) : Prop where
 obj : ∃ nm q N bs hdct sn sub ab col dd k0 k1 k2 k3 k5, K.lookup 71 = some (excClassObj nm q 71 N bs bm71 hdct sn sub ab col dd k0 k1 k2 k3 k5 "Exception.__new__")
theorem has_exc : (Value.ref 71 :: bm71).contains (.type "Exception") = true := by decide
theorem has_attr : (Value.ref 71 :: bm71).contains (.type "AttributeError") = false := by decide
theorem has_name : (Value.ref 71 :: bm71).contains (.type "NameError") = false := by decide
theorem has_self : (Value.ref 71 :: bm71).contains (.ref 71) = true := by decide
theorem excInit_ {e : Addr} {k : Option Addr} {x : Value} {Q : Value → Loc → Led → Prop} (hO : ExcO c.K) (h : Q .none m ((e, .exc0 k) :: n)) : V c u env (call (.builtin "Exception.__init__") [.ref e, x]) Q E m ((e, .exc0 k) :: n) :=
 V.i fun ok A hp tk fit md => by
  have X := ok.X.keeps md.keep
  obtain ⟨o, ho, hcls, hd, t, hdat⟩ := md.led _ (.head _)
  have F := PySem.F.excBase_Exception
  obtain ⟨nm, q, N, bs, hdct, sn, sub, ab, col, dd, k0, k1, k2, k3, k5, hL⟩ := hO.obj
  have hC := X _ _ hL
  have hshort := F.noStar
  have hcB := has_exc
  refine wpAny_call (codeAny_call_builtin F.init.plain F.initEntry ?_)
  simp only [checkBuiltinCall, F.initKind, F.initSplit, F.initRow]
  repeat (first | (with_reducible refine wpAny_loadPart_at ho ?_; rw [hcls]) | with_reducible refine wpAny_loadPart_at hC ?_ | (with_reducible refine wpAny_isSubtype_exc hC ?_; rw [hcB]) | wp_step)
  rw [hdat]
  have hne : e ≠ hp.objs.size := Nat.ne_of_lt (Heap.lt_size ho)
  have ho1 := Heap.get?_push_of_some ({ cls := Value.type "tuple", data := Data.seq #[x] } : Obj) ho
  refine wpAny_pure (wpAny_pure (wpAny_bind (wpAny_setField ho1 hdat (by simp) (wpAny_letGo (wpAny_pure ?_)))))
  have md1 := md.ext (h' := hp.push ({ cls := Value.type "tuple", data := Data.seq #[x] } : Obj)) fun b o e => Heap.get?_push_of_some _ e
  have g1 := Heap.get?_update_self (Obj.mapFields (·.setIfInBounds 0 (Value.ref hp.objs.size))) ho1 (Obj.isFreed_of_fields (Obj.data_mapFields hdat _))
  refine ⟨⟨rfl, rfl, rfl⟩, m, (e, .exc0 k) :: n, md1.put (x := e) (o := .exc0 k) (o' := .exc0 k) .here (fun b hb => Heap.get?_update_other _ _ (Ne.symm hb)) fp_one rfl ⟨_, g1, (Obj.cls_mapFields _ _).trans hcls, ?_, hp.objs.size, ?_⟩, h⟩
  ·obtain ⟨a1, a2, a3, a4⟩ := o
   dsimp only at hdat; subst hdat; exact hd
  ·rw [Obj.data_mapFields hdat]; rfl
theorem MakeExc_ {f cd : Addr} {qual : Str} {params : Arguments} {body : List Stmt} {scope : Scope} {dV : Value} {x : Value} {binds m₀ : Value → List (Str × Value)} {Q : Value → Loc → Led → Prop} (hO : ExcO c.K)
  (hi : findIn c.K (.ref 71) "__init__" = some (some (.ref f))) (ht : typeIn c.K (.ref f) = some (.type "function"))
  (F : Fn c.K f cd qual params body scope dV) (B : ∀ e, Binds c.K qual params dV ⟨[e, x], []⟩ (binds e)) (hloc : ∀ e, ((binds e).all fun y => decide (scope.names.lookup y.1 = some .local)) = true) (hm₀ : ∀ e, (binds e).reverse = m₀ e) (hr : 2 ≤ u.r)
  (hv : ∀ e L, let e' := envX qual scope L f (.ref cd) []; let w := u.less.into e' env m; let q := KRet0 Q (.ref e) m; let x := ECall E m; V c w e' (execs body e') q x (m₀ (.ref e)) ((e, .exc0 none) :: n)) :
  V c u env (call (.ref 71) [x]) Q E m n := V.i fun ok A h tk fit md => by
 have X := ok.X.keeps md.keep
 have FB := PySem.F.excBase_Exception
 obtain ⟨nm, q, N, bs, hdct, sn, sub, ab, col, dd, k0, k1, k2, k3, k5, hL⟩ := hO.obj
 have hC := X _ _ hL
 have f1 := tc_lookup
 have f2 := tc_bind (.ref 71)
 have hT : (⟨h, c.gens, c.drawn, tk, c.os⟩ : Shared).TypeIs (.ref 71) "type" := ⟨_, hC, rfl⟩
 have hcB := has_exc
 have hcA := has_attr
 have hcN := has_name
 have hcC := has_self
 have hstar := FB.noStar
 refine wpAny_call (codeAny_of_tree ?_)
 show wpAny _ _ (callAny (.ref 71) _) _ _ _
 repeat (any_goals (first | assumption | with_reducible refine wpAny_loadPart_at hC ?_ | wp_step))
 refine ⟨rfl, ?_⟩
 refine codeAny_call_builtin_at (Code.quiet_builtin _ (by kp_kind "dq")) entry_typeCall (wpAny_check_type_call_sub hC ?_)
 repeat (first | with_reducible refine wpAny_loadPart_at hC ?_ | with_reducible refine wpAny_madeBy_exc hC ?_ | wp_step)
 refine codeAny_call_builtin_code (Code.quiet_builtin _ FB.quiet) ?_
 simp only [checkBuiltinCall, FB.newKind, FB.newSplit, FB.newRow]
 repeat (first | refine wpAny_loadPart_at hC ?_ | (refine wpAny_isSubtype_exc hC ?_; rw [hcB]) | refine wpAny_staticBase_exc hC ?_ | refine wpAny_madeBy_exc hC ?_ | simp only [bne_self_eq_false, Bool.false_eq_true, if_false] | wp_step)
 have hends := FB.ends
 refine codeAny_builtinAt FB.entry ?_
 unfold Builtin.«BaseException.__new__»
 refine PySem.wpAt_bind ?_
 show PySem.wpAt _ _ _ (stack >>= _) _ _ _
 refine PySem.wpAt_bind (PySem.wpAt_stack fun p below => PySem.wpAt_of_wpAny ?_)
 wp_walk
 refine PySem.wpAt_of_wpAny ?_
 rw [FB.owner]
 repeat (first | with_reducible refine wpAny_madeHere_exc FB.canon hC ?_ | with_reducible refine wpAny_loadPart_at hC ?_ | (with_reducible refine wpAny_isSubtype_exc hC ?_; first | rw [hcB] | rw [hcA] | rw [hcN]) | wp_step)
 show wpAny _ _ _ _ _ _
 have N1 : ∀ b o, h.get? b = some o → ((h.push { cls := .type "tuple", data := .seq #[x] }).push { cls := .ref 71, data := .fields #[.ref h.objs.size, .none, .none, .none, .bool false, .none] }).get? b = some o := fun b o e => Heap.get?_push_of_some _ (Heap.get?_push_of_some _ e)
 have hget : ((h.push { cls := .type "tuple", data := .seq #[x] }).push { cls := .ref 71, data := .fields #[.ref h.objs.size, .none, .none, .none, .bool false, .none] }).get? (h.objs.size + 1) = some
   { cls := .ref 71, data := .fields #[.ref h.objs.size, .none, .none, .none, .bool false, .none] } := by heap_get
 have hC₁ := N1 _ _ hC
 have X₁ : c.K.In ((h.push { cls := .type "tuple", data := .seq #[x] }).push { cls := .ref 71, data := .fields #[.ref h.objs.size, .none, .none, .none, .bool false, .none] }) := X.keeps N1
 have md' : Mod c ((env, m) :: u.fs) ((h.objs.size + 1, .exc0 none) :: n) ((h.push { cls := .type "tuple", data := .seq #[x] }).push { cls := .ref 71, data := .fields #[.ref h.objs.size, .none, .none, .none, .bool false, .none] }) := by
  have m1 := md.ext (h' := h.push { cls := .type "tuple", data := .seq #[x] }) fun b o e => Heap.get?_push_of_some _ e
  have m2 := m1.pushed (o := { cls := .ref 71, data := .fields #[.ref h.objs.size, .none, .none, .none, .bool false, .none] }) (pr := fun o => o.cls = .ref 71 ∧ o.dict = none ∧ ∃ t, o.data = .fields #[.ref t, .none, .none, .none, .bool false, .none]) rfl ⟨rfl, rfl, _, rfl⟩
  rw [Heap.size_push] at m2
  exact m2
 have fit' : Fits u.less env (A.under (.builtin "type.__call__" ⟨[.ref 71, x], []⟩)) := fit.under (Nat.le_of_eq (by kernel_rfl)) (Nat.le_trans (Nat.le_of_eq (by kernel_rfl : _ = 1)) (by decide)) (by kernel_rfl) (by omega)
 change wpAny _ _ (isSubtype (.ref 71) (.ref 71)) _ _ ⟨(h.push { cls := .type "tuple", data := .seq #[x] }).push { cls := .ref 71, data := .fields #[.ref h.objs.size, .none, .none, .none, .bool false, .none] }, c.gens, c.drawn, tk, c.os⟩
 rw [Heap.size_push]
 repeat (first | with_reducible refine wpAny_loadPart_at hget ?_ | (with_reducible refine wpAny_isSubtype_exc hC₁ ?_; rw [hcC]) | wp_step)
 show wpAny _ _ (typeLookup (.ref 71) _) _ _ _
 refine (looks_findIn X₁ hi).here ?_
 refine wpAny_holding (wpAny_bind ((bind_fn X₁ _ ht).here ?_))
 refine wpAny_bind (wpAny_call (codeCall (u := u.less) F (B _) (hloc _) (hm₀ _) (by show 1 ≤ u.r - 1; omega) ok fit' md' (Q := fun v m' n' => v = .none ∧ Q (.ref (h.objs.size + 1)) m' n') (E := E) (hv _) ?_ ?_))
 ·intro v h' tk' n' y z
  obtain ⟨rfl, z⟩ := z
  wp_walk
  exact ⟨⟨rfl, rfl, rfl⟩, m, n', y, z⟩
 ·intro e d h' tk' n' y g z
  exact ⟨⟨rfl, rfl, rfl⟩, _, e, d, m, n', rfl, y, g, .inr (.inl rfl), z⟩
end
section
variable {c : Cx} {u : Cu} {env : Env} {E : EP} {m : Loc} {n n' : Led}
theorem Ex.of_exc0 {fs : List (Env × Loc)} {h : Heap} {e d : Addr} (md : Mod c fs ((e, .exc0 (some d)) :: n) h) : Mod c fs n h ∧ Ex c n h e d none := by
 obtain ⟨o, ho, hc, hd, t, hdat⟩ := md.led _ (.head _)
 have nd := md.nd
 have nw := md.new
 rw [foot_cons] at nd nw
 refine ⟨md.sub (.cons _ (.refl _)), ⟨fun q => (List.nodup_append.mp nd).2.2 e fp_one e q rfl, nw e (List.mem_append_left _ fp_one), o, _, ho, hc, hd, hdat, rfl⟩⟩
theorem RaiseNew_ {x : Expr} {pos : Pos} {Q : Flow → Loc → Led → Prop} (hu : u.hd = none) (hK : ExcK c.K)
  (h : V c u env (eval x env) (fun v m n => ∃ e d n₁, v = .ref e ∧ n = (e, .exc0 (some d)) :: n₁ ∧ E none e d m n₁) E m n) : V c u env (exec (.Raise (some x) none pos) env) Q E m n :=
 V.i fun ok A hp tk fit md => by
  rw [arm_exec_Raise]
  refine wpAny_bind (wpAny_standAt ?_)
  show wpAny _ _ (raiseStmt env (some (eval x env >>= fun v => standAt pos >>= fun _ => Pure.pure v)) none) _ _ _
  refine raise_core ok hK ?_
  refine wpAny_bind (wpAny_mono (h.go ok A hp tk fit md) (fun v s ⟨sm, m', n', y, e, d, n₁, hv, hn, z⟩ => ?_) fun _ _ x => x)
  subst hv hn
  obtain ⟨y1, g1⟩ := Ex.of_exc0 y
  exact wpAny_bind (wpAny_standAt (wpAny_pure ⟨sm, e, d, none, n₁, _, rfl, .inl (fit.handled.trans hu), y1, g1, fun h' y' g' => ⟨⟨rfl, rfl, rfl⟩, none, e, d, m', n₁, rfl, y', g', .inl rfl, z⟩⟩))
structure ExcG (K : Frag) (name : Str) : Prop where
 ga : findIn K (.ref 71) "__getattribute__" = some (some (.builtin "BaseException.__getattribute__"))
 none_ : findIn K (.ref 71) name = some none
 hook : findIn K (.ref 71) "__getattr__" = some none
 base : subIn K (.ref 71) (.type "BaseException") = some true
 dict : (clsIn K 71).any (·.hasDict) = true
theorem getE_ {e d T : Addr} {as : List (Str × Value)} {name : Str} {v₀ : Value} {ex : Bool} {k : Value} {Q : Value → Loc → Led → Prop} (st : ExcG c.K name) (hm : (d, AObj.edict as) ∈ n) (hl : as.lookup name = some v₀) (hh : ∀ v, nv v = v₀ → handedIn v = true)
  (h : ∀ v, nv v = v₀ → Q v m (excL e d T k ++ n)) : V c u env (getAttr (.ref e) name ex) Q E m (excL e d T k ++ n) :=
 V.vals (fun v => nv v = v₀) (fun A hp tk ok fit md Q' E' hq => by
  have X := ok.X.keeps md.keep
  obtain ⟨o, ho, hc, hd, vs, hdat, _⟩ := md.led _ (.head _)
  obtain ⟨od, hod, es, k', h3, h4, h5, h6⟩ := md.led _ (.tail _ (.tail _ hm))
  have I : PySem.W.InstAt hp e o 71 (some od) := ⟨ho, hc, by unfold notCls; rw [hdat], by rw [hd]; exact hod⟩
  have h7 := h6 name
  rw [hl] at h7
  obtain ⟨v, hv, hnv⟩ := Option.map_eq_some_iff.mp h7
  have hf : findObj c.K 71 (some od) name = some (.value v) := by
   obtain ⟨cd, hcc, hdd⟩ := any_some st.dict
   unfold findObj
   rw [hcc, Option.bind_some, st.none_, Option.bind_some]
   simp only [Option.bind_some]
   unfold PySem.W.ownOf
   rw [if_pos hdd]
   dsimp only
   rw [(lookIn_of h3 h4).trans (congrArg some hv)]; rfl
  have L0 := I.type (M := model P c.w)
  have L1 := looks_findIn (M := model P c.w) X st.ga
  have L2 := looks_find (M := model P c.w) X I hf
  unfold getAttr getAttrBy
  refine wpAny_bind (wpAny_mkText (wpAny_holding (wpAny_bind (L0.at (wpAny_bind (L1.at ?_))))))
  dsimp only
  rw [if_neg (show ¬ ((onTheHeap (Value.ref 71) && Value.builtin "BaseException.__getattribute__" == Value.builtin "object.__getattribute__") = true) from by kp_kind "dq")]
  have FX := PySem.F.attr_Exception
  have L3 := looks_findIn (M := model P c.w) X st.hook
  have LB : Looks (model P c.w) hp (isInstance (.ref e) (.type "BaseException")) true := L0.andThen (looks_subIn X st.base)
  unfold getAttrByItsOwn hookBefore
  refine wpAny_bind ?_
  rw [if_pos (show onTheHeap (Value.ref 71) = true from rfl)]
  refine L3.here ?_
  refine wpAny_bind (wpAny_attempt (wpAny_holding ?_))
  unfold callGetattribute
  rw [if_neg (show ¬ ((ex && onTheHeap (Value.builtin "BaseException.__getattribute__")) = true) from by cases ex <;> decide)]
  unfold boundAndCalled
  refine wpAny_bind ?_
  rw [FX.ga.bind]
  refine wpAny_pure ?_
  refine wpAny_call (codeAny_call_builtin FX.ga.plain PySem.F.entry_bexc_ga (check_slot (i := "BaseException.__getattribute__") (owner := "BaseException") (n := "__getattribute__") (by kp_kind "dq") (by kp_kind "dq") LB (PySem.F.args_bexc_ga _ _) ?_))
  refine wpAny_bind (wpAny_pure (wpAny_bind (wpAny_pure (wpAny_bind (L0.here (wpAny_bind (L2.here ?_)))))))
  refine wpAny_pure ?_
  show wpAny _ _ (handedOut v) _ _ _
  rw [handedOut_of (hh v hnv)]
  exact wpAny_pure (hq v _ hnv)) h
end
noncomputable abbrev Mem := List (Int × Int)
noncomputable def mget (l : Mem) (k : Int) : Option Int := (l.find? fun q => q.1 = k).map (·.2)
noncomputable def mset (l : Mem) (k v : Int) : Mem := if l.any (fun q => q.1 = k) then l.map (fun q => if q.1 = k then (q.1, v) else q) else l ++ [(k, v)]
noncomputable def AObj.ints (ns : List Int) : AObj := .list (ns.map vi)
noncomputable def AObj.strs (ns : List Str) : AObj := .list (ns.map vx)
noncomputable def AObj.tints (ns : List Int) : AObj := .tup (ns.map vi)
noncomputable def AObj.mem (w : World) (l : Mem) : AObj := .imap w (l.map fun q => (q.1, vi q.2))
theorem valueAt_mem (l : Mem) (k : Int) : valueAt (l.map fun q => (q.1, vi q.2)) k = (mget l k).map vi := by
 unfold valueAt mget
 induction l with
 | nil => rfl
 | cons p r ih =>
  simp only [List.map_cons, List.find?_cons]
  by_cases q : p.1 = k
  ·simp [q]
  ·simp only [q, decide_false]; exact ih
theorem stored_mem (l : Mem) (k v : Int) : stored (l.map fun q => (q.1, vi q.2)) k (vi v) = (mset l k v).map fun q => (q.1, vi q.2) := by
 unfold stored mset
 have e : (l.map fun q => (q.1, vi q.2)).any (fun kv => kv.1 = k) = l.any (fun q => q.1 = k) := by
  rw [List.any_map]; rfl
 rw [e]
 split
 ·rw [List.map_map, List.map_map]
  refine List.map_congr_left fun p _ => ?_
  simp only [Function.comp]
  split <;> rfl
 ·simp
section
variable {c : Cx} {u : Cu} {env : Env} {E : EP} {m : Loc} {n n' : Led} {Q : Value → Loc → Led → Prop}
theorem vi_nv {v : Value} {i : Int} (h : nv v = vi i) : ∃ t, v = .int i t := nv_int h
theorem vx_nv {v : Value} {x : Str} (h : nv v = vx x) : ∃ t, v = .str x t := nv_str h
theorem subLI_ {value slice : Expr} {a : Addr} {ns : List Int} {k : Int} {t : Tok} (hm : (a, AObj.ints ns) ∈ n) (h0 : 0 ≤ k) (hk : k < 10000) (hx : k.toNat < ns.length)
  (hs : subscripted slice false (.ref a) (.int k t) = operate [.ref a, .int k t] (getItem (.ref a) (.int k t))) (h : ∀ t', Q (.int (ns.getD k.toNat 0) t') m n) : V c u env (subscriptTail value slice (.ref a) (.int k t)) Q E m n :=
 subL_ (x := vi (ns.getD k.toNat 0)) hm h0 hk (by rw [List.getElem?_map, List.getElem?_eq_getElem hx]; simp [List.getD, hx]) hs fun v hv => by
  obtain ⟨t', rfl⟩ := vi_nv hv
  exact h t'
theorem setLI_ {a : Addr} {ns : List Int} {k i : Int} {t t' : Tok} {Q : Unit → Loc → Led → Prop} (hp : Put a (.ints ns) (.ints (ns.set k.toNat i)) n n') (h0 : 0 ≤ k) (hk : k < 10000) (hx : k.toNat < ns.length)
  (h : Q () m n') : V c u env (setItem (.ref a) (.int k t) (.int i t')) Q E m n :=
 setItemL_ (xs := ns.map vi) (by rw [show (ns.map vi).set k.toNat (nv (.int i t')) = (ns.set k.toNat i).map vi by rw [List.map_set]; rfl]; exact hp) h0 hk (by simpa using hx) h
theorem appendI_ {a : Addr} {ns : List Int} {i : Int} {t : Tok} (hp : Put a (.ints ns) (.ints (ns ++ [i])) n n') (hz : ns.length ≤ 10000) (h : Q .none m n') : V c u env (call (.builtin "list.append") [.ref a, .int i t]) Q E m n :=
 append_ (xs := ns.map vi) (by rw [show ns.map vi ++ [nv (.int i t)] = (ns ++ [i]).map vi by rw [List.map_append]; rfl]; exact hp) (by simpa using hz) h
theorem lenI_ {a : Addr} {ns : List Int} (hm : (a, AObj.ints ns) ∈ n) (hz : ns.length ≤ 10000) (h : ∀ t, Q (.int ns.length t) m n) : V c u env (call (.builtin "len") [.ref a]) Q E m n :=
 len_ (xs := ns.map vi) hm (by simpa using hz) (by simpa using h)
theorem inLI_ {a : Addr} {ns : List Int} {k : Int} {t : Tok} (hm : (a, AObj.ints ns) ∈ n) (h : Q (.bool (ns.any (· == k))) m n) : V c u env (compareOp .In (.int k t) (.ref a)) Q E m n := inL_ hm h
theorem notInLI_ {a : Addr} {ns : List Int} {k : Int} {t : Tok} (hm : (a, AObj.ints ns) ∈ n) (h : Q (.bool (!(ns.any (· == k)))) m n) : V c u env (compareOp .NotIn (.int k t) (.ref a)) Q E m n := notInL_ hm h
theorem subM_ {value slice : Expr} {a : Addr} {l : Mem} {k i : Int} {t : Tok} (hm : (a, AObj.mem c.w l) ∈ n) (hx : mget l k = some i) (hs : subscripted slice false (.ref a) (.int k t) = operate [.ref a, .int k t] (getItem (.ref a) (.int k t)))
  (h : ∀ t, Q (.int i t) m n) : V c u env (subscriptTail value slice (.ref a) (.int k t)) Q E m n :=
 subI_ (x := vi i) hm (by rw [valueAt_mem, hx]; rfl) hs fun v hv => by
  obtain ⟨t', rfl⟩ := vi_nv hv
  exact h t'
theorem setM_ {a : Addr} {l : Mem} {k i : Int} {t t' : Tok} {Q : Unit → Loc → Led → Prop} (hp : Put a (.mem c.w l) (.mem c.w (mset l k i)) n n') (hz : l.length ≤ 10000) (h : Q () m n') : V c u env (setItem (.ref a) (.int k t) (.int i t')) Q E m n :=
 setI_ (es := l.map fun q => (q.1, vi q.2)) (by rw [show stored (l.map fun q => (q.1, vi q.2)) k (nv (.int i t')) = (mset l k i).map fun q => (q.1, vi q.2) from stored_mem l k i]; exact hp) (by simpa using hz) h
theorem inM_ {a : Addr} {l : Mem} {k : Int} {t : Tok} (hm : (a, AObj.mem c.w l) ∈ n) (hs : (a == sysModules) = false) (h : Q (.bool (mget l k).isSome) m n) : V c u env (compareOp .In (.int k t) (.ref a)) Q E m n :=
 V.val _ (fun A hp tk ok fit md Q' E' hq => by
  obtain ⟨kvs, d, em⟩ := imap_at (md.led _ hm)
  refine wpAny_in_of (intKind_is P c.w _ _) hs d.mapOf ?_
  have e := valueAt_map kvs k
  rw [em, valueAt_mem] at e
  have : (valueAt kvs k).isSome = (mget l k).isSome := by
   have := congrArg Option.isSome e
   simpa using this.symm
  rw [this]; exact hq _) h
theorem getMethD_ {a : Addr} {es : List (Int × Value)} {pl : Sem Bool} {Q : Value × List Value → Loc → Led → Prop} (hm : (a, AObj.imap c.w es) ∈ n) (h : Q (.builtin "dict.get", [.ref a]) m n) : V c u env (getMethod (.ref a) (Str.ofString "get") pl) Q E m n :=
 V.val _ (fun A hp tk ok fit md Q' E' hq => by
  obtain ⟨kvs, d, em⟩ := imap_at (md.led _ hm)
  exact getMethod_builtin (Heap.MapOf.typeIs (s := ⟨hp, _, _, _, _⟩) d.mapOf) PySem.F.plainAttrs_dict PySem.F.slot_dict_get PySem.F.type_dict_get d.mapOf.noDict (hq _)) h
theorem getD_ {a : Addr} {l : Mem} {k d : Int} {t t' : Tok} (hm : (a, AObj.mem c.w l) ∈ n) (hs : (a == sysModules) = false) (h : ∀ t, Q (.int ((mget l k).getD d) t) m n) : V c u env (call (.builtin "dict.get") [.ref a, .int k t, .int d t']) Q E m n :=
 V.tok (fun t => .int ((mget l k).getD d) t) (fun A hp tk ok fit md Q' E' hq => by
  obtain ⟨kvs, D, em⟩ := imap_at (md.led _ hm)
  have e := valueAt_map kvs k
  rw [em, valueAt_mem] at e
  refine call_meetsIn PySem.F.slot_dict_get (Heap.MapOf.typeIs (s := ⟨hp, _, _, _, _⟩) D.mapOf) PySem.F.entry_dict_get (PySem.F.args_dict_get_3 _ _ _) (meets_dict_get_default (intKind P c.w) a (intKind_is P c.w k t) hs (.int d t')) ⟨_, D.mapOf, ?_⟩
  cases q : mget l k with
  | none =>
   rw [q] at e
   have : valueAt kvs k = none := by simpa using e.symm
   rw [this]
   have := hq t' (tk + 1)
   rw [q] at this; exact this
  | some i =>
   rw [q] at e
   obtain ⟨v, hv, hn⟩ := Option.map_eq_some_iff.mp e.symm
   obtain ⟨t2, rfl⟩ := vi_nv hn
   rw [hv]
   have := hq t2 (tk + 1)
   rw [q] at this; exact this) h
theorem methT_ {T : String} {name : Str} {v : Value} {pl : Sem Bool} {Q : Value × List Value → Loc → Led → Prop} (ht : typeOf (.type T) = pure (.type "type")) (hs : Manifest.isStub T = false)
  (e : findCls c.K (.type T) (.type "type") name = some (.val v)) (hh : handedIn v = true) (h : Q (v, []) m n) : V c u env (getMethod (.type T) name pl) Q E m n :=
 V.val _ (fun A hp tk ok fit md Q' E' hq => method_type (md.news).1 ok.X ht hs e hh (hq _)) h
theorem methC_ {C : Addr} {name : Str} {v : Value} {pl : Sem Bool} {Q : Value × List Value → Loc → Led → Prop} (hg : specialIn c.K (.ref C) "__getattribute__" = some (some (.builtin "type.__getattribute__")))
  (hr : readsIn c.K C (.type "type") = true) (e : findCls c.K (.ref C) (.type "type") name = some (.val v)) (hh : handedIn v = true) (h : Q (v, []) m n) : V c u env (getMethod (.ref C) name pl) Q E m n :=
 V.val _ (fun A hp tk ok fit md Q' E' hq => method_cls (ok.X.keeps md.keep) hg (cls_value (ok.X.keeps md.keep) hr e hh (hq _))) h
end
section
variable {prog : Program} {w : World} {A : Around} {E : Value → Shared → Prop} {s : Shared} {b : Array UInt8} {t : Tok}
theorem nextB_item {it : Addr} {i : Nat} {x : UInt8} {Q : Value → Shared → Prop} (hit : KBw.IsBytesIter s.heap it b t i) (hx : b[i]? = some x)
  (hQ : ∀ h', KBw.IsBytesIter h' it b t (i + 1) → Heap.SameBut it s.heap h' → Q (.int (x.toNat : Int) s.toks) { s with heap := h', toks := s.toks + 1 }) : wpAny (model prog w) A (Builtin.SmallTypes.nextOf (.ref it)) Q E s := by
 obtain ⟨o, ho, hc, hd⟩ := id hit
 unfold Builtin.SmallTypes.nextOf
 refine wpAny_bind (wpAny_callSpecial?_slot (name := Str.ofString "__next__") (KBw.iter_typeIs hit) KBw.slot_next
  (wpAny_call_entry KBw.slot_next (KBw.iter_typeIs hit) KBw.entry_next ?_ (KBw.args_next _)))
 show wpAny _ _ (field (.ref it) 0 >>= _) _ _ s
 refine wpAny_bind (wpAny_field ho hd (x := .bytes b t) rfl ?_)
 show wpAny _ _ (if (Value.bytes b t == Value.none) = true then _ else _) _ _ s
 rw [if_neg (show ¬ ((Value.bytes b t == Value.none) = true) from Bool.false_ne_true)]
 show wpAny _ _ (field (.ref it) 1 >>= _) _ _ s
 refine wpAny_bind (wpAny_field ho hd (x := .int i 0) rfl ?_)
 refine wpAny_bind (wpAny_of_eq (a := b) rfl ?_)
 simp only [Int.toNat_natCast, hx]
 refine wpAny_bind (wpAny_setField ho hd (by simp) (wpAny_bind (wpAny_mkInt (wpAny_pure ⟨_, rfl, wpAny_pure (hQ _ ?_ (Heap.SameBut.update ..))⟩))))
 exact ⟨_, Heap.get?_update_self _ ho (Obj.isFreed_of_fields (Obj.data_mapFields hd _)), (Obj.cls_mapFields ..).trans hc, by
  rw [Obj.data_mapFields hd]; simp [rawInt]⟩
theorem nextB_end {it : Addr} {i : Nat} {Q : Value → Shared → Prop} (hh : A.handled = none) (hit : KBw.IsBytesIter s.heap it b t i) (hx : b[i]? = none)
  (hE : ∀ h' e, Heap.ExtBut it s.heap h' → (∃ o, h'.get? e = some o ∧ o.cls = .type "StopIteration") → E (.ref e) { s with heap := h' }) : wpAny (model prog w) A (Builtin.SmallTypes.nextOf (.ref it)) Q E s := by
 obtain ⟨o, ho, hc, hd⟩ := id hit
 unfold Builtin.SmallTypes.nextOf
 refine wpAny_bind (wpAny_callSpecial?_slot (name := Str.ofString "__next__") (KBw.iter_typeIs hit) KBw.slot_next
  (wpAny_call_entry KBw.slot_next (KBw.iter_typeIs hit) KBw.entry_next ?_ (KBw.args_next _)))
 show wpAny _ _ (field (.ref it) 0 >>= _) _ _ s
 refine wpAny_bind (wpAny_field ho hd (x := .bytes b t) rfl ?_)
 show wpAny _ _ (if (Value.bytes b t == Value.none) = true then _ else _) _ _ s
 rw [if_neg (show ¬ ((Value.bytes b t == Value.none) = true) from Bool.false_ne_true)]
 show wpAny _ _ (field (.ref it) 1 >>= _) _ _ s
 refine wpAny_bind (wpAny_field ho hd (x := .int i 0) rfl ?_)
 refine wpAny_bind (wpAny_of_eq (a := b) rfl ?_)
 simp only [Int.toNat_natCast, hx]
 refine wpAny_bind (wpAny_rule (wpAny_bind (wpAny_setField ho hd (by simp) ?_)))
 show wpAny _ _ (newExc (.type "StopIteration") [] >>= _) _ _ _
 refine wpAny_bind ?_
 simp only [newExc, newTuple]
 refine wpAny_bind (wpAny_newObj_type ?_ (by size_fits))
 refine wpAny_bind (m := firstArgMember _ _) (wpAny_of_eq (a := Value.none) (by first | rfl | (simp only [firstArgMember]; rfl)) ?_)
 refine wpAny_newObj_type ?_ (by size_fits)
 simp only [raiseNew]
 refine wpAny_bind (wpAny_handled ?_)
 first | rw [show A.in1.handled = none from hh] | rw [hh]
 refine wpAny_bind (wpAny_pure (wpAny_throw ?_))
 exact hE _ _ (((Heap.SameBut.update ..).extBut.push _).push _) ⟨_, Heap.get?_push_size _ rfl, rfl⟩
theorem drawsB (hh : A.handled = none) (it : Addr) (b : Array UInt8) (t : Tok) :
  Draws prog w A it [it] b.size (fun i v => ∃ c u, b[i]? = some c ∧ v = .int (c.toNat : Int) u) (fun i h => KBw.IsBytesIter h it b t i) where
 live := fun _ _ st => let ⟨o, ho, _⟩ := st; ⟨o, ho⟩
 frame := fun _ _ _ st hk => let ⟨o, ho, r⟩ := st; ⟨o, hk it (by simp) o ho, r⟩
 item := fun i s Q E hi st hQ => by
  refine nextB_item st (x := b[i]) (by simp [hi]) fun h' hit' hs' => ?_
  exact hQ _ h' _ ⟨_, _, by simp [hi], rfl⟩ hit' hs'
 done := fun s Q E st hE => nextB_end hh st (by simp) hE
theorem called_any {M : Model} {A : Around} {E : Value → Shared → Prop} {s : Shared} {cls : Value} {Q : Bool → Shared → Prop} (h : ∀ b, Q b s) : wpAny M A (Builtin.SmallTypes.calledThroughType cls) Q E s :=
 wpAny_bind (wpAny_stack_any fun _ => wpAny_pure (h _))
theorem meets_enumB (b : Array UInt8) (t : Tok) :
  Meets (Builtin.«enumerate.__new__» ⟨[.type "enumerate", .bytes b t], []⟩) (fun _ R s =>
   R (.ok (.ret (.ref (s.heap.push { cls := .type "bytes_iterator", data := .fields #[.bytes b t, .int 0 0] }).objs.size)))
    { s with heap := (s.heap.push { cls := .type "bytes_iterator", data := .fields #[.bytes b t, .int 0 0] }).push { cls := .type "enumerate", data := .fields #[.none, .bool false, .ref s.heap.objs.size, rawInt 0, .none, .none] } }) :=
 .of_wp fun prog w A R s h => by
  obtain ⟨hp, g, d, tk, os⟩ := s
  have hsub := sub_enumerate
  wp_walk using called_any
  intro b
  cases b <;> (wp_walk using KBw.pyIter_bytes; exact ⟨_, rfl, h⟩)
theorem extendB {R : Result → Shared → Prop} (hh : A.handled = none) (S : Addr) (res : Value) (c₀ : Nat) (hS : s.heap.get? S = some { cls := .type "list", data := .seq #[] c₀ })
  (hR : ∀ h' tk acc' c', (∀ b o, b ≠ S → s.heap.get? b = some o → h'.get? b = some o) → h'.get? S = some { cls := .type "list", dict := none, data := .seq acc' c', slots := #[] } →
   ItemsOf (fun i v => ∃ c u, b[i]? = some c ∧ v = .int (c.toNat : Int) u) acc' b.size → R (.ok (.ret res)) { s with heap := h', toks := tk }) (hn : b.size ≤ sizeLine) :
  wpAny (model prog w) A.in1 (Builtin.List.listExtendWith (.ref S) (.bytes b t) res)
   (fun fin s' => match fin with | .done f => R (.ok f) s' | .again c' => c'.quiet = true ∧ codeAny (model prog w) A c' R s') (fun e s' => R (.error e) s') s := by
 have hSI : S ≠ s.heap.objs.size := Nat.ne_of_lt (Heap.lt_size hS)
 have hSf : S ∉ [s.heap.objs.size] := fun hm => hSI (List.mem_singleton.mp hm)
 unfold Builtin.List.listExtendWith
 refine wpAny_bind (wpAny_typeOf (T := "bytes") (v := .bytes b t) rfl ?_)
 have h1 : Builtin.List.listSameRef (.ref S) (.bytes b t) = false := rfl
 have h2 : (Value.type "bytes" == Value.type "list") = false := by decide
 have h3 : (Value.type "bytes" == Value.type "tuple") = false := by decide
 simp only [h1, h2, h3, Bool.or_false, Bool.false_eq_true, if_false]
 refine wpAny_bind (KBw.pyIter_bytes ?_)
 refine wpAny_bind (wpAny_holding ?_)
 unfold Builtin.List.listLengthHint
 refine wpAny_bind (wpAny_specialOf (T := "bytes") (v := .bytes b t) rfl (by rw [typeLookup_type, builtinLookup_eq_fast]; kernel_rfl : typeLookup (.type "bytes") "__len__" = pure (some (.builtin "bytes.__len__"))) ?_)
 wp_delta
 refine wpAny_bind (wpAny_isInstance (T := "bytes") (v := .bytes b t) (b := true) rfl (by rw [isSubtype_type]; kernel_rfl) ?_)
 show wpAny _ _ (typeOf (Value.bytes b t) >>= _) _ _ _
 refine wpAny_bind (wpAny_typeOf (T := "bytes") (v := .bytes b t) rfl ?_)
 refine wpAny_pure ?_
 rw [if_neg (by decide)]
 have W := KBw.walks (prog := prog) (w := w) (A := A.in1) hh s.heap.objs.size b t
 have hst : KBw.IsBytesIter (s.heap.push { cls := .type "bytes_iterator", data := .fields #[.bytes b t, .int 0 0] }) s.heap.objs.size b t 0 := ⟨_, Heap.get?_push_size _ rfl, rfl, rfl⟩
 have WS := W.toS
 refine wpAny_pure ⟨plainId_quiet PySem.F.plain_extend_loop _, codeAny_extend_loopS (St := fun i (s' : Shared) => KBw.IsBytesIter s'.heap s.heap.objs.size b t i) WS hn _ hSf _ b.size 0 _ _ _ rfl (Nat.zero_le _) hst (Heap.get?_push_of_some _ hS) (ItemsOf.nil _) fun s' acc' c' hm hS' hacc => ?_⟩
 rw [Moved.eq_with hm]
 refine hR s'.heap s'.toks acc' c' (fun b ob hb e => hm.heap b ob (fun hmem => ?_) (Heap.get?_push_of_some _ e)) hS' hacc
 rcases List.mem_cons.mp hmem with e' | hmem
 ·exact hb e'
 ·exact absurd (Heap.lt_size e) (by rw [List.mem_singleton.mp hmem]; exact Nat.lt_irrefl _)
theorem listB {Q : Value → Shared → Prop} (hh : A.handled = none)
  (hQ : ∀ h' tk acc' c', (∀ b o, s.heap.get? b = some o → h'.get? b = some o) →
   h'.get? s.heap.objs.size = some { cls := .type "list", dict := none, data := .seq acc' c', slots := #[] } → ItemsOf (fun i v => ∃ c u, b[i]? = some c ∧ v = .int (c.toNat : Int) u) acc' b.size → Q (.ref s.heap.objs.size) { s with heap := h', toks := tk }) (hn : b.size ≤ sizeLine) :
  wpAny (model prog w) A (call (.type "list") [.bytes b t]) Q E s := by
 refine callType_codes (Q₁ := fun obj s₁ => obj = .ref s.heap.objs.size ∧ s₁ = { s with heap := s.heap.push { cls := .type "list", data := .seq #[] } }) PySem.F.called_list (PySem.F.typeCall_list_1 _) PySem.F.entry_list_init
  (code_list_new _ ⟨rfl, rfl⟩) fun obj s₁ h₁ => ?_
 obtain ⟨rfl, rfl⟩ := h₁
 have hS : (s.heap.push { cls := .type "list", data := .seq #[] }).get? s.heap.objs.size = some { cls := .type "list", data := .seq #[] } := Heap.get?_push_size _ rfl
 refine ⟨⟨_, hS, rfl⟩, PySem.F.args_list_init_2 _ _, ?_⟩
 show wpAny _ _ (do let old ← Builtin.List.listItems (.ref s.heap.objs.size); Builtin.List.listUpdate (.ref s.heap.objs.size) (fun _ => #[]); letGo old.toList.reverse; Builtin.List.listExtendWith (.ref s.heap.objs.size) (.bytes b t) .none) _ _ _
 refine wpAny_bind ?_
 unfold Builtin.List.listItems
 refine wpAny_bind (wpAny_seqItems hS rfl (wpAny_pure ?_))
 show wpAny _ _ (updateSeq s.heap.objs.size (fun _ => #[]) >>= fun _ => letGo (#[] : Array Value).toList.reverse >>= fun _ => Builtin.List.listExtendWith (.ref s.heap.objs.size) (.bytes b t) .none) _ _ _
 refine wpAny_bind (wpAny_updateSeq hS rfl ?_)
 have hS₂ := Heap.get?_update_self (Obj.mapSeq (fun _ => (#[] : Array Value))) hS rfl
 refine wpAny_bind (wpAny_letGo ?_)
 refine extendB (A := A.in1) hh s.heap.objs.size .none _ hS₂ (fun h' tk acc' c' hk hS' hacc => ?_) hn
 exact ⟨rfl, hQ h' tk acc' c' (fun b o e => hk b o (Nat.ne_of_lt (Heap.lt_size e)) ((Heap.get?_update_other _ _ (Ne.symm (Nat.ne_of_lt (Heap.lt_size e)))).trans (Heap.get?_push_of_some _ e))) hS' hacc⟩
end
noncomputable def Octs (ns : List Int) : Prop := ∀ i ∈ ns, 0 ≤ i ∧ i < 256
theorem bytes_get {ns : List Int} (h : Octs ns) {i : Nat} {c : UInt8} (hc : (byteArr ns)[i]? = some c) : ns[i]? = some (c.toNat : Int) := by
 have e : KBw.bInts (byteArr ns) = ns := KBa.ints_make h
 have := KBw.ints_get hc
 rwa [e] at this
theorem bytes_none {ns : List Int} {i : Nat} (hc : (byteArr ns)[i]? = none) : ns[i]? = none := by
 have := Array.getElem?_eq_none_iff.mp hc
 rw [byteArr_size] at this
 exact List.getElem?_eq_none this
section
variable {c : Cx} {u : Cu} {env : Env} {E : EP} {m : Loc} {n n' : Led}
theorem listB_ {ns : List Int} {t : Tok} {Q : Value → Loc → Led → Prop} (hd : u.hd = none) (ho : Octs ns) (hz : ns.length ≤ 10000) (h : ∀ a, Q (.ref a) m ((a, .ints ns) :: n)) : V c u env (call (.type "list") [.bytes (byteArr ns) t]) Q E m n :=
 V.i fun ok A hp tk fit md => listB (fit.handled.trans hd) (fun h' tk acc' c' hk hD hacc => ⟨⟨rfl, rfl, rfl⟩, m, (hp.objs.size, .ints ns) :: n, md.more hk ⟨_, hD, acc', c', rfl, by
   refine List.ext_getElem? fun i => ?_
   rw [List.getElem?_map, List.getElem?_map]
   cases q : acc'[i]? with
   | some v =>
    obtain ⟨c, u, e1, e2⟩ := hacc.2 i v q
    rw [bytes_get ho e1, Array.getElem?_toList, q]
    simp [e2, nv, vi]
   | none =>
    have : ns[i]? = none := by
     refine List.getElem?_eq_none ?_
     have := Array.getElem?_eq_none_iff.mp q
     rw [hacc.1, byteArr_size] at this
     exact this
    rw [this, Array.getElem?_toList, q]; rfl⟩ (fun b hb => by
    have : b = hp.objs.size := by simpa [fp, AObj.ints, AObj.list] using hb
    rw [this]; exact none_above (Nat.le_refl _)) (by simp [fp, AObj.ints, AObj.list]), h _⟩) (by rw [byteArr_size, sizeLine_eq]; lia)
noncomputable def AObj.biter (ns : List Int) (t : Tok) (i : Nat) : AObj := .one fun o => o.cls = .type "bytes_iterator" ∧ o.data = .fields #[.bytes (byteArr ns) t, .int i 0]
theorem Mod.two {fs : List (Env × Loc)} {f : Env × Loc} {h h' : Heap} {pr pr' : Obj → Prop} (md : Mod c (f :: fs) n h) (hk : ∀ b o, h.get? b = some o → h'.get? b = some o) (h1 : ∃ o, h'.get? (h.objs.size + 1) = some o ∧ pr o) (h2 : ∃ o, h'.get? h.objs.size = some o ∧ pr' o) :
  Mod c (f :: fs) ((h.objs.size + 1, .one pr) :: (h.objs.size, .one pr') :: n) h' := by
 have out : ∀ b ∈ foot [(h.objs.size + 1, AObj.one pr), (h.objs.size, AObj.one pr')], h.get? b = none := fun b hb => by
  have : b = h.objs.size + 1 ∨ b = h.objs.size := by simpa [foot, fp] using hb
  rcases this with rfl | rfl <;> exact none_above (by lia)
 refine md.moreL (l := [(h.objs.size + 1, .one pr), (h.objs.size, .one pr')]) (md.ext hk) (fun p hp => ?_) out (by simp [foot, fp]) (fun g hg hm => ?_)
 ·rcases List.mem_cons.mp hp with rfl | hp
  ·exact h1
  ·rw [List.mem_singleton.mp hp]; exact h2
 ·obtain ⟨o, es, ep, ho, _⟩ := (md.frs g hg).ns
  rw [out _ hm] at ho; cases ho
theorem enumL_ {l : Addr} {xs : List Value} {Q : Value → Loc → Led → Prop} (hm : (l, AObj.list xs) ∈ n) (h : ∀ e it, Q (.ref e) m ((e, .enum it 0) :: (it, .liter l 0) :: n)) : V c u env (call (.type "enumerate") [.ref l]) Q E m n :=
 V.i fun ok A hp tk fit md => by
  obtain ⟨vs, k, ho, em⟩ := list_at (md.led _ hm)
  refine call_enumerate_list (items := vs) ⟨_, ho, rfl, k, rfl⟩ fun h' he hit hsz hk => ⟨⟨rfl, rfl, rfl⟩, m, _, md.two hk ⟨_, he, _, rfl⟩ hit, h _ _⟩
theorem enumB_ {ns : List Int} {t : Tok} {Q : Value → Loc → Led → Prop} (h : ∀ e it, Q (.ref e) m ((e, .enum it 0) :: (it, .biter ns t 0) :: n)) : V c u env (call (.type "enumerate") [.bytes (byteArr ns) t]) Q E m n :=
 V.i fun ok A hp tk fit md => by
  refine callType_new PySem.F.called_enumerate (by decide) (PySem.F.typeCall_enumerate_1 _) (PySem.F.newCall_enumerate_1 _) (fun obj => PySem.F.args_object_init_2 obj _) PySem.F.entry_enumerate_new (meets_enumB (byteArr ns) t) ?_
  have hz : (hp.push { cls := .type "bytes_iterator", data := .fields #[.bytes (byteArr ns) t, .int 0 0] }).objs.size = hp.objs.size + 1 := Heap.size_push ..
  show _ ∧ _
  rw [hz]
  have he : ((hp.push { cls := .type "bytes_iterator", data := .fields #[.bytes (byteArr ns) t, .int 0 0] }).push
    { cls := .type "enumerate", data := .fields #[.none, .bool false, .ref hp.objs.size, rawInt 0, .none, .none] }).get? (hp.objs.size + 1) = some { cls := .type "enumerate", data := .fields #[.none, .bool false, .ref hp.objs.size, rawInt 0, .none, .none] } := by
   have := Heap.get?_push_size (hp.push { cls := .type "bytes_iterator", data := .fields #[.bytes (byteArr ns) t, .int 0 0] }) (o := { cls := .type "enumerate", data := .fields #[.none, .bool false, .ref hp.objs.size, rawInt 0, .none, .none] }) rfl
   rw [hz] at this; exact this
  exact ⟨⟨_, he, rfl⟩, ⟨rfl, rfl, rfl⟩, m, _, md.two (fun b o x => Heap.get?_push_of_some _ (Heap.get?_push_of_some _ x)) ⟨_, he, _, rfl⟩ ⟨_, Heap.get?_push_of_some _ (Heap.get?_push_size _ rfl), rfl, rfl⟩, h _ _⟩
theorem iterE_ {e it : Addr} {i : Int} {Q : Value → Loc → Led → Prop} (hm : (e, AObj.enum it i) ∈ n) (h : Q (.ref e) m n) : V c u env (pyIter (.ref e)) Q E m n :=
 V.val (.ref e) (fun A hp tk ok fit md Q' E' hq => by
  obtain ⟨o, ho, old, rfl⟩ := md.led _ hm
  exact wpAny_pyIter_enum ho (hq _)) h
noncomputable def AObj.enumO (it : Addr) (i : Int) (T : Addr) : AObj := .one fun o => ∃ item, o = { cls := .type "enumerate", dict := none, data := .fields #[rawInt T, .bool false, .ref it, rawInt i, .none, item], slots := #[] }
noncomputable def tup2 (x y : Value) : AObj := .one fun o => o = { cls := .type "tuple", data := .seq #[x, y] }
theorem Mod.enumed {fs : List (Env × Loc)} {f : Env × Loc} {h h' : Heap} {e it : Addr} {oe oi : AObj} {pe pi pt : Obj → Prop} (md : Mod c (f :: fs) ((e, oe) :: (it, oi) :: n) h) (fe : fp (e, oe) = [e]) (fi : fp (it, oi) = [it])
  (hT : ∃ o, h'.get? h.objs.size = some o ∧ pt o) (he : ∃ o, h'.get? e = some o ∧ pe o) (hi : ∃ o, h'.get? it = some o ∧ pi o) (hk : ∀ b o, b ≠ e → b ≠ it → h.get? b = some o → h'.get? b = some o) :
  Mod c (f :: fs) ((h.objs.size, .one pt) :: (e, .one pe) :: (it, .one pi) :: n) h' := by
 have ndl := md.nd
 have nwl := md.new
 rw [foot_cons, foot_cons, fe, fi] at ndl nwl
 simp only [List.singleton_append, List.nodup_cons, List.mem_cons] at ndl nwl
 have hee : ∃ o, h.get? e = some o := md.there (by rw [foot_cons, fe]; exact .head _)
 have hii : ∃ o, h.get? it = some o := md.there (by rw [foot_cons, foot_cons, fe, fi]; exact .tail _ (.head _))
 have le : e < h.objs.size := let ⟨o, ho⟩ := hee; Heap.lt_size ho
 have li : it < h.objs.size := let ⟨o, ho⟩ := hii; Heap.lt_size ho
 have same : ∀ b, b ≠ e → b ≠ it → ∀ o, h.get? b = some o → h'.get? b = h.get? b := fun b h1 h2 o ho => by rw [hk b o h1 h2 ho, ho]
 have eq : foot ((h.objs.size, AObj.one pt) :: (e, .one pe) :: (it, .one pi) :: n) = h.objs.size :: e :: it :: foot n := by rw [foot_cons, foot_cons, foot_cons]; rfl
 refine ⟨fun b ob ho => hk b ob (fun q => by rw [q, nwl e (.inl rfl)] at ho; cases ho) (fun q => by rw [q, nwl it (.inr (.inl rfl))] at ho; cases ho) (md.keep b ob ho), fun g hg => ?_, md.fnd, fun p hp => ?_, fun b hb => ?_, ?_⟩
 ·have g1 := md.frs g hg
  have g2 := g1.out
  rw [foot_cons, foot_cons, fe, fi] at g2
  simp only [List.singleton_append, List.mem_cons, not_or] at g2
  obtain ⟨o, es, ep, ho, _⟩ := id g1.ns
  refine ⟨Heap.Ns.of_get g1.ns (same _ g2.1 g2.2.1 _ ho), g1.size, ?_⟩
  rw [eq]
  simp only [List.mem_cons, not_or]
  exact ⟨Nat.ne_of_lt (Heap.lt_size ho), g2⟩
 ·rcases List.mem_cons.mp hp with rfl | hp
  ·exact hT
  ·rcases List.mem_cons.mp hp with rfl | hp
   ·exact he
   ·rcases List.mem_cons.mp hp with rfl | hp
    ·exact hi
    ·have r := md.led p (.tail _ (.tail _ hp))
     refine Rep.of (fun b hb => ?_) r
     obtain ⟨o, ho⟩ := r.there b hb
     have hbn := mem_foot hp hb
     exact same b (fun q => ndl.1 (.inr (q ▸ hbn))) (fun q => ndl.2.1 (q ▸ hbn)) o ho
 ·rw [eq] at hb
  rcases List.mem_cons.mp hb with rfl | hb
  ·exact none_above md.size
  ·rcases List.mem_cons.mp hb with rfl | hb
   ·exact nwl _ (.inl rfl)
   ·rcases List.mem_cons.mp hb with rfl | hb
    ·exact nwl _ (.inr (.inl rfl))
    ·exact nwl _ (.inr (.inr hb))
 ·rw [eq]
  simp only [List.nodup_cons, List.mem_cons, not_or]
  refine ⟨⟨Nat.ne_of_gt le, Nat.ne_of_gt li, fun q => ?_⟩, ⟨fun q => ndl.1 (.inl q), fun q => ndl.1 (.inr q)⟩, ndl.2.1, ndl.2.2⟩
  obtain ⟨o, ho⟩ := md.there (b := h.objs.size) (by rw [foot_cons, foot_cons]; exact List.mem_append_right _ (List.mem_append_right _ q))
  exact Nat.lt_irrefl _ (Heap.lt_size ho)
theorem nextEL_ {e it l : Addr} {i : Nat} {xs : List Value} {Q : Option Value → Loc → Led → Prop} (hd : u.hd = none) (hm : (l, AObj.list xs) ∈ n)
  (h1 : ∀ x, xs[i]? = some x → ∀ v T t, nv v = x → Q (some (.ref T)) m ((T, tup2 (.int i t) v) :: (e, .enumO it ((i : Int) + 1) T) :: (it, .liter l (i + 1)) :: n)) (h0 : xs[i]? = none → Q none m n) :
  V c u env (pyNext (.ref e)) Q E m ((e, .enum it i) :: (it, .liter l i) :: n) :=
 V.i fun ok A hp tk fit md => by
  obtain ⟨vs, k, ho, em⟩ := list_at (md.led _ (.tail _ (.tail _ hm)))
  obtain ⟨o1, ho1, old, rfl⟩ := md.led _ (.head _)
  obtain ⟨o2, ho2, hi2⟩ := md.led _ (.tail _ (.head _))
  have hne : e ≠ it := by
   have nd := md.nd
   rw [foot_cons, foot_cons] at nd
   intro q
   exact (List.nodup_append.mp nd).2.2 e fp_one it (List.mem_append_left _ fp_one) q
  have hit : hp.IsListIter it l i := ⟨o2, ho2, hi2⟩
  have hl : hp.IsList l vs := ⟨_, ho, rfl, k, rfl⟩
  cases q : vs[i]? with
  | some v =>
   have hx : xs[i]? = some (nv v) := by rw [← em, List.getElem?_map]; simp [q]
   exact wpAny_pyNext_enum_item ho1 hit hl q hne fun h' he ⟨o', k1, k2⟩ hT hsz hk => ⟨⟨rfl, rfl, rfl⟩, m, (hp.objs.size, tup2 (.int i tk) v) :: (e, .enumO it ((i : Int) + 1) hp.objs.size) :: (it, .liter l (i + 1)) :: n, md.enumed (pe := fun o => ∃ item, o = { cls := .type "enumerate", dict := none, data := .fields #[rawInt hp.objs.size, .bool false, .ref it, rawInt ((i : Int) + 1), .none, item], slots := #[] }) (pi := fun o => o.cls = .type "list_iterator" ∧ o.data = .fields #[.ref l, .int (i + 1 : Nat) 0]) (pt := fun o => o = { cls := .type "tuple", data := .seq #[.int i tk, v] }) rfl rfl ⟨_, hT, rfl⟩ ⟨_, he, _, rfl⟩ ⟨o', k1, k2⟩ hk, h1 _ hx v _ _ rfl⟩
  | none =>
   have hx : xs[i]? = none := by rw [← em, List.getElem?_map]; simp [q]
   exact wpAny_pyNext_enum_end (fit.handled.trans hd) ho1 hit hl q fun h' hs => ⟨⟨rfl, rfl, rfl⟩, m, _, (md.perm (.swap _ _ _)).without (a := it) fp_one (fun b o hb e => hs b o hb e) |>.sub (.cons _ (.refl _)), h0 hx⟩
theorem nextEB_ {e it : Addr} {i : Nat} {ns : List Int} {tb : Tok} {Q : Option Value → Loc → Led → Prop} (hd : u.hd = none) (ho : Octs ns) (hi : i ≤ ns.length)
  (h1 : ∀ x, ns[i]? = some x → ∀ T t t', Q (some (.ref T)) m ((T, tup2 (.int i t) (.int x t')) :: (e, .enumO it ((i : Int) + 1) T) :: (it, .biter ns tb (i + 1)) :: n)) (h0 : ns[i]? = none → Q none m n) :
  V c u env (pyNext (.ref e)) Q E m ((e, .enum it i) :: (it, .biter ns tb i) :: n) :=
 V.i fun ok A hp tk fit md => by
  obtain ⟨o1, ho1, old, rfl⟩ := md.led _ (.head _)
  obtain ⟨o2, ho2, hi2⟩ := md.led _ (.tail _ (.head _))
  have hne : e ≠ it := by
   have nd := md.nd
   rw [foot_cons, foot_cons] at nd
   intro q
   exact (List.nodup_append.mp nd).2.2 e fp_one it (List.mem_append_left _ fp_one) q
  have D := drawsB (prog := P) (w := c.w) (A := A.in1) (fit.handled.trans hd) it (byteArr ns) tb
  by_cases q : i < (byteArr ns).size
  ·refine wpAny_pyNext_enum_itemD D ho1 (⟨o2, ho2, hi2⟩ : KBw.IsBytesIter _ _ _ _ _) q hne (by simpa using hne) fun x h' tk' ⟨c', u', hc, hx⟩ he ⟨o', k1, k2⟩ hT hsz hk => ?_
   subst hx
   exact ⟨⟨rfl, rfl, rfl⟩, m, (hp.objs.size, tup2 (.int i tk') (.int c'.toNat u')) :: (e, .enumO it ((i : Int) + 1) hp.objs.size) :: (it, .biter ns tb (i + 1)) :: n, md.enumed (pe := fun o => ∃ item, o = { cls := .type "enumerate", dict := none, data := .fields #[rawInt hp.objs.size, .bool false, .ref it, rawInt ((i : Int) + 1), .none, item], slots := #[] }) (pi := fun o => o.cls = .type "bytes_iterator" ∧ o.data = .fields #[.bytes (byteArr ns) tb, .int (i + 1 : Nat) 0]) (pt := fun o => o = { cls := .type "tuple", data := .seq #[.int i tk', .int c'.toNat u'] }) rfl rfl ⟨_, hT, rfl⟩ ⟨_, he, _, rfl⟩ ⟨o', k1, k2⟩ hk, h1 _ (bytes_get ho hc) _ _ _⟩
  ·have hn : (byteArr ns)[i]? = none := Array.getElem?_eq_none (by lia)
   have hi' : i = (byteArr ns).size := by rw [byteArr_size] at q ⊢; lia
   refine wpAny_pyNext_enum_endD D ho1 (by rw [← hi']; exact ⟨o2, ho2, hi2⟩) fun h' hs => ⟨⟨rfl, rfl, rfl⟩, m, _, (md.perm (.swap _ _ _)).without (a := it) fp_one (fun b o hb e => hs b o hb e) |>.sub (.cons _ (.refl _)), h0 (bytes_none hn)⟩
theorem goE_ {elts : List Expr} {k : Nat} {pos : Pos} {e it T : Addr} {i : Int} {Q : Unit → Loc → Led → Prop} (hp : Put e (.enumO it i T) (.enum it i) n n') (h : Q () m n') : V c u env (letOwnedTupleGo (.Tuple elts k pos) (.ref e) (.ref T)) Q E m n :=
 V.i fun ok A hh tk fit md => by
  obtain ⟨o, ho, item, rfl⟩ := md.led _ hp.mem
  exact wpAny_letOwnedTupleGo_enum ho fun h' he hs => ⟨⟨rfl, rfl, rfl⟩, m, n', md.put (x := e) hp (fun b hb => hs.2 b hb) fp_one rfl ⟨_, he, _, rfl⟩, h⟩
theorem assign2_ {a b : Str} {pa pb tp : Pos} {kk : Nat} {T : Addr} {x y : Value} {Q : Unit → Loc → Led → Prop} (hd : u.hd = none) (ha : env.kindOf a = some .local) (hb : env.kindOf b = some .local) (hm : (T, tup2 x y) ∈ n) (h : Q () ((b, y) :: (a, x) :: m) n) :
  V c u env (assign (.Tuple [.Name a pa, .Name b pb] kk tp) env (.ref T)) Q E m n :=
 V.i fun ok A hh tk fit md => by
  obtain ⟨o, ho, rfl⟩ := md.led _ hm
  refine wpAny_assign_Tuple (items := #[x, y]) (fit.handled.trans hd) ⟨_, ho, rfl, _, rfl⟩ rfl rfl fun h₁ he => ?_
  have md1 : Mod c ((env, m) :: u.fs) n h₁ := md.ext fun b o e => he b o (Nat.ne_of_lt (Heap.lt_size e)) e
  show wpAny _ _ (assignInOrder [assign (.Name a pa) env, assign (.Name b pb) env] [x, y]) _ _ _
  refine assignInOrder_cons (wpAny_assign_Name (wpAny_mono ((Store_ (E := E) (Q := fun _ m' n' => m' = (a, x) :: m ∧ n' = n) ha ⟨rfl, rfl⟩ : V c u env (storeName env a x) _ _ m n).go ok A h₁ tk fit md1) (fun _ s q => q.el fun _ _ m' n' y1 ⟨e1, e2⟩ => ?_) fun _ _ x => x))
  subst e1 e2
  refine assignInOrder_cons (wpAny_assign_Name (wpAny_mono ((Store_ (E := E) (Q := fun _ m' n'' => m' = (b, y) :: (a, x) :: m ∧ n'' = n') hb ⟨rfl, rfl⟩ : V c u env (storeName env b y) _ _ ((a, x) :: m) n').go ok A _ _ fit y1) (fun _ s q => q.el fun _ _ m' n'' y2 ⟨e1, e2⟩ => ?_) fun _ _ x => x))
  subst e1 e2
  exact assignInOrder_nil ⟨⟨rfl, rfl, rfl⟩, _, _, y2, h⟩
noncomputable abbrev KNE (e it : Addr) (i : Int) (a b : Str) (K D : Loc → Led → Prop) (r : Option Value) (m : Loc) (n : Led) : Prop := match r with
 | none => D m n
 | some v => ∃ T x y n₁, v = .ref T ∧ n = (T, tup2 x y) :: (e, .enumO it i T) :: n₁ ∧ K ((b, y) :: (a, x) :: m) ((T, tup2 x y) :: (e, .enum it i) :: n₁)
theorem turnE_ {e it : Addr} {i : Int} {a b : Str} {pa pb tp : Pos} {kk : Nat} {K D : Loc → Led → Prop} (hd : u.hd = none) (ha : env.kindOf a = some .local) (hb : env.kindOf b = some .local)
  (h : V c u env (pyNext (.ref e)) (KNE e it i a b K D) E m n) : Turn c u env (.Tuple [.Name a pa, .Name b pb] kk tp) (.ref e) K D E m n :=
 V.mono h (fun r m n h => by
  cases r with
  | none => exact h
  | some v =>
   obtain ⟨T, x, y, n₁, rfl, rfl, hk⟩ := h
   refine goE_ (.there .here) ?_
   exact assign2_ hd ha hb (.head _) hk) fun _ _ _ _ _ h => h
end
theorem two_of {vs : List Value} {a b : Value} (h : vs.map nv = [a, b]) : ∃ x y, vs = [x, y] ∧ nv x = a ∧ nv y = b := by
 obtain ⟨x, l, rfl, e, h⟩ := List.map_eq_cons_iff.mp h
 obtain ⟨y, l, rfl, e', h⟩ := List.map_eq_cons_iff.mp h
 cases List.map_eq_nil_iff.mp h
 exact ⟨x, y, rfl, e, e'⟩
theorem three_of {vs : List Value} {a b c : Value} (h : vs.map nv = [a, b, c]) : ∃ x y z, vs = [x, y, z] ∧ nv x = a ∧ nv y = b ∧ nv z = c := by
 obtain ⟨x, l, rfl, e, h⟩ := List.map_eq_cons_iff.mp h
 obtain ⟨y, z, rfl, e1, e2⟩ := two_of h
 exact ⟨x, y, z, rfl, e, e1, e2⟩
section
variable {c : Cx} {u : Cu} {env : Env} {E : EP} {m : Loc} {n n' : Led} {Q : Value → Loc → Led → Prop}
noncomputable abbrev KUnp (c : Cx) (u : Cu) (env : Env) (E : EP) (k : Nat) (t : List Value → Sem Unit) (Q : Flow → Loc → Led → Prop) (v : Value) (m : Loc) (n : Led) : Prop := ∃ (T : Addr) (xs : List Value), v = .ref T ∧ (T, AObj.tup xs) ∈ n ∧ k = xs.length ∧ ∀ vs : List Value, vs.map nv = xs → V c u env (t vs) (KN Q) E m n
noncomputable abbrev unpT (env : Env) (elts : List Expr) (vs : List Value) : Sem Unit := assignInOrder ((assignEach elts env).map (·.2)) vs
noncomputable abbrev unpS (env : Env) (names : List Str) (vs : List Value) : Sem Unit := assignInOrder (names.reverse.map fun n => bindName env n) vs.reverse
theorem AssignTup_ {elts : List Expr} {k : Nat} {tpos pos : Pos} {value : Expr} {Q : Flow → Loc → Led → Prop} (hd : u.hd = none)
  (h : V c u env (eval value env) (KUnp c u env E (assignEach elts env).length (unpT env elts) Q) E m n)
  (hstar : autoParam ((assignEach elts env).findIdx? (·.1) = none) rfA)
  (hs : autoParam (swapsWithSole [.Tuple elts k tpos] value pos.line env = pure false) rfA) (hw : autoParam (swappedStores [.Tuple elts k tpos] value env = pure none) rfA) :
  V c u env (exec (.Assign [.Tuple elts k tpos] value pos) env) Q E m n :=
 V.i fun ok A hp tk fit md => Assign_Tuple (wpAny_mono (h.go ok A hp tk fit md) (fun v s q => q.el fun _ _ _ _ y ⟨T, xs, hv, hm, hl, z⟩ => by
  subst hv
  obtain ⟨vs, e, ho, em⟩ := tup_at (y.led _ hm)
  have hsz : (assignEach elts env).length = vs.size := by rw [hl, ← em]; simp
  refine wpAny_assign_Tuple (items := vs) (fit.handled.trans hd) ⟨_, ho, rfl, _, rfl⟩ hsz hstar fun h₁ he => ?_
  exact wpAny_mono ((z vs.toList em).go ok A h₁ _ fit (y.ext fun b o e => he b o (Nat.ne_of_lt (Heap.lt_size e)) e)) (fun _ _ z => z) fun _ _ z => z) fun _ _ x => x) hs hw
theorem AssignSw_ {elts : List Expr} {k : Nat} {tpos pos : Pos} {value : Expr} {names : List Str} {Q : Flow → Loc → Led → Prop} (hd : u.hd = none) (hw : swappedStores [.Tuple elts k tpos] value env = pure (some names))
  (h : V c u env (eval value env) (KUnp c u env E names.length (unpS env names) Q) E m n)
  (hs : autoParam (swapsWithSole [.Tuple elts k tpos] value pos.line env = pure false) rfA) : V c u env (exec (.Assign [.Tuple elts k tpos] value pos) env) Q E m n :=
 V.i fun ok A hp tk fit md => Assign_Tuple_swapped (wpAny_mono (h.go ok A hp tk fit md) (fun v s q => q.el fun _ _ _ _ y ⟨T, xs, hv, hm, hl, z⟩ => by
  subst hv
  obtain ⟨vs, e, ho, em⟩ := tup_at (y.led _ hm)
  have hsz : names.length = vs.size := by rw [hl, ← em]; simp
  rw [hsz]
  refine wpAny_unpackItems_tuple (items := vs) (fit.handled.trans hd) ⟨_, ho, rfl, _, rfl⟩ fun h₁ he => ?_
  exact wpAny_mono ((z vs.toList em).go ok A h₁ _ fit (y.ext fun b o e => he b o (Nat.ne_of_lt (Heap.lt_size e)) e)) (fun _ _ z => z) fun _ _ z => z) fun _ _ x => x) hs hw
theorem inOrd_ {t : Value → Sem Unit} {ts : List (Value → Sem Unit)} {x : Value} {xs : List Value} {Q : Unit → Loc → Led → Prop} (h : V c u env (t x) (Kf c u env E (fun _ => assignInOrder ts xs) Q) E m n) : V c u env (assignInOrder (t :: ts) (x :: xs)) Q E m n :=
 V.seq (fun h => assignInOrder_cons h) h
theorem inOrd0_ {Q : Unit → Loc → Led → Prop} (h : Q () m n) : V c u env (assignInOrder [] []) Q E m n := V.of_eq (t' := Pure.pure ()) (by rfl) (V.pure h)
theorem assignN_ {x : Str} {p : Pos} {v : Value} {Q : Unit → Loc → Led → Prop} (h : V c u env (storeName env x v) Q E m n) : V c u env (assign (.Name x p) env v) Q E m n := V.le wpAny_assign_Name h
theorem bindN_ {x : Str} {v : Value} {Q : Unit → Loc → Led → Prop} (h : V c u env (storeName env x v) Q E m n) : V c u env (bindName env x v) Q E m n := V.le wpAny_bindName h
section
variable {x y z : Value} {T : Addr} {t : List Value → Sem Unit} {Q : Flow → Loc → Led → Prop} {a b d : Str} {i j k : Int} {t1 t2 t3 : Tok} {p q : Addr} {w : Bool}
theorem unp2 (h : ∀ x' y', nv x' = x → nv y' = y → V c u env (t [x', y']) (KN Q) E m ((T, .tup [x, y]) :: n)) : KUnp c u env E 2 t Q (.ref T) m ((T, .tup [x, y]) :: n) :=
 ⟨T, _, rfl, .head _, rfl, fun vs hvs => by obtain ⟨x', y', rfl, e1, e2⟩ := two_of hvs; exact h x' y' e1 e2⟩
theorem unp3 (h : ∀ x' y' z', nv x' = x → nv y' = y → nv z' = z → V c u env (t [x', y', z']) (KN Q) E m ((T, .tup [x, y, z]) :: n)) : KUnp c u env E 3 t Q (.ref T) m ((T, .tup [x, y, z]) :: n) :=
 ⟨T, _, rfl, .head _, rfl, fun vs hvs => by obtain ⟨x', y', z', rfl, e1, e2, e3⟩ := three_of hvs; exact h x' y' z' e1 e2 e3⟩
theorem name2 {x y : Value} (ha : env.kindOf a = some .local) (hb : env.kindOf b = some .local) (h : Q .next ((a, x) :: (b, y) :: m) n) : V c u env (unpS env [a, b] [x, y]) (KN Q) E m n := inOrd_ (bindN_ (Store_ hb (inOrd_ (bindN_ (Store_ ha (inOrd0_ h))))))
theorem unpRR_ (h : V c u env (t [.ref p, .ref q]) (KN Q) E m ((T, .tup [.ref p, .ref q]) :: n)) : KUnp c u env E 2 t Q (.ref T) m ((T, .tup [.ref p, .ref q]) :: n) := unp2 fun x y e1 e2 => by rw [nv_ref e1, nv_ref e2]; exact h
theorem unpRB_ (h : V c u env (t [.ref p, .bool w]) (KN Q) E m ((T, .tup [.ref p, .bool w]) :: n)) : KUnp c u env E 2 t Q (.ref T) m ((T, .tup [.ref p, .bool w]) :: n) := unp2 fun x y e1 e2 => by rw [nv_ref e1, nv_bool e2]; exact h
theorem unpIII_ (h : ∀ t1' t2' t3', V c u env (t [.int i t1', .int j t2', .int k t3']) (KN Q) E m ((T, .tup [.int i t1, .int j t2, .int k t3]) :: n)) : KUnp c u env E 3 t Q (.ref T) m ((T, .tup [.int i t1, .int j t2, .int k t3]) :: n) := unp3 fun x y z e1 e2 e3 => by
 obtain ⟨_, rfl⟩ := nv_int e1; obtain ⟨_, rfl⟩ := nv_int e2; obtain ⟨_, rfl⟩ := nv_int e3; exact h _ _ _
theorem unpRRI_ (h : ∀ t', V c u env (t [.ref p, .ref q, .int k t']) (KN Q) E m ((T, .tup [.ref p, .ref q, .int k t3]) :: n)) : KUnp c u env E 3 t Q (.ref T) m ((T, .tup [.ref p, .ref q, .int k t3]) :: n) := unp3 fun x y z e1 e2 e3 => by
 obtain ⟨_, rfl⟩ := nv_int e3; rw [nv_ref e1, nv_ref e2]; exact h _
theorem unpII (ha : env.kindOf a = some .local) (hb : env.kindOf b = some .local) (h : ∀ t1' t2', Q .next ((a, .int i t1') :: (b, .int j t2') :: m) ((T, .tup [.int i t1, .int j t2]) :: n)) : KUnp c u env E 2 (unpS env [a, b]) Q (.ref T) m ((T, .tup [.int i t1, .int j t2]) :: n) := unp2 fun x y e1 e2 => by
 obtain ⟨_, rfl⟩ := nv_int e1; obtain ⟨_, rfl⟩ := nv_int e2; exact name2 ha hb (h _ _)
theorem unpRB (ha : env.kindOf a = some .local) (hb : env.kindOf b = some .local) (h : Q .next ((a, .ref p) :: (b, .bool w) :: m) ((T, .tup [.ref p, .bool w]) :: n)) : KUnp c u env E 2 (unpS env [a, b]) Q (.ref T) m ((T, .tup [.ref p, .bool w]) :: n) := unpRB_ (name2 ha hb h)
theorem unpRI (ha : env.kindOf a = some .local) (hb : env.kindOf b = some .local) (h : ∀ t', Q .next ((a, .ref p) :: (b, .int j t') :: m) ((T, .tup [.ref p, .int j t2]) :: n)) : KUnp c u env E 2 (unpS env [a, b]) Q (.ref T) m ((T, .tup [.ref p, .int j t2]) :: n) := unp2 fun x y e1 e2 => by
 obtain ⟨_, rfl⟩ := nv_int e2; rw [nv_ref e1]; exact name2 ha hb (h _)
theorem unpRR (ha : env.kindOf a = some .local) (hb : env.kindOf b = some .local) (h : Q .next ((a, .ref p) :: (b, .ref q) :: m) ((T, .tup [.ref p, .ref q]) :: n)) : KUnp c u env E 2 (unpS env [a, b]) Q (.ref T) m ((T, .tup [.ref p, .ref q]) :: n) := unpRR_ (name2 ha hb h)
end
theorem split_ {x : Str} {t : Tok} {ws : List Str} (hw : Txt.words x = ws) (hz : x.length ≤ 1000) (h : ∀ a, Q (.ref a) m ((a, .strs ws) :: n)) : V c u env (call (.builtin "str.split") [.str x t]) Q E m n :=
 V.lib fun A hp tk ok fit md news F N cov Q' E' q1 q2 => KSpl.split0 F N (fun D l h' k e1 e2 F' N' lt => q2 .ref _ D _ h' _ F' N' lt ⟨_, _, rfl, by
  rw [show (strValues l).toArray.toList = strValues l from rfl, of_strs e2, e1, hw]⟩ (h D)) (by rw [sizeLine_eq]; lia)
theorem getMSplit_ {x : Str} {t : Tok} {pl : Sem Bool} {Q : Value × List Value → Loc → Led → Prop} (h : Q (.builtin "str.split", [.str x t]) m n) : V c u env (getMethod (.str x t) (Str.ofString "split") pl) Q E m n :=
 V.val _ (fun A hp tk ok fit md Q' E' hq => PySem.GM.split (hq _)) h
theorem subStr_ {value slice : Expr} {x : Str} {k : Int} {t t' : Tok} {p : Nat} (h0 : 0 ≤ k) (h1 : k < 10000) (hc : x.cps[k.toNat]? = some p)
  (hs : subscripted slice false (.str x t) (.int k t') = operate [.str x t, .int k t'] (getItem (.str x t) (.int k t'))) (h : ∀ t, Q (.str ⟨#[p]⟩ t) m n) : V c u env (subscriptTail value slice (.str x t) (.int k t')) Q E m n :=
 V.tok (fun t => .str ⟨#[p]⟩ t) (fun A hp tk ok fit md Q' E' hq => tail_any (T := "str") (PySem.typeIs_str _ x t) PySem.F.slot_str_getitem.lookup (PySem.P.getItem_str (c := p) (by simp; lia) (by
  have hlt := (Array.getElem?_eq_some_iff.mp hc).1
  rw [seqIndex_nat h0 rfl (show k.toNat < x.length from hlt), Option.bind_some]; exact hc) (hq _ _)) hs) h
theorem isTup_ {a : Addr} {xs : List Value} (hm : (a, AObj.tup xs) ∈ n) (h : Q (.bool true) m n) : V c u env (call (.builtin "isinstance") [.ref a, .type "tuple"]) Q E m n :=
 V.val _ (fun A hp tk ok fit md Q' E' hq => by
  obtain ⟨vs, e, ho, em⟩ := tup_at (md.led _ hm)
  exact call_isinstance_yes (Tx := "tuple") ⟨_, ho, rfl⟩ (by kernel_rfl) (by rw [isSubtype_type]; kernel_rfl) (hq _)) h
structure NotTup (K : Frag) (C : Addr) : Prop where
 e : kin_notT K C "tuple" = true
 g : plainGet K C "__class__" = true
 d : hasDictIn K C = true
 a : findIn K (.ref C) "__class__" = some (some (.builtin "object.__class__"))
 n : specialIn K (.builtin "object.__class__") "__get__" = some (some (.builtin "getset_descriptor.__get__"))
 t : takesIn K (.builtin "object.__class__") = some true
 m : mroIn K C (.type "object") = some true
theorem isTupNo_ {a C d : Addr} {as : List (Str × Value)} (hm : (a, AObj.inst C d as) ∈ n) (st : NotTup c.K C) (h : Q (.bool false) m n) : V c u env (call (.builtin "isinstance") [.ref a, .type "tuple"]) Q E m n :=
 V.val _ (fun A hp tk ok fit md Q' E' hq => by
  obtain ⟨od, es, k, I, h2, h3, h4, h5, h6⟩ := inst_at (md.led _ hm)
  exact kin_callT (ok.X.keeps md.keep) I st.e (by kernel_rfl) st.g st.d st.a st.n st.t st.m (hq _)) h
noncomputable def pdv : Value → PyData
 | .int i _ => .int i
 | .str x _ => .str x
 | .bool b => .bool b
 | _ => .none
noncomputable def flatV : Value → Bool
 | .int _ _ => true
 | .str _ _ => true
 | .bool _ => true
 | .none => true
 | _ => false
theorem reads_flat {h : Heap} : ∀ vs : List Value, (∀ v ∈ vs, flatV v = true) → ReadsAll h vs (vs.map pdv) []
 | [], _ => .nil
 | v :: vs, hf => by
  have r := reads_flat (h := h) vs fun v hv => hf v (.tail _ hv)
  have hv := hf v (.head _)
  have : Reads h v (pdv v) [] := by
   cases v <;> simp only [flatV, Bool.false_eq_true] at hv <;> constructor
  exact ReadsAll.cons this r
theorem flat_nv {vs xs : List Value} (e : vs.map nv = xs) (hf : ∀ x ∈ xs, flatV x = true) : (∀ v ∈ vs, flatV v = true) ∧ vs.map pdv = xs.map pdv := by
 subst e
 refine ⟨fun v hv => ?_, ?_⟩
 ·have := hf (nv v) (List.mem_map_of_mem hv)
  cases v <;> first | rfl | (simp [nv, flatV] at this)
 ·rw [List.map_map]
  refine List.map_congr_left fun v _ => ?_
  cases v <;> rfl
theorem room_ {A : Around} (fit : Fits u env A) (hr : 8 ≤ u.r) : A.units + 64 < cLine := by have := fit.units; lia
theorem eqL_ {a b : Addr} {xs ys : List Value} (hr : 8 ≤ u.r) (ha : (a, AObj.list xs) ∈ n) (hb : (b, AObj.list ys) ∈ n) (fx : ∀ x ∈ xs, flatV x = true) (fy : ∀ x ∈ ys, flatV x = true) (sx : SeqAt.shaped (.list (xs.map pdv)) = true) (sy : SeqAt.shaped (.list (ys.map pdv)) = true)
  (h : Q (.bool (PyData.eqv (.list (xs.map pdv)) (.list (ys.map pdv)))) m n) : V c u env (compareOp .Eq (.ref a) (.ref b)) Q E m n :=
 V.val _ (fun A hp tk ok fit md Q' E' hq => by
  obtain ⟨vs, e, ho, em⟩ := list_at (md.led _ ha)
  obtain ⟨us, e', ho', em'⟩ := list_at (md.led _ hb)
  obtain ⟨f1, g1⟩ := flat_nv em fx
  obtain ⟨f2, g2⟩ := flat_nv em' fy
  exact eq_dataH (reads_list_at ho rfl rfl (g1 ▸ reads_flat _ f1)) (reads_list_at ho' rfl rfl (g2 ▸ reads_flat _ f2)) sx sy (room_ fit hr) (hq _)) h
theorem eqT_ {a b : Addr} {xs ys : List Value} (hr : 8 ≤ u.r) (ha : (a, AObj.tup xs) ∈ n) (hb : (b, AObj.tup ys) ∈ n) (fx : ∀ x ∈ xs, flatV x = true) (fy : ∀ x ∈ ys, flatV x = true) (sx : SeqAt.shaped (.tuple (xs.map pdv)) = true) (sy : SeqAt.shaped (.tuple (ys.map pdv)) = true)
  (h : Q (.bool (PyData.eqv (.tuple (xs.map pdv)) (.tuple (ys.map pdv)))) m n) : V c u env (compareOp .Eq (.ref a) (.ref b)) Q E m n :=
 V.val _ (fun A hp tk ok fit md Q' E' hq => by
  obtain ⟨vs, e, ho, em⟩ := tup_at (md.led _ ha)
  obtain ⟨us, e', ho', em'⟩ := tup_at (md.led _ hb)
  obtain ⟨f1, g1⟩ := flat_nv em fx
  obtain ⟨f2, g2⟩ := flat_nv em' fy
  exact eq_dataH (reads_tuple_at ho rfl rfl (g1 ▸ reads_flat _ f1)) (reads_tuple_at ho' rfl rfl (g2 ▸ reads_flat _ f2)) sx sy (room_ fit hr) (hq _)) h
mutual
noncomputable def DT.pd : DT → PyData
 | .int i => .int i
 | .bool b => .bool b
 | .tup l => .tuple (DT.pdL l)
noncomputable def DT.pdL : List DT → List PyData
 | [] => []
 | t :: ts => t.pd :: DT.pdL ts
end
mutual
theorem DT.reads {h : Heap} : ∀ (t : DT) (v : Value) (as : List Addr), t.at h v as → ∃ bs, Reads h v t.pd bs
 | .int i, v, as, x => by unfold DT.at at x; obtain ⟨t, rfl⟩ := x; exact ⟨_, .int i t⟩
 | .bool b, v, as, x => by unfold DT.at at x; subst x; exact ⟨_, .bool b⟩
 | .tup l, v, as, x => by
  unfold DT.at at x
  obtain ⟨a, vs, k, rfl, _, ho, r⟩ := x
  obtain ⟨bs, r⟩ := DT.readsL l vs.toList as r
  exact ⟨_, .tuple ho rfl rfl r⟩
theorem DT.readsL {h : Heap} : ∀ (ts : List DT) (vs : List Value) (as : List Addr), DT.atL h ts vs as → ∃ bs, ReadsAll h vs (DT.pdL ts) bs
 | [], vs, as, x => by unfold DT.atL at x; rw [x]; exact ⟨_, .nil⟩
 | t :: ts, vs, as, x => by
  unfold DT.atL at x
  obtain ⟨v, vr, rfl, x1, x2⟩ := x
  obtain ⟨b1, r1⟩ := DT.reads t v as x1
  obtain ⟨b2, r2⟩ := DT.readsL ts vr as x2
  exact ⟨_, .cons r1 r2⟩
end
theorem neDeep_ {a b : Addr} {t : DT} {as bs : List Addr} (hr : 8 ≤ u.r) (ha : (a, AObj.deep t as) ∈ n) (hb : (b, AObj.deep t bs) ∈ n) (sx : SeqAt.shaped t.pd = true) (h : Q (.bool false) m n) : V c u env (compareOp .NotEq (.ref a) (.ref b)) Q E m n :=
 V.val _ (fun A hp tk ok fit md Q' E' hq => by
  obtain ⟨cs, r1⟩ := DT.reads _ _ _ (show t.at hp (.ref a) as from (md.led _ ha).1)
  obtain ⟨ds, r2⟩ := DT.reads _ _ _ (show t.at hp (.ref b) bs from (md.led _ hb).1)
  refine ne_dataH r1 r2 sx sx (room_ fit hr) ?_
  rw [PySem.SeqAt.eqv_refl _ (SeqAt.canLay_of_shaped sx)]
  exact hq _) h
theorem DT.getL {h : Heap} : ∀ {ts : List DT} {vs : List Value} {as : List Addr} {k : Nat} {t : DT}, DT.atL h ts vs as → ts[k]? = some t → ∃ v bs, vs[k]? = some v ∧ t.at h v bs
 | [], _, _, _, _, _, e => by simp at e
 | t₀ :: ts, vs, as, k, t, x, e => by
  unfold DT.atL at x
  obtain ⟨v, vr, rfl, x1, x2⟩ := x
  cases k with
  | zero => simp at e; subst e; exact ⟨v, as, rfl, x1⟩
  | succ k =>
   obtain ⟨v', bs, e1, y⟩ := DT.getL (k := k) x2 (by simpa using e)
   exact ⟨v', bs, by simpa using e1, y⟩
theorem subDI_ {value slice : Expr} {a : Addr} {l : List DT} {as : List Addr} {k i : Int} {t : Tok} (hm : (a, AObj.deep (.tup l) as) ∈ n) (h0 : 0 ≤ k) (hk : k < 10000) (hx : l[k.toNat]? = some (.int i))
  (hs : subscripted slice false (.ref a) (.int k t) = operate [.ref a, .int k t] (getItem (.ref a) (.int k t))) (h : ∀ t, Q (.int i t) m n) : V c u env (subscriptTail value slice (.ref a) (.int k t)) Q E m n :=
 V.tok (fun t => .int i t) (fun A hp tk ok fit md Q' E' hq => by
  have x : (DT.tup l).at hp (.ref a) as := (md.led _ hm).1
  unfold DT.at at x
  obtain ⟨a', vs, e, ea, _, ho, r⟩ := x
  cases ea
  obtain ⟨v, bs, hv, y⟩ := DT.getL r hx
  unfold DT.at at y
  obtain ⟨t', rfl⟩ := y
  have hl : IsTup hp a vs := ⟨_, ho, rfl, e, rfl⟩
  have hv' : vs[k.toNat]? = some (.int i t') := by simpa using hv
  exact tail_any (IsTup.typeIs (s := ⟨hp, _, _, _, _⟩) hl) slot_tuple_getitem.lookup (PyProof.Rows.getItem_tuple hl (by lia) (by lia) (seqIndex_nat h0 rfl (Array.getElem?_eq_some_iff.mp hv').1) hv' (hq t' _)) hs) h
theorem subDB_ {value slice : Expr} {a : Addr} {l : List DT} {as : List Addr} {k : Int} {b : Bool} {t : Tok} (hm : (a, AObj.deep (.tup l) as) ∈ n) (h0 : 0 ≤ k) (hk : k < 10000) (hx : l[k.toNat]? = some (.bool b))
  (hs : subscripted slice false (.ref a) (.int k t) = operate [.ref a, .int k t] (getItem (.ref a) (.int k t))) (h : Q (.bool b) m n) : V c u env (subscriptTail value slice (.ref a) (.int k t)) Q E m n :=
 V.val (.bool b) (fun A hp tk ok fit md Q' E' hq => by
  have x : (DT.tup l).at hp (.ref a) as := (md.led _ hm).1
  unfold DT.at at x
  obtain ⟨a', vs, e, ea, _, ho, r⟩ := x
  cases ea
  obtain ⟨v, bs, hv, y⟩ := DT.getL r hx
  unfold DT.at at y
  subst y
  have hl : IsTup hp a vs := ⟨_, ho, rfl, e, rfl⟩
  have hv' : vs[k.toNat]? = some (.bool b) := by simpa using hv
  exact tail_any (IsTup.typeIs (s := ⟨hp, _, _, _, _⟩) hl) slot_tuple_getitem.lookup (PyProof.Rows.getItem_tuple hl (by lia) (by lia) (seqIndex_nat h0 rfl (Array.getElem?_eq_some_iff.mp hv').1) hv' (hq _)) hs) h
theorem neMap0_ {a b : Addr} (hr : 1 ≤ u.r) (sa : (a == sysModules) = false) (sb : (b == sysModules) = false) (ha : (a, AObj.imap c.w []) ∈ n) (hb : (b, AObj.imap c.w []) ∈ n) (h : Q (.bool false) m n) : V c u env (compareOp .NotEq (.ref a) (.ref b)) Q E m n :=
 V.val _ (fun A hp tk ok fit md Q' E' hq => by
  obtain ⟨ka, da, ea⟩ := imap_at (md.led _ ha)
  obtain ⟨kb, db, eb⟩ := imap_at (md.led _ hb)
  have : ka = [] := by simpa using ea
  subst this
  have : kb = [] := by simpa using eb
  subst this
  exact keq_ne (r := true) sa sb da db (by have := fit.units; lia) (fun _ => .nil) (hq _)) h
end
section
variable {c : Cx} {u : Cu} {env : Env} {E : EP} {m : Loc} {n n' : Led} {Q : Value → Loc → Led → Prop}
theorem DictS_ {keys : List (Option Expr)} {values : List Expr} {pos : Pos} (hall : keys.all (·.isSome) = true) (hl : keys.length = values.length) (h0 : keys ≠ []) (hlen : keys.length ≤ 15)
  (h : ∀ d, V c u env (evalPairs (pairTrees keys values env pos)) (fun vs m n' => allStrKeys vs = true ∧ ((strPairs vs).map (·.1)).Nodup ∧ ∃ n₁, Put d (.smap c.w []) (.smap c.w ((strPairs vs).map fun p => (p.1, nv p.2))) n' n₁ ∧ Q (.ref d) m n₁) E m ((d, .smap c.w []) :: n)) :
  V c u env (eval (.Dict keys values pos) env) Q E m n :=
 V.i fun ok A hp tk fit md => by
  refine wpAny_Dict_walk (knd := strKind P c.w) hall hl h0 hlen ?_
  have md1 : Mod c ((env, m) :: u.fs) ((hp.objs.size, .smap c.w []) :: n) (hp.push { cls := .type "dict", data := .dict #[] }) :=
   md.pushed rfl ⟨[], 0, ⟨#[], ⟨rfl, rfl, rfl⟩, rfl, (fun e he => by simp at he), .nil, by simp⟩, rfl⟩
  refine wpAny_mono ((h hp.objs.size).go ok A _ _ fit md1) (fun vs s ⟨sm, m', n', y, hk, hn, n₁, hput, z⟩ => ?_) fun _ _ x => x
  obtain ⟨kvs, d, em⟩ := smap_at (y.led _ hput.mem)
  have : kvs = [] := by simpa using em
  subst this
  refine display_done_str hk hn d fun h' d' hs => ?_
  exact ⟨sm, m', n₁, y.put (x := hp.objs.size) hput (fun b hb => hs.2 b hb) fp_one rfl (smap_rep d'), z⟩
theorem pair_ {k v : Expr} {ks : List (Option Expr)} {vs : List Expr} {pos : Pos} {Q : List (Value × Value) → Loc → Led → Prop}
  (h : V c u env (eval k env) (fun kv m n => V c u env (eval v env) (fun vv m n => V c u env (evalPairs (pairTrees ks vs env pos)) (fun r m n => Q ((kv, vv) :: r) m n) E m n) E m n) E m n) : V c u env (evalPairs (pairTrees (some k :: ks) (v :: vs) env pos)) Q E m n :=
 V.i fun ok A hp tk fit md => pairTrees_cons_walk (wpAny_mono (h.go ok A hp tk fit md) (fun _ _ q => wpAny_mono (q.go ok fit) (fun _ _ q => q.go ok fit) fun _ _ x => x) fun _ _ x => x)
theorem pair0_ {pos : Pos} {Q : List (Value × Value) → Loc → Led → Prop} (h : Q [] m n) : V c u env (evalPairs (pairTrees [] [] env pos)) Q E m n :=
 V.i fun ok A hp tk fit md => pairTrees_nil_walk ⟨⟨rfl, rfl, rfl⟩, m, n, md, h⟩
theorem listKeys_ {d : Addr} {l : Mem} (hd : u.hd = none) (hs : (d == sysModules) = false) (hm : (d, AObj.mem c.w l) ∈ n) (hz : l.length ≤ 10000) (h : ∀ b, Q (.ref b) m ((b, .ints (l.map (·.1))) :: n)) : V c u env (call (.type "list") [.ref d]) Q E m n :=
 V.lib fun A hp tk ok fit md news F N cov Q' E' q1 q2 => by
  obtain ⟨kvs, D, em⟩ := imap_at (md.led _ hm)
  obtain ⟨ep, D⟩ := D.dictAt
  have hlen : kvs.length = l.length := by have := congrArg List.length em; simpa using this
  refine kdl_N (kdl_dict (knd := intKind P c.w) (kvs := kvs) (ep := ep) hs) (fit.handled.trans hd) F N D (by rw [sizeLine_eq]; lia) fun D' k h' tk' vs F' N' lt hl hv => q2 .ref _ D' _ h' _ F' N' lt ⟨_, _, rfl, ?_⟩ (h D')
  refine List.ext_getElem? fun i => ?_
  show (vs.map nv)[i]? = ((l.map (·.1)).map vi)[i]?
  rw [List.getElem?_map, List.getElem?_map, List.getElem?_map]
  cases q : vs[i]? with
  | some v =>
   obtain ⟨k', x, e1, e2⟩ := hv i v q
   obtain ⟨t, rfl⟩ := Value.isInt_shape e2
   have := congrArg (fun z => z[i]?) em
   simp only [List.getElem?_map, e1, Option.map_some] at this
   cases q2 : l[i]? with
   | none => rw [q2] at this; cases this
   | some p =>
    rw [q2] at this
    simp only [Option.map_some, Option.some.injEq, Prod.mk.injEq] at this
    simp [nv, vi, this.1]
  | none =>
   have h1 := List.getElem?_eq_none_iff.mp q
   have : l[i]? = none := List.getElem?_eq_none (by lia)
   rw [this]; rfl
theorem callL_ {f : Addr} {first : List Value} {a : Expr} {r : List Expr} {pos : Pos} {pr : Obj → Prop} (hpr : ∀ o, pr o → ∃ fd, o.data = .func fd) (he : starEach (a :: r) env = (false, eval a env) :: starEach r env) (hp : ((backTo pos (starEach (a :: r) env)).any (·.1)) = false)
  (h : V c u env (spliced (backTo pos (starEach (a :: r) env))) (fun vs m n => (f, AObj.one pr) ∈ n ∧ V c u env (call (.ref f) (first ++ vs)) Q E m n) E m n) : V c u env (callWith pos (.ref f) first (backTo pos (starEach (a :: r) env)) []) Q E m n :=
 V.i fun ok A hh tk fit md => callWith_of (P := fun h => ∃ o, h.get? f = some o ∧ pr o) (by rw [hp]; rfl) (fun h ⟨o, ho, hpo⟩ => by
  obtain ⟨fd, hfd⟩ := hpr o hpo
  refine ⟨.frame, .inl rfl, (Looks.ld (part := none) ho).andThen ?_⟩
  rw [hfd]
  exact .now) (by
  have key := wpAny_mono (h.go ok A hh tk fit md) (fun vs s q => q.el (G := fun s => (∃ o, s.heap.get? f = some o ∧ pr o) ∧ wpAny (model P c.w) A (call (.ref f) (first ++ vs) []) _ _ s) fun _ _ _ _ y ⟨hmem, z⟩ => ⟨y.led _ hmem, z.go ok A _ _ fit y⟩) fun _ _ x => x
  rw [he] at key ⊢
  exact evalArgs_plain key)
end
noncomputable def AObj.clos (name qual : Str) (params : Arguments) (body : List Stmt) (scope : Scope) (cl : List (Str × Addr)) (pm : Value) (c' : Addr) : AObj := .one fun o => ∃ doc ctv, o = fnMade name qual params body scope cl doc pm c' ctv
noncomputable def AObj.code (qual : Str) : AObj := .one fun o => ∃ vs t, o.data = .fields vs ∧ vs[1]? = some (.str qual t)
section
variable {c : Cx} {u : Cu} {env : Env} {E : EP} {m : Loc} {n n' : Led}
theorem CallN_ {Q : Value → Loc → Led → Prop} {f c' : Addr} {name qual : Str} {params : Arguments} {body : List Stmt} {scope : Scope} {cl : List (Str × Addr)} {pm : Value} {args : List Value} {binds m₀ : List (Str × Value)}
  (hm : (f, AObj.clos name qual params body scope cl pm c') ∈ n) (hc : (c', AObj.code qual) ∈ n)
  (B : ∀ doc ctv, bindArgs (fnX name qual params body scope cl .none .none doc pm none (.ref c') ctv) ⟨args, []⟩ = Pure.pure binds)
  (hcell : (scope.names.all fun x => x.2 != .cell) = true) (hloc : (binds.all fun y => decide (scope.names.lookup y.1 = some .local)) = true) (hm₀ : binds.reverse = m₀) (hco : scope.isCoroutine = false) (hgen : scope.isGenerator = false) (hk : scope.kind = .function) (hr : 1 ≤ u.r)
  (hv : ∀ L, let e := envX qual scope L f (.ref c') cl; let w := u.into e env m; let q := KRet Q m; let x := ECall E m; V c w e (execs body e) q x m₀ n) :
  V c u env (call (.ref f) args) Q E m n := V.i fun ok A h tk fit md => by
 subst hm₀
 obtain ⟨o, hat, doc, ctv, rfl⟩ := md.led _ hm
 obtain ⟨oc, hoc, vs, t, hod, hvs⟩ := md.led _ hc
 have hd : A.depth < recursionLimit := Nat.lt_of_le_of_lt (Nat.le_add_right _ _) fit.depth
 refine wpAny_call (codeAny_call_def (fd := fnX name qual params body scope cl .none .none doc pm none (.ref c') ctv) (body := body) (binds := binds) hd hat rfl (ok.nolimit.keeps md.keep) ⟨c', oc, vs, t, rfl, hoc, hod, hvs⟩ rfl
  (BindsTo.of_eq (B doc ctv)) (fun x hx => ?_) (locs hloc) (fun h₁ hns hk₁ => ?_) hco hgen hk)
 ·have := List.all_eq_true.mp hcell x hx
  simpa using this
 ·let env' : Env := envX qual scope h.objs.size f (.ref c') cl
  show wpAny (model P c.w) (A.deeper env') (execs body env') _ _ _
  have fit' : Fits (u.into env' env m) env' (A.deeper env') := by
   refine ⟨?_, fit.handled, ?_, ?_, hk, fun e he => ?_⟩
   ·show A.frames.map (env' :: ·) = some (env' :: u.fl); rw [fit.frames]; rfl
   ·exact lessD hr (Nat.le_refl 1) fit.depth
   ·exact lessU hr (k := 3) (by decide) fit.units
   ·rcases List.mem_cons.mp he with rfl | he
    ·exact ⟨.head _, rfl, hk⟩
    ·have := fit.own e he
     exact ⟨List.mem_cons_of_mem _ (by simpa only [Cu.into, List.map_cons] using this.1), this.2⟩
  have md' : Mod c ((env', binds.reverse) :: (u.into env' env m).fs) n h₁ := md.push hk₁ hns (Nat.le_refl _) md.size
  refine wpAny_mono ((hv h.objs.size).go ok _ h₁ _ fit' md') (fun fl s q => ?_) (fun x s q => ?_)
  ·exact q.el fun _ _ _ n' y z => ⟨⟨rfl, rfl, rfl⟩, m, n', y.pop, z⟩
  ·refine q.el fun _ _ k e d m' n' y g o z => ?_
   exact leave_ fit' rfl y g o fun h'' y' g' => ⟨⟨rfl, rfl, rfl⟩, _, e, d, m, n', rfl, y'.pop, g', .inr (.inl rfl), z⟩
end
noncomputable def fnGood (K : Frag) (s : Stmt) (cd : Addr) (qn : Str) : Bool := codeIn K (.ref cd) qn && (decide ((scopeOf s).kind = .function) && (!(scopeOf s).isCoroutine && (!(scopeOf s).isGenerator && (scopeOf s).names.all fun x => x.2 != .cell)))
theorem Fn.of {K : Frag} {s : Stmt} {f cd : Addr} {qn : Str} {dV : Value} (nm md : Str) (t : Tok) (h : K.lookup f = some (fO s nm qn dV md t cd)) (g : fnGood K s cd qn = true) : Fn K f cd qn (paramsOf s) (bodyOf s) (scopeOf s) dV := by
 unfold fnGood at g
 simp only [Bool.and_eq_true, decide_eq_true_eq, Bool.not_eq_true'] at g
 exact ⟨⟨⟨_, _, _, _, _, h⟩, g.1, g.2.1, g.2.2.1, g.2.2.2.1⟩, g.2.2.2.2⟩
noncomputable def smask : Stmt := (stAt 5)
theorem fmask (p : Params) : Fn (myK p) 80 79 n_mask (paramsOf smask) (bodyOf smask) (scopeOf smask) .none := .of n_mask n_octetmintDotbasics 194 (by kernel_rfl) (by kernel_rfl)
noncomputable def swrap : Stmt := (stAt 6)
theorem fwrap (p : Params) : Fn (myK p) 87 86 n_wrap (paramsOf swrap) (bodyOf swrap) (scopeOf swrap) .none := .of n_wrap n_octetmintDotbasics 194 (by kernel_rfl) (by kernel_rfl)
noncomputable def sbit : Stmt := (stAt 7)
theorem fbit (p : Params) : Fn (myK p) 94 93 n_bit (paramsOf sbit) (bodyOf sbit) (scopeOf sbit) .none := .of n_bit n_octetmintDotbasics 194 (by kernel_rfl) (by kernel_rfl)
noncomputable def srun_planted : Stmt := (stAt 14)
theorem frun_planted (p : Params) : Fn (myK p) 169 168 n_run_planted (paramsOf srun_planted) (bodyOf srun_planted) (scopeOf srun_planted) .none := .of n_run_planted n_octetmintDotdebug 306 (by kernel_rfl) (by kernel_rfl)
noncomputable def searly_names : Stmt := (stAt 41)
theorem fearly_names (p : Params) : Fn (myK p) 379 378 n_early_names (paramsOf searly_names) (bodyOf searly_names) (scopeOf searly_names) .none := .of n_early_names n_octetmintDotregisters 621 (by kernel_rfl) (by kernel_rfl)
noncomputable def sgpr : Stmt := (stAt 43)
theorem fgpr (p : Params) : Fn (myK p) 393 392 n_gpr (paramsOf sgpr) (bodyOf sgpr) (scopeOf sgpr) .none := .of n_gpr n_octetmintDotregisters 621 (by kernel_rfl) (by kernel_rfl)
noncomputable def sjoined_machine : Stmt := (stAt 48)
theorem fjoined_machine (p : Params) : Fn (myK p) 494 493 n_joined (paramsOf sjoined_machine) (bodyOf sjoined_machine) (scopeOf sjoined_machine) .none := .of n_joined n_octetmintDotmachine 724 (by kernel_rfl) (by kernel_rfl)
noncomputable def sdone : Stmt := (stAt 51)
theorem fdone (p : Params) : Fn (myK p) 611 610 n_done (paramsOf sdone) (bodyOf sdone) (scopeOf sdone) .none := .of n_done n_octetmintDotmachine 724 (by kernel_rfl) (by kernel_rfl)
noncomputable def sproceed : Stmt := (stAt 52)
theorem fproceed (p : Params) : Fn (myK p) 618 617 n_proceed (paramsOf sproceed) (bodyOf sproceed) (scopeOf sproceed) .none := .of n_proceed n_octetmintDotmachine 724 (by kernel_rfl) (by kernel_rfl)
noncomputable def sneed_running : Stmt := (stAt 53)
theorem fneed_running (p : Params) : Fn (myK p) 625 624 n_need_running (paramsOf sneed_running) (bodyOf sneed_running) (scopeOf sneed_running) .none := .of n_need_running n_octetmintDotmachine 724 (by kernel_rfl) (by kernel_rfl)
noncomputable def sstep_row : Stmt := (stAt 54)
theorem fstep_row (p : Params) : Fn (myK p) 632 631 n_step_row (paramsOf sstep_row) (bodyOf sstep_row) (scopeOf sstep_row) .none := .of n_step_row n_octetmintDotmachine 724 (by kernel_rfl) (by kernel_rfl)
noncomputable def smove_deed : Stmt := (stAt 77)
theorem fmove_deed (p : Params) : Fn (myK p) 911 910 n_move_deed (paramsOf smove_deed) (bodyOf smove_deed) (scopeOf smove_deed) .none := .of n_move_deed (Str.ofString "octetmint.transfers") 1396 (by kernel_rfl) (by kernel_rfl)
noncomputable def spush_operand : Stmt := (stAt 78)
theorem fpush_operand (p : Params) : Fn (myK p) 918 917 n_push_operand (paramsOf spush_operand) (bodyOf spush_operand) (scopeOf spush_operand) .none := .of n_push_operand (Str.ofString "octetmint.transfers") 1396 (by kernel_rfl) (by kernel_rfl)
noncomputable def spop_operand : Stmt := (stAt 79)
theorem fpop_operand (p : Params) : Fn (myK p) 925 924 n_pop_operand (paramsOf spop_operand) (bodyOf spop_operand) (scopeOf spop_operand) .none := .of n_pop_operand (Str.ofString "octetmint.transfers") 1396 (by kernel_rfl) (by kernel_rfl)
noncomputable def sstack_deed : Stmt := (stAt 80)
theorem fstack_deed (p : Params) : Fn (myK p) 932 931 n_stack_deed (paramsOf sstack_deed) (bodyOf sstack_deed) (scopeOf sstack_deed) .none := .of n_stack_deed (Str.ofString "octetmint.transfers") 1396 (by kernel_rfl) (by kernel_rfl)
noncomputable def starget_of : Stmt := (stAt 81)
theorem ftarget_of (p : Params) : Fn (myK p) 939 938 n_target_of (paramsOf starget_of) (bodyOf starget_of) (scopeOf starget_of) .none := .of n_target_of (Str.ofString "octetmint.transfers") 1396 (by kernel_rfl) (by kernel_rfl)
noncomputable def scount_down : Stmt := (stAt 82)
theorem fcount_down (p : Params) : Fn (myK p) 946 945 n_count_down (paramsOf scount_down) (bodyOf scount_down) (scopeOf scount_down) .none := .of n_count_down (Str.ofString "octetmint.transfers") 1396 (by kernel_rfl) (by kernel_rfl)
noncomputable def sis_taken : Stmt := (stAt 83)
theorem fis_taken (p : Params) : Fn (myK p) 953 952 n_is_taken (paramsOf sis_taken) (bodyOf sis_taken) (scopeOf sis_taken) .none := .of n_is_taken (Str.ofString "octetmint.transfers") 1396 (by kernel_rfl) (by kernel_rfl)
noncomputable def sjump_deed : Stmt := (stAt 84)
theorem fjump_deed (p : Params) : Fn (myK p) 960 959 n_jump_deed (paramsOf sjump_deed) (bodyOf sjump_deed) (scopeOf sjump_deed) .none := .of n_jump_deed (Str.ofString "octetmint.transfers") 1396 (by kernel_rfl) (by kernel_rfl)
noncomputable def stransfer_deed : Stmt := (stAt 103)
theorem ftransfer_deed (p : Params) : Fn (myK p) 1082 1081 n_transfer_deed (paramsOf stransfer_deed) (bodyOf stransfer_deed) (scopeOf stransfer_deed) .none := .of n_transfer_deed (Str.ofString "octetmint.transfers") 1396 (by kernel_rfl) (by kernel_rfl)
noncomputable def s_law_raw : Stmt := (stAt 106)
theorem f_law_raw (p : Params) : Fn (myK p) 1089 1088 n__law_raw (paramsOf s_law_raw) (bodyOf s_law_raw) (scopeOf s_law_raw) .none := .of n__law_raw n_law_nn0085_01 1682 (by kernel_rfl) (by kernel_rfl)
noncomputable def s_law_draw : Stmt := (stAt 107)
theorem f_law_draw (p : Params) : Fn (myK p) 1096 1095 n__law_draw (paramsOf s_law_draw) (bodyOf s_law_draw) (scopeOf s_law_draw) .none := .of n__law_draw n_law_nn0085_01 1682 (by kernel_rfl) (by kernel_rfl)
noncomputable def s_law_reg : Stmt := (stAt 108)
theorem f_law_reg (p : Params) : Fn (myK p) 1103 1102 n__law_reg (paramsOf s_law_reg) (bodyOf s_law_reg) (scopeOf s_law_reg) .none := .of n__law_reg n_law_nn0085_01 1682 (by kernel_rfl) (by kernel_rfl)
noncomputable def s_law_row : Stmt := (stAt 109)
theorem f_law_row (p : Params) : Fn (myK p) 1110 1109 n__law_row (paramsOf s_law_row) (bodyOf s_law_row) (scopeOf s_law_row) .none := .of n__law_row n_law_nn0085_01 1682 (by kernel_rfl) (by kernel_rfl)
noncomputable def s_law_program : Stmt := (stAt 110)
theorem f_law_program (p : Params) : Fn (myK p) 1117 1116 n__law_program (paramsOf s_law_program) (bodyOf s_law_program) (scopeOf s_law_program) .none := .of n__law_program n_law_nn0085_01 1682 (by kernel_rfl) (by kernel_rfl)
noncomputable def s_law_recorded : Stmt := (stAt 111)
theorem f_law_recorded (p : Params) : Fn (myK p) 1124 1123 n__law_recorded (paramsOf s_law_recorded) (bodyOf s_law_recorded) (scopeOf s_law_recorded) .none := .of n__law_recorded n_law_nn0085_01 1682 (by kernel_rfl) (by kernel_rfl)
noncomputable def s_law_run : Stmt := (stAt 112)
theorem f_law_run (p : Params) : Fn0 (myK p) 1129 1128 (Str.ofString "_law_run") (paramsOf s_law_run) (bodyOf s_law_run) (scopeOf s_law_run) .none :=
 ⟨⟨.type "function", none, #[], Str.ofString "_law_run", .str (Str.ofString "law_nn0085_01") 1682, by kernel_rfl⟩, by kernel_rfl, by kernel_rfl, by kernel_rfl, by kernel_rfl⟩
noncomputable def s_law_looked : Stmt := (stAt 113)
theorem f_law_looked (p : Params) : Fn0 (myK p) 1134 1133 (Str.ofString "_law_looked") (paramsOf s_law_looked) (bodyOf s_law_looked) (scopeOf s_law_looked) .none :=
 ⟨⟨.type "function", none, #[], Str.ofString "_law_looked", .str (Str.ofString "law_nn0085_01") 1682, by kernel_rfl⟩, by kernel_rfl, by kernel_rfl, by kernel_rfl, by kernel_rfl⟩
noncomputable def s_law_deed : Stmt := (stAt 114)
theorem f_law_deed (p : Params) : Fn0 (myK p) 1139 1138 (Str.ofString "_law_deed") (paramsOf s_law_deed) (bodyOf s_law_deed) (scopeOf s_law_deed) .none :=
 ⟨⟨.type "function", none, #[], Str.ofString "_law_deed", .str (Str.ofString "law_nn0085_01") 1682, by kernel_rfl⟩, by kernel_rfl, by kernel_rfl, by kernel_rfl, by kernel_rfl⟩
noncomputable def sMintError_init : Stmt := (mtAt 2 0)
theorem fMintError_init (p : Params) : Fn (myK p) 36 35 n_MintErrorDot__init__ (paramsOf sMintError_init) (bodyOf sMintError_init) (scopeOf sMintError_init) (.ref 29) := .of n___init__ n_octetmintDotbasics 194 (by kernel_rfl) (by kernel_rfl)
noncomputable def sSoftPoints_init : Stmt := (mtAt 13 0)
theorem fSoftPoints_init (p : Params) : Fn (myK p) 122 121 n_SoftPointsDot__init__ (paramsOf sSoftPoints_init) (bodyOf sSoftPoints_init) (scopeOf sSoftPoints_init) .none := .of n___init__ n_octetmintDotdebug 306 (by kernel_rfl) (by kernel_rfl)
noncomputable def sSoftPoints_put : Stmt := (mtAt 13 1)
theorem fSoftPoints_put (p : Params) : Fn (myK p) 129 128 n_SoftPointsDotput (paramsOf sSoftPoints_put) (bodyOf sSoftPoints_put) (scopeOf sSoftPoints_put) .none := .of n_put n_octetmintDotdebug 306 (by kernel_rfl) (by kernel_rfl)
noncomputable def sSoftPoints_drop : Stmt := (mtAt 13 2)
theorem fSoftPoints_drop (p : Params) : Fn0 (myK p) 134 133 (Str.ofString "SoftPoints.drop") (paramsOf sSoftPoints_drop) (bodyOf sSoftPoints_drop) (scopeOf sSoftPoints_drop) .none :=
 ⟨⟨.type "function", none, #[], Str.ofString "drop", .str (Str.ofString "octetmint.debug") 306, by kernel_rfl⟩, by kernel_rfl, by kernel_rfl, by kernel_rfl, by kernel_rfl⟩
noncomputable def sSoftPoints_plant : Stmt := (mtAt 13 3)
theorem fSoftPoints_plant (p : Params) : Fn (myK p) 141 140 n_SoftPointsDotplant (paramsOf sSoftPoints_plant) (bodyOf sSoftPoints_plant) (scopeOf sSoftPoints_plant) .none := .of n_plant n_octetmintDotdebug 306 (by kernel_rfl) (by kernel_rfl)
noncomputable def sSoftPoints_lift : Stmt := (mtAt 13 4)
theorem fSoftPoints_lift (p : Params) : Fn (myK p) 148 147 n_SoftPointsDotlift (paramsOf sSoftPoints_lift) (bodyOf sSoftPoints_lift) (scopeOf sSoftPoints_lift) .none := .of n_lift n_octetmintDotdebug 306 (by kernel_rfl) (by kernel_rfl)
noncomputable def sSoftPoints_octets : Stmt := (mtAt 13 5)
theorem fSoftPoints_octets (p : Params) : Fn (myK p) 155 154 n_SoftPointsDotoctets (paramsOf sSoftPoints_octets) (bodyOf sSoftPoints_octets) (scopeOf sSoftPoints_octets) .none := .of n_octets n_octetmintDotdebug 306 (by kernel_rfl) (by kernel_rfl)
noncomputable def sDecoded_init : Stmt := (mtAt 16 0)
theorem fDecoded_init (p : Params) : Fn (myK p) 183 182 n_DecodedDot__init__ (paramsOf sDecoded_init) (bodyOf sDecoded_init) (scopeOf sDecoded_init) .none := .of n___init__ n_octetmintDotdecoder 398 (by kernel_rfl) (by kernel_rfl)
noncomputable def sFlags_init : Stmt := (mtAt 29 0)
theorem fFlags_init (p : Params) : Fn (myK p) 218 217 n_FlagsDot__init__ (paramsOf sFlags_init) (bodyOf sFlags_init) (scopeOf sFlags_init) .none := .of n___init__ n_octetmintDotflags 452 (by kernel_rfl) (by kernel_rfl)
noncomputable def sFlags_told : Stmt := (mtAt 29 1)
theorem fFlags_told (p : Params) : Fn (myK p) 225 224 n_FlagsDottold (paramsOf sFlags_told) (bodyOf sFlags_told) (scopeOf sFlags_told) .none := .of n_told n_octetmintDotflags 452 (by kernel_rfl) (by kernel_rfl)
noncomputable def sFlags_pack : Stmt := (mtAt 29 2)
theorem fFlags_pack (p : Params) : Fn (myK p) 232 231 n_FlagsDotpack (paramsOf sFlags_pack) (bodyOf sFlags_pack) (scopeOf sFlags_pack) .none := .of n_pack n_octetmintDotflags 452 (by kernel_rfl) (by kernel_rfl)
noncomputable def sFlags_unpack : Stmt := (mtAt 29 3)
theorem fFlags_unpack (p : Params) : Fn (myK p) 239 238 n_FlagsDotunpack (paramsOf sFlags_unpack) (bodyOf sFlags_unpack) (scopeOf sFlags_unpack) .none := .of n_unpack n_octetmintDotflags 452 (by kernel_rfl) (by kernel_rfl)
noncomputable def sFlags_copy : Stmt := (mtAt 29 5)
theorem fFlags_copy (p : Params) : Fn (myK p) 253 252 n_FlagsDotcopy (paramsOf sFlags_copy) (bodyOf sFlags_copy) (scopeOf sFlags_copy) .none := .of n_copy n_octetmintDotflags 452 (by kernel_rfl) (by kernel_rfl)
noncomputable def sRegister_init : Stmt := (mtAt 40 0)
theorem fRegister_init (p : Params) : Fn (myK p) 330 329 n_RegisterDot__init__ (paramsOf sRegister_init) (bodyOf sRegister_init) (scopeOf sRegister_init) .none := .of n___init__ n_octetmintDotregisters 621 (by kernel_rfl) (by kernel_rfl)
noncomputable def sMemory_init : Stmt := (mtAt 47 0)
theorem fMemory_init (p : Params) : Fn (myK p) 407 406 n_MemoryDot__init__ (paramsOf sMemory_init) (bodyOf sMemory_init) (scopeOf sMemory_init) .none := .of n___init__ n_octetmintDotmachine 724 (by kernel_rfl) (by kernel_rfl)
noncomputable def sMemory_octet : Stmt := (mtAt 47 1)
theorem fMemory_octet (p : Params) : Fn (myK p) 414 413 n_MemoryDotoctet (paramsOf sMemory_octet) (bodyOf sMemory_octet) (scopeOf sMemory_octet) .none := .of n_octet n_octetmintDotmachine 724 (by kernel_rfl) (by kernel_rfl)
noncomputable def sMemory_set_octet : Stmt := (mtAt 47 2)
theorem fMemory_set_octet (p : Params) : Fn (myK p) 421 420 n_MemoryDotset_octet (paramsOf sMemory_set_octet) (bodyOf sMemory_set_octet) (scopeOf sMemory_set_octet) .none := .of n_set_octet n_octetmintDotmachine 724 (by kernel_rfl) (by kernel_rfl)
noncomputable def sMemory_read : Stmt := (mtAt 47 3)
theorem fMemory_read (p : Params) : Fn (myK p) 428 427 n_MemoryDotread (paramsOf sMemory_read) (bodyOf sMemory_read) (scopeOf sMemory_read) .none := .of n_read n_octetmintDotmachine 724 (by kernel_rfl) (by kernel_rfl)
noncomputable def sMemory_write : Stmt := (mtAt 47 4)
theorem fMemory_write (p : Params) : Fn (myK p) 435 434 n_MemoryDotwrite (paramsOf sMemory_write) (bodyOf sMemory_write) (scopeOf sMemory_write) .none := .of n_write n_octetmintDotmachine 724 (by kernel_rfl) (by kernel_rfl)
noncomputable def sMemory_load : Stmt := (mtAt 47 5)
theorem fMemory_load (p : Params) : Fn (myK p) 442 441 n_MemoryDotload (paramsOf sMemory_load) (bodyOf sMemory_load) (scopeOf sMemory_load) .none := .of n_load n_octetmintDotmachine 724 (by kernel_rfl) (by kernel_rfl)
noncomputable def sMemory_written : Stmt := (mtAt 47 7)
theorem fMemory_written (p : Params) : Fn0 (myK p) 452 451 (Str.ofString "Memory.written") (paramsOf sMemory_written) (bodyOf sMemory_written) (scopeOf sMemory_written) .none :=
 ⟨⟨.type "function", none, #[], Str.ofString "written", .str (Str.ofString "octetmint.machine") 724, by kernel_rfl⟩, by kernel_rfl, by kernel_rfl, by kernel_rfl, by kernel_rfl⟩
noncomputable def sMemory_copy : Stmt := (mtAt 47 10)
theorem fMemory_copy (p : Params) : Fn (myK p) 473 472 n_MemoryDotcopy (paramsOf sMemory_copy) (bodyOf sMemory_copy) (scopeOf sMemory_copy) .none := .of n_copy n_octetmintDotmachine 724 (by kernel_rfl) (by kernel_rfl)
noncomputable def sMemory_told : Stmt := (mtAt 47 11)
theorem fMemory_told (p : Params) : Fn (myK p) 480 479 n_MemoryDottold (paramsOf sMemory_told) (bodyOf sMemory_told) (scopeOf sMemory_told) .none := .of n_told n_octetmintDotmachine 724 (by kernel_rfl) (by kernel_rfl)
noncomputable def sState_init : Stmt := (mtAt 50 0)
theorem fState_init (p : Params) : Fn (myK p) 508 507 n_StateDot__init__ (paramsOf sState_init) (bodyOf sState_init) (scopeOf sState_init) .none := .of n___init__ n_octetmintDotmachine 724 (by kernel_rfl) (by kernel_rfl)
noncomputable def sState_get : Stmt := (mtAt 50 1)
theorem fState_get (p : Params) : Fn (myK p) 515 514 n_StateDotget (paramsOf sState_get) (bodyOf sState_get) (scopeOf sState_get) .none := .of n_get n_octetmintDotmachine 724 (by kernel_rfl) (by kernel_rfl)
noncomputable def sState_put : Stmt := (mtAt 50 2)
theorem fState_put (p : Params) : Fn (myK p) 522 521 n_StateDotput (paramsOf sState_put) (bodyOf sState_put) (scopeOf sState_put) .none := .of n_put n_octetmintDotmachine 724 (by kernel_rfl) (by kernel_rfl)
noncomputable def sState_put_low : Stmt := (mtAt 50 3)
theorem fState_put_low (p : Params) : Fn (myK p) 529 528 n_StateDotput_low (paramsOf sState_put_low) (bodyOf sState_put_low) (scopeOf sState_put_low) .none := .of n_put_low n_octetmintDotmachine 724 (by kernel_rfl) (by kernel_rfl)
noncomputable def sState_offset : Stmt := (mtAt 50 5)
theorem fState_offset (p : Params) : Fn (myK p) 541 540 n_StateDotoffset (paramsOf sState_offset) (bodyOf sState_offset) (scopeOf sState_offset) .none := .of n_offset n_octetmintDotmachine 724 (by kernel_rfl) (by kernel_rfl)
noncomputable def sState_place : Stmt := (mtAt 50 6)
theorem fState_place (p : Params) : Fn (myK p) 548 547 n_StateDotplace (paramsOf sState_place) (bodyOf sState_place) (scopeOf sState_place) .none := .of n_place n_octetmintDotmachine 724 (by kernel_rfl) (by kernel_rfl)
noncomputable def sState_size_of : Stmt := (mtAt 50 7)
theorem fState_size_of (p : Params) : Fn (myK p) 555 554 n_StateDotsize_of (paramsOf sState_size_of) (bodyOf sState_size_of) (scopeOf sState_size_of) .none := .of n_size_of n_octetmintDotmachine 724 (by kernel_rfl) (by kernel_rfl)
noncomputable def sState_read : Stmt := (mtAt 50 8)
theorem fState_read (p : Params) : Fn (myK p) 562 561 n_StateDotread (paramsOf sState_read) (bodyOf sState_read) (scopeOf sState_read) .none := .of n_read n_octetmintDotmachine 724 (by kernel_rfl) (by kernel_rfl)
noncomputable def sState_write : Stmt := (mtAt 50 9)
theorem fState_write (p : Params) : Fn (myK p) 569 568 n_StateDotwrite (paramsOf sState_write) (bodyOf sState_write) (scopeOf sState_write) .none := .of n_write n_octetmintDotmachine 724 (by kernel_rfl) (by kernel_rfl)
noncomputable def sState_push : Stmt := (mtAt 50 10)
theorem fState_push (p : Params) : Fn (myK p) 576 575 n_StateDotpush (paramsOf sState_push) (bodyOf sState_push) (scopeOf sState_push) .none := .of n_push n_octetmintDotmachine 724 (by kernel_rfl) (by kernel_rfl)
noncomputable def sState_pop : Stmt := (mtAt 50 11)
theorem fState_pop (p : Params) : Fn (myK p) 583 582 n_StateDotpop (paramsOf sState_pop) (bodyOf sState_pop) (scopeOf sState_pop) .none := .of n_pop n_octetmintDotmachine 724 (by kernel_rfl) (by kernel_rfl)
noncomputable def sState_told : Stmt := (mtAt 50 12)
theorem fState_told (p : Params) : Fn (myK p) 590 589 n_StateDottold (paramsOf sState_told) (bodyOf sState_told) (scopeOf sState_told) .none := .of n_told n_octetmintDotmachine 724 (by kernel_rfl) (by kernel_rfl)
noncomputable def sState_copy : Stmt := (mtAt 50 13)
theorem fState_copy (p : Params) : Fn (myK p) 597 596 n_StateDotcopy (paramsOf sState_copy) (bodyOf sState_copy) (scopeOf sState_copy) .none := .of n_copy n_octetmintDotmachine 724 (by kernel_rfl) (by kernel_rfl)
noncomputable def sOperand_init : Stmt := (mtAt 56 0)
theorem fOperand_init (p : Params) : Fn (myK p) 646 645 n_OperandDot__init__ (paramsOf sOperand_init) (bodyOf sOperand_init) (scopeOf sOperand_init) .none := .of n___init__ n_octetmintDotoperands 1054 (by kernel_rfl) (by kernel_rfl)
noncomputable def sReg_init : Stmt := (mtAt 57 0)
theorem fReg_init (p : Params) : Fn (myK p) 688 687 n_RegDot__init__ (paramsOf sReg_init) (bodyOf sReg_init) (scopeOf sReg_init) .none := .of n___init__ n_octetmintDotoperands 1054 (by kernel_rfl) (by kernel_rfl)
noncomputable def sImm_init : Stmt := (mtAt 58 0)
theorem fImm_init (p : Params) : Fn (myK p) 722 721 n_ImmDot__init__ (paramsOf sImm_init) (bodyOf sImm_init) (scopeOf sImm_init) (.ref 715) := .of n___init__ n_octetmintDotoperands 1054 (by kernel_rfl) (by kernel_rfl)
noncomputable def sRel_init : Stmt := (mtAt 59 0)
theorem fRel_init (p : Params) : Fn (myK p) 756 755 n_RelDot__init__ (paramsOf sRel_init) (bodyOf sRel_init) (scopeOf sRel_init) (.ref 749) := .of n___init__ n_octetmintDotoperands 1054 (by kernel_rfl) (by kernel_rfl)
noncomputable def sMem_init : Stmt := (mtAt 60 0)
theorem fMem_init (p : Params) : Fn (myK p) 797 796 n_MemDot__init__ (paramsOf sMem_init) (bodyOf sMem_init) (scopeOf sMem_init) (.ref 790) := .of n___init__ n_octetmintDotoperands 1054 (by kernel_rfl) (by kernel_rfl)
noncomputable def sInstruction_init : Stmt := (mtAt 61 0)
theorem fInstruction_init (p : Params) : Fn (myK p) 850 849 n_InstructionDot__init__ (paramsOf sInstruction_init) (bodyOf sInstruction_init) (scopeOf sInstruction_init) (.ref 843) := .of n___init__ n_octetmintDotoperands 1054 (by kernel_rfl) (by kernel_rfl)
theorem taker_of {K : Frag} {C : Addr} {name : Str} (a : findIn K (.ref C) name = some none) : takerIn K C name = some none := by unfold takerIn; rw [a]; rfl
theorem plainGet_by {K : Frag} {C : Addr} {name : Str} (a : findIn K (.ref C) "__getattribute__" = some (some (.builtin "object.__getattribute__"))) (b : findIn K (.ref C) "__getattr__" = some none) : plainGet K C name = true := by unfold plainGet; rw [a, b]; rfl
section
variable (p : Params)
theorem gn_mask : nsIn (myK p) mainGlobals n_mask = some (some (.ref 80)) := by kernel_rfl
theorem gn_wrap : nsIn (myK p) mainGlobals n_wrap = some (some (.ref 87)) := by kernel_rfl
theorem gn_bit : nsIn (myK p) mainGlobals n_bit = some (some (.ref 94)) := by kernel_rfl
theorem gn_early_names : nsIn (myK p) mainGlobals n_early_names = some (some (.ref 379)) := by kernel_rfl
theorem gn_gpr : nsIn (myK p) mainGlobals n_gpr = some (some (.ref 393)) := by kernel_rfl
theorem gn_joined_machine : nsIn (myK p) mainGlobals n_joined_machine = some (some (.ref 494)) := by kernel_rfl
theorem gn_done : nsIn (myK p) mainGlobals n_done = some (some (.ref 611)) := by kernel_rfl
theorem gn_proceed : nsIn (myK p) mainGlobals n_proceed = some (some (.ref 618)) := by kernel_rfl
theorem gn_need_running : nsIn (myK p) mainGlobals n_need_running = some (some (.ref 625)) := by kernel_rfl
theorem gn_step_row : nsIn (myK p) mainGlobals n_step_row = some (some (.ref 632)) := by kernel_rfl
theorem gn_move_deed : nsIn (myK p) mainGlobals n_move_deed = some (some (.ref 911)) := by kernel_rfl
theorem gn_push_operand : nsIn (myK p) mainGlobals n_push_operand = some (some (.ref 918)) := by kernel_rfl
theorem gn_pop_operand : nsIn (myK p) mainGlobals n_pop_operand = some (some (.ref 925)) := by kernel_rfl
theorem gn_stack_deed : nsIn (myK p) mainGlobals n_stack_deed = some (some (.ref 932)) := by kernel_rfl
theorem gn_target_of : nsIn (myK p) mainGlobals n_target_of = some (some (.ref 939)) := by kernel_rfl
theorem gn_count_down : nsIn (myK p) mainGlobals n_count_down = some (some (.ref 946)) := by kernel_rfl
theorem gn_is_taken : nsIn (myK p) mainGlobals n_is_taken = some (some (.ref 953)) := by kernel_rfl
theorem gn_jump_deed : nsIn (myK p) mainGlobals n_jump_deed = some (some (.ref 960)) := by kernel_rfl
theorem gn_transfer_deed : nsIn (myK p) mainGlobals n_transfer_deed = some (some (.ref 1082)) := by kernel_rfl
theorem gn_run_planted : nsIn (myK p) mainGlobals n_run_planted = some (some (.ref 169)) := by kernel_rfl
theorem gn__law_raw : nsIn (myK p) mainGlobals n__law_raw = some (some (.ref 1089)) := by kernel_rfl
theorem gn__law_draw : nsIn (myK p) mainGlobals n__law_draw = some (some (.ref 1096)) := by kernel_rfl
theorem gn__law_reg : nsIn (myK p) mainGlobals n__law_reg = some (some (.ref 1103)) := by kernel_rfl
theorem gn__law_row : nsIn (myK p) mainGlobals n__law_row = some (some (.ref 1110)) := by kernel_rfl
theorem gn__law_program : nsIn (myK p) mainGlobals n__law_program = some (some (.ref 1117)) := by kernel_rfl
theorem gn__law_recorded : nsIn (myK p) mainGlobals n__law_recorded = some (some (.ref 1124)) := by kernel_rfl
theorem gn__law_run : nsIn (myK p) mainGlobals n__law_run = some (some (.ref 1129)) := by kernel_rfl
theorem gn__law_looked : nsIn (myK p) mainGlobals n__law_looked = some (some (.ref 1134)) := by kernel_rfl
theorem gn__law_deed : nsIn (myK p) mainGlobals n__law_deed = some (some (.ref 1139)) := by kernel_rfl
theorem gn_MachineError : nsIn (myK p) mainGlobals n_MachineError = some (some (.ref 71)) := by kernel_rfl
theorem gn_MintError : nsIn (myK p) mainGlobals n_MintError = some (some (.ref 46)) := by kernel_rfl
theorem gn_SoftPoints : nsIn (myK p) mainGlobals n_SoftPoints = some (some (.ref 158)) := by kernel_rfl
theorem gn_Decoded : nsIn (myK p) mainGlobals n_Decoded = some (some (.ref 193)) := by kernel_rfl
theorem gn_Flags : nsIn (myK p) mainGlobals n_Flags = some (some (.ref 277)) := by kernel_rfl
theorem gn_Register : nsIn (myK p) mainGlobals n_Register = some (some (.ref 368)) := by kernel_rfl
theorem gn_Memory : nsIn (myK p) mainGlobals n_Memory = some (some (.ref 483)) := by kernel_rfl
theorem gn_State : nsIn (myK p) mainGlobals n_State = some (some (.ref 600)) := by kernel_rfl
theorem gn_Operand : nsIn (myK p) mainGlobals n_Operand = some (some (.ref 670)) := by kernel_rfl
theorem gn_Reg : nsIn (myK p) mainGlobals n_Reg = some (some (.ref 705)) := by kernel_rfl
theorem gn_Imm : nsIn (myK p) mainGlobals n_Imm = some (some (.ref 739)) := by kernel_rfl
theorem gn_Rel : nsIn (myK p) mainGlobals n_Rel = some (some (.ref 780)) := by kernel_rfl
theorem gn_Mem : nsIn (myK p) mainGlobals n_Mem = some (some (.ref 833)) := by kernel_rfl
theorem gn_Instruction : nsIn (myK p) mainGlobals n_Instruction = some (some (.ref 886)) := by kernel_rfl
theorem gaState : findIn (myK p) (.ref 600) "__getattribute__" = some (some (.builtin "object.__getattribute__")) := by kernel_rfl
theorem gaMemory : findIn (myK p) (.ref 483) "__getattribute__" = some (some (.builtin "object.__getattribute__")) := by kernel_rfl
theorem gaFlags : findIn (myK p) (.ref 277) "__getattribute__" = some (some (.builtin "object.__getattribute__")) := by kernel_rfl
theorem gaSoftPoints : findIn (myK p) (.ref 158) "__getattribute__" = some (some (.builtin "object.__getattribute__")) := by kernel_rfl
theorem pgState : findIn (myK p) (.ref 600) "__getattr__" = some none := by kernel_rfl
end
noncomputable def atL : List (Addr × Str) := [(600, n_iset), (600, n_regs), (600, n_xmm), (600, n_flags), (600, n_memory), (600, n_rip), (600, n_begin), (600, n_segments), (600, n_is_halted), (483, n_held), (277, n_cf), (277, n_pf), (277, n_af), (277, n_zf), (277, n_sf), (277, n_of), (277, n_df), (158, n_memory), (158, n_places), (158, n_kept), (193, n_instruction), (193, n_length), (193, n_form), (193, n_prefixes), (368, n_name), (368, n_kind), (368, n_number), (368, n_size), (705, n_kind), (705, n_register), (739, n_kind), (739, n_worth), (739, n_name), (780, n_kind), (780, n_worth), (780, n_name), (833, n_kind), (833, n_base), (833, n_index), (833, n_scale), (833, n_worth), (833, n_size), (833, n_segment), (833, n_name), (886, n_name), (886, n_operands), (886, n_prefix)]
noncomputable def asB (K : Frag) (C : Addr) (x : Str) : Bool :=
 (match findIn K (.ref C) "__getattribute__" with | some (some (.builtin s)) => s == "object.__getattribute__" | _ => false) && ((match findIn K (.ref C) x with | some none => true | _ => false) && ((clsIn K C).any (·.hasDict) &&
 ((match findIn K (.ref C) "__setattr__" with | some (some (.builtin s)) => s == "object.__setattr__" | _ => false) && plainOver K C)))
theorem asB_ok {K : Frag} {C : Addr} {x : Str} (h : asB K C x = true) : AttrIn K C x ∧ SetIn K C x := by
 unfold asB at h
 simp only [Bool.and_eq_true] at h
 obtain ⟨h1, h2, h3, h4, h5⟩ := h
 have e2 : findIn K (.ref C) x = some none := by
  split at h2
  ·assumption
  ·cases h2
 refine ⟨⟨?_, e2, h3⟩, ⟨?_, h5, taker_of e2, h3⟩⟩
 ·split at h1
  ·rw [‹findIn K _ _ = _›, eq_of_beq h1]
  ·cases h1
 ·split at h4
  ·rw [‹findIn K _ "__setattr__" = _›, eq_of_beq h4]
  ·cases h4
theorem as_all (p : Params) : (atL.all fun y => asB (myK p) y.1 y.2) = true := by kernel_rfl
theorem at_ {p : Params} {C : Addr} {x : Str} (h : (C, x) ∈ atL) : AttrIn (myK p) C x := (asB_ok (List.all_eq_true.mp (as_all p) _ h)).1
theorem wt_ {p : Params} {C : Addr} {x : Str} (h : (C, x) ∈ atL) : SetIn (myK p) C x := (asB_ok (List.all_eq_true.mp (as_all p) _ h)).2
section
variable (p : Params)
theorem mStaten_get : MethIn (myK p) 600 n_get 515 := ⟨plainGet_by (gaState p) (pgState p), by kernel_rfl, by kernel_rfl⟩
theorem mStaten_put : MethIn (myK p) 600 n_put 522 := ⟨plainGet_by (gaState p) (pgState p), by kernel_rfl, by kernel_rfl⟩
theorem mStaten_put_low : MethIn (myK p) 600 n_put_low 529 := ⟨plainGet_by (gaState p) (pgState p), by kernel_rfl, by kernel_rfl⟩
theorem mStaten_offset : MethIn (myK p) 600 n_offset 541 := ⟨plainGet_by (gaState p) (pgState p), by kernel_rfl, by kernel_rfl⟩
theorem mStaten_place : MethIn (myK p) 600 n_place 548 := ⟨plainGet_by (gaState p) (pgState p), by kernel_rfl, by kernel_rfl⟩
theorem mStaten_size_of : MethIn (myK p) 600 n_size_of 555 := ⟨plainGet_by (gaState p) (pgState p), by kernel_rfl, by kernel_rfl⟩
theorem mStaten_read : MethIn (myK p) 600 n_read 562 := ⟨plainGet_by (gaState p) (pgState p), by kernel_rfl, by kernel_rfl⟩
theorem mStaten_write : MethIn (myK p) 600 n_write 569 := ⟨plainGet_by (gaState p) (pgState p), by kernel_rfl, by kernel_rfl⟩
theorem mStaten_push : MethIn (myK p) 600 n_push 576 := ⟨plainGet_by (gaState p) (pgState p), by kernel_rfl, by kernel_rfl⟩
theorem mStaten_pop : MethIn (myK p) 600 n_pop 583 := ⟨plainGet_by (gaState p) (pgState p), by kernel_rfl, by kernel_rfl⟩
theorem mStaten_told : MethIn (myK p) 600 n_told 590 := ⟨plainGet_by (gaState p) (pgState p), by kernel_rfl, by kernel_rfl⟩
theorem mStaten_copy : MethIn (myK p) 600 n_copy 597 := ⟨plainGet_by (gaState p) (pgState p), by kernel_rfl, by kernel_rfl⟩
theorem pgMemory : findIn (myK p) (.ref 483) "__getattr__" = some none := by kernel_rfl
theorem mMemoryn_octet : MethIn (myK p) 483 n_octet 414 := ⟨plainGet_by (gaMemory p) (pgMemory p), by kernel_rfl, by kernel_rfl⟩
theorem mMemoryn_set_octet : MethIn (myK p) 483 n_set_octet 421 := ⟨plainGet_by (gaMemory p) (pgMemory p), by kernel_rfl, by kernel_rfl⟩
theorem mMemoryn_read : MethIn (myK p) 483 n_read 428 := ⟨plainGet_by (gaMemory p) (pgMemory p), by kernel_rfl, by kernel_rfl⟩
theorem mMemoryn_write : MethIn (myK p) 483 n_write 435 := ⟨plainGet_by (gaMemory p) (pgMemory p), by kernel_rfl, by kernel_rfl⟩
theorem mMemoryn_load : MethIn (myK p) 483 n_load 442 := ⟨plainGet_by (gaMemory p) (pgMemory p), by kernel_rfl, by kernel_rfl⟩
theorem mMemoryn_written : MethIn (myK p) 483 n_written 452 := ⟨plainGet_by (gaMemory p) (pgMemory p), by kernel_rfl, by kernel_rfl⟩
theorem mMemoryn_copy : MethIn (myK p) 483 n_copy 473 := ⟨plainGet_by (gaMemory p) (pgMemory p), by kernel_rfl, by kernel_rfl⟩
theorem mMemoryn_told : MethIn (myK p) 483 n_told 480 := ⟨plainGet_by (gaMemory p) (pgMemory p), by kernel_rfl, by kernel_rfl⟩
theorem pgFlags : findIn (myK p) (.ref 277) "__getattr__" = some none := by kernel_rfl
theorem mFlagsn_told : MethIn (myK p) 277 n_told 225 := ⟨plainGet_by (gaFlags p) (pgFlags p), by kernel_rfl, by kernel_rfl⟩
theorem mFlagsn_pack : MethIn (myK p) 277 n_pack 232 := ⟨plainGet_by (gaFlags p) (pgFlags p), by kernel_rfl, by kernel_rfl⟩
theorem mFlagsn_unpack : MethIn (myK p) 277 n_unpack 239 := ⟨plainGet_by (gaFlags p) (pgFlags p), by kernel_rfl, by kernel_rfl⟩
theorem mFlagsn_copy : MethIn (myK p) 277 n_copy 253 := ⟨plainGet_by (gaFlags p) (pgFlags p), by kernel_rfl, by kernel_rfl⟩
theorem pgSoftPoints : findIn (myK p) (.ref 158) "__getattr__" = some none := by kernel_rfl
theorem mSoftPointsn_put : MethIn (myK p) 158 n_put 129 := ⟨plainGet_by (gaSoftPoints p) (pgSoftPoints p), by kernel_rfl, by kernel_rfl⟩
theorem mSoftPointsn_drop : MethIn (myK p) 158 n_drop 134 := ⟨plainGet_by (gaSoftPoints p) (pgSoftPoints p), by kernel_rfl, by kernel_rfl⟩
theorem mSoftPointsn_plant : MethIn (myK p) 158 n_plant 141 := ⟨plainGet_by (gaSoftPoints p) (pgSoftPoints p), by kernel_rfl, by kernel_rfl⟩
theorem mSoftPointsn_lift : MethIn (myK p) 158 n_lift 148 := ⟨plainGet_by (gaSoftPoints p) (pgSoftPoints p), by kernel_rfl, by kernel_rfl⟩
theorem mSoftPointsn_octets : MethIn (myK p) 158 n_octets 155 := ⟨plainGet_by (gaSoftPoints p) (pgSoftPoints p), by kernel_rfl, by kernel_rfl⟩
theorem nsOk : nsOkIn (myK p) mainGlobals = true := by kernel_rfl
end
theorem ifT {p q : Prop} {b : Bool} (hb : b = true) (h : p) : if b = true then p else q := by rw [if_pos hb]; exact h
theorem ifF {p q : Prop} {b : Bool} (hb : b = false) (h : q) : if b = true then p else q := by rw [hb]; exact h
section
variable {c : Cx} {u : Cu} {env : Env} {Q : Value → Loc → Led → Prop} {E : EP} {m : Loc} {n : Led}
theorem NameGI_ {x : Str} {pos : Pos} {i : Int} (hv : (nsIn c.K mainGlobals x).map (Option.map nv) = some (some (vi i))) (hl : env.kindOf x = some .globalImplicit) (hg : env.globals = mainGlobals) (hns : nsOkIn c.K mainGlobals = true) (hd : (x == ("__debug__" : Str)) = false) (h : ∀ t, Q (.int i t) m n) :
  V c u env (eval (.Name x pos) env) Q E m n := by
 cases q : nsIn c.K mainGlobals x with
 | none => rw [q] at hv; cases hv
 | some o =>
  cases o with
  | none => rw [q] at hv; cases hv
  | some v =>
   rw [q] at hv
   have hv' : nv v = vi i := by simpa using hv
   obtain ⟨t, rfl⟩ := vi_nv hv'
   exact NameG_ hl hg hns q hd (h t)
theorem NameGS_ {x y : Str} {pos : Pos} (hv : (nsIn c.K mainGlobals x).map (Option.map nv) = some (some (vx y))) (hl : env.kindOf x = some .globalImplicit) (hg : env.globals = mainGlobals) (hns : nsOkIn c.K mainGlobals = true) (hd : (x == ("__debug__" : Str)) = false) (h : ∀ t, Q (.str y t) m n) :
  V c u env (eval (.Name x pos) env) Q E m n := by
 cases q : nsIn c.K mainGlobals x with
 | none => rw [q] at hv; cases hv
 | some o =>
  cases o with
  | none => rw [q] at hv; cases hv
  | some v =>
   rw [q] at hv
   have hv' : nv v = vx y := by simpa using hv
   obtain ⟨t, rfl⟩ := vx_nv hv'
   exact NameG_ hl hg hns q hd (h t)
theorem NameBB_ {x : Str} {pos : Pos} {v : Value} (h3 : nsIn c.K mainGlobals x = some none ∧ bootBuiltins x = some v ∧ x ≠ "__name__") (hl : env.kindOf x = some .globalImplicit) (hg : env.globals = mainGlobals) (hb : env.builtins = builtinsNs) (hns : nsOkIn c.K mainGlobals = true) (hd : (x == ("__debug__" : Str)) = false) (h : Q v m n) :
  V c u env (eval (.Name x pos) env) Q E m n := NameB_ hl hg hb hns h3.1 h3.2.1 h3.2.2 hd h
theorem getMethM_ {a : Addr} {l : Mem} {pl : Sem Bool} {Q : Value × List Value → Loc → Led → Prop} (hm : (a, AObj.mem c.w l) ∈ n) (h : Q (.builtin "dict.get", [.ref a]) m n) : V c u env (getMethod (.ref a) n_get pl) Q E m n := en_get ▸ getMethD_ hm h
theorem getMAppI_ {a : Addr} {l : List Int} {pl : Sem Bool} {Q : Value × List Value → Loc → Led → Prop} (hm : (a, AObj.ints l) ∈ n) (h : Q (.builtin "list.append", [.ref a]) m n) : V c u env (getMethod (.ref a) n_append pl) Q E m n := en_append ▸ getMAppend_ hm h
theorem getMApp_ {a : Addr} {l : List Value} {pl : Sem Bool} {Q : Value × List Value → Loc → Led → Prop} (hm : (a, AObj.list l) ∈ n) (h : Q (.builtin "list.append", [.ref a]) m n) : V c u env (getMethod (.ref a) n_append pl) Q E m n := en_append ▸ getMAppend_ hm h
theorem getMSpl_ {x : Str} {t : Tok} {pl : Sem Bool} {Q : Value × List Value → Loc → Led → Prop} (h : Q (.builtin "str.split", [.str x t]) m n) : V c u env (getMethod (.str x t) n_split pl) Q E m n := en_split ▸ getMSplit_ h
theorem Expr0_ {e : Expr} {pos : Pos} {Q : Flow → Loc → Led → Prop} (hi : interactive env = false) (hs : swapsWith e none pos.line env = pure false) (h : V c u env (eval e env) (fun _ m n => Q .next m n) E m n) : V c u env (exec (.Expr e pos) env) Q E m n :=
 V.i fun ok A hp tk fit md => wpAny_Expr_any (h.go ok A hp tk fit md) hi hs
theorem callBb_ {f : String} {first : List Value} {a : Expr} {r : List Expr} {pos : Pos} (hf : keeperOf (.builtin f) = Pure.pure .machine) (he : starEach (a :: r) env = (false, eval a env) :: starEach r env) (hp : ((backTo pos (starEach (a :: r) env)).any (·.1)) = false)
  (h : V c u env (spliced (backTo pos (starEach (a :: r) env))) (Kf c u env E (callA (.builtin f) first) Q) E m n) : V c u env (callWith pos (.builtin f) first (backTo pos (starEach (a :: r) env)) []) Q E m n := callB_ hf he hp h
theorem callBt_ {f : String} {first : List Value} {a : Expr} {r : List Expr} {pos : Pos} (hf : keeperOf (.type f) = Pure.pure .machine) (he : starEach (a :: r) env = (false, eval a env) :: starEach r env) (hp : ((backTo pos (starEach (a :: r) env)).any (·.1)) = false)
  (h : V c u env (spliced (backTo pos (starEach (a :: r) env))) (Kf c u env E (callA (.type f) first) Q) E m n) : V c u env (callWith pos (.type f) first (backTo pos (starEach (a :: r) env)) []) Q E m n := callB_ hf he hp h
theorem callBb0_ {f : String} {first : List Value} {pos : Pos} (hf : keeperOf (.builtin f) = Pure.pure .machine) (h : V c u env (call (.builtin f) (first ++ [])) Q E m n) : V c u env (callWith pos (.builtin f) first (backTo pos (starEach [] env)) []) Q E m n := callB0_ hf h
theorem callBt0_ {f : String} {first : List Value} {pos : Pos} (hf : keeperOf (.type f) = Pure.pure .machine) (h : V c u env (call (.type f) (first ++ [])) Q E m n) : V c u env (callWith pos (.type f) first (backTo pos (starEach [] env)) []) Q E m n := callB0_ hf h
variable {pos : Pos} {args : List (Bool × Sem Value)} {kw : List (Option Str × Sem Value)}
theorem getMC_ {a C d f : Addr} {as : List (Str × Value)} {name : Str} {pl : Sem Bool} (hm : (a, AObj.inst C d as) ∈ n) (hl : as.lookup name = none) (st : MethIn c.K C name f)
  (h : V c u env (callWith pos (.ref f) [.ref a] args kw) Q E m n) : V c u env (getMethod (.ref a) name pl) (Kf c u env E (callM pos args kw) Q) E m n := getM hm hl st h
theorem getMethMC_ {a : Addr} {l : Mem} {pl : Sem Bool} (hm : (a, AObj.mem c.w l) ∈ n) (h : V c u env (callWith pos (.builtin "dict.get") [.ref a] args kw) Q E m n) : V c u env (getMethod (.ref a) n_get pl) (Kf c u env E (callM pos args kw) Q) E m n := getMethM_ hm h
theorem getMAppIC_ {a : Addr} {l : List Int} {pl : Sem Bool} (hm : (a, AObj.ints l) ∈ n) (h : V c u env (callWith pos (.builtin "list.append") [.ref a] args kw) Q E m n) : V c u env (getMethod (.ref a) n_append pl) (Kf c u env E (callM pos args kw) Q) E m n := getMAppI_ hm h
theorem getMAppC_ {a : Addr} {l : List Value} {pl : Sem Bool} (hm : (a, AObj.list l) ∈ n) (h : V c u env (callWith pos (.builtin "list.append") [.ref a] args kw) Q E m n) : V c u env (getMethod (.ref a) n_append pl) (Kf c u env E (callM pos args kw) Q) E m n := getMApp_ hm h
theorem getMSplC_ {x : Str} {t : Tok} {pl : Sem Bool} (h : V c u env (callWith pos (.builtin "str.split") [.str x t] args kw) Q E m n) : V c u env (getMethod (.str x t) n_split pl) (Kf c u env E (callM pos args kw) Q) E m n := getMSpl_ h
end
section
variable (p : Params)
theorem gi_STACK : (nsIn (myK p) mainGlobals n_STACK).map (Option.map nv) = some (some (vi 4)) := by kernel_rfl
theorem gi_TRAP : (nsIn (myK p) mainGlobals n_TRAP).map (Option.map nv) = some (some (vi 204)) := by kernel_rfl
theorem gi_CF : (nsIn (myK p) mainGlobals n_CF).map (Option.map nv) = some (some (vi 0)) := by kernel_rfl
theorem gi_PF : (nsIn (myK p) mainGlobals n_PF).map (Option.map nv) = some (some (vi 2)) := by kernel_rfl
theorem gi_AF : (nsIn (myK p) mainGlobals n_AF).map (Option.map nv) = some (some (vi 4)) := by kernel_rfl
theorem gi_ZF : (nsIn (myK p) mainGlobals n_ZF).map (Option.map nv) = some (some (vi 6)) := by kernel_rfl
theorem gi_SF : (nsIn (myK p) mainGlobals n_SF).map (Option.map nv) = some (some (vi 7)) := by kernel_rfl
theorem gi_DF : (nsIn (myK p) mainGlobals n_DF).map (Option.map nv) = some (some (vi 10)) := by kernel_rfl
theorem gi_OF : (nsIn (myK p) mainGlobals n_OF).map (Option.map nv) = some (some (vi 11)) := by kernel_rfl
theorem gi_RCX : (nsIn (myK p) mainGlobals n_RCX).map (Option.map nv) = some (some (vi 1)) := by kernel_rfl
theorem gi__law_most : (nsIn (myK p) mainGlobals n__law_most).map (Option.map nv) = some (some (vi 20)) := by kernel_rfl
theorem gi_TRAP_NAME : (nsIn (myK p) mainGlobals n_TRAP_NAME).map (Option.map nv) = some (some (vx (Str.ofString "int3"))) := by kernel_rfl
theorem gi_TRAPS : (nsIn (myK p) mainGlobals n_TRAPS).map (Option.map nv) = some (some (vx (Str.ofString "ud2 int int3 syscall cpuid"))) := by kernel_rfl
theorem gi_NAMES_64 : (nsIn (myK p) mainGlobals n_NAMES_64).map (Option.map nv) = some (some (vx (Str.ofString "rax rcx rdx rbx rsp rbp rsi rdi"))) := by kernel_rfl
theorem nB_list : nsIn (myK p) mainGlobals n_list = some none ∧ bootBuiltins n_list = some (.type "list") ∧ n_list ≠ "__name__" := ⟨by kernel_rfl, by kernel_rfl, by kp_kind "dq"⟩
theorem nB_int : nsIn (myK p) mainGlobals n_int = some none ∧ bootBuiltins n_int = some (.type "int") ∧ n_int ≠ "__name__" := ⟨by kernel_rfl, by kernel_rfl, by kp_kind "dq"⟩
theorem nB_sum : nsIn (myK p) mainGlobals n_sum = some none ∧ bootBuiltins n_sum = some (.builtin "sum") ∧ n_sum ≠ "__name__" := ⟨by kernel_rfl, by kernel_rfl, by kp_kind "dq"⟩
theorem nB_range : nsIn (myK p) mainGlobals n_range = some none ∧ bootBuiltins n_range = some (.type "range") ∧ n_range ≠ "__name__" := ⟨by kernel_rfl, by kernel_rfl, by kp_kind "dq"⟩
theorem nB_len : nsIn (myK p) mainGlobals n_len = some none ∧ bootBuiltins n_len = some (.builtin "len") ∧ n_len ≠ "__name__" := ⟨by kernel_rfl, by kernel_rfl, by kp_kind "dq"⟩
theorem nB_bytes : nsIn (myK p) mainGlobals n_bytes = some none ∧ bootBuiltins n_bytes = some (.type "bytes") ∧ n_bytes ≠ "__name__" := ⟨by kernel_rfl, by kernel_rfl, by kp_kind "dq"⟩
theorem nB_tuple : nsIn (myK p) mainGlobals n_tuple = some none ∧ bootBuiltins n_tuple = some (.type "tuple") ∧ n_tuple ≠ "__name__" := ⟨by kernel_rfl, by kernel_rfl, by kp_kind "dq"⟩
theorem nB_sorted : nsIn (myK p) mainGlobals n_sorted = some none ∧ bootBuiltins n_sorted = some (.builtin "sorted") ∧ n_sorted ≠ "__name__" := ⟨by kernel_rfl, by kernel_rfl, by kp_kind "dq"⟩
theorem nB_enumerate : nsIn (myK p) mainGlobals n_enumerate = some none ∧ bootBuiltins n_enumerate = some (.type "enumerate") ∧ n_enumerate ≠ "__name__" := ⟨by kernel_rfl, by kernel_rfl, by kp_kind "dq"⟩
theorem nB_isinstance : nsIn (myK p) mainGlobals n_isinstance = some none ∧ bootBuiltins n_isinstance = some (.builtin "isinstance") ∧ n_isinstance ≠ "__name__" := ⟨by kernel_rfl, by kernel_rfl, by kp_kind "dq"⟩
theorem nB_Exception : nsIn (myK p) mainGlobals n_Exception = some none ∧ bootBuiltins n_Exception = some (.type "Exception") ∧ n_Exception ≠ "__name__" := ⟨by kernel_rfl, by kernel_rfl, by kp_kind "dq"⟩
end
theorem leOf {k n m : Nat} (h : n ≤ m) (e : Nat.ble k n = true) : k ≤ m := Nat.le_trans (Nat.le_of_ble_eq_true e) h
section
variable {u : Cu} {k : Nat}
theorem rI {e env : Env} {m : Loc} (h : k + 1 ≤ u.r) : k ≤ (u.into e env m).r := Nat.le_sub_of_add_le h
theorem rL (h : k + 1 ≤ u.r) : k ≤ u.less.r := Nat.le_sub_of_add_le h
theorem rC {env : Env} {m : Loc} (h : k ≤ u.r) : k ≤ (u.comp env m).r := h
theorem rH {e : Addr} (h : k ≤ u.r) : k ≤ (u.held e).r := h
end
section
variable {c : Cx} {u : Cu} {env : Env} {E : EP} {m : Loc} {n : Led} {Q : Value → Loc → Led → Prop}
theorem after_cons {st : Stmt} {rest : List Stmt} {Q : Flow → Loc → Led → Prop} (h : V c u env (exec st env) (after c u env rest Q E) E m n) : after c u env (st :: rest) Q E .next m n := execs_cons h
theorem after_nil {Q : Flow → Loc → Led → Prop} (h : Q .next m n) : after c u env [] Q E .next m n := execs_nil h
theorem args1L_ {x : Str} {p pos : Pos} {v : Value} {rest : List Expr} {Q : List Value → Loc → Led → Prop} (hl : env.kindOf x = some .local) (hv : m.lookup x = some v) (hd : (x == ("__debug__" : Str)) = false)
  (h : V c u env (spliced (backTo pos (starEach rest env))) (KCons v Q) E m n) : V c u env (spliced (backTo pos (starEach (.Name x p :: rest) env))) Q E m n := args1_ rfl (NameL_ hl hv hd h)
section
variable {x attr : Str} {p apos : Pos} {a C d : Addr} {as : List (Str × Value)} (hl : env.kindOf x = some .local) (hv : m.lookup x = some (.ref a)) (hd : (x == ("__debug__" : Str)) = false) (hm : (a, AObj.inst C d as) ∈ n)
include hl hv hd hm
theorem AttrL_ref {y : Addr} (ha : as.lookup attr = some (.ref y)) (st : AttrIn c.K C attr) (hb : attributeBase (.Name x p) attr env (eval (.Name x p) env) = eval (.Name x p) env) (h : Q (.ref y) m n) : V c u env (eval (.Attribute (.Name x p) attr apos) env) Q E m n := Attr_ hb (NameL_ hl hv hd (getA_ref hm ha st h))
theorem AttrL_int {i : Int} {t : Tok} (ha : as.lookup attr = some (.int i t)) (st : AttrIn c.K C attr) (hb : attributeBase (.Name x p) attr env (eval (.Name x p) env) = eval (.Name x p) env) (h : ∀ t, Q (.int i t) m n) : V c u env (eval (.Attribute (.Name x p) attr apos) env) Q E m n := Attr_ hb (NameL_ hl hv hd (getA_int hm ha st h))
theorem AttrL_str {y : Str} {t : Tok} (ha : as.lookup attr = some (.str y t)) (st : AttrIn c.K C attr) (hb : attributeBase (.Name x p) attr env (eval (.Name x p) env) = eval (.Name x p) env) (h : ∀ t, Q (.str y t) m n) : V c u env (eval (.Attribute (.Name x p) attr apos) env) Q E m n := Attr_ hb (NameL_ hl hv hd (getA_str hm ha st h))
theorem MCallL_ {f : Addr} {pos : Pos} {e : Expr} {r : List Expr} {pl : Sem Bool} (he : eval (.Call (.Attribute (.Name x p) attr apos) (e :: r) [] pos) env = (do
   let ov ← eval (.Name x p) env
   standAt apos.atName
   let (f, first) ← holding [ov] (getMethod ov attr pl)
   callWith pos f first (backTo pos (starEach (e :: r) env)) [])) (hn : as.lookup attr = none) (st : MethIn c.K C attr f) (hk : keepIn c.K (.ref f) = true) (he' : starEach (e :: r) env = (false, eval e env) :: starEach r env) (hp : ((backTo pos (starEach (e :: r) env)).any (·.1)) = false)
  (h : V c u env (spliced (backTo pos (starEach (e :: r) env))) (Kf c u env E (callA (.ref f) [.ref a]) Q) E m n) : V c u env (eval (.Call (.Attribute (.Name x p) attr apos) (e :: r) [] pos) env) Q E m n := MCall_ he (NameL_ hl hv hd (getM hm hn st (callK_ hk he' hp h)))
theorem MCallL0_ {f : Addr} {pos : Pos} {pl : Sem Bool} (he : eval (.Call (.Attribute (.Name x p) attr apos) [] [] pos) env = (do
   let ov ← eval (.Name x p) env
   standAt apos.atName
   let (f, first) ← holding [ov] (getMethod ov attr pl)
   callWith pos f first (backTo pos (starEach [] env)) [])) (hn : as.lookup attr = none) (st : MethIn c.K C attr f) (hk : keepIn c.K (.ref f) = true)
  (h : V c u env (call (.ref f) [.ref a]) Q E m n) : V c u env (eval (.Call (.Attribute (.Name x p) attr apos) [] [] pos) env) Q E m n := MCall_ he (NameL_ hl hv hd (getM hm hn st (callK0_ hk h)))
end
theorem NCallK_ {x : Str} {p pos : Pos} {f : Value} {e : Expr} {r : List Expr} (hl : env.kindOf x = some .globalImplicit) (hg : env.globals = mainGlobals) (hns : nsOkIn c.K mainGlobals = true) (hv : nsIn c.K mainGlobals x = some (some f)) (hd : (x == ("__debug__" : Str)) = false) (hk : keepIn c.K f = true) (he : starEach (e :: r) env = (false, eval e env) :: starEach r env) (hp : ((backTo pos (starEach (e :: r) env)).any (·.1)) = false)
  (h : V c u env (spliced (backTo pos (starEach (e :: r) env))) (Kf c u env E (callA f []) Q) E m n) : V c u env (eval (.Call (.Name x p) (e :: r) [] pos) env) Q E m n := NCall_ (NameG_ hl hg hns hv hd (callK_ hk he hp h))
theorem BinOpL_ {x : Str} {p pos : Pos} {v : Value} {op : Operator} {r : Expr} (hl : env.kindOf x = some .local) (hv : m.lookup x = some v) (hd : (x == ("__debug__" : Str)) = false) (h : V c u env (eval r env) (Kf c u env E (binaryOp op v) Q) E m n) : V c u env (eval (.BinOp (.Name x p) op r pos) env) Q E m n := BinOp_ (NameL_ hl hv hd h)
noncomputable abbrev KTr (c : Cx) (u : Cu) (env : Env) (E : EP) (QB : Bool → Loc → Led → Prop) (v : Value) (m : Loc) (n : Led) : Prop := match v with | .bool b => QB b m n | v => V c u env (truthy v) QB E m n
theorem KTr.to {QB : Bool → Loc → Led → Prop} {v : Value} (h : KTr c u env E QB v m n) : V c u env (truthy v) QB E m n := by
 cases v <;> first | exact tB h | exact h
theorem IsCmpT_ {l r : Expr} {op : CmpOp} {pos : Pos} {whole : Sem Value} {QB : Bool → Loc → Led → Prop} (hm : behindInMarks op r = false)
  (h : V c u env (eval l env) (Kt c u env E (eval r env) (compareOp op) (KTr c u env E QB)) E m n) : V c u env (isTrue (.Compare l [op] [r] pos) env whole) QB E m n :=
 IsCmp_ hm (V.mono h (fun _ _ _ h => V.mono h (fun _ _ _ h => V.mono h (fun _ _ _ h => h.to) fun _ _ _ _ _ h => h) fun _ _ _ _ _ h => h) fun _ _ _ _ _ h => h)
theorem IsPlainT_ {e : Expr} {whole : Sem Value} {QB : Bool → Loc → Led → Prop} (he : isTrue e env whole = (do let v ← whole; standAt e.pos; holding [v] (truthy v)))
  (h : V c u env whole (KTr c u env E QB) E m n) : V c u env (isTrue e env whole) QB E m n := IsPlain_ he (V.mono h (fun _ _ _ h => h.to) fun _ _ _ _ _ h => h)
noncomputable abbrev KSt (x : Str) (Q : Flow → Loc → Led → Prop) (v : Value) (m : Loc) (n : Led) : Prop := Q .next ((x, v) :: m) n
theorem AssignL_ {x : Str} {pos' pos : Pos} {value : Expr} {Q : Flow → Loc → Led → Prop} (hk : env.kindOf x = some .local) (hs : swapsWith value (some (.Name x pos')) pos.line env = pure false)
  (h : V c u env (eval value env) (KSt x Q) E m n) : V c u env (exec (.Assign [.Name x pos'] value pos) env) Q E m n := Assign_ (V.mono h (fun _ _ _ h => Store_ hk h) fun _ _ _ _ _ h => h) hs
end
noncomputable def kpL : List Addr := [46, 71, 80, 87, 94, 129, 134, 141, 148, 155, 158, 169, 193, 225, 232, 239, 253, 277, 368, 379, 393, 414, 421, 428, 435, 442, 452, 473, 480, 483, 494, 515, 522, 529, 541, 548, 555, 562, 569, 576, 583, 590, 597, 600, 611, 618, 625, 632, 670, 705, 739, 780, 833, 886, 911, 918, 925, 932, 939, 946, 953, 960, 1082, 1089, 1096, 1103, 1110, 1117, 1124, 1129, 1134, 1139]
theorem kp_all (p : Params) : (kpL.all fun k => keepIn (myK p) (.ref k)) = true := by kernel_rfl
theorem kp_ {p : Params} {k : Addr} (h : kpL.contains k = true) : keepIn (myK p) (.ref k) = true := List.all_eq_true.mp (kp_all p) k (by simpa using h)
theorem nextL0_ {c : Cx} {u : Cu} {env : Env} {E : EP} {m : Loc} {n : Led} {it l o : Addr} {xs : List Value} {Q : Option Value → Loc → Led → Prop} (hd : u.hd = none) (hm : (l, AObj.list xs) ∈ n) (hx : xs[0]? = some (.ref o)) (h1 : Q (some (.ref o)) m ((it, .liter l (0 + 1)) :: n)) : V c u env (pyNext (.ref it)) Q E m ((it, .liter l 0) :: n) :=
 nextL_ hd hm (fun x hy v hv => by
  rw [hx] at hy
  rw [← Option.some.inj hy] at hv
  rw [nv_ref hv]
  exact h1) fun h => by rw [hx] at h; cases h
noncomputable def W64 : Int := 18446744073709551616
theorem bitAnd_m (k : Nat) (x : Int) : Builtin.bitAnd x ((2 ^ k - 1 : Nat) : Int) = x % ((2 ^ k : Nat) : Int) := by
 have hp : 0 < 2 ^ k := Nat.two_pow_pos k
 by_cases hx : 0 ≤ x
 ·rw [bitAnd_pp hx (Int.natCast_nonneg _), Int.toNat_natCast, Nat.and_two_pow_sub_one_eq_mod, Int.natCast_emod, Int.toNat_of_nonneg hx]
 ·rw [bitAnd_np hx (Int.natCast_nonneg _), Int.toNat_natCast, Nat.and_comm, Nat.and_two_pow_sub_one_eq_mod]
  cases x with
  | ofNat n => exact absurd (Int.natCast_nonneg n) hx
  | negSucc m =>
   have e : Builtin.bitNot (Int.negSucc m) = (m : Int) := by unfold Builtin.bitNot; rw [Int.negSucc_eq]; lia
   rw [e, Int.toNat_natCast, Int.negSucc_emod m (by exact_mod_cast hp), ← Int.natCast_emod, Int.natCast_sub hp, Int.natCast_one]
theorem bitAnd_64 (x : Int) : Builtin.bitAnd x (2 ^ (64 : Int).toNat - 1) = x % W64 := by
 rw [show (2 ^ (64 : Int).toNat - 1 : Int) = ((2 ^ 64 - 1 : Nat) : Int) from by kernel_rfl]
 exact bitAnd_m 64 x
theorem bitAnd_8 (x : Int) : Builtin.bitAnd x 255 = x % 256 := bitAnd_m 8 x
section
variable {c : Cx} {u : Cu} {env : Env} {E : EP} {m : Loc} {n : Led} {Q : Value → Loc → Led → Prop}
theorem mask_ {k : Int} {t : Tok} (h0 : 0 ≤ k) (h1 : k ≤ 1000000) (hr : 1 ≤ u.r) (h : ∀ t, Q (.int (2 ^ k.toNat - 1) t) m n) : V c u env (call (.ref 80) [.int k t]) Q E m n := by
 refine Call_ (fmask _) (Binds.pure (binds := [(n_size, .int k t)]) (fun _ _ _ _ _ => by kernel_rfl)) (by kernel_rfl) (m₀ := [(n_size, .int k t)]) rfl hr ?_
 intro L _ _ _ _
 refine execs_cons ?_
 kp_kind "names"
 kp_kind "r"
 rw [Int.one_mul]
 exact h _
theorem wrap_ {x k : Int} {t t' : Tok} (h0 : 0 ≤ k) (h1 : k ≤ 1000000) (hr : 2 ≤ u.r) (h : ∀ t, Q (.int (Builtin.bitAnd x (2 ^ k.toNat - 1)) t) m n) : V c u env (call (.ref 87) [.int x t, .int k t']) Q E m n := by
 refine Call_ (fwrap _) (Binds.pure (binds := [(n_worth, .int x t), (n_size, .int k t')]) (fun _ _ _ _ _ => by kernel_rfl)) (by kernel_rfl) (m₀ := [(n_size, .int k t'), (n_worth, .int x t)]) rfl (by lia) ?_
 intro L _ _ _ _
 refine execs_cons ?_
 kp_kind "names"
 kp_kind "r"
 refine mask_ h0 h1 (by kp_kind "room") fun t => ?_
 kp_kind "r"
 exact h _
theorem wrap64_ {x : Int} {t t' : Tok} (hr : 2 ≤ u.r) (h : ∀ t, Q (.int (x % W64) t) m n) : V c u env (call (.ref 87) [.int x t, .int 64 t']) Q E m n :=
 wrap_ (by decide) (by decide) hr fun t => by rw [bitAnd_64]; exact h t
theorem wrap8_ {x : Int} {t t' : Tok} (hr : 2 ≤ u.r) (h : ∀ t, Q (.int (x % 256) t) m n) : V c u env (call (.ref 87) [.int x t, .int 8 t']) Q E m n :=
 wrap_ (by decide) (by decide) hr fun t => by rw [show (2 : Int) ^ (8 : Int).toNat - 1 = 255 from rfl, bitAnd_8]; exact h t
noncomputable def oct (l : Mem) (p : Int) : Int := (mget l (p % W64)).getD 0
theorem octet_ {a d hd p : _} {l : Mem} {t : Tok} (ha : (a, AObj.inst 483 d [(n_held, .ref hd)]) ∈ n) (hm : (hd, AObj.mem c.w l) ∈ n) (hs : (hd == sysModules) = false) (hr : 3 ≤ u.r) (h : ∀ t, Q (.int (oct l p) t) m n) : V c u env (call (.ref 414) [.ref a, .int p t]) Q E m n := by
 refine Call_ (fMemory_octet _) (Binds.pure (binds := [(n_self, .ref a), (n_place, .int p t)]) (fun _ _ _ _ _ => by kernel_rfl)) (by kernel_rfl) (m₀ := [(n_place, .int p t), (n_self, .ref a)]) rfl (by lia) ?_
 intro L _ _ _ _
 refine execs_cons ?_
 kp_kind "names"
 kp_kind "r"
 refine wrap64_ (by kp_kind "room") fun t => ?_
 kp_kind "r"
 refine getD_ (by kp_kind "mem") hs fun t => ?_
 kp_kind "r"
 exact h _
theorem set_octet_ {a d hd p v : _} {l : Mem} {t t' : Tok} {n' : Led} (ha : (a, AObj.inst 483 d [(n_held, .ref hd)]) ∈ n) (hp : Put hd (.mem c.w l) (.mem c.w (mset l (p % W64) v)) n n') (hz : l.length ≤ 10000) (hr : 3 ≤ u.r) (h : Q .none m n') : V c u env (call (.ref 421) [.ref a, .int p t, .int v t']) Q E m n := by
 refine Call_ (fMemory_set_octet _) (Binds.pure (binds := [(n_self, .ref a), (n_place, .int p t), (n_octet, .int v t')]) (fun _ _ _ _ _ => by kernel_rfl)) (by kernel_rfl) (m₀ := [(n_octet, .int v t'), (n_place, .int p t), (n_self, .ref a)]) rfl (by lia) ?_
 intro L _ _ _ _
 refine execs_cons ?_
 kp_kind "names"
 kp_kind "r"
 refine wrap64_ (by kp_kind "room") fun t => ?_
 kp_kind "r"
 refine setM_ hp hz ?_
 kp_kind "r"
 try exact h
end
noncomputable def rd (l : Mem) (p : Int) : Nat → Int
 | 0 => 0
 | k + 1 => rd l p k + oct l (p + k) * 2 ^ (8 * k)
noncomputable def wr (l : Mem) (p : Int) (worth : Int) : Nat → Mem
 | 0 => l
 | k + 1 => mset (wr l p worth k) ((p + k) % W64) (worth.fdiv (2 ^ (8 * k)) % 256)
noncomputable def MemOk (l : Mem) : Prop := ∀ q ∈ l, 0 ≤ q.2 ∧ q.2 < 256
theorem oct_ok {l : Mem} (h : MemOk l) (p : Int) : 0 ≤ oct l p ∧ oct l p < 256 := by
 unfold oct mget
 cases q : l.find? (fun q => decide (q.1 = p % W64)) with
 | none => simp
 | some x => simpa using h x (List.mem_of_find?_eq_some q)
theorem mset_ok {l : Mem} (h : MemOk l) {k v : Int} (h0 : 0 ≤ v) (h1 : v < 256) : MemOk (mset l k v) := by
 unfold mset
 split
 ·intro q hq
  obtain ⟨x, hx, rfl⟩ := List.mem_map.mp hq
  split
  ·exact ⟨h0, h1⟩
  ·exact h x hx
 ·intro q hq
  rcases List.mem_append.mp hq with hq | hq
  ·exact h q hq
  ·rw [List.mem_singleton.mp hq]; exact ⟨h0, h1⟩
theorem mset_len {l : Mem} {k v : Int} : (mset l k v).length ≤ l.length + 1 := by
 unfold mset
 split <;> simp
theorem wr_len {l : Mem} {p w : Int} : ∀ k, (wr l p w k).length ≤ l.length + k
 | 0 => by simp [wr]
 | k + 1 => by
  have := wr_len (l := l) (p := p) (w := w) k
  have h2 : (wr l p w (k + 1)).length ≤ (wr l p w k).length + 1 := mset_len
  lia
theorem wr_ok {l : Mem} (h : MemOk l) {p w : Int} : ∀ k, MemOk (wr l p w k)
 | 0 => h
 | k + 1 => mset_ok (wr_ok h k) (Int.emod_nonneg _ (by decide)) (Int.emod_lt_of_pos _ (by decide))
theorem mul8 {i : Int} (h : i < 1000) (h0 : 0 ≤ i) : IntMulOk 8 i := IntMulOk.of_le (m := 10) (n := 20) (by decide) (by
 have : ∀ j : Nat, j < 1000 → Builtin.Int.intBits (j : Int) ≤ 20 := by decide
 have := this i.toNat (by lia)
 rwa [Int.toNat_of_nonneg h0] at this) (by decide)
theorem V.drop1 {α : Type} {c : Cx} {u : Cu} {env : Env} {t : Sem α} {Q : α → Loc → Led → Prop} {E : EP} {m : Loc} {n : Led} (h : V c u env t (fun a m n => ∃ n', n'.Sublist n ∧ Q a m n') E m n) : V c u env t Q E m n := V.lose h
theorem lkI {x : Str} {i j : Int} {t : Tok} {l : Loc} (e : i = j) : ((x, .int i t) :: l : Loc).lookup x = some (.int j t) := by rw [lk_hit, e]
section
variable {c : Cx} {u : Cu} {env : Env} {E : EP} {m : Loc} {n : Led} {Q : Value → Loc → Led → Prop}
theorem read8_ {a d hd p : _} {l : Mem} {t t' : Tok} (ha : (a, AObj.inst 483 d [(n_held, .ref hd)]) ∈ n) (hm : (hd, AObj.mem c.w l) ∈ n) (hs : (hd == sysModules) = false) (hok : MemOk l) (hh : u.hd = none) (hr : 4 ≤ u.r)
  (h : ∀ t, Q (.int (rd l p 8) t) m n) : V c u env (call (.ref 428) [.ref a, .int p t, .int 8 t']) Q E m n := by
 refine V.drop1 ?_
 refine Call_ (fMemory_read _) (Binds.pure (binds := [(n_self, .ref a), (n_place, .int p t), (n_width, .int 8 t')]) (fun _ _ _ _ _ => by kernel_rfl)) (by kernel_rfl) (m₀ := [(n_width, .int 8 t'), (n_place, .int p t), (n_self, .ref a)]) rfl (by lia) ?_
 intro L _ _ _ _
 refine execs_cons ?_
 kp_kind "names"
 kp_kind "r"
 refine For_ ?_
 kp_kind "r"
 refine range_ fun r => ?_
 refine iterR_ (.head _) (by decide) (by decide) (by decide) fun it => ?_
 refine ⟨8, fun i m' n' => ∃ tw, n' = (it, .riter i (8 - i)) :: (r, .range 0 8) :: n ∧ m'.lookup n_self = some (.ref a) ∧ m'.lookup n_place = some (.int p t) ∧ m'.lookup n_worth = some (.int (rd l p i) tw), ⟨_, rfl, by kp_kind "lk", by kp_kind "lk", by kp_kind "lk"⟩, ?_⟩
 rintro _ i m' n' hi ⟨tw, rfl, l1, l2, l3⟩
 refine turnName (by kernel_rfl) ?_
 refine nextR_ hh (fun hlt tt => ?_) (fun hge => ?_)
 ·kp_kind "r"
  refine octet_ (by kp_kind "mem") (by kp_kind "mem") hs (by kp_kind "room") fun t1 => ?_
  kp_kind "r"
  refine mul_ (mul8 (by lia) (by lia)) fun t2 => ?_
  have ho := oct_ok hok (p + i)
  refine shl_ (by lia) (by lia) (by lia) fun t3 => ?_
  kp_kind "r"
  refine ⟨by lia, _, by rw [show (8 : Int) - i - 1 = 8 - ((i + 1 : Nat) : Int) by lia]; rfl, by kp_kind "lk", by kp_kind "lk", lkI (by rw [rd, show (8 * (i : Int)).toNat = 8 * i by lia])⟩
 ·have : i = 8 := by lia
  subst this
  kp_kind "r"
  exact ⟨n, .cons _ (.refl _), h _⟩
theorem write_ {a d hd p v W : _} {k : Nat} {l : Mem} {t t' t'' : Tok} {n' : Led} (hW : W = (k : Int)) (hk : k ≤ 100) (ha : (a, AObj.inst 483 d [(n_held, .ref hd)]) ∈ n) (hp : Put hd (.mem c.w l) (.mem c.w (wr l p v k)) n n') (hz : l.length ≤ 9000) (hh : u.hd = none) (hr : 4 ≤ u.r)
  (h : Q .none m n') : V c u env (call (.ref 435) [.ref a, .int p t, .int W t', .int v t'']) Q E m n := by
 subst hW
 obtain ⟨pre, post, rfl, rfl⟩ := hp.split
 refine V.drop1 ?_
 refine Call_ (fMemory_write _) (Binds.pure (binds := [(n_self, .ref a), (n_place, .int p t), (n_width, .int k t'), (n_worth, .int v t'')]) (fun _ _ _ _ _ => by kernel_rfl)) (by kernel_rfl) (m₀ := [(n_worth, .int v t''), (n_width, .int k t'), (n_place, .int p t), (n_self, .ref a)]) rfl (by lia) ?_
 intro L _ _ _ _
 refine execs_cons ?_
 kp_kind "names"
 kp_kind "r"
 refine For_ ?_
 kp_kind "r"
 refine range_ fun r => ?_
 refine iterR_ (.head _) (by decide) (by lia) (by lia) fun it => ?_
 refine ⟨k, fun i m' n' => n' = (it, .riter i (k - 0 - i)) :: (r, .range 0 k) :: (pre ++ (hd, .mem c.w (wr l p v i)) :: post) ∧ m'.lookup n_self = some (.ref a) ∧ m'.lookup n_place = some (.int p t) ∧ m'.lookup n_worth = some (.int v t''), ⟨by simp [wr], by kp_kind "lk", by kp_kind "lk", by kp_kind "lk"⟩, ?_⟩
 rintro _ i m' n' hi ⟨rfl, l1, l2, l3⟩
 have ha' : ∀ o, (a, AObj.inst 483 d [(n_held, .ref hd)]) ∈ pre ++ (hd, .mem c.w o) :: post := fun o => by
  rcases List.mem_append.mp ha with ha | ha
  ·exact List.mem_append_left _ ha
  ·rcases List.mem_cons.mp ha with ha | ha
   ·cases ha
   ·exact List.mem_append_right _ (.tail _ ha)
 refine turnName (by kernel_rfl) ?_
 refine nextR_ hh (fun hlt tt => ?_) (fun hge => ?_)
 ·have ha'' := ha' (wr l p v i)
  kp_kind "r"
  refine mul_ (mul8 (by lia) (by lia)) fun t2 => ?_
  refine shr_ (by lia) fun t3 => ?_
  kp_kind "r"
  have hwl := wr_len (l := l) (p := p) (w := v) i
  rw [bitAnd_8]
  refine set_octet_ (l := wr l p v i) (n' := (it, .riter (i + 1) (k - 0 - i - 1)) :: (r, .range 0 k) :: (pre ++ (hd, .mem c.w (wr l p v (i + 1))) :: post)) (by kp_kind "mem") (.there (.there ?_)) (by lia) (by kp_kind "room") ?_
  ·rw [show (8 * (i : Int)).toNat = 8 * i by lia]
   have : ∀ pr : Led, Put hd (.mem c.w (wr l p v i)) (.mem c.w (mset (wr l p v i) ((p + i) % W64) (v.fdiv (2 ^ (8 * i)) % 256))) (pr ++ (hd, .mem c.w (wr l p v i)) :: post) (pr ++ (hd, .mem c.w (wr l p v (i + 1))) :: post) := by
    intro pr
    induction pr with
    | nil => exact .here
    | cons x r ih => exact .there ih
   exact this pre
  kp_kind "r"
  refine ⟨by lia, ?_, by kp_kind "lk", by kp_kind "lk", by kp_kind "lk"⟩
  rw [show (k : Int) - 0 - i - 1 = k - 0 - ((i + 1 : Nat) : Int) by lia]; rfl
 ·have : i = k := by lia
  subst this
  kp_kind "r"
  exact ⟨_, .cons _ (.refl _), h⟩
end
structure Mach where
 regs : List Int
 mem : Mem
 rip : Int
 beg : Int
 halted : Bool
structure SA where
 s : Addr
 d : Addr
 r : Addr
 x : Addr
 f : Addr
 fd : Addr
 mm : Addr
 md : Addr
 h : Addr
 g : Addr
noncomputable abbrev stA (A : SA) (M : Mach) : Loc := [(n_iset, .none), (n_regs, .ref A.r), (n_xmm, .ref A.x), (n_flags, .ref A.f), (n_memory, .ref A.mm), (n_rip, .int M.rip 0), (n_begin, .int M.beg 0), (n_segments, .ref A.g), (n_is_halted, .bool M.halted)]
noncomputable def stL (w : World) (A : SA) (M : Mach) : Led :=
 [(A.s, .inst 600 A.d [(n_iset, .none), (n_regs, .ref A.r), (n_xmm, .ref A.x), (n_flags, .ref A.f), (n_memory, .ref A.mm), (n_rip, .int M.rip 0), (n_begin, .int M.beg 0), (n_segments, .ref A.g), (n_is_halted, .bool M.halted)]),
 (A.r, .ints M.regs), (A.mm, .inst 483 A.md [(n_held, .ref A.h)]), (A.h, .mem w M.mem), (A.x, .ints (List.replicate 16 0)),
 (A.f, .inst 277 A.fd [(n_cf, .int 0 0), (n_pf, .int 0 0), (n_af, .int 0 0), (n_zf, .int 0 0), (n_sf, .int 0 0), (n_of, .int 0 0), (n_df, .int 0 0)]),
 (A.g, .smap w [(n_fs, .int 0 0), (n_gs, .int 0 0)])]
section
variable {w : World} {A : SA} {M : Mach} {n : Led}
theorem st0 : (A.s, AObj.inst 600 A.d [(n_iset, .none), (n_regs, .ref A.r), (n_xmm, .ref A.x), (n_flags, .ref A.f), (n_memory, .ref A.mm), (n_rip, .int M.rip 0), (n_begin, .int M.beg 0), (n_segments, .ref A.g), (n_is_halted, .bool M.halted)]) ∈ stL w A M ++ n := .head _
theorem st1 : (A.r, AObj.ints M.regs) ∈ stL w A M ++ n := .tail _ (.head _)
theorem st2 : (A.mm, AObj.inst 483 A.md [(n_held, .ref A.h)]) ∈ stL w A M ++ n := .tail _ (.tail _ (.head _))
theorem st3 : (A.h, AObj.mem w M.mem) ∈ stL w A M ++ n := .tail _ (.tail _ (.tail _ (.head _)))
theorem st4 : (A.x, AObj.ints (List.replicate 16 0)) ∈ stL w A M ++ n := .tail _ (.tail _ (.tail _ (.tail _ (.head _))))
theorem st5 : (A.f, AObj.inst 277 A.fd [(n_cf, .int 0 0), (n_pf, .int 0 0), (n_af, .int 0 0), (n_zf, .int 0 0), (n_sf, .int 0 0), (n_of, .int 0 0), (n_df, .int 0 0)]) ∈ stL w A M ++ n := .tail _ (.tail _ (.tail _ (.tail _ (.tail _ (.head _)))))
theorem st6 : (A.g, AObj.smap w [(n_fs, .int 0 0), (n_gs, .int 0 0)]) ∈ stL w A M ++ n := .tail _ (.tail _ (.tail _ (.tail _ (.tail _ (.tail _ (.head _))))))
theorem stp_rip {i : Int} : Put A.s (.inst 600 A.d (stA A M)) (.inst 600 A.d (stA A { M with rip := i })) (stL w A M ++ n) (stL w A { M with rip := i } ++ n) := .here
theorem stp_beg {i : Int} : Put A.s (.inst 600 A.d (stA A M)) (.inst 600 A.d (stA A { M with beg := i })) (stL w A M ++ n) (stL w A { M with beg := i } ++ n) := .here
theorem stp_halted {i : Bool} : Put A.s (.inst 600 A.d (stA A M)) (.inst 600 A.d (stA A { M with halted := i })) (stL w A M ++ n) (stL w A { M with halted := i } ++ n) := .here
theorem stp_mem {l : Mem} : Put A.h (.mem w M.mem) (.mem w l) (stL w A M ++ n) (stL w A { M with mem := l } ++ n) := .there (.there (.there .here))
theorem stp_regs {l : List Int} : Put A.r (.ints M.regs) (.ints l) (stL w A M ++ n) (stL w A { M with regs := l } ++ n) := .there .here
end
theorem Put.app {a : Addr} {o o' : AObj} {n n' : Led} (h : Put a o o' n n') : ∀ l : Led, Put a o o' (l ++ n) (l ++ n')
 | [] => h
 | _ :: l => .there (h.app l)
section
variable {c : Cx} {u : Cu} {env : Env} {E : EP} {m : Loc} {n : Led} {A : SA} {M : Mach}
theorem setA2 {a C d : Addr} {as as' : List (Str × Value)} {name : Str} {v : Value} {n' : Led} {Q : Unit → Loc → Led → Prop} (hp : Put a (.inst C d as) (.inst C d as') n n') (e : setL name (nv v) as = as') (hz : as.length ≤ 1000) (st : SetIn c.K C name)
  (h : Q () m n') : V c u env (setAttr (.ref a) name v) Q E m n := by subst e; exact setA hp hz st h
theorem setRip {n' : Led} {i : Int} {t : Tok} {Q : Unit → Loc → Led → Prop} (hp : Put A.s (.inst 600 A.d (stA A M)) (.inst 600 A.d (stA A { M with rip := i })) n n') (h : Q () m n') : V c u env (setAttr (.ref A.s) n_rip (.int i t)) Q E m n :=
 setA2 hp (by kernel_rfl) (Nat.le_of_ble_eq_true rfl) (wt_ (by kp_kind "dq")) h
theorem setBeg {n' : Led} {i : Int} {t : Tok} {Q : Unit → Loc → Led → Prop} (hp : Put A.s (.inst 600 A.d (stA A M)) (.inst 600 A.d (stA A { M with beg := i })) n n') (h : Q () m n') : V c u env (setAttr (.ref A.s) n_begin (.int i t)) Q E m n :=
 setA2 hp (by kernel_rfl) (Nat.le_of_ble_eq_true rfl) (wt_ (by kp_kind "dq")) h
theorem setHalted {n' : Led} {b : Bool} {Q : Unit → Loc → Led → Prop} (hp : Put A.s (.inst 600 A.d (stA A M)) (.inst 600 A.d (stA A { M with halted := b })) n n') (h : Q () m n') : V c u env (setAttr (.ref A.s) n_is_halted (.bool b)) Q E m n :=
 setA2 hp (by kernel_rfl) (Nat.le_of_ble_eq_true rfl) (wt_ (by kp_kind "dq")) h
theorem V.drop2 {α : Type} {t : Sem α} {Q : α → Loc → Led → Prop} (h : V c u env t (fun a m n => ∃ n', n'.Sublist n ∧ Q a m n') (fun fl e d m n => ∃ n', n'.Sublist n ∧ E fl e d m n') m n) : V c u env t Q E m n :=
 V.i fun ok A hp tk fit md => wpAny_mono (h.go ok A hp tk fit md) (fun a s ⟨x, m, n, y, n', hs, z⟩ => ⟨x, m, n', y.sub hs, z⟩) fun x s ⟨sm, fl, e, d, m, n, hx, y, g, o, n', hs, z⟩ => by
  have fs : ∀ b ∈ foot n', b ∈ foot n := by
   intro b hb
   obtain ⟨p, hp, hb⟩ := List.mem_flatMap.mp hb
   exact mem_foot (hs.subset hp) hb
  refine ⟨sm, fl, e, d, m, n', hx, y.sub hs, ⟨fun q => g.out (fs _ q), g.new, ?_⟩, o, z⟩
  obtain ⟨oe, vs, h1, h2, h3, h4, h5⟩ := g.at_
  refine ⟨oe, vs, h1, h2, h3, h4, ?_⟩
  cases fl with
  | none => exact h5
  | some v =>
   obtain ⟨T, oT, ts, k1, k2, k3⟩ := h5
   exact ⟨T, oT, ts, k1, fun q => k2 (fs _ q), k3⟩
end
noncomputable abbrev regL (nm : Str) (k : Int) : Loc := [(n_name, .str nm 0), (n_kind, .str n_gpr 0), (n_number, .int k 0), (n_size, .int 64 0)]
noncomputable def RegIn (n : Led) (k : Int) (R : Addr) : Prop := ∃ Rd nm, (R, AObj.inst 368 Rd (regL nm k)) ∈ n
section
variable {c : Cx} {u : Cu} {env : Env} {E : EP} {m : Loc} {n : Led} {A : SA} {M : Mach} {Q : Value → Loc → Led → Prop}
theorem joined_ {x y : Value} {t : Tok} (hr : 1 ≤ u.r) (h : Q y m n) : V c u env (call (.ref 494) [x, y, .int 64 t]) Q E m n := by
 refine Call_ (fjoined_machine _) (Binds.pure (binds := [(n_old, x), (n_worth, y), (n_size, .int 64 t)]) (fun _ _ _ _ _ => by kernel_rfl)) (by kernel_rfl) (m₀ := [(n_size, .int 64 t), (n_worth, y), (n_old, x)]) rfl (by omega) ?_
 intro L _ _ _ _
 refine execs_cons ?_
 kp_kind "names"
 kp_kind "r"
 exact h
theorem get_ {k : Int} {R : Addr} (hR : RegIn n k R) (h0 : 0 ≤ k) (h1 : k.toNat < M.regs.length) (hl : k < 100) (hr : 3 ≤ u.r) (h : ∀ t, Q (.int (M.regs.getD k.toNat 0 % W64) t) m (stL c.w A M ++ n)) : V c u env (call (.ref 515) [.ref A.s, .ref R]) Q E m (stL c.w A M ++ n) := by
 obtain ⟨Rd, nm, hR⟩ := hR
 refine Call_ (fState_get _) (Binds.pure (binds := [(n_self, .ref A.s), (n_register, .ref R)]) (fun _ _ _ _ _ => by kernel_rfl)) (by kernel_rfl) (m₀ := [(n_register, .ref R), (n_self, .ref A.s)]) rfl (by omega) ?_
 intro L _ _ _ _
 refine execs_cons ?_
 kp_kind "names"
 kp_kind "r"
 refine subLI_ (ns := M.regs) (by kp_kind "mem") h0 (by omega) h1 (by kernel_rfl) fun t => ?_
 kp_kind "r"
 refine wrap64_ (by kp_kind "room") fun t => ?_
 kp_kind "r"
 exact h _
theorem put_ {k v : Int} {t : Tok} {R : Addr} (hR : RegIn n k R) (h0 : 0 ≤ k) (h1 : k.toNat < M.regs.length) (hl : k < 100) (hr : 3 ≤ u.r) (h : Q .none m (stL c.w A { M with regs := M.regs.set k.toNat (v % W64) } ++ n)) : V c u env (call (.ref 522) [.ref A.s, .ref R, .int v t]) Q E m (stL c.w A M ++ n) := by
 obtain ⟨Rd, nm, hR⟩ := hR
 refine Call_ (fState_put _) (Binds.pure (binds := [(n_self, .ref A.s), (n_register, .ref R), (n_worth, .int v t)]) (fun _ _ _ _ _ => by kernel_rfl)) (by kernel_rfl) (m₀ := [(n_worth, .int v t), (n_register, .ref R), (n_self, .ref A.s)]) rfl (by omega) ?_
 intro L _ _ _ _
 refine execs_cons ?_
 kp_kind "names"
 kp_kind "r"
 refine wrap64_ (by kp_kind "room") fun t => ?_
 kp_kind "r"
 refine subLI_ (ns := M.regs) (by kp_kind "mem") h0 (by omega) h1 (by kernel_rfl) fun t => ?_
 kp_kind "r"
 refine joined_ (by kp_kind "room") ?_
 kp_kind "r"
 refine setLI_ (by kp_kind "put") h0 (by omega) h1 ?_
 kp_kind "r"
 exact h
end
noncomputable abbrev opRegL (R : Addr) : Loc := [(n_kind, .str n_reg 0), (n_register, .ref R)]
noncomputable abbrev opImmL (i : Int) : Loc := [(n_kind, .str n_imm 0), (n_worth, .int i 0), (n_name, .str nS 0)]
noncomputable abbrev opRelL (i : Int) : Loc := [(n_kind, .str n_rel 0), (n_worth, .int i 0), (n_name, .str nS 0)]
noncomputable abbrev opMemL (p : Int) : Loc := [(n_kind, .str n_mem 0), (n_base, .none), (n_index, .none), (n_scale, .int 1 0), (n_worth, .int p 0), (n_size, .int 8 0), (n_segment, .str nS 0), (n_name, .str nS 0)]
noncomputable abbrev insL (nm : Str) (t : Addr) : Loc := [(n_name, .str nm 0), (n_operands, .ref t), (n_prefix, .str nS 0)]
noncomputable def OpReg (n : Led) (k : Int) (o : Addr) : Prop := ∃ od R, (o, AObj.inst 705 od (opRegL R)) ∈ n ∧ RegIn n k R
noncomputable def OpImm (n : Led) (i : Int) (o : Addr) : Prop := ∃ od, (o, AObj.inst 739 od (opImmL i)) ∈ n
noncomputable def OpRel (n : Led) (i : Int) (o : Addr) : Prop := ∃ od, (o, AObj.inst 780 od (opRelL i)) ∈ n
noncomputable def OpMem (n : Led) (p : Int) (o : Addr) : Prop := ∃ od, (o, AObj.inst 833 od (opMemL p)) ∈ n
theorem RegIn.sub {n n' : Led} {k : Int} {R : Addr} (h : RegIn n k R) (hs : ∀ p ∈ n, p ∈ n') : RegIn n' k R := by obtain ⟨a, b, h⟩ := h; exact ⟨a, b, hs _ h⟩
theorem OpReg.sub {n n' : Led} {k : Int} {R : Addr} (h : OpReg n k R) (hs : ∀ p ∈ n, p ∈ n') : OpReg n' k R := by obtain ⟨a, b, h1, h2⟩ := h; exact ⟨a, b, hs _ h1, h2.sub hs⟩
theorem OpMem.sub {n n' : Led} {k : Int} {R : Addr} (h : OpMem n k R) (hs : ∀ p ∈ n, p ∈ n') : OpMem n' k R := by obtain ⟨a, h1⟩ := h; exact ⟨a, hs _ h1⟩
section
variable {c : Cx} {u : Cu} {env : Env} {E : EP} {m : Loc} {n : Led} {A : SA} {M : Mach} {Q : Value → Loc → Led → Prop}
theorem sizeReg_ {s o i id t : Addr} {k : Int} {nm : Str} {xs : List Value} (ho : OpReg n k o) (hi : (i, AObj.inst 886 id (insL nm t)) ∈ n) (ht : (t, AObj.tup xs) ∈ n) (hx : xs.length ≤ 100) (hh : u.hd = none) (hr : 1 ≤ u.r) (h : ∀ t, Q (.int 64 t) m n) : V c u env (call (.ref 555) [.ref s, .ref o, .ref i]) Q E m n := by
 obtain ⟨od, R, ho, Rd, rn, hR⟩ := ho
 refine V.drop1 ?_
 refine Call_ (fState_size_of _) (Binds.pure (binds := [(n_self, .ref s), (n_operand, .ref o), (n_instruction, .ref i)]) (fun _ _ _ _ _ => by kernel_rfl)) (by kernel_rfl) (m₀ := [(n_instruction, .ref i), (n_operand, .ref o), (n_self, .ref s)]) rfl (by lia) ?_
 intro L _ _ _ _
 refine execs_cons ?_
 kp_kind "names"
 refine For_ ?_
 kp_kind "r"
 refine listOfT_ (xs := xs) (by kp_kind "mem") (by lia) fun b => ?_
 refine addL_ (by kp_kind "mem") (by kp_kind "mem") (by simp; lia) fun d => ?_
 refine iterL_ (by kp_kind "mem") fun it => ?_
 refine ⟨0, fun i m' n' => i = 0 ∧ m' = _ ∧ n' = _, ⟨rfl, rfl, rfl⟩, ?_⟩
 rintro _ i m' n' hi' ⟨rfl, rfl, rfl⟩
 refine turnName (by kernel_rfl) ?_
 refine nextL0_ (o := o) hh (by kp_kind "mem") (by simp [nv]) ?_
 kp_kind "r"
 refine ⟨n, ?_, h _⟩
 exact .cons _ (.cons _ (.cons _ (.cons _ (.refl _))))
theorem sizeMem_ {s o i id t : Addr} {p : Int} {nm : Str} {xs : List Value} (ho : OpMem n p o) (hi : (i, AObj.inst 886 id (insL nm t)) ∈ n) (ht : (t, AObj.tup xs) ∈ n) (hx : xs.length ≤ 100) (hh : u.hd = none) (hr : 1 ≤ u.r) (h : ∀ t, Q (.int 8 t) m n) : V c u env (call (.ref 555) [.ref s, .ref o, .ref i]) Q E m n := by
 obtain ⟨od, ho⟩ := ho
 refine V.drop1 ?_
 refine Call_ (fState_size_of _) (Binds.pure (binds := [(n_self, .ref s), (n_operand, .ref o), (n_instruction, .ref i)]) (fun _ _ _ _ _ => by kernel_rfl)) (by kernel_rfl) (m₀ := [(n_instruction, .ref i), (n_operand, .ref o), (n_self, .ref s)]) rfl (by lia) ?_
 intro L _ _ _ _
 refine execs_cons ?_
 kp_kind "names"
 refine For_ ?_
 kp_kind "r"
 refine listOfT_ (xs := xs) (by kp_kind "mem") (by lia) fun b => ?_
 refine addL_ (by kp_kind "mem") (by kp_kind "mem") (by simp; lia) fun d => ?_
 refine iterL_ (by kp_kind "mem") fun it => ?_
 refine ⟨0, fun i m' n' => i = 0 ∧ m' = _ ∧ n' = _, ⟨rfl, rfl, rfl⟩, ?_⟩
 rintro _ i m' n' hi' ⟨rfl, rfl, rfl⟩
 refine turnName (by kernel_rfl) ?_
 refine nextL0_ (o := o) hh (by kp_kind "mem") (by simp [nv]) ?_
 kp_kind "r"
 refine ⟨n, ?_, h _⟩
 exact .cons _ (.cons _ (.cons _ (.cons _ (.refl _))))
theorem readReg_ {k : Int} {o : Addr} {t : Tok} (ho : OpReg n k o) (h0 : 0 ≤ k) (h1 : k.toNat < M.regs.length) (hl : k < 100) (hr : 4 ≤ u.r) (h : ∀ t, Q (.int (M.regs.getD k.toNat 0 % W64) t) m (stL c.w A M ++ n)) : V c u env (call (.ref 562) [.ref A.s, .ref o, .int 64 t]) Q E m (stL c.w A M ++ n) := by
 obtain ⟨od, R, ho, hR⟩ := ho
 refine Call_ (fState_read _) (Binds.pure (binds := [(n_self, .ref A.s), (n_operand, .ref o), (n_size, .int 64 t)]) (fun _ _ _ _ _ => by kernel_rfl)) (by kernel_rfl) (m₀ := [(n_size, .int 64 t), (n_operand, .ref o), (n_self, .ref A.s)]) rfl (by lia) ?_
 intro L _ _ _ _
 refine execs_cons ?_
 kp_kind "names"
 kp_kind "r"
 refine get_ hR h0 h1 hl (by kp_kind "room") fun t => ?_
 kp_kind "r"
 refine wrap64_ (by kp_kind "room") fun t => ?_
 kp_kind "r"
 rw [Int.emod_emod]
 exact h _
theorem readImm_ {s i k K : _} {o : Addr} {t : Tok} (ho : OpImm n i o) (hK : (k = 64 ∧ K = W64) ∨ (k = 8 ∧ K = 256)) (hr : 4 ≤ u.r) (h : ∀ t, Q (.int (i % K) t) m n) : V c u env (call (.ref 562) [.ref s, .ref o, .int k t]) Q E m n := by
 obtain ⟨od, ho⟩ := ho
 refine Call_ (fState_read _) (Binds.pure (binds := [(n_self, .ref s), (n_operand, .ref o), (n_size, .int k t)]) (fun _ _ _ _ _ => by kernel_rfl)) (by kernel_rfl) (m₀ := [(n_size, .int k t), (n_operand, .ref o), (n_self, .ref s)]) rfl (by lia) ?_
 intro L _ _ _ _
 refine execs_cons ?_
 kp_kind "names"
 kp_kind "r"
 rcases hK with ⟨rfl, rfl⟩ | ⟨rfl, rfl⟩
 ·refine wrap64_ (by kp_kind "room") fun t => ?_
  kp_kind "r"
  exact h _
 ·refine wrap8_ (by kp_kind "room") fun t => ?_
  kp_kind "r"
  exact h _
theorem put_low_ {k v : Int} {t t' : Tok} {R : Addr} (hR : RegIn n k R) (h0 : 0 ≤ k) (h1 : k.toNat < M.regs.length) (hl : k < 100) (hr : 4 ≤ u.r) (h : Q .none m (stL c.w A { M with regs := M.regs.set k.toNat (v % W64) } ++ n)) : V c u env (call (.ref 529) [.ref A.s, .ref R, .int 64 t', .int v t]) Q E m (stL c.w A M ++ n) := by
 have hR' := hR
 obtain ⟨Rd, nm, hR⟩ := hR
 refine Call_ (fState_put_low _) (Binds.pure (binds := [(n_self, .ref A.s), (n_register, .ref R), (n_size, .int 64 t'), (n_worth, .int v t)]) (fun _ _ _ _ _ => by kernel_rfl)) (by kernel_rfl) (m₀ := [(n_worth, .int v t), (n_size, .int 64 t'), (n_register, .ref R), (n_self, .ref A.s)]) rfl (by lia) ?_
 intro L _ _ _ _
 refine execs_cons ?_
 kp_kind "names"
 kp_kind "r"
 refine put_ hR' h0 h1 hl (by kp_kind "room") ?_
 kp_kind "r"
 exact h
theorem writeReg_ {k v : Int} {t t' : Tok} {o : Addr} (ho : OpReg n k o) (h0 : 0 ≤ k) (h1 : k.toNat < M.regs.length) (hl : k < 100) (hr : 5 ≤ u.r) (h : Q .none m (stL c.w A { M with regs := M.regs.set k.toNat (v % W64) } ++ n)) : V c u env (call (.ref 569) [.ref A.s, .ref o, .int 64 t', .int v t]) Q E m (stL c.w A M ++ n) := by
 obtain ⟨od, R, ho, hR⟩ := ho
 refine Call_ (fState_write _) (Binds.pure (binds := [(n_self, .ref A.s), (n_operand, .ref o), (n_size, .int 64 t'), (n_worth, .int v t)]) (fun _ _ _ _ _ => by kernel_rfl)) (by kernel_rfl) (m₀ := [(n_worth, .int v t), (n_size, .int 64 t'), (n_operand, .ref o), (n_self, .ref A.s)]) rfl (by lia) ?_
 intro L _ _ _ _
 refine execs_cons ?_
 kp_kind "names"
 kp_kind "r"
 refine put_low_ hR h0 h1 hl (by kp_kind "room") ?_
 kp_kind "r"
 exact h
theorem offset_ {s p : _} {o : Addr} (ho : OpMem n p o) (hr : 3 ≤ u.r) (h : ∀ t, Q (.int (p % W64) t) m n) : V c u env (call (.ref 541) [.ref s, .ref o]) Q E m n := by
 obtain ⟨od, ho⟩ := ho
 refine Call_ (fState_offset _) (Binds.pure (binds := [(n_self, .ref s), (n_mem, .ref o)]) (fun _ _ _ _ _ => by kernel_rfl)) (by kernel_rfl) (m₀ := [(n_mem, .ref o), (n_self, .ref s)]) rfl (by lia) ?_
 intro L _ _ _ _
 refine execs_cons ?_
 kp_kind "names"
 kp_kind "r"
 refine wrap64_ (by kp_kind "room") fun t => ?_
 kp_kind "r"
 exact h _
theorem place_ {p : Int} {o : Addr} (ho : OpMem n p o) (hr : 4 ≤ u.r) (h : ∀ t, Q (.int (p % W64) t) m (stL c.w A M ++ n)) : V c u env (call (.ref 548) [.ref A.s, .ref o]) Q E m (stL c.w A M ++ n) := by
 have ho' := ho
 obtain ⟨od, ho⟩ := ho
 refine Call_ (fState_place _) (Binds.pure (binds := [(n_self, .ref A.s), (n_mem, .ref o)]) (fun _ _ _ _ _ => by kernel_rfl)) (by kernel_rfl) (m₀ := [(n_mem, .ref o), (n_self, .ref A.s)]) rfl (by lia) ?_
 intro L _ _ _ _
 refine execs_cons ?_
 kp_kind "names"
 kp_kind "r"
 refine offset_ (ho'.sub fun p hp => List.mem_append_right _ hp) (by kp_kind "room") fun t => ?_
 kp_kind "r"
 refine wrap64_ (by kp_kind "room") fun t => ?_
 kp_kind "r"
 rw [Int.add_zero, Int.emod_emod]
 exact h _
theorem writeMem_ {p v : Int} {t t' : Tok} {o : Addr} (ho : OpMem n p o) (hz : M.mem.length ≤ 9000) (hh : u.hd = none) (hr : 6 ≤ u.r) (h : Q .none m (stL c.w A { M with mem := mset M.mem (p % W64) (v % 256) } ++ n)) : V c u env (call (.ref 569) [.ref A.s, .ref o, .int 8 t', .int v t]) Q E m (stL c.w A M ++ n) := by
 have ho' := ho
 obtain ⟨od, ho⟩ := ho
 refine Call_ (fState_write _) (Binds.pure (binds := [(n_self, .ref A.s), (n_operand, .ref o), (n_size, .int 8 t'), (n_worth, .int v t)]) (fun _ _ _ _ _ => by kernel_rfl)) (by kernel_rfl) (m₀ := [(n_worth, .int v t), (n_size, .int 8 t'), (n_operand, .ref o), (n_self, .ref A.s)]) rfl (by lia) ?_
 intro L _ _ _ _
 refine execs_cons ?_
 kp_kind "names"
 kp_kind "r"
 refine place_ ho' (by kp_kind "room") fun t => ?_
 kp_kind "r"
 refine write_ (k := 1) rfl (by lia) (by kp_kind "mem") (by kp_kind "put") hz hh (by kp_kind "room") ?_
 kp_kind "r"
 have e : wr M.mem (p % W64) v 1 = mset M.mem (p % W64) (v % 256) := by
  have e1 : (p % W64 + ((0 : Nat) : Int)) % W64 = p % W64 := by rw [Int.natCast_zero, Int.add_zero, Int.emod_emod]
  have e2 : v.fdiv (2 ^ (8 * 0)) = v := by show v.fdiv 1 = v; exact Int.fdiv_one v
  rw [wr, wr, e1, e2]
 rw [e]
 exact h
theorem push_ {v : Int} {t t' : Tok} (hg : M.regs.length = 16) (hz : M.mem.length ≤ 9000) (hh : u.hd = none) (hr : 5 ≤ u.r) (h : Q .none m (stL c.w A { M with regs := M.regs.set 4 ((M.regs.getD 4 0 - 8) % W64), mem := wr M.mem ((M.regs.getD 4 0 - 8) % W64) v 8 } ++ n)) :
  V c u env (call (.ref 576) [.ref A.s, .int v t, .int 8 t']) Q E m (stL c.w A M ++ n) := by
 refine Call_ (fState_push _) (Binds.pure (binds := [(n_self, .ref A.s), (n_worth, .int v t), (n_width, .int 8 t')]) (fun _ _ _ _ _ => by kernel_rfl)) (by kernel_rfl) (m₀ := [(n_width, .int 8 t'), (n_worth, .int v t), (n_self, .ref A.s)]) rfl (by lia) ?_
 intro L _ _ _ _
 refine execs_cons ?_
 kp_kind "names"
 kp_kind "r"
 refine subLI_ (ns := M.regs) (by kp_kind "mem") (by decide) (by decide) (by rw [hg]; decide) (by kernel_rfl) fun t => ?_
 kp_kind "r"
 refine wrap64_ (by kp_kind "room") fun t => ?_
 kp_kind "r"
 refine setLI_ (by kp_kind "put") (by decide) (by decide) (by rw [hg]; decide) ?_
 kp_kind "r"
 have e : (M.regs.set 4 ((M.regs.getD 4 0 - 8) % W64)).getD 4 0 = (M.regs.getD 4 0 - 8) % W64 := by
  rw [List.getD_eq_getElem?_getD, List.getElem?_set_self (by lia)]; rfl
 show V _ _ _ (subscriptTail _ _ _ _) _ _ _ (stL c.w A { M with regs := M.regs.set 4 ((M.regs.getD 4 0 - 8) % W64) } ++ n)
 refine subLI_ (ns := M.regs.set 4 ((M.regs.getD 4 0 - 8) % W64)) (by kp_kind "mem") (by decide) (by decide) (by rw [List.length_set, hg]; decide) (by kernel_rfl) fun t => ?_
 rw [show (4 : Int).toNat = 4 from rfl, e]
 kp_kind "r"
 refine write_ (k := 8) rfl (by lia) (by kp_kind "mem") (by kp_kind "put") hz hh (by kp_kind "room") ?_
 kp_kind "r"
 exact h
theorem pop_ {t' : Tok} (hg : M.regs.length = 16) (hok : MemOk M.mem) (hs : (A.h == sysModules) = false) (hh : u.hd = none) (hr : 5 ≤ u.r) (h : ∀ t, Q (.int (rd M.mem (M.regs.getD 4 0) 8) t) m (stL c.w A { M with regs := M.regs.set 4 ((M.regs.getD 4 0 + 8) % W64) } ++ n)) :
  V c u env (call (.ref 583) [.ref A.s, .int 8 t']) Q E m (stL c.w A M ++ n) := by
 refine Call_ (fState_pop _) (Binds.pure (binds := [(n_self, .ref A.s), (n_width, .int 8 t')]) (fun _ _ _ _ _ => by kernel_rfl)) (by kernel_rfl) (m₀ := [(n_width, .int 8 t'), (n_self, .ref A.s)]) rfl (by lia) ?_
 intro L _ _ _ _
 refine execs_cons ?_
 kp_kind "names"
 kp_kind "r"
 refine subLI_ (ns := M.regs) (by kp_kind "mem") (by decide) (by decide) (by rw [hg]; decide) (by kernel_rfl) fun t => ?_
 kp_kind "r"
 refine read8_ (by kp_kind "mem") (by kp_kind "mem") hs hok hh (by kp_kind "room") fun t => ?_
 kp_kind "r"
 refine subLI_ (ns := M.regs) (by kp_kind "mem") (by decide) (by decide) (by rw [hg]; decide) (by kernel_rfl) fun t => ?_
 kp_kind "r"
 refine wrap64_ (by kp_kind "room") fun t => ?_
 kp_kind "r"
 refine setLI_ (by kp_kind "put") (by decide) (by decide) (by rw [hg]; decide) ?_
 kp_kind "r"
 exact h _
end
theorem Binds.dflt {K : Frag} {qual : Str} {params : Arguments} {T : Addr} {args : Args} {binds : List (Str × Value)} {o : Obj} {items : Array Value} {nn : Nat} (hT : K.lookup T = some o) (hs : o.data = .seq items nn)
  (h₁ : ∀ name body scope pm cd, ∃ k : Option (Array Value) → Sem (List (Str × Value)), bindArgs (fnX name qual params body scope [] (.ref T) .none .none pm none cd .none) args = seqItems? (.ref T) >>= k ∧ k (some items) = Pure.pure binds) : Binds K qual params (.ref T) args binds :=
 fun h hK s hs' name body scope pm cd => by
  obtain ⟨k, h1, h2⟩ := h₁ name body scope pm cd
  exact BindsTo.of_defaults (T := T) (o := o) (items := items) (n := nn) rfl (by rw [hs']; exact hK _ _ hT) hs h1 h2
section
variable (p : Params)
theorem bindsMint (e x : Value) : Binds (myK p) (Str.ofString "MintError.__init__") (paramsOf sMintError_init) (.ref 29) ⟨[e, x], []⟩ [(n_self, e), (n_what, x), (n_at, .none)] :=
 Binds.dflt (o := { cls := .type "tuple", data := .seq #[.none] 0 }) (by kernel_rfl) rfl fun name body scope pm cd => by
  refine ⟨?k, ?a, ?b⟩
  case a =>
   unfold bindArgs
   exact rfl
  case b => kernel_rfl
theorem excO : ExcO (myK p) := ⟨⟨_, _, _, _, _, _, _, _, _, _, _, _, _, _, _, rfl⟩⟩
theorem excK : ExcK (myK p) := ⟨by kernel_rfl, by kernel_rfl⟩
theorem excS_what : ExcS (myK p) n_what := ⟨by kernel_rfl, by kernel_rfl, by kernel_rfl, by kernel_rfl⟩
theorem excS_at : ExcS (myK p) n_at := ⟨by kernel_rfl, by kernel_rfl, by kernel_rfl, by kernel_rfl⟩
theorem excG_what : ExcG (myK p) n_what := ⟨by kernel_rfl, by kernel_rfl, by kernel_rfl, by kernel_rfl, by kernel_rfl⟩
end
noncomputable abbrev excL0 (x : Str) : Loc := [(n_what, .str x 0), (n_at, .none)]
section
variable {c : Cx} {u : Cu} {env : Env} {E : EP} {m : Loc} {n : Led} {A : SA} {M : Mach} {Q : Value → Loc → Led → Prop}
theorem mkExc_ {x : Str} {t : Tok} (hr : 2 ≤ u.r) (h : ∀ e d, Q (.ref e) m ((e, .exc0 (some d)) :: (d, .edict (excL0 x)) :: n)) : V c u env (call (.ref 71) [.str x t]) Q E m n := by
 refine MakeExc_ (f := 36) (excO _) (by kernel_rfl) (by kernel_rfl) (fMintError_init _) (fun e => bindsMint _ e _) (fun e => by kernel_rfl) (m₀ := fun e => [(n_at, .none), (n_what, .str x t), (n_self, e)]) (fun e => rfl) hr ?_
 intro e L _ _ _ _
 refine execs_cons ?_
 kp_kind "names"
 iterate 3 kp_kind "1"
 refine methT_ (v := .builtin "Exception.__init__") rfl (by kernel_rfl) (by kernel_rfl) rfl ?_
 kp_kind "r"
 refine excInit_ (excO _) ?_
 kp_kind "r"
 refine setE0_ (excS_what _) fun d => ?_
 kp_kind "r"
 refine setE1_ (excS_at _) (Nat.le_of_ble_eq_true rfl) ?_
 kp_kind "r"
 exact ⟨rfl, h e d⟩
end
inductive Ins where
 | push (k : Nat)
 | pop (k : Nat)
 | jmp (i : Int)
 | loop (i : Int)
 | call (i : Int)
 | ret
 | hlt
 | ud2
 | nop
 | mov (k : Nat) (i : Int)
 | sto (p i : Int)
noncomputable def Mach.setR (M : Mach) (k : Nat) (v : Int) : Mach := { M with regs := M.regs.set k v }
noncomputable def Mach.pushed (M : Mach) (v : Int) : Mach := { M with regs := M.regs.set 4 ((M.regs.getD 4 0 - 8) % W64), mem := wr M.mem ((M.regs.getD 4 0 - 8) % W64) v 8 }
noncomputable def Mach.popped (M : Mach) : Mach := { M with regs := M.regs.set 4 ((M.regs.getD 4 0 + 8) % W64) }
noncomputable def Mach.top (M : Mach) : Int := rd M.mem (M.regs.getD 4 0) 8
noncomputable def Mach.goto (M : Mach) (i : Int) : Mach := { M with rip := i }
noncomputable def Mach.count (M : Mach) : Int := (M.regs.getD 1 0 - 1) % W64
noncomputable def runI (M : Mach) : Ins → Mach
 | .push k => M.pushed (M.regs.getD k 0 % W64)
 | .pop k => M.popped.setR k (M.top % W64)
 | .jmp i => M.goto ((M.rip + i) % W64)
 | .loop i => if M.count ≠ 0 then (M.setR 1 M.count).goto ((M.rip + i) % W64) else M.setR 1 M.count
 | .call i => (M.pushed M.rip).goto ((M.rip + i) % W64)
 | .ret => M.popped.goto M.top
 | .hlt => M
 | .ud2 => M
 | .nop => M
 | .mov k i => M.setR k (i % W64)
 | .sto p i => { M with mem := mset M.mem (p % W64) (i % 256) }
noncomputable def Ins.nm : Ins → Str
 | .push _ => n_push
 | .pop _ => n_pop
 | .jmp _ => n_jmp
 | .loop _ => n_loop
 | .call _ => n_call
 | .ret => n_ret
 | .hlt => n_hlt
 | .ud2 => n_ud2
 | .nop => n_nop
 | .mov _ _ => n_mov
 | .sto _ _ => n_mov
noncomputable def Ins.ops (n : Led) : Ins → List Value → Prop
 | .push k, xs => ∃ o, xs = [.ref o] ∧ OpReg n k o
 | .pop k, xs => ∃ o, xs = [.ref o] ∧ OpReg n k o
 | .jmp i, xs => ∃ o, xs = [.ref o] ∧ OpRel n i o
 | .loop i, xs => ∃ o, xs = [.ref o] ∧ OpRel n i o
 | .call i, xs => ∃ o, xs = [.ref o] ∧ OpRel n i o
 | .mov k i, xs => ∃ o o', xs = [.ref o, .ref o'] ∧ OpReg n k o ∧ OpImm n i o'
 | .sto p i, xs => ∃ o o', xs = [.ref o, .ref o'] ∧ OpMem n p o ∧ OpImm n i o'
 | _, xs => xs = []
noncomputable def Ins.fine : Ins → Prop
 | .push k => k < 16
 | .pop k => k < 16
 | .mov k _ => k < 16
 | _ => True
structure InsIn (n : Led) (I : Ins) (i : Addr) : Prop where
 fine : I.fine
 at_ : ∃ id t xs, (i, AObj.inst 886 id (insL I.nm t)) ∈ n ∧ (t, AObj.tup xs) ∈ n ∧ I.ops n xs
structure MOk (w : World) (A : SA) (M : Mach) : Prop where
 len : M.regs.length = 16
 mem : MemOk M.mem
 size : M.mem.length ≤ 9000
 apart : (A.h == sysModules) = false
theorem OpImm.sub {n n' : Led} {k : Int} {R : Addr} (h : OpImm n k R) (hs : ∀ p ∈ n, p ∈ n') : OpImm n' k R := by obtain ⟨a, h1⟩ := h; exact ⟨a, hs _ h1⟩
theorem OpRel.sub {n n' : Led} {k : Int} {R : Addr} (h : OpRel n k R) (hs : ∀ p ∈ n, p ∈ n') : OpRel n' k R := by obtain ⟨a, h1⟩ := h; exact ⟨a, hs _ h1⟩
section
variable {c : Cx} {u : Cu} {env : Env} {E : EP} {m : Loc} {n : Led} {A : SA} {M : Mach} {Q : Value → Loc → Led → Prop}
theorem push_operand_ {k : Nat} {i id t o : Addr} {nm : Str} (hk : k < 16) (ok : MOk c.w A M) (hi : (i, AObj.inst 886 id (insL nm t)) ∈ n) (ht : (t, AObj.tup [.ref o]) ∈ n) (ho : OpReg n k o) (hh : u.hd = none) (hr : 6 ≤ u.r)
  (h : Q .none m (stL c.w A (runI M (.push k)) ++ n)) : V c u env (call (.ref 918) [.ref A.s, .ref i]) Q E m (stL c.w A M ++ n) := by
 refine Call_ (fpush_operand _) (Binds.pure (binds := [(n_state, .ref A.s), (n_instruction, .ref i)]) (fun _ _ _ _ _ => by kernel_rfl)) (by kernel_rfl) (m₀ := [(n_instruction, .ref i), (n_state, .ref A.s)]) rfl (by lia) ?_
 intro L _ _ _ _
 refine execs_cons ?_
 kp_kind "names"
 kp_kind "r"
 refine subT_ (xs := [.ref o]) (by kp_kind "mem") (by decide) (by decide) rfl (by kernel_rfl) (rf ?_)
 kp_kind "r"
 refine sizeReg_ (xs := [.ref o]) (ho.sub fun p hp => List.mem_append_right _ hp) (by kp_kind "mem") (by kp_kind "mem") (by simp) hh (by kp_kind "room") fun t => ?_
 kp_kind "r"
 refine readReg_ ho (by lia) (by rw [ok.len]; lia) (by lia) (by kp_kind "room") fun t => ?_
 kp_kind "r"
 refine push_ ok.len ok.size hh (by kp_kind "room") ?_
 kp_kind "r"
 exact h
theorem pop_operand_ {k : Nat} {i id t o : Addr} {nm : Str} (hk : k < 16) (ok : MOk c.w A M) (hi : (i, AObj.inst 886 id (insL nm t)) ∈ n) (ht : (t, AObj.tup [.ref o]) ∈ n) (ho : OpReg n k o) (hh : u.hd = none) (hr : 6 ≤ u.r)
  (h : Q .none m (stL c.w A (runI M (.pop k)) ++ n)) : V c u env (call (.ref 925) [.ref A.s, .ref i]) Q E m (stL c.w A M ++ n) := by
 refine Call_ (fpop_operand _) (Binds.pure (binds := [(n_state, .ref A.s), (n_instruction, .ref i)]) (fun _ _ _ _ _ => by kernel_rfl)) (by kernel_rfl) (m₀ := [(n_instruction, .ref i), (n_state, .ref A.s)]) rfl (by lia) ?_
 intro L _ _ _ _
 refine execs_cons ?_
 kp_kind "names"
 kp_kind "r"
 refine subT_ (xs := [.ref o]) (by kp_kind "mem") (by decide) (by decide) rfl (by kernel_rfl) (rf ?_)
 kp_kind "r"
 refine sizeReg_ (xs := [.ref o]) (ho.sub fun p hp => List.mem_append_right _ hp) (by kp_kind "mem") (by kp_kind "mem") (by simp) hh (by kp_kind "room") fun t => ?_
 kp_kind "r"
 refine pop_ ok.len ok.mem ok.apart hh (by kp_kind "room") fun t => ?_
 kp_kind "r"
 refine writeReg_ ho (by lia) (by rw [List.length_set, ok.len]; lia) (by lia) (by kp_kind "room") ?_
 kp_kind "r"
 exact h
theorem target_of_ {i : Int} {o : Addr} (ho : OpRel n i o) (hr : 3 ≤ u.r) (h : ∀ t, Q (.int ((M.rip + i) % W64) t) m (stL c.w A M ++ n)) : V c u env (call (.ref 939) [.ref A.s, .ref o]) Q E m (stL c.w A M ++ n) := by
 obtain ⟨od, ho⟩ := ho
 refine Call_ (ftarget_of _) (Binds.pure (binds := [(n_state, .ref A.s), (n_operand, .ref o)]) (fun _ _ _ _ _ => by kernel_rfl)) (by kernel_rfl) (m₀ := [(n_operand, .ref o), (n_state, .ref A.s)]) rfl (by lia) ?_
 intro L _ _ _ _
 refine execs_cons ?_
 kp_kind "names"
 kp_kind "r"
 refine wrap64_ (by kp_kind "room") fun t => ?_
 kp_kind "r"
 exact h _
theorem count_down_ (ok : MOk c.w A M) (hr : 3 ≤ u.r) (h : ∀ t, Q (.int M.count t) m (stL c.w A (M.setR 1 M.count) ++ n)) : V c u env (call (.ref 946) [.ref A.s]) Q E m (stL c.w A M ++ n) := by
 refine Call_ (fcount_down _) (Binds.pure (binds := [(n_state, .ref A.s)]) (fun _ _ _ _ _ => by kernel_rfl)) (by kernel_rfl) (m₀ := [(n_state, .ref A.s)]) rfl (by lia) ?_
 intro L _ _ _ _
 refine execs_cons ?_
 kp_kind "names"
 kp_kind "r"
 refine subLI_ (ns := M.regs) (by kp_kind "mem") (by decide) (by decide) (by rw [ok.len]; decide) (by kernel_rfl) fun t => ?_
 kp_kind "r"
 refine wrap64_ (by kp_kind "room") fun t => ?_
 kp_kind "r"
 refine setLI_ (by kp_kind "put") (by decide) (by decide) (by rw [ok.len]; decide) ?_
 kp_kind "r"
 have e : (M.regs.set 1 M.count).getD 1 0 = M.count := by
  have := ok.len
  rw [List.getD_eq_getElem?_getD, List.getElem?_set_self (by lia)]; rfl
 show V _ _ _ (subscriptTail _ _ _ _) _ _ _ (stL c.w A (M.setR 1 M.count) ++ n)
 refine subLI_ (ns := M.regs.set 1 M.count) (by exact st1) (by decide) (by decide) (by rw [List.length_set, ok.len]; decide) (by kernel_rfl) fun t => ?_
 rw [show (1 : Int).toNat = 1 from rfl, e]
 kp_kind "r"
 exact h _
theorem is_taken_loop_ {t : Tok} (ok : MOk c.w A M) (hr : 4 ≤ u.r) (h : Q (.bool (M.count != 0)) m (stL c.w A (M.setR 1 M.count) ++ n)) : V c u env (call (.ref 953) [.ref A.s, .str n_loop t]) Q E m (stL c.w A M ++ n) := by
 refine Call_ (fis_taken _) (Binds.pure (binds := [(n_state, .ref A.s), (n_name, .str n_loop t)]) (fun _ _ _ _ _ => by kernel_rfl)) (by kernel_rfl) (m₀ := [(n_name, .str n_loop t), (n_state, .ref A.s)]) rfl (by lia) ?_
 intro L _ _ _ _
 refine execs_cons ?_
 kp_kind "names"
 kp_kind "r"
 refine count_down_ ok (by kp_kind "room") fun t => ?_
 kp_kind "r"
 exact h
theorem is_taken_jmp_ {s : Addr} {t : Tok} (hr : 4 ≤ u.r) (h : Q (.bool true) m n) : V c u env (call (.ref 953) [.ref s, .str n_jmp t]) Q E m n := by
 refine Call_ (fis_taken _) (Binds.pure (binds := [(n_state, .ref s), (n_name, .str n_jmp t)]) (fun _ _ _ _ _ => by kernel_rfl)) (by kernel_rfl) (m₀ := [(n_name, .str n_jmp t), (n_state, .ref s)]) rfl (by lia) ?_
 intro L _ _ _ _
 refine execs_cons ?_
 kp_kind "names"
 kp_kind "r"
 exact h
end
section
variable {c : Cx} {u : Cu} {env : Env} {E : EP} {m : Loc} {n : Led} {A : SA} {M : Mach} {Q : Value → Loc → Led → Prop}
theorem lenT_ {a : Addr} {xs : List Value} (hm : (a, AObj.tup xs) ∈ n) (hz : xs.length ≤ 10000) (h : ∀ t, Q (.int xs.length t) m n) : V c u env (call (.builtin "len") [.ref a]) Q E m n :=
 V.tok (fun t => .int xs.length t) (fun A hp tk ok fit md Q' E' hq => by
  obtain ⟨vs, e, ho, em⟩ := tup_at (md.led _ hm)
  have hlen : vs.size = xs.length := by rw [← em]; simp
  have hl : IsTup hp a vs := ⟨_, ho, rfl, e, rfl⟩
  refine PyProof.Rows.len_tuple hl (by lia) ?_
  rw [hlen]; exact hq _ _) h
theorem moveNo_ {s i id t : Addr} {nm : Str} (hi : (i, AObj.inst 886 id (insL nm t)) ∈ n) (h1 : (nm == n_nop) = false) (h2 : (nm != n_mov) = true) (h3 : (nm != n_lea) = true) (h4 : (nm != n_xchg) = true) (hr : 1 ≤ u.r) (h : Q (.bool false) m n) :
  V c u env (call (.ref 911) [.ref s, .ref i]) Q E m n := by
 refine Call_ (fmove_deed _) (Binds.pure (binds := [(n_state, .ref s), (n_instruction, .ref i)]) (fun _ _ _ _ _ => by kernel_rfl)) (by kernel_rfl) (m₀ := [(n_instruction, .ref i), (n_state, .ref s)]) rfl (by lia) ?_
 intro L _ _ _ _
 refine execs_cons ?_
 kp_kind "names"
 kp_kind "r"
 exact h
theorem moveNop_ {s i id t : Addr} (hi : (i, AObj.inst 886 id (insL n_nop t)) ∈ n) (hr : 1 ≤ u.r) (h : Q (.bool true) m n) : V c u env (call (.ref 911) [.ref s, .ref i]) Q E m n := by
 refine Call_ (fmove_deed _) (Binds.pure (binds := [(n_state, .ref s), (n_instruction, .ref i)]) (fun _ _ _ _ _ => by kernel_rfl)) (by kernel_rfl) (m₀ := [(n_instruction, .ref i), (n_state, .ref s)]) rfl (by lia) ?_
 intro L _ _ _ _
 refine execs_cons ?_
 kp_kind "names"
 kp_kind "r"
 exact h
theorem moveReg_ {k : Nat} {j : Int} {i id t o o' : Addr} (hk : k < 16) (ok : MOk c.w A M) (hi : (i, AObj.inst 886 id (insL n_mov t)) ∈ n) (ht : (t, AObj.tup [.ref o, .ref o']) ∈ n) (ho : OpReg n k o) (ho' : OpImm n j o') (hh : u.hd = none) (hr : 7 ≤ u.r) (h : Q (.bool true) m (stL c.w A (runI M (.mov k j)) ++ n)) :
  V c u env (call (.ref 911) [.ref A.s, .ref i]) Q E m (stL c.w A M ++ n) := by
 refine Call_ (fmove_deed _) (Binds.pure (binds := [(n_state, .ref A.s), (n_instruction, .ref i)]) (fun _ _ _ _ _ => by kernel_rfl)) (by kernel_rfl) (m₀ := [(n_instruction, .ref i), (n_state, .ref A.s)]) rfl (by lia) ?_
 intro L _ _ _ _
 refine execs_cons ?_
 kp_kind "names"
 kp_kind "r"
 refine subT_ (xs := [.ref o, .ref o']) (by kp_kind "mem") (by decide) (by decide) rfl (by kernel_rfl) (rf ?_)
 kp_kind "r"
 refine subT_ (xs := [.ref o, .ref o']) (by kp_kind "mem") (by decide) (by decide) rfl (by kernel_rfl) (rf ?_)
 kp_kind "r"
 refine sizeReg_ (xs := [.ref o, .ref o']) (ho.sub fun p hp => List.mem_append_right _ hp) (by kp_kind "mem") (by kp_kind "mem") (by simp) hh (by kp_kind "room") fun t => ?_
 kp_kind "r"
 refine readImm_ (K := W64) (ho'.sub fun p hp => List.mem_append_right _ hp) (.inl ⟨rfl, rfl⟩) (by kp_kind "room") fun t => ?_
 kp_kind "r"
 refine writeReg_ ho (by lia) (by rw [ok.len]; lia) (by lia) (by kp_kind "room") ?_
 kp_kind "r"
 rw [Int.emod_emod]
 exact h
theorem moveMem_ {p j : Int} {i id t o o' : Addr} (ok : MOk c.w A M) (hi : (i, AObj.inst 886 id (insL n_mov t)) ∈ n) (ht : (t, AObj.tup [.ref o, .ref o']) ∈ n) (ho : OpMem n p o) (ho' : OpImm n j o') (hh : u.hd = none) (hr : 7 ≤ u.r) (h : Q (.bool true) m (stL c.w A (runI M (.sto p j)) ++ n)) :
  V c u env (call (.ref 911) [.ref A.s, .ref i]) Q E m (stL c.w A M ++ n) := by
 refine Call_ (fmove_deed _) (Binds.pure (binds := [(n_state, .ref A.s), (n_instruction, .ref i)]) (fun _ _ _ _ _ => by kernel_rfl)) (by kernel_rfl) (m₀ := [(n_instruction, .ref i), (n_state, .ref A.s)]) rfl (by lia) ?_
 intro L _ _ _ _
 refine execs_cons ?_
 kp_kind "names"
 kp_kind "r"
 refine subT_ (xs := [.ref o, .ref o']) (by kp_kind "mem") (by decide) (by decide) rfl (by kernel_rfl) (rf ?_)
 kp_kind "r"
 refine subT_ (xs := [.ref o, .ref o']) (by kp_kind "mem") (by decide) (by decide) rfl (by kernel_rfl) (rf ?_)
 kp_kind "r"
 refine sizeMem_ (xs := [.ref o, .ref o']) (ho.sub fun p hp => List.mem_append_right _ hp) (by kp_kind "mem") (by kp_kind "mem") (by simp) hh (by kp_kind "room") fun t => ?_
 kp_kind "r"
 refine readImm_ (K := 256) (ho'.sub fun p hp => List.mem_append_right _ hp) (.inr ⟨rfl, rfl⟩) (by kp_kind "room") fun t => ?_
 kp_kind "r"
 refine writeMem_ ho ok.size hh (by kp_kind "room") ?_
 kp_kind "r"
 rw [Int.emod_emod]
 exact h
theorem stackNo_ {s i id t : Addr} {nm : Str} (hi : (i, AObj.inst 886 id (insL nm t)) ∈ n) (h1 : (nm == n_push) = false) (h2 : (nm == n_pop) = false) (h3 : (nm == n_pushfq) = false) (h4 : (nm == n_popfq) = false) (h5 : (nm == n_leave) = false) (hr : 1 ≤ u.r) (h : Q (.bool false) m n) :
  V c u env (call (.ref 932) [.ref s, .ref i]) Q E m n := by
 refine Call_ (fstack_deed _) (Binds.pure (binds := [(n_state, .ref s), (n_instruction, .ref i)]) (fun _ _ _ _ _ => by kernel_rfl)) (by kernel_rfl) (m₀ := [(n_instruction, .ref i), (n_state, .ref s)]) rfl (by lia) ?_
 intro L _ _ _ _
 refine execs_cons ?_
 kp_kind "names"
 kp_kind "r"
 exact h
theorem stackPush_ {k : Nat} {i id t o : Addr} (hk : k < 16) (ok : MOk c.w A M) (hi : (i, AObj.inst 886 id (insL n_push t)) ∈ n) (ht : (t, AObj.tup [.ref o]) ∈ n) (ho : OpReg n k o) (hh : u.hd = none) (hr : 7 ≤ u.r) (h : Q (.bool true) m (stL c.w A (runI M (.push k)) ++ n)) :
  V c u env (call (.ref 932) [.ref A.s, .ref i]) Q E m (stL c.w A M ++ n) := by
 refine Call_ (fstack_deed _) (Binds.pure (binds := [(n_state, .ref A.s), (n_instruction, .ref i)]) (fun _ _ _ _ _ => by kernel_rfl)) (by kernel_rfl) (m₀ := [(n_instruction, .ref i), (n_state, .ref A.s)]) rfl (by lia) ?_
 intro L _ _ _ _
 refine execs_cons ?_
 kp_kind "names"
 kp_kind "r"
 refine push_operand_ hk ok hi ht ho hh (by kp_kind "room") ?_
 kp_kind "r"
 exact h
theorem stackPop_ {k : Nat} {i id t o : Addr} (hk : k < 16) (ok : MOk c.w A M) (hi : (i, AObj.inst 886 id (insL n_pop t)) ∈ n) (ht : (t, AObj.tup [.ref o]) ∈ n) (ho : OpReg n k o) (hh : u.hd = none) (hr : 7 ≤ u.r) (h : Q (.bool true) m (stL c.w A (runI M (.pop k)) ++ n)) :
  V c u env (call (.ref 932) [.ref A.s, .ref i]) Q E m (stL c.w A M ++ n) := by
 refine Call_ (fstack_deed _) (Binds.pure (binds := [(n_state, .ref A.s), (n_instruction, .ref i)]) (fun _ _ _ _ _ => by kernel_rfl)) (by kernel_rfl) (m₀ := [(n_instruction, .ref i), (n_state, .ref A.s)]) rfl (by lia) ?_
 intro L _ _ _ _
 refine execs_cons ?_
 kp_kind "names"
 kp_kind "r"
 refine pop_operand_ hk ok hi ht ho hh (by kp_kind "room") ?_
 kp_kind "r"
 exact h
theorem jumpCall_ {j : Int} {i id t o : Addr} (ok : MOk c.w A M) (hi : (i, AObj.inst 886 id (insL n_call t)) ∈ n) (ht : (t, AObj.tup [.ref o]) ∈ n) (ho : OpRel n j o) (hh : u.hd = none) (hr : 6 ≤ u.r) (h : Q (.bool true) m (stL c.w A (runI M (.call j)) ++ n)) :
  V c u env (call (.ref 960) [.ref A.s, .ref i]) Q E m (stL c.w A M ++ n) := by
 refine Call_ (fjump_deed _) (Binds.pure (binds := [(n_state, .ref A.s), (n_instruction, .ref i)]) (fun _ _ _ _ _ => by kernel_rfl)) (by kernel_rfl) (m₀ := [(n_instruction, .ref i), (n_state, .ref A.s)]) rfl (by lia) ?_
 intro L _ _ _ _
 refine execs_cons ?_
 kp_kind "names"
 kp_kind "r"
 refine subT_ (xs := [.ref o]) (by kp_kind "mem") (by decide) (by decide) rfl (by kernel_rfl) (rf ?_)
 kp_kind "r"
 refine target_of_ ho (by kp_kind "room") fun t => ?_
 kp_kind "r"
 refine push_ ok.len ok.size hh (by kp_kind "room") ?_
 kp_kind "r"
 refine setRip (by kp_kind "put") ?_
 kp_kind "r"
 exact h
theorem jumpRet_ {i id t : Addr} (ok : MOk c.w A M) (hi : (i, AObj.inst 886 id (insL n_ret t)) ∈ n) (ht : (t, AObj.tup []) ∈ n) (hh : u.hd = none) (hr : 6 ≤ u.r) (h : Q (.bool true) m (stL c.w A (runI M .ret) ++ n)) :
  V c u env (call (.ref 960) [.ref A.s, .ref i]) Q E m (stL c.w A M ++ n) := by
 refine Call_ (fjump_deed _) (Binds.pure (binds := [(n_state, .ref A.s), (n_instruction, .ref i)]) (fun _ _ _ _ _ => by kernel_rfl)) (by kernel_rfl) (m₀ := [(n_instruction, .ref i), (n_state, .ref A.s)]) rfl (by lia) ?_
 intro L _ _ _ _
 refine execs_cons ?_
 kp_kind "names"
 kp_kind "r"
 refine pop_ ok.len ok.mem ok.apart hh (by kp_kind "room") fun t => ?_
 kp_kind "r"
 refine setRip (by kp_kind "put") ?_
 kp_kind "r"
 refine lenT_ (xs := []) (by kp_kind "mem") (by decide) fun t => ?_
 kp_kind "r"
 exact h
theorem jumpJmp_ {j : Int} {i id t o : Addr} (ok : MOk c.w A M) (hi : (i, AObj.inst 886 id (insL n_jmp t)) ∈ n) (ht : (t, AObj.tup [.ref o]) ∈ n) (ho : OpRel n j o) (hh : u.hd = none) (hr : 6 ≤ u.r) (h : Q (.bool true) m (stL c.w A (runI M (.jmp j)) ++ n)) :
  V c u env (call (.ref 960) [.ref A.s, .ref i]) Q E m (stL c.w A M ++ n) := by
 refine Call_ (fjump_deed _) (Binds.pure (binds := [(n_state, .ref A.s), (n_instruction, .ref i)]) (fun _ _ _ _ _ => by kernel_rfl)) (by kernel_rfl) (m₀ := [(n_instruction, .ref i), (n_state, .ref A.s)]) rfl (by lia) ?_
 intro L _ _ _ _
 refine execs_cons ?_
 kp_kind "names"
 kp_kind "r"
 refine subStr_ (p := 106) (by decide) (by decide) (by kernel_rfl) (by kernel_rfl) fun t => ?_
 kp_kind "r"
 refine subT_ (xs := [.ref o]) (by kp_kind "mem") (by decide) (by decide) rfl (by kernel_rfl) (rf ?_)
 kp_kind "r"
 refine target_of_ ho (by kp_kind "room") fun t => ?_
 kp_kind "r"
 refine is_taken_jmp_ (by kp_kind "room") ?_
 kp_kind "r"
 refine setRip (by kp_kind "put") ?_
 kp_kind "r"
 exact h
theorem jumpLoop_ {j : Int} {i id t o : Addr} (ok : MOk c.w A M) (hi : (i, AObj.inst 886 id (insL n_loop t)) ∈ n) (ht : (t, AObj.tup [.ref o]) ∈ n) (ho : OpRel n j o) (hh : u.hd = none) (hr : 6 ≤ u.r) (h : Q (.bool true) m (stL c.w A (runI M (.loop j)) ++ n)) :
  V c u env (call (.ref 960) [.ref A.s, .ref i]) Q E m (stL c.w A M ++ n) := by
 refine Call_ (fjump_deed _) (Binds.pure (binds := [(n_state, .ref A.s), (n_instruction, .ref i)]) (fun _ _ _ _ _ => by kernel_rfl)) (by kernel_rfl) (m₀ := [(n_instruction, .ref i), (n_state, .ref A.s)]) rfl (by lia) ?_
 intro L _ _ _ _
 refine execs_cons ?_
 kp_kind "names"
 kp_kind "r"
 refine subStr_ (p := 108) (by decide) (by decide) (by kernel_rfl) (by kernel_rfl) fun t => ?_
 kp_kind "r"
 refine subT_ (xs := [.ref o]) (by kp_kind "mem") (by decide) (by decide) rfl (by kernel_rfl) (rf ?_)
 kp_kind "r"
 refine target_of_ ho (by kp_kind "room") fun t => ?_
 kp_kind "r"
 refine is_taken_loop_ ok (by kp_kind "room") ?_
 kp_kind "r"
 by_cases hz : M.count = 0
 ·refine ifF (by rw [hz]; rfl) ?_
  kp_kind "r"
  have : runI M (.loop j) = M.setR 1 M.count := by show (if M.count ≠ 0 then _ else _) = _; rw [if_neg (by simpa using hz)]
  rw [this] at h
  exact h
 ·refine ifT (by simpa using hz) ?_
  kp_kind "r"
  refine setRip (by kp_kind "put") ?_
  kp_kind "r"
  have : runI M (.loop j) = (M.setR 1 M.count).goto ((M.rip + j) % W64) := by show (if M.count ≠ 0 then _ else _) = _; rw [if_pos hz]
  rw [this] at h
  exact h
end
theorem exm71 (p : Params) : exmOne (myK p) (.ref 71) (.ref 71) = some true := by kernel_rfl
theorem exm46 (p : Params) : exmOne (myK p) (.ref 71) (.ref 46) = some true := by kernel_rfl
noncomputable def Ins.plain : Ins → Bool
 | .hlt => false
 | .ud2 => false
 | _ => true
section
variable {c : Cx} {u : Cu} {env : Env} {E : EP} {m : Loc} {n : Led} {A : SA} {M : Mach} {Q : Value → Loc → Led → Prop}
theorem transfer_ {I : Ins} {i : Addr} (hp : I.plain = true) (ok : MOk c.w A M) (hI : InsIn n I i) (hh : u.hd = none) (hr : 8 ≤ u.r) (h : Q (.bool true) m (stL c.w A (runI M I) ++ n)) : V c u env (call (.ref 1082) [.ref A.s, .ref i]) Q E m (stL c.w A M ++ n) := by
 obtain ⟨hf, id, t, xs, hi, ht, ho⟩ := hI
 refine Call_ (ftransfer_deed _) (Binds.pure (binds := [(n_state, .ref A.s), (n_instruction, .ref i)]) (fun _ _ _ _ _ => by kernel_rfl)) (by kernel_rfl) (m₀ := [(n_instruction, .ref i), (n_state, .ref A.s)]) rfl (by omega) ?_
 intro L _ _ _ _
 refine execs_cons ?_
 kp_kind "names"
 kp_kind "r"
 cases I with
 | hlt => cases hp
 | ud2 => cases hp
 | nop =>
  refine moveNop_ (id := id) (t := t) (by exact List.mem_append_right _ hi) (by kp_kind "room") ?_
  kp_kind "r"
  exact h
 | mov k j =>
  obtain ⟨o, o', rfl, ho, ho'⟩ := ho
  refine moveReg_ hf ok hi ht ho ho' hh (by kp_kind "room") ?_
  kp_kind "r"
  exact h
 | sto p j =>
  obtain ⟨o, o', rfl, ho, ho'⟩ := ho
  refine moveMem_ ok hi ht ho ho' hh (by kp_kind "room") ?_
  kp_kind "r"
  exact h
 | push k =>
  obtain ⟨o, rfl, ho⟩ := ho
  refine moveNo_ (nm := n_push) (List.mem_append_right _ hi) (by kp_kind "dq") (by kp_kind "dq") (by kp_kind "dq") (by kp_kind "dq") (by kp_kind "room") ?_
  kp_kind "r"
  refine stackPush_ hf ok hi ht ho hh (by kp_kind "room") ?_
  kp_kind "r"
  exact h
 | pop k =>
  obtain ⟨o, rfl, ho⟩ := ho
  refine moveNo_ (nm := n_pop) (List.mem_append_right _ hi) (by kp_kind "dq") (by kp_kind "dq") (by kp_kind "dq") (by kp_kind "dq") (by kp_kind "room") ?_
  kp_kind "r"
  refine stackPop_ hf ok hi ht ho hh (by kp_kind "room") ?_
  kp_kind "r"
  exact h
 | jmp k =>
  obtain ⟨o, rfl, ho⟩ := ho
  refine moveNo_ (nm := n_jmp) (List.mem_append_right _ hi) (by kp_kind "dq") (by kp_kind "dq") (by kp_kind "dq") (by kp_kind "dq") (by kp_kind "room") ?_
  kp_kind "r"
  refine stackNo_ (nm := n_jmp) (List.mem_append_right _ hi) (by kp_kind "dq") (by kp_kind "dq") (by kp_kind "dq") (by kp_kind "dq") (by kp_kind "dq") (by kp_kind "room") ?_
  kp_kind "r"
  refine jumpJmp_ ok hi ht ho hh (by kp_kind "room") ?_
  kp_kind "r"
  exact h
 | loop k =>
  obtain ⟨o, rfl, ho⟩ := ho
  refine moveNo_ (nm := n_loop) (List.mem_append_right _ hi) (by kp_kind "dq") (by kp_kind "dq") (by kp_kind "dq") (by kp_kind "dq") (by kp_kind "room") ?_
  kp_kind "r"
  refine stackNo_ (nm := n_loop) (List.mem_append_right _ hi) (by kp_kind "dq") (by kp_kind "dq") (by kp_kind "dq") (by kp_kind "dq") (by kp_kind "dq") (by kp_kind "room") ?_
  kp_kind "r"
  refine jumpLoop_ ok hi ht ho hh (by kp_kind "room") ?_
  kp_kind "r"
  exact h
 | call k =>
  obtain ⟨o, rfl, ho⟩ := ho
  refine moveNo_ (nm := n_call) (List.mem_append_right _ hi) (by kp_kind "dq") (by kp_kind "dq") (by kp_kind "dq") (by kp_kind "dq") (by kp_kind "room") ?_
  kp_kind "r"
  refine stackNo_ (nm := n_call) (List.mem_append_right _ hi) (by kp_kind "dq") (by kp_kind "dq") (by kp_kind "dq") (by kp_kind "dq") (by kp_kind "dq") (by kp_kind "room") ?_
  kp_kind "r"
  refine jumpCall_ ok hi ht ho hh (by kp_kind "room") ?_
  kp_kind "r"
  exact h
 | ret =>
  have : xs = [] := ho
  subst this
  refine moveNo_ (nm := n_ret) (List.mem_append_right _ hi) (by kp_kind "dq") (by kp_kind "dq") (by kp_kind "dq") (by kp_kind "dq") (by kp_kind "room") ?_
  kp_kind "r"
  refine stackNo_ (nm := n_ret) (List.mem_append_right _ hi) (by kp_kind "dq") (by kp_kind "dq") (by kp_kind "dq") (by kp_kind "dq") (by kp_kind "dq") (by kp_kind "room") ?_
  kp_kind "r"
  refine jumpRet_ ok hi ht hh (by kp_kind "room") ?_
  kp_kind "r"
  exact h
theorem doneHlt_ {i dl id t : Addr} (hi : (i, AObj.inst 886 id (insL n_hlt t)) ∈ n) (hr : 1 ≤ u.r) (h : Q .none m (stL c.w A { M with halted := true } ++ n)) : V c u env (call (.ref 611) [.ref A.s, .ref i, .ref dl]) Q E m (stL c.w A M ++ n) := by
 refine Call_ (fdone _) (Binds.pure (binds := [(n_state, .ref A.s), (n_instruction, .ref i), (n_deeds, .ref dl)]) (fun _ _ _ _ _ => by kernel_rfl)) (by kernel_rfl) (m₀ := [(n_deeds, .ref dl), (n_instruction, .ref i), (n_state, .ref A.s)]) rfl (by omega) ?_
 intro L _ _ _ _
 refine execs_cons ?_
 kp_kind "names"
 kp_kind "r"
 refine setHalted (by kp_kind "put") ?_
 kp_kind "r"
 exact h
theorem words_traps : Txt.words (Str.ofString "ud2 int int3 syscall cpuid") = [n_ud2, n_int, n_int3, Str.ofString "syscall", Str.ofString "cpuid"] := by kp_kind "dq"
theorem doneUd2_ {i dl id t : Addr} (hi : (i, AObj.inst 886 id (insL n_ud2 t)) ∈ n) (hh : u.hd = none) (hr : 4 ≤ u.r) (h : ∀ e d, E (some .none) e d m ((d, .edict (excL0 n_ud2)) :: (stL c.w A M ++ n))) : V c u env (call (.ref 611) [.ref A.s, .ref i, .ref dl]) Q E m (stL c.w A M ++ n) := by
 refine V.drop2 ?_
 refine Call_ (fdone _) (Binds.pure (binds := [(n_state, .ref A.s), (n_instruction, .ref i), (n_deeds, .ref dl)]) (fun _ _ _ _ _ => by kernel_rfl)) (by kernel_rfl) (m₀ := [(n_deeds, .ref dl), (n_instruction, .ref i), (n_state, .ref A.s)]) rfl (by omega) ?_
 intro L _ _ _ _
 refine execs_cons ?_
 kp_kind "names"
 kp_kind "r"
 refine split_ words_traps (by kp_kind "dq") fun a => ?_
 refine inLS_ (.head _) ?_
 kp_kind "r"
 refine RaiseNew_ hh (excK _) ?_
 kp_kind "r"
 refine mkExc_ (by kp_kind "room") fun e d => ?_
 exact ⟨e, d, _, rfl, rfl, _, .cons_cons _ (.cons _ (.refl _)), h e d⟩
theorem done_ {I : Ins} {i dl : Addr} (hp : I.plain = true) (ok : MOk c.w A M) (hI : InsIn n I i) (hd : (dl, AObj.list [.ref 1082]) ∈ n) (hh : u.hd = none) (hr : 9 ≤ u.r) (h : Q .none m (stL c.w A (runI M I) ++ n)) : V c u env (call (.ref 611) [.ref A.s, .ref i, .ref dl]) Q E m (stL c.w A M ++ n) := by
 have hI' := hI
 obtain ⟨hf, id, t, xs, hi, ht, ho⟩ := hI
 refine V.drop1 ?_
 refine Call_ (fdone _) (Binds.pure (binds := [(n_state, .ref A.s), (n_instruction, .ref i), (n_deeds, .ref dl)]) (fun _ _ _ _ _ => by kernel_rfl)) (by kernel_rfl) (m₀ := [(n_deeds, .ref dl), (n_instruction, .ref i), (n_state, .ref A.s)]) rfl (by omega) ?_
 intro L _ _ _ _
 have e1 : (I.nm == n_hlt) = false := by cases I <;> first | exact Bool.noConfusion (show false = true from hp) | (simp only [Ins.nm]; kp_kind "dq")
 have e2 : ([n_ud2, n_int, n_int3, Str.ofString "syscall", Str.ofString "cpuid"].any fun x => x == I.nm) = false := by cases I <;> first | exact Bool.noConfusion (show false = true from hp) | (simp only [Ins.nm]; kp_kind "dq")
 refine execs_cons ?_
 kp_kind "names"
 kp_kind "r"
 refine split_ words_traps (by kp_kind "dq") fun a => ?_
 refine inLS_ (.head _) ?_
 kp_kind "r"
 refine For_ ?_
 kp_kind "r"
 refine iterL_ (xs := [.ref 1082]) (by kp_kind "mem") fun it => ?_
 refine ⟨0, fun i m' n' => i = 0 ∧ m' = _ ∧ n' = _, ⟨rfl, rfl, rfl⟩, ?_⟩
 rintro _ j m' n' hj ⟨rfl, rfl, rfl⟩
 refine turnName (by kernel_rfl) ?_
 refine nextL0_ (o := 1082) hh (by kp_kind "mem") rfl ?_
 kp_kind "r"
 refine V.drop (n' := stL c.w A M ++ n) (.cons _ (.cons _ (.refl _))) ?_
 refine transfer_ hp ok hI' hh (by kp_kind "room") ?_
 kp_kind "r"
 exact ⟨_, .refl _, h⟩
end
noncomputable abbrev decL (i : Addr) : Loc := [(n_instruction, .ref i), (n_length, .int 2 0), (n_form, .none), (n_prefixes, .none)]
noncomputable def DecIn (n : Led) (I : Ins) (f : Addr) : Prop := ∃ fd i, (f, AObj.inst 193 fd (decL i)) ∈ n ∧ InsIn n I i
noncomputable def stepM (M : Mach) : Mach := { M with beg := M.rip, rip := (M.rip + 2) % W64 }
noncomputable def stepOk (M : Mach) : Ins → Mach
 | .hlt => { stepM M with halted := true }
 | I => runI (stepM M) I
noncomputable abbrev n_norow : Str := nSnoSprow
noncomputable def fetch (rows : List Ins) (r : Int) : Option Ins := if 4096 ≤ r ∧ (r - 4096) % 2 = 0 then rows[((r - 4096) / 2).toNat]? else none
noncomputable def isUd2 : Ins → Bool
 | .ud2 => true
 | _ => false
noncomputable def adv (rows : List Ins) (M : Mach) : Mach × Option Str :=
 if oct M.mem M.rip = 204 then (M, some n_int3) else if M.halted = true then (M, some n_halted) else match fetch rows M.rip with
  | none => (M, some n_norow)
  | some I => if isUd2 I then ({ M with beg := M.rip }, some n_ud2) else (stepOk M I, none)
noncomputable def PrgIn (n : Led) (rows : List Ins) (es : List (Int × Value)) : Prop := ∀ r, match valueAt es r with
 | some v => ∃ f I, v = .ref f ∧ DecIn n I f ∧ fetch rows r = some I
 | none => fetch rows r = none
theorem InsIn.sub {n n' : Led} {I : Ins} {i : Addr} (h : InsIn n I i) (hs : ∀ p ∈ n, p ∈ n') : InsIn n' I i := by
 obtain ⟨hf, id, t, xs, h1, h2, h3⟩ := h
 refine ⟨hf, id, t, xs, hs _ h1, hs _ h2, ?_⟩
 cases I <;> first | exact h3 | (obtain ⟨o, e, h3⟩ := h3; exact ⟨o, e, h3.sub hs⟩) | (obtain ⟨o, o', e, h3, h4⟩ := h3; exact ⟨o, o', e, h3.sub hs, h4.sub hs⟩)
theorem DecIn.sub {n n' : Led} {I : Ins} {i : Addr} (h : DecIn n I i) (hs : ∀ p ∈ n, p ∈ n') : DecIn n' I i := by
 obtain ⟨fd, j, h1, h2⟩ := h
 exact ⟨fd, j, hs _ h1, h2.sub hs⟩
theorem PrgIn.sub {n n' : Led} {rows : List Ins} {es : List (Int × Value)} (h : PrgIn n rows es) (hs : ∀ p ∈ n, p ∈ n') : PrgIn n' rows es := fun r => by
 have := h r
 cases q : valueAt es r with
 | none => rw [q] at this; exact this
 | some v =>
  rw [q] at this
  obtain ⟨f, I, h1, h2, h3⟩ := this
  exact ⟨f, I, h1, h2.sub hs, h3⟩
section
variable {c : Cx} {u : Cu} {env : Env} {E : EP} {m : Loc} {n : Led} {A : SA} {M : Mach} {Q : Value → Loc → Led → Prop}
theorem notInD_ {a : Addr} {l : List (Int × Value)} {k : Int} {t : Tok} (hm : (a, AObj.imap c.w l) ∈ n) (hs : (a == sysModules) = false) (h : Q (.bool (!(valueAt l k).isSome)) m n) : V c u env (compareOp .NotIn (.int k t) (.ref a)) Q E m n :=
 V.val _ (fun A hp tk ok fit md Q' E' hq => by
  obtain ⟨kvs, d, em⟩ := imap_at (md.led _ hm)
  refine wpAny_notIn_of (intKind_is P c.w _ _) hs d.mapOf ?_
  have e := valueAt_map kvs k
  rw [em] at e
  have : (valueAt kvs k).isSome = (valueAt l k).isSome := by
   rw [e, Option.isSome_map]
  rw [this]; exact hq _) h
theorem need_running_ok {s : Addr} (hb : M.halted = false) (hr : 1 ≤ u.r) (h : Q .none m (stL c.w A M ++ n)) : V c u env (call (.ref 625) [.ref A.s]) Q E m (stL c.w A M ++ n) := by
 refine Call_ (fneed_running _) (Binds.pure (binds := [(n_state, .ref A.s)]) (fun _ _ _ _ _ => by kernel_rfl)) (by kernel_rfl) (m₀ := [(n_state, .ref A.s)]) rfl (by omega) ?_
 intro L _ _ _ _
 refine execs_cons ?_
 kp_kind "names"
 kp_kind "r"
 exact h
theorem need_running_no {s : Addr} (hb : M.halted = true) (hh : u.hd = none) (hr : 4 ≤ u.r) (h : ∀ e d, E (some .none) e d m ((d, .edict (excL0 n_halted)) :: (stL c.w A M ++ n))) : V c u env (call (.ref 625) [.ref A.s]) Q E m (stL c.w A M ++ n) := by
 refine Call_ (fneed_running _) (Binds.pure (binds := [(n_state, .ref A.s)]) (fun _ _ _ _ _ => by kernel_rfl)) (by kernel_rfl) (m₀ := [(n_state, .ref A.s)]) rfl (by omega) ?_
 intro L _ _ _ _
 refine execs_cons ?_
 kp_kind "names"
 kp_kind "r"
 refine RaiseNew_ hh (excK _) ?_
 kp_kind "r"
 refine mkExc_ (by kp_kind "room") fun e d => ?_
 exact ⟨e, d, _, rfl, rfl, h e d⟩
theorem stepM_ok (ok : MOk c.w A M) : MOk c.w A (stepM M) := ⟨ok.len, ok.mem, ok.size, ok.apart⟩
theorem proceed_ {I : Ins} {f dl : Addr} (ok : MOk c.w A M) (hf : DecIn n I f) (hd : (dl, AObj.list [.ref 1082]) ∈ n) (hh : u.hd = none) (hr : 12 ≤ u.r) (h : isUd2 I = false → Q .none m (stL c.w A (stepOk M I) ++ n))
  (he : isUd2 I = true → ∀ e d, E (some .none) e d m ((d, .edict (excL0 n_ud2)) :: (stL c.w A { M with beg := M.rip } ++ n))) : V c u env (call (.ref 618) [.ref A.s, .ref f, .ref dl]) Q E m (stL c.w A M ++ n) := by
 obtain ⟨fd, i, hf, hI⟩ := hf
 refine Call_ (fproceed _) (Binds.pure (binds := [(n_state, .ref A.s), (n_found, .ref f), (n_deeds, .ref dl)]) (fun _ _ _ _ _ => by kernel_rfl)) (by kernel_rfl) (m₀ := [(n_deeds, .ref dl), (n_found, .ref f), (n_state, .ref A.s)]) rfl (by omega) ?_
 intro L _ _ _ _
 refine execs_cons ?_
 kp_kind "names"
 kp_kind "r"
 refine setBeg (by kp_kind "put") ?_
 kp_kind "r"
 refine wrap64_ (by kp_kind "room") fun t => ?_
 kp_kind "r"
 refine setRip (by kp_kind "put") ?_
 kp_kind "r"
 show V _ _ _ _ _ _ _ (stL c.w A (stepM M) ++ n)
 refine Try_ rfl ?_
 kp_kind "r"
 have okS : MOk c.w A (stepM M) := stepM_ok ok
 cases hu : isUd2 I with
 | true =>
  have : I = .ud2 := by cases I <;> first | rfl | exact Bool.noConfusion (show false = true from hu)
  subst this
  obtain ⟨_, id, t', xs, hi, ht, ho⟩ := hI
  refine doneUd2_ (id := id) (t := t') hi hh (by kp_kind "room") fun e d => ?_
  intro T
  refine HandleRe_ rfl (by kernel_rfl) (exm71 _) ?_ fun T => ?_
  ·kp_kind "r"
   exact ⟨rfl, rfl, rfl⟩
  ·kp_kind "r"
   refine setRip (A := A) (M := stepM M) (by kp_kind "put") ?_
   kp_kind "r"
   refine RaiseHeld_ rfl (by kernel_rfl) (by kp_kind "lk") (by kernel_rfl) (excK _) ?_
   exact ⟨rfl, rfl, fun fl m' _ => he rfl e d⟩
 | false =>
  cases hpl : I.plain with
  | true =>
   refine done_ hpl okS hI hd hh (by kp_kind "room") ?_
   kp_kind "r"
   have e : stepOk M I = runI (stepM M) I := by cases I <;> first | rfl | exact Bool.noConfusion (show false = true from hpl)
   have h' := h hu
   rw [e] at h'
   exact h'
  | false =>
   have : I = .hlt := by cases I <;> first | rfl | exact Bool.noConfusion (show true = false from hpl) | exact Bool.noConfusion (show true = false from hu)
   subst this
   obtain ⟨_, id, t', xs, hi, ht, ho⟩ := hI
   refine doneHlt_ (id := id) (t := t') hi (by kp_kind "room") ?_
   kp_kind "r"
   exact h rfl
theorem step_row_ {rows : List Ins} {es : List (Int × Value)} {pd dl : Addr} (ok : MOk c.w A M) (h204 : oct M.mem M.rip ≠ 204) (hp : (pd, AObj.imap c.w es) ∈ n) (hps : (pd == sysModules) = false) (hes : PrgIn n rows es) (hd : (dl, AObj.list [.ref 1082]) ∈ n) (hh : u.hd = none) (hr : 13 ≤ u.r)
  (h : (adv rows M).2 = none → ∀ f, Q (.ref f) m (stL c.w A (adv rows M).1 ++ n)) (he : ∀ w, (adv rows M).2 = some w → ∀ e d, E (some .none) e d m ((d, .edict (excL0 w)) :: (stL c.w A (adv rows M).1 ++ n))) :
  V c u env (call (.ref 632) [.ref A.s, .ref pd, .ref dl]) Q E m (stL c.w A M ++ n) := by
 refine Call_ (fstep_row _) (Binds.pure (binds := [(n_state, .ref A.s), (n_program, .ref pd), (n_deeds, .ref dl)]) (fun _ _ _ _ _ => by kernel_rfl)) (by kernel_rfl) (m₀ := [(n_deeds, .ref dl), (n_program, .ref pd), (n_state, .ref A.s)]) rfl (by omega) ?_
 intro L _ _ _ _
 refine execs_cons ?_
 kp_kind "names"
 kp_kind "r"
 unfold adv at h he
 rw [if_neg h204] at h he
 cases hb : M.halted with
 | true =>
  rw [if_pos hb] at h he
  exact need_running_no (s := A.s) hb hh (by kp_kind "room") (he _ rfl)
 | false =>
 rw [if_neg (by simp [hb])] at h he
 refine need_running_ok (s := A.s) hb (by kp_kind "room") ?_
 kp_kind "r"
 refine notInD_ (by kp_kind "mem") hps ?_
 kp_kind "r"
 have hr' := hes M.rip
 cases hv : valueAt es M.rip with
 | none =>
  rw [hv] at hr'
  dsimp only at hr'
  rw [hr'] at h he
  refine ifT rfl ?_
  kp_kind "r"
  refine RaiseNew_ hh (excK _) ?_
  kp_kind "r"
  refine mkExc_ (by kp_kind "room") fun e d => ?_
  exact ⟨e, d, _, rfl, rfl, he _ rfl e d⟩
 | some v =>
  rw [hv] at hr'
  dsimp only at hr'
  obtain ⟨f, I, rfl, hD, hfe⟩ := hr'
  rw [hfe] at h he
  dsimp only at h he
  refine ifF rfl ?_
  kp_kind "r"
  refine subI_ (es := es) (by kp_kind "mem") hv (by kernel_rfl) fun v hv' => ?_
  rw [nv_ref hv']
  kp_kind "r"
  refine proceed_ ok hD hd hh (by kp_kind "room") (fun hu => ?_) (fun hu e d => ?_)
  ·rw [hu, if_neg (by decide)] at h
   kp_kind "r"
   exact h rfl f
  ·rw [hu, if_pos rfl] at he
   exact he _ rfl e d
noncomputable def sadv : Stmt := (bodyOf (stAt 115)).getD 9 (.Pass default)
structure AdvIn (w : World) (n : Led) (rows : List Ins) (f : Addr) : Prop where
 at_ : ∃ qn pm c' pc pd es, (f, AObj.clos n__law_advance qn (paramsOf sadv) (bodyOf sadv) (scopeOf sadv) [(n_program, pc)] pm c') ∈ n ∧ (c', AObj.code qn) ∈ n ∧ (pc, AObj.cellO (some (.ref pd))) ∈ n ∧ (pd, AObj.imap w es) ∈ n ∧ (pd == sysModules) = false ∧ PrgIn n rows es
theorem AdvIn.sub {w : World} {n n' : Led} {rows : List Ins} {f : Addr} (h : AdvIn w n rows f) (hs : ∀ p ∈ n, p ∈ n') : AdvIn w n' rows f := by
 obtain ⟨qn, pm, c', pc, pd, es, h1, h2, h3, h4, h5, h6⟩ := h
 exact ⟨qn, pm, c', pc, pd, es, hs _ h1, hs _ h2, hs _ h3, hs _ h4, h5, h6.sub hs⟩
theorem adv_ {rows : List Ins} {f : Addr} (ok : MOk c.w A M) (hf : AdvIn c.w n rows f) (hh : u.hd = none) (hr : 15 ≤ u.r)
  (h : (adv rows M).2 = none → ∀ f, Q (.ref f) m (stL c.w A (adv rows M).1 ++ n)) (he : ∀ w, (adv rows M).2 = some w → ∀ e d, E (some .none) e d m ((d, .edict (excL0 w)) :: (stL c.w A (adv rows M).1 ++ n))) :
  V c u env (call (.ref f) [.ref A.s]) Q E m (stL c.w A M ++ n) := by
 obtain ⟨qn, pm, c', pc, pd, es, h1, h2, h3, h4, h5, h6⟩ := hf
 refine V.drop2 ?_
 refine CallN_ (List.mem_append_right _ h1) (List.mem_append_right _ h2) (binds := [(n_some, .ref A.s)]) (m₀ := [(n_some, .ref A.s)]) (fun _ _ => by kernel_rfl) (by kernel_rfl) (by kernel_rfl) rfl (by kernel_rfl) (by kernel_rfl) (by kernel_rfl) (by omega) ?_
 intro L _ _ _ _
 refine execs_cons ?_
 kp_kind "names"
 kp_kind "r"
 refine octet_ (by kp_kind "mem") (by kp_kind "mem") ok.apart (by kp_kind "room") fun t => ?_
 kp_kind "r"
 by_cases h204 : oct M.mem M.rip = 204
 ·refine ifT (by simpa using h204) ?_
  unfold adv at he
  rw [if_pos h204] at he
  kp_kind "r"
  refine RaiseNew_ hh (excK _) ?_
  kp_kind "r"
  refine mkExc_ (by kp_kind "room") fun e d => ?_
  exact ⟨e, d, _, rfl, rfl, _, .refl _, he _ rfl e d⟩
 ·refine ifF (by simpa using h204) ?_
  kp_kind "r"
  refine NameF_ (by kernel_rfl) (by kernel_rfl) (a := pc) (by kernel_rfl) (List.mem_append_right _ h3) (by kernel_rfl) (by kernel_rfl) (rf ?_)
  kp_kind "r"
  refine V.perm (n' := stL c.w A M ++ (_ :: n)) (List.perm_middle (l₁ := stL c.w A M)) ?_
  refine step_row_ (rows := rows) ok h204 (.tail _ h4) h5 (h6.sub fun _ => .tail _) (.head _) hh (by kp_kind "room") (fun hn f => ?_) (fun w hw e d => ?_)
  ·kp_kind "r"
   exact ⟨_, List.Sublist.append_left (.cons _ (.refl _)) _, h hn f⟩
  ·exact ⟨_, .cons_cons _ (List.Sublist.append_left (.cons _ (.refl _)) _), he w hw e d⟩
end
noncomputable def ltP (kvs : List (Int × Int)) (i j : Nat) : Bool :=
 let x := kvs.getD i (0, 0)
 let y := kvs.getD j (0, 0)
 if x.1 == y.1 then (if x.2 == y.2 then false else decide (x.2 < y.2)) else decide (x.1 < y.1)
theorem det_sort (L : Nat → Nat → Bool) (n : Nat) : ∃ p : Array Nat, Low n p ∧ p.size = n ∧ ∀ R : Run, R.Good L n → wpS (model R.prog R.w) R.A R.E R.s sortRuns' (fun _ st => arrOf st = p.map (kas_item R.v) ∧ failedOf st = none) (SortSt.mk' R.κ ((List.range n).toArray.map (kas_item R.v)) #[] 7 none) := by
 obtain ⟨r, q', f, h⟩ := runs_ (L := L) (n := n) (q := ⟨(List.range n).toArray, #[], 7⟩) (Post := fun _ q' => Fine n q') ⟨Low.of_mem fun i hi => by simpa using hi, by simp⟩ rfl (fun q' f => f)
 exact ⟨q'.p, f.low, f.size, fun R hR => wpS_mono (h R hR) fun a st ⟨_, e⟩ => by subst e; exact ⟨rfl, rfl⟩⟩
noncomputable def srt (kvs : List (Int × Int)) : List Nat := if kvs.length < 2 then List.range kvs.length else (Classical.choose (det_sort (ltP kvs) kvs.length)).toList
theorem srt_low (kvs : List (Int × Int)) : ∀ i ∈ srt kvs, i < kvs.length := by
 unfold srt
 split
 ·intro i hi; simpa using hi
 ·intro i hi
  exact (Classical.choose_spec (det_sort (ltP kvs) kvs.length)).1.mem i (by simpa using hi)
theorem srt_len (kvs : List (Int × Int)) : (srt kvs).length = kvs.length := by
 unfold srt
 split
 ·simp
 ·rw [Array.length_toList]; exact (Classical.choose_spec (det_sort (ltP kvs) kvs.length)).2.1
noncomputable def PairsAt (h : Heap) (vs : List Value) (kvs : List (Int × Int)) : Prop := vs.length = kvs.length ∧ ∀ i, i < kvs.length → ∃ a t t' n, vs.getD i Value.none = .ref a ∧ h.get? a = some { cls := .type "tuple", data := .seq #[.int (kvs.getD i (0, 0)).1 t, .int (kvs.getD i (0, 0)).2 t'] n }
theorem PairsAt.keeps {h h' : Heap} {vs : List Value} {kvs : List (Int × Int)} (p : PairsAt h vs kvs) (k : ∀ b o, h.get? b = some o → h'.get? b = some o) : PairsAt h' vs kvs :=
 ⟨p.1, fun i hi => by obtain ⟨a, t, t', n, e, ho⟩ := p.2 i hi; exact ⟨a, t, t', n, e, k _ _ ho⟩⟩
section
variable {prog : Program} {w : World} {A : Around} {E : Value → Shared → Prop} {s : Shared} {vs : List Value} {kvs : List (Int × Int)}
theorem tups_of (f : Nat → Value) : ∀ (vs : List Value) (h : Heap), (∀ i, i < vs.length → ∃ a o xs n, vs.getD i Value.none = .ref a ∧ h.get? a = some o ∧ o.cls = .type "tuple" ∧ o.data = .seq xs n ∧ ∃ k t, xs[0]? = some (.int k t)) → ∃ fs, fs.length = vs.length ∧ KatTups h vs fs ∧ ∀ v ∈ fs, ∃ k t, v = .int k t
 | [], h, _ => ⟨[], rfl, .nil, fun v hv => by cases hv⟩
 | v :: vs, h, p => by
  obtain ⟨a, o, xs, n, e, ho, hc, hd, k, t, hx⟩ := p 0 (by simp)
  have e' : v = .ref a := by simpa using e
  subst e'
  obtain ⟨fs, h1, h2, h3⟩ := tups_of f vs h fun i hi => by have := p (i + 1) (by simpa using hi); simpa using this
  refine ⟨.int k t :: fs, by simp [h1], .cons ho hc hd hx h2, fun v hv => ?_⟩
  rcases List.mem_cons.mp hv with rfl | hv
  ·exact ⟨k, t, rfl⟩
  ·exact h3 v hv
theorem good_pairs (p : PairsAt s.heap vs kvs) : Run.Good ⟨prog, w, A, E, s, tuples' true, pairsOf vs⟩ (ltP kvs) kvs.length := by
 intro i j hi hj Q hq
 obtain ⟨a, t, t', n, e, ho⟩ := p.2 i hi
 obtain ⟨b, u, u', k, e2, ho2⟩ := p.2 j hj
 show wpAny _ _ (keyLt' (tuples' true) (kas_item (pairsOf vs) i).1 (kas_item (pairsOf vs) j).1) _ _ _
 rw [kas_item_eq, kas_item_eq, e, e2]
 refine kat_lt ho rfl ho2 rfl ?_
 show KatLex prog w A true false Q [(.int (kvs.getD i (0, 0)).1 t, .int (kvs.getD j (0, 0)).1 u), (.int (kvs.getD i (0, 0)).2 t', .int (kvs.getD j (0, 0)).2 u')] 0 s
 have hq' : Q (if (kvs.getD i (0, 0)).1 == (kvs.getD j (0, 0)).1 then (if (kvs.getD i (0, 0)).2 == (kvs.getD j (0, 0)).2 then false else decide ((kvs.getD i (0, 0)).2 < (kvs.getD j (0, 0)).2)) else decide ((kvs.getD i (0, 0)).1 < (kvs.getD j (0, 0)).1)) s := hq
 refine kat_cons (wpAny_eqBool_int ?_)
 cases h1 : (kvs.getD i (0, 0)).1 == (kvs.getD j (0, 0)).1 with
 | true =>
  rw [h1] at hq'
  refine kat_yes (kat_cons (wpAny_eqBool_int ?_))
  cases h2 : (kvs.getD i (0, 0)).2 == (kvs.getD j (0, 0)).2 with
  | true =>
   rw [h2] at hq'
   exact kat_yes (kat_nil hq')
  | false =>
   rw [h2] at hq'
   refine kat_no (kat_one _ _ (lt_int ?_))
   exact hq'
 | false =>
  rw [h1] at hq'
  exact kat_no (oneLt_int hq')
theorem list_sort_pairs {a : Addr} {n : Nat} {P : PySem.Fin → Shared → Prop} (ho : s.heap.get? a = some (seqObj "list" vs.toArray n)) (p : PairsAt s.heap vs kvs) (hne : ∀ i, i < kvs.length → vs.getD i Value.none ≠ .ref a) (hz : vs.length ≤ 10000)
  (h : P (.done (.ret .none)) { s with heap := sortedHeap s.heap a vs ((srt kvs).map fun i => vs.getD i Value.none).toArray }) :
  wpAny (model prog w) A (Builtin.«list.sort» ⟨[.ref a], []⟩) P E s := by
 rw [list_sort_plain]
 have ha : a < s.heap.objs.size := Heap.lt_size ho
 refine wpAny_bind (listItems_at ho rfl ?_)
 refine wpAny_bind (listUpdate_at ho rfl ?_ (by rw [List.size_toArray, sizeLine_eq]; lia) (Nat.zero_le _))
 obtain ⟨e1, ho1⟩ : ∃ e1, (s.heap.update a (Obj.mapSeq fun _ => #[])).get? a = some (seqObj "list" #[] e1) := ⟨_, get?_update_seq ho (fun _ => #[])⟩
 refine wpAny_bind (seqEpoch_at ho1 rfl ?_)
 refine wpAny_bind (wpAny_newTuple ?_ (by show vs.length ≤ _; rw [sizeLine_eq]; lia))
 refine wpAny_bind (wpAny_newList ?_ (Nat.zero_le _))
 refine wpAny_holding ?_
 have ho6 : (((s.heap.update a (Obj.mapSeq fun _ => #[])).push (seqObj "tuple" vs.toArray 0)).push (seqObj "list" #[] 0)).get? a = some (seqObj "list" #[] e1) :=
  Heap.get?_push_of_some _ (Heap.get?_push_of_some _ ho1)
 have p6 : PairsAt (((s.heap.update a (Obj.mapSeq fun _ => #[])).push (seqObj "tuple" vs.toArray 0)).push (seqObj "list" #[] 0)) vs kvs := by
  refine ⟨p.1, fun i hi => ?_⟩
  obtain ⟨b, t, t', n, e, hb⟩ := p.2 i hi
  refine ⟨b, t, t', n, e, Heap.get?_push_of_some _ (Heap.get?_push_of_some _ ?_)⟩
  rw [Heap.get?_update_ne _ _ _ _ (fun q => hne i hi (by rw [e, q]))]
  exact hb
 show wpAny (model prog w) A _ P E { s with heap := ((s.heap.update a (Obj.mapSeq fun _ => #[])).push (seqObj "tuple" vs.toArray 0)).push (seqObj "list" #[] 0) }
 dsimp only
 have hsz : vs.toArray.size = vs.length := by simp
 have hlen := p.1
 by_cases h2 : vs.toArray.size < 2
 ·rw [if_pos h2, if_pos h2]
  refine wpAny_bind (wpAny_pure ?_)
  rw [StateT.run_pure]
  refine wpAny_bind (wpAny_pure ?_)
  dsimp only
  refine wpAny_bind (seqEpoch_at ho6 rfl ?_)
  have hout : ((srt kvs).map fun i => vs.getD i Value.none).toArray = (pairsOf vs).map (·.2) := by
   unfold srt
   rw [if_pos (by lia)]
   apply Array.toList_inj.mp
   rw [Array.toList_map, pairsOf_toList]
   apply List.ext_getElem
   ·simp; lia
   ·intro i h1 h2
    simp at h1 h2
    simp [List.getD_eq_getElem?_getD]
    rw [List.getElem?_eq_getElem (by lia)]; rfl
  rw [hout] at h
  refine wpAny_bind (listUpdate_at ho6 rfl ?_ (Nat.zero_le _) (by rw [Array.size_map]; show (pairsOf vs).size ≤ _; rw [pairsOf_size, sizeLine_eq]; lia))
  simp only [bne_self_eq_false, Bool.false_eq_true, if_false]
  exact wpAny_pure h
 ·rw [if_neg h2, if_neg h2]
  obtain ⟨fs, k1, k2, k3⟩ := tups_of (fun _ => .none) vs (((s.heap.update a (Obj.mapSeq fun _ => #[])).push (seqObj "tuple" vs.toArray 0)).push (seqObj "list" #[] 0)) (fun i hi => by
   obtain ⟨b, t, t', n, e, hb⟩ := p6.2 i (by lia)
   exact ⟨b, _, _, n, e, hb, rfl, rfl, _, t, rfl⟩)
  refine wpAny_bind (kat_kind (T := .type "int") k2 (by lia) (fun v hv => by obtain ⟨k, t, rfl⟩ := k3 v hv; exact Looks.of_pure rfl) rfl ?_)
  have est : SortSt.mk' (tuples' true) (vs.toArray.zip vs.toArray) #[] 7 none = SortSt.mk' (tuples' true) ((List.range kvs.length).toArray.map (kas_item (pairsOf vs))) #[] 7 none := by
   have e := kas_range (pairsOf vs)
   rw [pairsOf_size, hlen] at e
   show SortSt.mk' (tuples' true) (pairsOf vs) #[] 7 none = _
   rw [e]
  have sp := Classical.choose_spec (det_sort (ltP kvs) kvs.length)
  have run := sp.2.2 ⟨prog, w, A, E, _, tuples' true, pairsOf vs⟩ (good_pairs (s := { s with heap := ((s.heap.update a (Obj.mapSeq fun _ => #[])).push (seqObj "tuple" vs.toArray 0)).push (seqObj "list" #[] 0) }) p6)
  have eT : ((Value.type "int") != Value.type "tuple") = true := by kp_kind "dq"
  rw [eT, est]
  refine wpAny_bind (wpAny_mono run ?_ fun _ _ e => e)
  rintro ⟨⟨⟩, st'⟩ s' ⟨rfl, har, hf⟩
  dsimp only
  have hout : (arrOf st').map (·.2) = ((srt kvs).map fun i => vs.getD i Value.none).toArray := by
   unfold srt
   rw [if_neg (by lia)]
   apply Array.toList_inj.mp
   rw [har, Array.map_map, Array.toList_map]
   exact List.map_congr_left fun i _ => by show (kas_item (pairsOf vs) i).2 = _; rw [kas_item_eq]
  rw [hout]
  refine wpAny_bind (seqEpoch_at ho6 rfl ?_)
  refine wpAny_bind (listUpdate_at ho6 rfl ?_ (Nat.zero_le _) (by rw [List.size_toArray, List.length_map, srt_len, sizeLine_eq]; lia))
  rw [hf]
  simp only [bne_self_eq_false, Bool.false_eq_true, if_false]
  exact wpAny_pure h
end
section
variable {prog : Program} {w : World} {A : Around} {E : Value → Shared → Prop} {s : Shared} {vs : List Value} {kvs : List (Int × Int)}
theorem sorted_pairs {l : Addr} {Q : Value → Shared → Prop} (hl : s.heap.IsList l vs.toArray) (p : PairsAt s.heap vs kvs) (hz : vs.length ≤ 10000)
  (h : ∀ h' e, (∀ b o, s.heap.get? b = some o → h'.get? b = some o) → h'.get? (s.heap.objs.size + 1) = some (listOf ((srt kvs).map fun i => vs.getD i Value.none).toArray e) → Q (.ref (s.heap.objs.size + 1)) { s with heap := h' }) :
  wpAny (model prog w) A (call (.builtin "sorted") [.ref l]) Q E s := by
 refine Calls.call_function_entry kind_sorted plain_sorted entry_sorted (args_sorted1 _) ?_
 unfold Builtin.«sorted»
 refine wpAny_bind (m := checkCount "sorted" 1 1 _) (wpAny_pure ?_)
 refine wpAny_bind (collect_list hl ?_ (by rw [sizeLine_eq]; lia))
 refine wpAny_bind (wpAny_newList ?_ (by rw [sizeLine_eq]; lia))
 have hsz : ((s.heap.push (seqObj "list" #[] 0)).update s.heap.objs.size (Obj.mapSeq (· ++ vs.toArray))).objs.size = s.heap.objs.size + 1 := by
  rw [Heap.size_update, size_push']
 have hoL : (((s.heap.push (seqObj "list" #[] 0)).update s.heap.objs.size (Obj.mapSeq (· ++ vs.toArray))).push (seqObj "list" vs.toArray 0)).get? (s.heap.objs.size + 1) = some (seqObj "list" vs.toArray 0) := by
  rw [← hsz]; exact Heap.get?_push_size _ rfl
 have keep : ∀ b o, s.heap.get? b = some o → (((s.heap.push (seqObj "list" #[] 0)).update s.heap.objs.size (Obj.mapSeq (· ++ vs.toArray))).push (seqObj "list" vs.toArray 0)).get? b = some o := fun b o q => by
  have hlt : b < s.heap.objs.size := Heap.lt_size q
  rw [Heap.get?_push_ne _ _ _ (by rw [hsz]; exact Nat.ne_of_lt (Nat.lt_succ_of_lt hlt)), Heap.get?_update_ne _ _ _ _ (Nat.ne_of_lt hlt), Heap.get?_push_ne _ _ _ (Nat.ne_of_lt hlt)]
  exact q
 show wpAny _ _ _ _ _ { s with heap := ((s.heap.push (seqObj "list" #[] 0)).update s.heap.objs.size (Obj.mapSeq (· ++ vs.toArray))).push (seqObj "list" vs.toArray 0) }
 rw [hsz]
 have hne : ∀ i, i < kvs.length → vs.getD i Value.none ≠ .ref (s.heap.objs.size + 1) := fun i hi e => by
  obtain ⟨a, t, t', n, e2, ho⟩ := p.2 i hi
  rw [e2] at e
  cases e
  exact absurd (Heap.lt_size ho) (Nat.not_lt.mpr (Nat.le_succ _))
 refine wpAny_bind (wpAny_holding (wpAny_call_entry slot_list_sort ⟨_, hoL, rfl⟩ entry_list_sort (list_sort_pairs hoL (p.keeps keep) hne hz ⟨_, rfl, ?_⟩) (args_list_sort _)))
 generalize ((s.heap.push (seqObj "list" #[] 0)).update s.heap.objs.size (Obj.mapSeq (· ++ vs.toArray))).push (seqObj "list" vs.toArray 0) = h1 at hoL keep ⊢
 have hu : ∃ e1, (((h1.update (s.heap.objs.size + 1) (Obj.mapSeq fun _ => #[])).push (seqObj "tuple" vs.toArray 0)).push (seqObj "list" #[] 0)).get? (s.heap.objs.size + 1) = some (seqObj "list" #[] e1) :=
  ⟨_, Heap.get?_push_of_some _ (Heap.get?_push_of_some _ (get?_update_seq hoL (fun _ => #[])))⟩
 obtain ⟨e1, hu⟩ := hu
 obtain ⟨e2, hu2⟩ : ∃ e2, (sortedHeap h1 (s.heap.objs.size + 1) vs ((srt kvs).map fun i => vs.getD i Value.none).toArray).get? (s.heap.objs.size + 1) = some (seqObj "list" ((srt kvs).map fun i => vs.getD i Value.none).toArray e2) := ⟨_, get?_update_seq hu _⟩
 refine wpAny_pure ⟨_, rfl, h _ e2 (fun b o q => ?_) hu2⟩
 have hlt : b < s.heap.objs.size := Heap.lt_size q
 unfold sortedHeap
 rw [Heap.get?_update_ne _ _ _ _ (Nat.ne_of_lt (Nat.lt_succ_of_lt hlt))]
 refine Heap.get?_push_of_some _ (Heap.get?_push_of_some _ ?_)
 rw [Heap.get?_update_ne _ _ _ _ (Nat.ne_of_lt (Nat.lt_succ_of_lt hlt))]
 exact keep b o q
end
section
variable {c : Cx} {u : Cu} {env : Env} {E : EP} {m : Loc} {n : Led} {Q : Value → Loc → Led → Prop}
noncomputable def pairD (p : Int × Int) : DT := .tup [.int p.1, .int p.2]
noncomputable def PairsIn (n : Led) (bs : List Addr) (kvs : List (Int × Int)) : Prop := bs.length = kvs.length ∧ ∀ i, i < kvs.length → (bs.getD i 0, AObj.tup [.int (kvs.getD i (0, 0)).1 0, .int (kvs.getD i (0, 0)).2 0]) ∈ n
theorem sortedP_ {a : Addr} {bs : List Addr} {kvs : List (Int × Int)} (hm : (a, AObj.list (bs.map .ref)) ∈ n) (hp : PairsIn n bs kvs) (hz : kvs.length ≤ 10000)
  (h : ∀ b, Q (.ref b) m ((b, .list ((srt kvs).map fun i => .ref (bs.getD i 0))) :: n)) : V c u env (call (.builtin "sorted") [.ref a]) Q E m n :=
 V.act (fun v m' n' => ∃ b, v = .ref b ∧ m' = m ∧ n' = (b, .list ((srt kvs).map fun i => .ref (bs.getD i 0))) :: n) (fun A hp' tk ok fit md Q' E' hq => by
  obtain ⟨vs, e, ho, em⟩ := list_at (md.led _ hm)
  have ev : vs.toList = bs.map .ref := by
   have : ∀ (xs : List Value) (bs : List Addr), xs.map nv = bs.map .ref → xs = bs.map .ref := by
    intro xs
    induction xs with
    | nil => intro bs h; cases bs with
     | nil => rfl
     | cons b bs => simp at h
    | cons x xs ih => intro bs h; cases bs with
     | nil => simp at h
     | cons b bs =>
      simp only [List.map_cons, List.cons.injEq] at h
      rw [nv_ref h.1, ih bs h.2]; rfl
   exact this _ _ em
  have hgd : ∀ i, i < kvs.length → (vs.toList).getD i Value.none = .ref (bs.getD i 0) := fun i hi => by
   have hi' : i < bs.length := by rw [hp.1]; exact hi
   rw [ev]
   simp only [List.getD_eq_getElem?_getD, List.getElem?_map]
   rw [List.getElem?_eq_getElem hi']
   rfl
  have hlen : vs.toList.length = kvs.length := by rw [ev, List.length_map, hp.1]
  refine sorted_pairs (vs := vs.toList) (kvs := kvs) ⟨_, ho, rfl, e, by rw [Array.toArray_toList]⟩ ⟨hlen, fun i hi => ?_⟩ (by lia) (fun h' e' k1 k2 => ?_)
  ·obtain ⟨xs, k, hx, ex⟩ := tup_at (md.led _ (hp.2 i hi))
   obtain ⟨x, y, exy, e1, e2⟩ := two_of ex
   obtain ⟨t, rfl⟩ := nv_int e1
   obtain ⟨t', rfl⟩ := nv_int e2
   have : xs = #[.int (kvs.getD i (0, 0)).1 t, .int (kvs.getD i (0, 0)).2 t'] := by rw [← Array.toArray_toList (xs := xs), exy]
   subst this
   exact ⟨_, t, t', k, hgd i hi, hx⟩
  ·refine hq _ _ _ m ((hp'.objs.size + 1, .list ((srt kvs).map fun i => .ref (bs.getD i 0))) :: n) (md.more k1 ⟨_, k2, ?_⟩ (fun b hb => ?_) (by show [_].Nodup; simp)) ⟨_, rfl, rfl, rfl⟩
   ·refine ⟨_, _, rfl, ?_⟩
    rw [List.map_map]
    exact List.map_congr_left fun i hi => by
     show nv (vs.toList.getD i Value.none) = _
     rw [hgd i (srt_low kvs i hi)]; rfl
   ·have hb' : b = hp'.objs.size + 1 := List.mem_singleton.mp hb
    rw [hb']
    exact none_above (Nat.le_succ _)) (fun v m' n' ⟨b, e1, e2, e3⟩ => by subst e1 e2 e3; exact h b)
end
inductive Pick (x : Addr × AObj) : Led → Led → Prop
 | here {n : Led} : Pick x (x :: n) n
 | there {y : Addr × AObj} {n n' : Led} : Pick x n n' → Pick x (y :: n) (y :: n')
theorem Pick.perm {x : Addr × AObj} {n n' : Led} (h : Pick x n n') : n.Perm (x :: n') := by
 induction h with
 | here => exact .refl _
 | there _ ih => exact (List.Perm.cons _ ih).trans (List.Perm.swap _ _ _)
noncomputable def Keep (n' n : Led) : Prop := ∃ l, n.Perm (n' ++ l)
theorem Keep.refl {n : Led} : Keep n n := ⟨[], by rw [List.append_nil]⟩
theorem Keep.nil {n : Led} : Keep [] n := ⟨n, .refl _⟩
theorem Keep.cons {x : Addr × AObj} {n n' l : Led} (p : Pick x n n') (h : Keep l n') : Keep (x :: l) n := by
 obtain ⟨r, h⟩ := h
 exact ⟨r, p.perm.trans (h.cons x)⟩
theorem Keep.skip {y : Addr × AObj} {n l : Led} (h : Keep l n) : Keep l (y :: n) := by
 obtain ⟨r, h⟩ := h
 exact ⟨y :: r, (h.cons y).trans List.perm_middle.symm⟩
theorem Keep.drop {l n : Led} (b : Led) (h : Keep l n) : Keep l (b ++ n) := by
 induction b with
 | nil => exact h
 | cons x b ih => exact ih.skip
theorem Keep.trans {a b c : Led} (h : Keep a b) (h' : Keep b c) : Keep a c := by
 obtain ⟨r, h⟩ := h
 obtain ⟨r', h'⟩ := h'
 refine ⟨r ++ r', h'.trans ?_⟩
 rw [← List.append_assoc]
 exact h.append_right r'
theorem Keep.mem {l n : Led} (h : Keep l n) : ∀ p ∈ l, p ∈ n := by
 obtain ⟨r, h⟩ := h
 exact fun p hp => h.mem_iff.mpr (List.mem_append_left _ hp)
theorem Mod.keeps {c : Cx} {fs : List (Env × Loc)} {n n' : Led} {h : Heap} (d : Mod c fs n h) (k : Keep n' n) : Mod c fs n' h := by
 obtain ⟨r, k⟩ := k
 exact (d.perm k.symm).sub (List.sublist_append_left _ _)
theorem Keep.foot {l n : Led} (h : Keep l n) {b : Addr} (hb : b ∈ foot l) : b ∈ foot n := by
 obtain ⟨p, hp, hb⟩ := List.mem_flatMap.mp hb
 exact mem_foot (h.mem p hp) hb
section
variable {c : Cx} {u : Cu} {env : Env} {E : EP} {m : Loc} {n : Led} {α : Type}
theorem V.keep0 {t : Sem α} {Q : α → Loc → Led → Prop} {n' : Led} (k : Keep n' n) (h : V c u env t Q E m n') : V c u env t Q E m n := V.i fun ok A hh tk fit md => h.go ok A hh tk fit (md.keeps k)
theorem V.keepL {t : Sem α} {Q : α → Loc → Led → Prop} {n' : Led} (k : Keep n' n) (h : let l := n'; V c u env t Q E m l) : V c u env t Q E m n := V.keep0 k h
theorem V.keep {t : Sem α} {Q : α → Loc → Led → Prop} (h : V c u env t (fun a m n => ∃ n', Keep n' n ∧ Q a m n') (fun fl e d m n => ∃ n', Keep n' n ∧ E fl e d m n') m n) : V c u env t Q E m n :=
 V.i fun ok A hp tk fit md => wpAny_mono (h.go ok A hp tk fit md) (fun a s ⟨x, m, n, y, n', hs, z⟩ => ⟨x, m, n', y.keeps hs, z⟩) fun x s ⟨sm, fl, e, d, m, n, hx, y, g, o, n', hs, z⟩ => by
  refine ⟨sm, fl, e, d, m, n', hx, y.keeps hs, ⟨fun q => g.out (hs.foot q), g.new, ?_⟩, o, z⟩
  obtain ⟨oe, vs, h1, h2, h3, h4, h5⟩ := g.at_
  refine ⟨oe, vs, h1, h2, h3, h4, ?_⟩
  cases fl with
  | none => exact h5
  | some v =>
   obtain ⟨T, oT, ts, k1, k2, k3⟩ := h5
   exact ⟨T, oT, ts, k1, fun q => k2 (hs.foot q), k3⟩
theorem V.keepN {t : Sem α} {Q : α → Loc → Led → Prop} (h : V c u env t (fun a m n => ∃ n', Keep n' n ∧ Q a m n') E m n) : V c u env t Q E m n :=
 V.i fun ok A hp tk fit md => wpAny_mono (h.go ok A hp tk fit md) (fun a s ⟨x, m, n, y, n', hs, z⟩ => ⟨x, m, n', y.keeps hs, z⟩) fun _ _ x => x
theorem setNew {a C d : Addr} {as : List (Str × Value)} {name : Str} {v : Value} {n' : Led} {Q : Unit → Loc → Led → Prop} (hp : Put a (.inst C d as) (.inst C d (as ++ [(name, nv v)])) n n') (hn : setL name (nv v) as = as ++ [(name, nv v)]) (hz : Nat.ble as.length 1000 = true) (st : SetIn c.K C name)
  (h : Q () m n') : V c u env (setAttr (.ref a) name v) Q E m n := setA2 hp hn (Nat.le_of_ble_eq_true hz) st h
end
theorem nvR (a : Addr) : nv (.ref a) = .ref a := rfl
theorem nvI (i : Int) (t : Tok) : nv (.int i t) = .int i 0 := rfl
theorem nvS (x : Str) (t : Tok) : nv (.str x t) = .str x 0 := rfl
theorem nvN : nv .none = .none := rfl
theorem nvB (b : Bool) : nv (.bool b) = .bool b := rfl
section
variable {c : Cx} {u : Cu} {env : Env} {E : EP} {m : Loc} {n : Led} {Q : Value → Loc → Led → Prop}
noncomputable abbrev flgL : Loc := [(n_cf, .int 0 0), (n_pf, .int 0 0), (n_af, .int 0 0), (n_zf, .int 0 0), (n_sf, .int 0 0), (n_of, .int 0 0), (n_df, .int 0 0)]
theorem mkFlags_ (hr : 2 ≤ u.r) (h : ∀ a d, Q (.ref a) m ((a, .inst 277 d flgL) :: n)) : V c u env (call (.ref 277) []) Q E m n := by
 refine Make_ (by kernel_rfl) (by kernel_rfl) (by kernel_rfl) (fFlags_init _) (fun x => Binds.pure (binds := [(n_self, x)]) (fun _ _ _ _ _ => by kernel_rfl)) (fun x => by kernel_rfl) (m₀ := fun x => [(n_self, x)]) (fun x => rfl) hr ?_
 intro a d L _ _ _ _
 refine execs_cons ?_
 kp_kind "names"
 repeat (first | kp_kind "1" | kp_kind "set")
 exact ⟨rfl, h a d⟩
end
section
variable {c : Cx} {u : Cu} {env : Env} {E : EP} {m : Loc} {n : Led} {Q : Option Value → Loc → Led → Prop}
theorem map_at {α : Type} {l : List α} {g : α → Value} {i : Nat} {x : Value} (h : (l.map g)[i]? = some x) : ∃ j, l[i]? = some j ∧ x = g j := by
 rw [List.getElem?_map] at h
 cases q : l[i]? with
 | none => rw [q] at h; cases h
 | some j => rw [q] at h; exact ⟨j, rfl, (Option.some.inj h).symm⟩
theorem map_out {α : Type} {l : List α} {g : α → Value} {i : Nat} (h : (l.map g)[i]? = none) : l.length ≤ i := by
 have := List.getElem?_eq_none_iff.mp h
 rwa [List.length_map] at this
theorem nextLI_ {it l : Addr} {i : Nat} (ns : List Int) (hd : u.hd = none) (hm : (l, AObj.list (ns.map vi)) ∈ n) (h1 : ∀ j t, ns[i]? = some j → i < ns.length → Q (some (.int j t)) m ((it, .liter l (i + 1)) :: n)) (h0 : ns.length ≤ i → Q none m n) : V c u env (pyNext (.ref it)) Q E m ((it, .liter l i) :: n) :=
 nextL_ hd hm (fun x hx v hv => by
  obtain ⟨j, hj, rfl⟩ := map_at hx
  obtain ⟨t, rfl⟩ := vi_nv hv
  exact h1 j t hj (List.getElem?_eq_some_iff.mp hj).1) fun hx => h0 (map_out hx)
theorem nextEI_ {e it l : Addr} {i : Nat} (ns : List Int) (hd : u.hd = none) (hm : (l, AObj.list (ns.map vi)) ∈ n)
  (h1 : ∀ j tj T t, ns[i]? = some j → i < ns.length → Q (some (.ref T)) m ((T, tup2 (.int i t) (.int j tj)) :: (e, .enumO it ((i : Int) + 1) T) :: (it, .liter l (i + 1)) :: n)) (h0 : ns.length ≤ i → Q none m n) :
  V c u env (pyNext (.ref e)) Q E m ((e, .enum it i) :: (it, .liter l i) :: n) :=
 nextEL_ hd hm (fun x hx v T t hv => by
  obtain ⟨j, hj, rfl⟩ := map_at hx
  obtain ⟨tj, rfl⟩ := vi_nv hv
  exact h1 j tj T t hj (List.getElem?_eq_some_iff.mp hj).1) fun hx => h0 (map_out hx)
theorem nextER_ {α : Type} {e it l : Addr} {i : Nat} (ns : List α) (g : α → Addr) (hd : u.hd = none) (hm : (l, AObj.list (ns.map fun x => .ref (g x))) ∈ n)
  (h1 : ∀ j T t, ns[i]? = some j → i < ns.length → Q (some (.ref T)) m ((T, tup2 (.int i t) (.ref (g j))) :: (e, .enumO it ((i : Int) + 1) T) :: (it, .liter l (i + 1)) :: n)) (h0 : ns.length ≤ i → Q none m n) :
  V c u env (pyNext (.ref e)) Q E m ((e, .enum it i) :: (it, .liter l i) :: n) :=
 nextEL_ hd hm (fun x hx v T t hv => by
  obtain ⟨j, hj, rfl⟩ := map_at hx
  have := nv_ref hv
  subst this
  exact h1 j T t hj (List.getElem?_eq_some_iff.mp hj).1) fun hx => h0 (map_out hx)
end
theorem Put.same {a : Addr} {o : AObj} {n : Led} (h : (a, o) ∈ n) : Put a o o n n := by
 induction n with
 | nil => cases h
 | cons x n ih =>
  rcases List.mem_cons.mp h with rfl | h
  ·exact .here
  ·exact .there (ih h)
section
variable {c : Cx} {u : Cu} {env : Env} {E : EP} {m : Loc} {n : Led} {Q : Value → Loc → Led → Prop}
theorem qInt {i j : Int} {t : Tok} (e : i = j) (h : Q (.int j t) m n) : Q (.int i t) m n := e ▸ h
theorem setSame {a C d : Addr} {as : List (Str × Value)} {name : Str} {v : Value} {Q : Unit → Loc → Led → Prop} (hm : (a, AObj.inst C d as) ∈ n) (e : setL name (nv v) as = as) (hz : Nat.ble as.length 1000 = true) (st : SetIn c.K C name)
  (h : Q () m n) : V c u env (setAttr (.ref a) name v) Q E m n := setA2 (Put.same hm) e (Nat.le_of_ble_eq_true hz) st h
theorem bit_ {x k : Int} {t t' : Tok} (h0 : 0 ≤ k) (hr : 1 ≤ u.r) (h : ∀ t, Q (.int (Builtin.bitAnd (x.fdiv (2 ^ k.toNat)) 1) t) m n) : V c u env (call (.ref 94) [.int x t, .int k t']) Q E m n := by
 refine Call_ (fbit _) (Binds.pure (binds := [(n_worth, .int x t), (n_n, .int k t')]) (fun _ _ _ _ _ => by kernel_rfl)) (by kernel_rfl) (m₀ := [(n_n, .int k t'), (n_worth, .int x t)]) rfl hr ?_
 intro L _ _ _ _
 refine execs_cons ?_
 kp_kind "names"
 kp_kind "r"
 refine shr_ h0 fun t => ?_
 kp_kind "r"
 exact h _
theorem pack_ {a d : Addr} (hm : (a, AObj.inst 277 d flgL) ∈ n) (hr : 1 ≤ u.r) (h : ∀ t, Q (.int 2 t) m n) : V c u env (call (.ref 232) [.ref a]) Q E m n := by
 refine Call_ (fFlags_pack _) (Binds.pure (binds := [(n_self, .ref a)]) (fun _ _ _ _ _ => by kernel_rfl)) (by kernel_rfl) (m₀ := [(n_self, .ref a)]) rfl hr ?_
 intro L _ _ _ _
 refine execs_cons ?_
 kp_kind "names"
 kp_kind "r"
 refine qInt (Q := Q) ?_ (h _)
 decide +kernel
theorem unpack_ {a d : Addr} {t : Tok} (hm : (a, AObj.inst 277 d flgL) ∈ n) (hr : 2 ≤ u.r) (h : Q .none m n) : V c u env (call (.ref 239) [.ref a, .int 2 t]) Q E m n := by
 refine Call_ (fFlags_unpack _) (Binds.pure (binds := [(n_self, .ref a), (n_number, .int 2 t)]) (fun _ _ _ _ _ => by kernel_rfl)) (by kernel_rfl) (m₀ := [(n_number, .int 2 t), (n_self, .ref a)]) rfl (by omega) ?_
 intro L _ _ _ _
 refine execs_cons ?_
 kp_kind "names"
 repeat (first | kp_kind "1" | (refine bit_ (by decide) (by kp_kind "room") fun t => ?_) | (refine setSame (by kp_kind "mem") (by kernel_rfl) (by kernel_rfl) (by kp_kind "wt") ?_))
 exact h
theorem flagsCopy_ {a d : Addr} (hm : (a, AObj.inst 277 d flgL) ∈ n) (hr : 4 ≤ u.r) (h : ∀ b e, Q (.ref b) m ((b, .inst 277 e flgL) :: n)) : V c u env (call (.ref 253) [.ref a]) Q E m n := by
 refine Call_ (fFlags_copy _) (Binds.pure (binds := [(n_self, .ref a)]) (fun _ _ _ _ _ => by kernel_rfl)) (by kernel_rfl) (m₀ := [(n_self, .ref a)]) rfl (by omega) ?_
 intro L _ _ _ _
 refine execs_cons ?_
 kp_kind "names"
 kp_kind "r"
 refine mkFlags_ (by kp_kind "room") fun b e => ?_
 kp_kind "r"
 refine pack_ (by kp_kind "mem") (by kp_kind "room") fun t => ?_
 kp_kind "r"
 refine unpack_ (by kp_kind "mem") (by kp_kind "room") ?_
 kp_kind "r"
 exact h b e
end
theorem Keep.back {pre post : Led} {x : Addr × AObj} : Keep (pre ++ x :: post) (x :: (pre ++ post)) := ⟨[], by rw [List.append_nil]; exact List.perm_middle.symm⟩
theorem Keep.front {pre post : Led} {x : Addr × AObj} : Keep (x :: (pre ++ post)) (pre ++ x :: post) := ⟨[], by rw [List.append_nil]; exact List.perm_middle⟩
theorem Keep.consC {x : Addr × AObj} {l n : Led} (h : Keep l n) : Keep (x :: l) (x :: n) := .cons .here h
theorem mem_split {x y : Addr × AObj} {pre post : Led} (h : y ∈ pre ++ x :: post) (ne : y ≠ x) : y ∈ pre ++ post := by
 rcases List.mem_append.mp h with h | h
 ·exact List.mem_append_left _ h
 ·rcases List.mem_cons.mp h with h | h
  ·exact absurd h ne
  ·exact List.mem_append_right _ h
theorem mset_new {l : Mem} {k v : Int} (h : ∀ p ∈ l, p.1 ≠ k) : mset l k v = l ++ [(k, v)] := by
 unfold mset
 rw [if_neg]
 simp only [List.any_eq_true, decide_eq_true_eq, not_exists, not_and]
 exact h
theorem take_next {l : Mem} {i : Nat} {k v : Int} (hn : (l.map (·.1)).Nodup) (hi : l[i]? = some (k, v)) : mset (l.take i) k v = l.take (i + 1) := by
 have hlt := (List.getElem?_eq_some_iff.mp hi).1
 have e : l = l.take i ++ (k, v) :: l.drop (i + 1) := by
  conv => lhs; rw [← List.take_append_drop i l]
  rw [List.drop_eq_getElem_cons hlt]
  rw [List.getElem?_eq_getElem hlt] at hi
  rw [Option.some.inj hi]
 rw [mset_new, List.take_add_one, hi]
 ·rfl
 ·intro p hp q
  rw [e, List.map_append, List.map_cons] at hn
  exact (List.nodup_append.mp hn).2.2 p.1 (List.mem_map_of_mem hp) k (.head _) q
theorem ftk0 {l : List Int} {i : Nat} {x p : Int} (h : l[i]? = some x) (e : x = p) : (l.take (i + 1)).filter (fun x => x != p) = (l.take i).filter fun x => x != p := by
 rw [List.take_add_one, h, List.filter_append]; simp [e]
theorem ftk1 {l : List Int} {i : Nat} {x p : Int} (h : l[i]? = some x) (e : ¬ x = p) : (l.take (i + 1)).filter (fun x => x != p) = ((l.take i).filter fun x => x != p) ++ [x] := by
 rw [List.take_add_one, h, List.filter_append]; simp [e]
theorem valueAt_nodup {l : Mem} {i : Nat} {k v : Int} (hn : (l.map (·.1)).Nodup) (hi : l[i]? = some (k, v)) : mget l k = some v := by
 unfold mget
 induction l generalizing i with
 | nil => simp at hi
 | cons p l ih =>
  rw [List.map_cons, List.nodup_cons] at hn
  cases i with
  | zero =>
   simp at hi
   subst hi
   simp
  | succ i =>
   have hi' : l[i]? = some (k, v) := by simpa using hi
   have hne : p.1 ≠ k := fun q => hn.1 (by rw [q]; exact List.mem_map_of_mem (f := (·.1)) (List.mem_of_getElem? hi'))
   rw [List.find?_cons]
   simp only [hne, decide_false, Bool.false_eq_true, if_false]
   exact ih hn.2 hi'
theorem valueAt_at {kvs : List (Int × Value)} {i : Nat} {k : Int} {v : Value} (hn : (kvs.map (·.1)).Nodup) (hi : kvs[i]? = some (k, v)) : valueAt kvs k = some v := by
 unfold valueAt
 induction kvs generalizing i with
 | nil => simp at hi
 | cons p l ih =>
  rw [List.map_cons, List.nodup_cons] at hn
  cases i with
  | zero =>
   simp at hi
   subst hi
   simp
  | succ i =>
   have hi' : l[i]? = some (k, v) := by simpa using hi
   have hne : p.1 ≠ k := fun q => hn.1 (by rw [q]; exact List.mem_map_of_mem (f := (·.1)) (List.mem_of_getElem? hi'))
   rw [List.find?_cons]
   simp only [hne, decide_false, Bool.false_eq_true, if_false]
   exact ih hn.2 hi'
section
variable {c : Cx} {u : Cu} {env : Env} {E : EP} {m : Loc} {n : Led} {α : Type}
theorem V.nodup {t : Sem α} {Q : α → Loc → Led → Prop} {d : Addr} {l : Mem} (hm : (d, AObj.mem c.w l) ∈ n) (h : (l.map (·.1)).Nodup → V c u env t Q E m n) : V c u env t Q E m n :=
 V.i fun ok A hh tk fit md => by
  refine (h ?_).go ok A hh tk fit md
  obtain ⟨o, ho, kvs, ep, ⟨es, h1, h2, h3, h4, h5⟩, em⟩ := md.led _ hm
  have : (l.map fun q => ((q.1, vi q.2) : Int × Value)).map (·.1) = l.map (·.1) := by rw [List.map_map]; rfl
  rw [← this, ← em, List.map_map]
  exact h5
end
section
variable {c : Cx} {u : Cu} {env : Env} {E : EP} {m : Loc} {n : Led} {Q : Value → Loc → Led → Prop}
noncomputable abbrev memL (hd : Addr) : Loc := [(n_held, .ref hd)]
theorem mkMem_ (hr : 2 ≤ u.r) (h : ∀ a d hd, (hd == sysModules) = false → Q (.ref a) m ((a, .inst 483 d (memL hd)) :: (hd, .mem c.w []) :: n)) : V c u env (call (.ref 483) []) Q E m n := by
 refine V.keepN ?_
 refine Make_ (by kernel_rfl) (by kernel_rfl) (by kernel_rfl) (fMemory_init _) (fun x => Binds.pure (binds := [(n_self, x)]) (fun _ _ _ _ _ => by kernel_rfl)) (fun x => by kernel_rfl) (m₀ := fun x => [(n_self, x)]) (fun x => rfl) hr ?_
 intro a d L _ _ _ _
 refine execs_cons ?_
 kp_kind "names"
 kp_kind "r"
 refine DictNil_ (fun hd hs => ?_)
 repeat (first | kp_kind "1" | kp_kind "set")
 refine ⟨rfl, _, ?_, h a d hd hs⟩
 kp_kind "keep"
theorem memCopy_ {a d hd : Addr} {l : Mem} (ha : (a, AObj.inst 483 d (memL hd)) ∈ n) (hm : (hd, AObj.mem c.w l) ∈ n) (hs : (hd == sysModules) = false) (hz : l.length ≤ 9000) (hh : u.hd = none) (hr : 4 ≤ u.r)
  (h : ∀ b e hd', (hd' == sysModules) = false → Q (.ref b) m ((b, .inst 483 e (memL hd')) :: (hd', .mem c.w l) :: n)) : V c u env (call (.ref 473) [.ref a]) Q E m n := by
 refine V.nodup hm fun hnd => ?_
 obtain ⟨pre, post, rfl⟩ := List.append_of_mem hm
 have ha' : (a, AObj.inst 483 d (memL hd)) ∈ pre ++ post := mem_split ha (by intro e; cases e)
 refine V.keepN ?_
 refine V.keep0 Keep.front ?_
 refine V.freeze fun kvs ep ek => ?_
 have hkl : kvs.length = l.length := by have := congrArg List.length ek; simpa using this
 refine Call_ (fMemory_copy _) (Binds.pure (binds := [(n_self, .ref a)]) (fun _ _ _ _ _ => by kernel_rfl)) (by kernel_rfl) (m₀ := [(n_self, .ref a)]) rfl (by lia) ?_
 intro L _ _ _ _
 refine execs_cons ?_
 kp_kind "names"
 kp_kind "r"
 refine mkMem_ (by kp_kind "room") fun b e hd' hs' => ?_
 kp_kind "r"
 refine For_ ?_
 kp_kind "r"
 refine iterD_ (d := hd) (by kp_kind "mem") hs fun it => ?_
 refine ⟨l.length, fun i m' n' => n' = (it, .kiter hd i kvs.length ep) :: (b, .inst 483 e (memL hd')) :: (hd', .mem c.w (l.take i)) :: (hd, .imapE c.w kvs ep) :: (pre ++ post) ∧ m'.lookup n_self = some (.ref a) ∧ m'.lookup n_other = some (.ref b), ⟨rfl, by kp_kind "lk", by kp_kind "lk"⟩, ?_⟩
 rintro _ i m' n' hi ⟨rfl, l1, l2⟩
 refine turnName (by kernel_rfl) ?_
 refine nextD_ (kvs := kvs) hh (by kp_kind "mem") (fun k v hk t => ?_) (fun hk => ?_)
 ·have hlk : l[i]? = some (k, match nv v with | .int j _ => j | _ => 0) := by
   have := congrArg (fun x : List (Int × Value) => x[i]?) ek
   simp only [List.getElem?_map, hk, Option.map_some] at this
   cases hl : l[i]? with
   | none => rw [hl] at this; cases this
   | some p =>
    rw [hl] at this
    simp only [Option.map_some, Option.some.injEq, Prod.mk.injEq] at this
    rw [this.1, this.2]; rfl
  obtain ⟨j, tv, rfl⟩ : ∃ j tv, v = .int j tv := by
   have := congrArg (fun x : List (Int × Value) => x[i]?) ek
   simp only [List.getElem?_map, hk, Option.map_some, hlk] at this
   simp only [Option.some.injEq, Prod.mk.injEq, true_and] at this
   obtain ⟨tv, hv⟩ := vi_nv this
   exact ⟨_, tv, hv⟩
  have hlk' : l[i]? = some (k, j) := hlk
  have hiv : i < l.length := (List.getElem?_eq_some_iff.mp hlk').1
  kp_kind "r"
  refine subE_ (a := hd) (kvs := kvs) (x := .int j tv) (by kp_kind "mem") ?_ (by kernel_rfl) ?_
  ·exact valueAt_at (by have := congrArg (List.map (·.1)) ek; simp only [List.map_map] at this; rw [show (kvs.map (·.1)) = l.map (·.1) from this]; exact hnd) hk
  kp_kind "r"
  refine setM_ (l := l.take i) (by kp_kind "put") (by rw [List.length_take]; lia) ?_
  kp_kind "r"
  refine ⟨hiv, ?_, by kp_kind "lk", by kp_kind "lk"⟩
  rw [take_next hnd hlk']
 ·have : l.length ≤ i := by
   have := List.getElem?_eq_none_iff.mp hk
   lia
  rw [List.take_of_length_le this]
  refine V.keep0 (n' := (hd, .imapE c.w kvs ep) :: (b, .inst 483 e (memL hd')) :: (hd', .mem c.w l) :: (pre ++ post)) (by kp_kind "keep") ?_
  refine V.thaw ek ?_
  kp_kind "r"
  exact ⟨_, Keep.cons (.there .here) (Keep.cons (.there .here) Keep.back), h b e hd' hs'⟩
end
noncomputable def nz (l : Mem) : List (Int × Int) := l.filter fun p => p.2 != 0
noncomputable def tupE (b : Addr) (p : Int × Int) : Addr × AObj := (b, .tup [.int p.1 0, .int p.2 0])
noncomputable def PL (bs : List Addr) (kvs : List (Int × Int)) : Led := List.zipWith tupE bs kvs
theorem PL_in {bs : List Addr} {kvs : List (Int × Int)} {n : Led} (h : bs.length = kvs.length) : PairsIn (PL bs kvs ++ n) bs kvs := by
 refine ⟨h, fun i hi => List.mem_append_left _ ?_⟩
 have e : (PL bs kvs)[i]? = some (tupE (bs.getD i 0) (kvs.getD i (0, 0))) := by
  unfold PL
  rw [List.getElem?_zipWith, List.getElem?_eq_getElem (by lia), List.getElem?_eq_getElem hi]
  simp only [List.getD_eq_getElem?_getD]
  rw [List.getElem?_eq_getElem (by lia), List.getElem?_eq_getElem hi]
  rfl
 exact List.mem_of_getElem? e
theorem PL_snoc {bs : List Addr} {kvs : List (Int × Int)} {b : Addr} {p : Int × Int} (h : bs.length = kvs.length) : PL (bs ++ [b]) (kvs ++ [p]) = PL bs kvs ++ [tupE b p] := by
 unfold PL
 rw [List.zipWith_append h]; rfl
theorem PL_foot {bs : List Addr} {kvs : List (Int × Int)} (h : bs.length = kvs.length) : foot (PL bs kvs) = bs := by
 induction bs generalizing kvs with
 | nil => cases kvs with
  | nil => rfl
  | cons _ _ => cases h
 | cons b bs ih => cases kvs with
  | nil => cases h
  | cons p kvs =>
   show foot ((b, AObj.tup [.int p.1 0, .int p.2 0]) :: PL bs kvs) = _
   rw [foot_cons, ih (by simpa using h)]; rfl
section
variable {c : Cx} {u : Cu} {env : Env} {E : EP} {m : Loc} {n : Led} {α : Type}
theorem V.reQ {t : Sem α} {Q : α → Loc → Led → Prop} (h : V c u env t (fun a m n => ∃ n', (foot n').Perm (foot n) ∧ (∀ hp, (∀ p ∈ n, Rep hp p.1 p.2) → ∀ p ∈ n', Rep hp p.1 p.2) ∧ Q a m n') E m n) : V c u env t Q E m n :=
 V.i fun ok A hp tk fit md => wpAny_mono (h.go ok A hp tk fit md) (fun a s ⟨x, m, n, y, n', h1, h2, z⟩ => ⟨x, m, n', y.re h1 (h2 _), z⟩) fun _ _ x => x
end
section
variable {c : Cx} {u : Cu} {env : Env} {E : EP} {m : Loc} {n : Led} {Q : Value → Loc → Led → Prop}
theorem selfDM_ {it d : Addr} {i k ep : Nat} (hm : (it, AObj.kiter d i k ep) ∈ n) : V c u env (pyIter (.ref it)) (fun it' m' n' => it' = .ref it ∧ m' = m ∧ n' = n) E m n :=
 V.val (.ref it) (fun A hp tk ok fit md Q' E' hq => by
  obtain ⟨o, ho', hi⟩ := md.led _ hm
  exact wpAny_pyIter_keyiter ⟨o, ho', hi⟩ (hq _)) ⟨rfl, rfl, rfl⟩
theorem selfLM_ {it l : Addr} {i : Nat} (hm : (it, AObj.liter l i) ∈ n) : V c u env (pyIter (.ref it)) (fun it' m' n' => it' = .ref it ∧ m' = m ∧ n' = n) E m n :=
 V.val (.ref it) (fun A hp tk ok fit md Q' E' hq => by
  obtain ⟨o, ho', hi⟩ := md.led _ hm
  exact wpAny_pyIter_listiter ⟨o, ho', hi⟩ (hq _)) ⟨rfl, rfl, rfl⟩
theorem flagsTold_ {a d : Addr} (hm : (a, AObj.inst 277 d flgL) ∈ n) (hr : 1 ≤ u.r) (h : ∀ b, Q (.ref b) m ((b, .tints (List.replicate 7 0)) :: n)) : V c u env (call (.ref 225) [.ref a]) Q E m n := by
 refine Call_ (fFlags_told _) (Binds.pure (binds := [(n_self, .ref a)]) (fun _ _ _ _ _ => by kernel_rfl)) (by kernel_rfl) (m₀ := [(n_self, .ref a)]) rfl (by lia) ?_
 intro L _ _ _ _
 refine execs_cons ?_
 kp_kind "names"
 kp_kind "r"
 exact h _
theorem written_ {a d hd : Addr} {l : Mem} (ha : (a, AObj.inst 483 d (memL hd)) ∈ n) (hm : (hd, AObj.mem c.w l) ∈ n) (hs : (hd == sysModules) = false) (hz : l.length ≤ 9000) (hh : u.hd = none) (hr : 4 ≤ u.r)
  (h : ∀ S bs, bs.length = (nz l).length → Q (.ref S) m ((S, .list ((srt (nz l)).map fun i => .ref (bs.getD i 0))) :: (PL bs (nz l) ++ n))) : V c u env (call (.ref 452) [.ref a]) Q E m n := by
 refine V.nodup hm fun hnd => ?_
 obtain ⟨pre, post, rfl⟩ := List.append_of_mem hm
 have ha' : (a, AObj.inst 483 d (memL hd)) ∈ pre ++ post := mem_split ha (by intro e; cases e)
 refine V.keepN ?_
 refine V.keep0 Keep.front ?_
 refine V.freeze fun kvs ep ek => ?_
 refine CallC_ (fMemory_written _) (binds := [(n_self, .ref a)]) (fun _ _ _ => by kernel_rfl) (by kp_kind "dq") (by kernel_rfl) (cs := fun L => [(n_self, L + 1)]) (fun L => by kernel_rfl) (m₀ := []) (by kernel_rfl) (b₀ := [(n_self, .ref a)]) (by kernel_rfl) (by lia) ?_
 intro L _ _ _ _
 show V _ _ _ _ _ _ _ ((L + 1, .cellO (some (.ref a))) :: (hd, .imapE c.w kvs ep) :: (pre ++ post))
 refine execs_cons ?_
 kp_kind "names"
 kp_kind "r"
 refine Comp1_ (cl := [(n_self, L + 1)]) (by kernel_rfl) (by kp_kind "dq") (by kernel_rfl) (by kp_kind "dq") ?_
 kp_kind "r"
 refine NameC_ (by kernel_rfl) (by kernel_rfl) (a := L + 1) (by kernel_rfl) (by kp_kind "mem") (by kernel_rfl) (rf ?_)
 kp_kind "r"
 refine iterD_ (d := hd) (by kp_kind "mem") hs fun it => ?_
 intro C D _ _
 have hkl : kvs.length = l.length := by have := congrArg List.length ek; simpa using this
 have nzs : ∀ {i k j}, l[i]? = some (k, j) → nz (l.take (i + 1)) = if j = 0 then nz (l.take i) else nz (l.take i) ++ [(k, j)] := by
  intro i k j hl
  unfold nz
  rw [List.take_add_one, hl]
  simp only [Option.toList_some, List.filter_append]
  by_cases hj : j = 0
  ·simp [hj]
  ·simp [hj]
 refine ⟨l.length, fun i m' n' => ∃ bs, bs.length = (nz (l.take i)).length ∧ Keep ((it, .kiter hd i kvs.length ep) :: (D, .list (bs.map .ref)) :: (PL bs (nz (l.take i)) ++ (L + 1, .cellO (some (.ref a))) :: (hd, .imapE c.w kvs ep) :: (pre ++ post))) n', ⟨[], rfl, ?_⟩, ?_, ?_⟩
 ·exact Keep.cons (.there .here) Keep.refl
 ·rintro _ m' n' ⟨bs, hbs, hK⟩
  exact selfDM_ (hK.mem _ (.head _))
 rintro _ i m' n' hi ⟨bs, hbs, hK⟩
 refine turnName (by kernel_rfl) ?_
 refine V.keepL hK ?_
 intro l₀
 refine nextD_ (kvs := kvs) (by exact hh) (by kp_kind "mem") (fun k v hk t => ?_) (fun hk => ?_)
 ·obtain ⟨j, tv, rfl, hlk⟩ : ∃ j tv, v = .int j tv ∧ l[i]? = some (k, j) := by
   have := congrArg (fun x : List (Int × Value) => x[i]?) ek
   simp only [List.getElem?_map, hk, Option.map_some] at this
   cases hl : l[i]? with
   | none => rw [hl] at this; cases this
   | some p =>
    rw [hl] at this
    simp only [Option.map_some, Option.some.injEq, Prod.mk.injEq] at this
    obtain ⟨tv, hv⟩ := vi_nv this.2
    exact ⟨p.2, tv, hv, by rw [this.1]⟩
  have hiv : i < l.length := (List.getElem?_eq_some_iff.mp hlk).1
  have hva : valueAt kvs k = some (.int j tv) := valueAt_at (by have := congrArg (List.map (·.1)) ek; simp only [List.map_map] at this; rw [show (kvs.map (·.1)) = l.map (·.1) from this]; exact hnd) hk
  have nz1 := nzs hlk
  kp_kind "r"
  refine NameC_ (by kernel_rfl) (by kernel_rfl) (a := L + 1) (by kernel_rfl) (by kp_kind "mem") (by kernel_rfl) (rf ?_)
  kp_kind "r"
  refine subE_ (a := hd) (kvs := kvs) (by kp_kind "mem") hva (by kernel_rfl) ?_
  kp_kind "r"
  by_cases hj : j = 0
  ·subst hj
   rw [if_pos rfl] at nz1
   kp_kind "r"
   refine ⟨hiv, bs, by rw [nz1]; exact hbs, ?_⟩
   rw [nz1]
   exact Keep.refl
  ·rw [if_neg hj] at nz1
   refine ifT (by simpa using hj) ?_
   kp_kind "r"
   refine NameC_ (by kernel_rfl) (by kernel_rfl) (a := L + 1) (by kernel_rfl) (by kp_kind "mem") (by kernel_rfl) (rf ?_)
   kp_kind "r"
   refine subE_ (a := hd) (kvs := kvs) (by kp_kind "mem") hva (by kernel_rfl) ?_
   kp_kind "r"
   rename_i b0
   have hlb : bs.length ≤ l.length := by
    rw [hbs]
    exact Nat.le_trans (List.length_filter_le _ _) (by rw [List.length_take]; lia)
   refine append_ (xs := bs.map .ref) (.there (.there .here)) (by rw [List.length_map]; lia) ?_
   refine ⟨hiv, bs ++ [b0], by rw [nz1, List.length_append, List.length_append, hbs]; rfl, ?_⟩
   rw [nz1, PL_snoc hbs, List.append_assoc, List.map_append]
   exact Keep.cons (.there .here) (Keep.cons (.there .here) Keep.back)
 ·have : l.length ≤ i := by
   have := List.getElem?_eq_none_iff.mp hk
   lia
  rw [List.take_of_length_le this] at hbs hK ⊢
  refine V.keep0 (n' := (hd, .imapE c.w kvs ep) :: (D, .list (bs.map .ref)) :: (PL bs (nz l) ++ (pre ++ post))) ?_ ?_
  ·refine Keep.trans ?_ (Keep.trans (Keep.front (x := (hd, .imapE c.w kvs ep)) (pre := (D, .list (bs.map .ref)) :: (PL bs (nz l) ++ [(L + 1, .cellO (some (.ref a)))])) (post := pre ++ post)) ?_)
   ·refine Keep.consC (Keep.consC ?_)
    show Keep _ ((PL bs (nz l) ++ [(L + 1, .cellO (some (.ref a)))]) ++ (pre ++ post))
    rw [List.append_assoc]
    exact Keep.trans (Keep.skip Keep.refl) Keep.front
   ·refine Keep.consC ?_
    show Keep ((PL bs (nz l) ++ [(L + 1, .cellO (some (.ref a)))]) ++ ((hd, .imapE c.w kvs ep) :: (pre ++ post))) _
    rw [List.append_assoc]
    exact Keep.refl
  refine V.thaw ek ?_
  kp_kind "r"
  refine sortedP_ (bs := bs) (kvs := nz l) (by kp_kind "mem") ⟨hbs, fun i hi => ?_⟩ (Nat.le_trans (List.length_filter_le _ _) (by lia)) (fun S => ?_)
  ·exact .tail _ (.tail _ ((PL_in hbs (n := pre ++ post)).2 i hi))
  kp_kind "r"
  refine ⟨_, .refl _, _, ?_, h S bs hbs⟩
  refine Keep.cons .here (Keep.trans ?_ (Keep.cons .here (Keep.skip Keep.refl)))
  exact Keep.trans (by rw [← List.append_assoc, ← List.append_assoc]; exact Keep.back) (Keep.consC Keep.refl)
end
noncomputable def memDT (l : Mem) : DT := .tup ((srt (nz l)).map fun i => pairD ((nz l).getD i (0, 0)))
theorem atL_map {h : Heap} {as : List Addr} (f : Nat → DT) (g : Nat → Value) : ∀ (l : List Nat), (∀ i ∈ l, (f i).at h (g i) as) → DT.atL h (l.map f) (l.map g) as
 | [], _ => by unfold DT.atL; rfl
 | i :: l, k => by
  unfold DT.atL
  exact ⟨g i, l.map g, rfl, k i (.head _), atL_map f g l fun j hj => k j (.tail _ hj)⟩
theorem memTup_deep {h : Heap} {T : Addr} {bs : List Addr} {kvs : List (Int × Int)} (hl : bs.length = kvs.length) (r : Rep h T (.tup ((srt kvs).map fun i => .ref (bs.getD i 0)))) (rp : ∀ p ∈ PL bs kvs, Rep h p.1 p.2) :
  Rep h T (.deep (.tup ((srt kvs).map fun i => pairD (kvs.getD i (0, 0)))) (T :: bs)) := by
 obtain ⟨vs, k, ho, em⟩ := tup_at r
 refine ⟨?_, fun b hb => ?_⟩
 ·unfold DT.at
  refine ⟨T, vs, k, rfl, .head _, ho, ?_⟩
  have ev : vs.toList = (srt kvs).map fun i => .ref (bs.getD i 0) := by
   have : ∀ (l : List Nat) (xs : List Value), xs.map nv = (l.map fun i => Value.ref (bs.getD i 0)) → xs = l.map fun i => Value.ref (bs.getD i 0) := by
    intro l
    induction l with
    | nil => intro xs h; simpa using h
    | cons i l ih =>
     intro xs h
     cases xs with
     | nil => simp at h
     | cons x xs =>
      simp only [List.map_cons, List.cons.injEq] at h
      rw [nv_ref h.1, ih xs h.2]; rfl
   exact this _ _ em
  rw [ev]
  refine atL_map _ _ _ fun i hi => ?_
  have hi' := srt_low kvs i hi
  have pin := rp _ (by have := (PL_in hl (n := [])).2 i hi'; rwa [List.append_nil] at this)
  obtain ⟨xs, k', hx, ex⟩ := tup_at pin
  obtain ⟨x, y, exy, e1, e2⟩ := two_of ex
  obtain ⟨t, rfl⟩ := nv_int e1
  obtain ⟨t', rfl⟩ := nv_int e2
  unfold pairD DT.at
  refine ⟨_, xs, k', rfl, .tail _ ?_, hx, ?_⟩
  ·rw [List.getD_eq_getElem?_getD, List.getElem?_eq_getElem (by lia)]
   exact List.getElem_mem _
  ·rw [exy]
   unfold DT.atL DT.atL DT.atL DT.at
   exact ⟨_, _, rfl, ⟨t, rfl⟩, _, _, rfl, ⟨t', rfl⟩, rfl⟩
 ·rcases List.mem_cons.mp hb with rfl | hb
  ·exact ⟨_, ho⟩
  ·obtain ⟨p, hp, hb⟩ := List.mem_flatMap.mp (show b ∈ foot (PL bs kvs) by rw [PL_foot hl]; exact hb)
   exact (rp p hp).there b hb
section
variable {c : Cx} {u : Cu} {env : Env} {E : EP} {m : Loc} {n : Led} {Q : Value → Loc → Led → Prop}
theorem memTold_ {a d hd : Addr} {l : Mem} (ha : (a, AObj.inst 483 d (memL hd)) ∈ n) (hm : (hd, AObj.mem c.w l) ∈ n) (hs : (hd == sysModules) = false) (hz : l.length ≤ 9000) (hh : u.hd = none) (hr : 5 ≤ u.r)
  (h : ∀ T as, Q (.ref T) m ((T, .deep (memDT l) as) :: n)) : V c u env (call (.ref 480) [.ref a]) Q E m n := by
 refine V.reQ (V.keepN ?_)
 refine Call_ (fMemory_told _) (Binds.pure (binds := [(n_self, .ref a)]) (fun _ _ _ _ _ => by kernel_rfl)) (by kernel_rfl) (m₀ := [(n_self, .ref a)]) rfl (by lia) ?_
 intro L _ _ _ _
 refine execs_cons ?_
 kp_kind "names"
 kp_kind "r"
 refine written_ ha hm hs hz hh (by kp_kind "room") fun S bs hbs => ?_
 kp_kind "r"
 refine tupleOf_ (by kp_kind "mem") (by rw [List.length_map, srt_len]; exact Nat.le_trans (List.length_filter_le _ _) (by lia)) fun T => ?_
 kp_kind "r"
 refine ⟨_, Keep.consC (Keep.skip Keep.refl), _, ?_, ?_, h T (T :: bs)⟩
 ·rw [foot_cons, foot_cons, foot_append, PL_foot hbs]
  exact .refl _
 ·intro hp hr p hp'
  rcases List.mem_cons.mp hp' with rfl | hp'
  ·exact memTup_deep hbs (hr _ (.head _)) fun p hp => hr p (.tail _ (List.mem_append_left _ hp))
  ·exact hr p (.tail _ (List.mem_append_right _ hp'))
end
noncomputable def M₀ : Mach := ⟨List.replicate 16 0, [], 0, 0, false⟩
noncomputable def toldDT (M : Mach) : DT := .tup [.tup (M.regs.map .int), .tup ((List.replicate 16 (0 : Int)).map .int), .tup ((List.replicate 7 (0 : Int)).map .int), memDT M.mem, .int M.rip, .tup [.int 0, .int 0], .bool M.halted]
noncomputable abbrev sLoc (r x f mm g : Addr) (rip beg : Int) (hl : Bool) : Loc := [(n_iset, .none), (n_regs, .ref r), (n_xmm, .ref x), (n_flags, .ref f), (n_memory, .ref mm), (n_rip, .int rip 0), (n_begin, .int beg 0), (n_segments, .ref g), (n_is_halted, .bool hl)]
theorem stL_eq (w : World) (A : SA) (M : Mach) (n : Led) : stL w A M ++ n = (A.s, .inst 600 A.d (sLoc A.r A.x A.f A.mm A.g M.rip M.beg M.halted)) :: (A.r, .ints M.regs) :: (A.mm, .inst 483 A.md [(n_held, .ref A.h)]) :: (A.h, .mem w M.mem) :: (A.x, .ints (List.replicate 16 0)) ::
 (A.f, .inst 277 A.fd [(n_cf, .int 0 0), (n_pf, .int 0 0), (n_af, .int 0 0), (n_zf, .int 0 0), (n_sf, .int 0 0), (n_of, .int 0 0), (n_df, .int 0 0)]) ::
 (A.g, .smap w [(n_fs, .int 0 0), (n_gs, .int 0 0)]) :: n := rfl
section
variable {c : Cx} {u : Cu} {env : Env} {E : EP} {m : Loc} {n : Led} {Q : Value → Loc → Led → Prop}
theorem setS {a d : Addr} {as : Loc} {name : Str} {v : Value} {n' : Led} {Q : Unit → Loc → Led → Prop} (as' : Loc) (hp : Put a (.inst 600 d as) (.inst 600 d as') n n') (e : setL name (nv v) as = as') (hz : Nat.ble as.length 1000 = true) (st : SetIn c.K 600 name)
  (h : Q () m n') : V c u env (setAttr (.ref a) name v) Q E m n := setA2 hp e (Nat.le_of_ble_eq_true hz) st h
theorem mkState_ (hr : 4 ≤ u.r) (h : ∀ A : SA, (A.h == sysModules) = false → Q (.ref A.s) m (stL c.w A M₀ ++ n)) : V c u env (call (.ref 600) [.none]) Q E m n := by
 refine V.keepN ?_
 refine Make_ (by kernel_rfl) (by kernel_rfl) (by kernel_rfl) (fState_init _) (fun x => Binds.pure (binds := [(n_self, x), (n_iset, .none)]) (fun _ _ _ _ _ => by kernel_rfl)) (fun x => by kernel_rfl) (m₀ := fun x => [(n_iset, .none), (n_self, x)]) (fun x => rfl) (by omega) ?_
 intro a d L _ _ _ _
 refine execs_cons ?_
 kp_kind "names"
 repeat (first | kp_kind "1" | kp_kind "set")
 refine mulL_ (xs := [vi 0]) (by kp_kind "mem") (by decide) (by decide) (by decide) fun rg => ?_
 repeat (first | kp_kind "1" | kp_kind "set")
 refine mulL_ (xs := [vi 0]) (by kp_kind "mem") (by decide) (by decide) (by decide) fun xm => ?_
 repeat (first | kp_kind "1" | kp_kind "set")
 refine mkFlags_ (by kp_kind "room") fun f fd => ?_
 repeat (first | kp_kind "1" | kp_kind "set")
 refine mkMem_ (by kp_kind "room") fun mm md hd hs => ?_
 repeat (first | kp_kind "1" | kp_kind "set")
 refine DictS_ (by kernel_rfl) (by kernel_rfl) (by simp) (by decide) fun sg => ?_
 refine pair_ ?_
 repeat (first | kp_kind "1" | refine pair_ ?_ | refine pair0_ ?_)
 refine ⟨by kernel_rfl, by show List.Nodup [n_fs, n_gs]; kp_kind "dq", _, .here, ?_⟩
 repeat (first | kp_kind "1" | kp_kind "set")
 refine ⟨rfl, _, ?_, h ⟨a, d, rg, xm, f, fd, mm, md, hd, sg⟩ hs⟩
 kp_kind "keep"
theorem stCopy_ {A : SA} {M : Mach} {n : Led} (ok : MOk c.w A M) (hh : u.hd = none) (hr : 6 ≤ u.r) (h : ∀ B : SA, (B.h == sysModules) = false → Q (.ref B.s) m (stL c.w B M ++ (stL c.w A M ++ n))) : V c u env (call (.ref 597) [.ref A.s]) Q E m (stL c.w A M ++ n) := by
 refine V.keepN ?_
 refine Call_ (fState_copy _) (Binds.pure (binds := [(n_self, .ref A.s)]) (fun _ _ _ _ _ => by kernel_rfl)) (by kernel_rfl) (m₀ := [(n_self, .ref A.s)]) rfl (by omega) ?_
 intro L _ _ _ _
 refine execs_cons ?_
 kp_kind "names"
 kp_kind "r"
 refine mkState_ (by kp_kind "room") fun B hB => ?_
 kp_kind "r"
 rw [stL_eq c.w B M₀]
 refine listCopy_ (xs := M.regs.map vi) (by kp_kind "mem") (by rw [List.length_map, ok.len]; decide) fun rg => ?_
 kp_kind "r"
 refine setS (sLoc rg B.x B.f B.mm B.g 0 0 false) (by kp_kind "put") (by kernel_rfl) (by kernel_rfl) (by kp_kind "wt") ?_
 kp_kind "r"
 refine listCopy_ (xs := (List.replicate 16 (0 : Int)).map vi) (by kp_kind "mem") (by decide) fun xm => ?_
 kp_kind "r"
 refine setS (sLoc rg xm B.f B.mm B.g 0 0 false) (by kp_kind "put") (by kernel_rfl) (by kernel_rfl) (by kp_kind "wt") ?_
 kp_kind "r"
 refine flagsCopy_ (d := A.fd) (by kp_kind "mem") (by kp_kind "room") fun f fd => ?_
 kp_kind "r"
 refine setS (sLoc rg xm f B.mm B.g 0 0 false) (by kp_kind "put") (by kernel_rfl) (by kernel_rfl) (by kp_kind "wt") ?_
 kp_kind "r"
 refine memCopy_ (d := A.md) (l := M.mem) (by kp_kind "mem") (by kp_kind "mem") ok.apart ok.size hh (by kp_kind "room") fun mm md hd hs => ?_
 kp_kind "r"
 refine setS (sLoc rg xm f mm B.g 0 0 false) (by kp_kind "put") (by kernel_rfl) (by kernel_rfl) (by kp_kind "wt") ?_
 kp_kind "r"
 refine setS (sLoc rg xm f mm B.g M.rip 0 false) (by kp_kind "put") (by kernel_rfl) (by kernel_rfl) (by kp_kind "wt") ?_
 kp_kind "r"
 refine setS (sLoc rg xm f mm B.g M.rip M.beg false) (by kp_kind "put") (by kernel_rfl) (by kernel_rfl) (by kp_kind "wt") ?_
 kp_kind "r"
 refine DictS_ (by kernel_rfl) (by kernel_rfl) (by simp) (by decide) fun sg => ?_
 refine pair_ ?_
 kp_kind "r"
 refine subS_ (es := [(n_fs, .int 0 0), (n_gs, .int 0 0)]) (x := .int 0 0) (by kp_kind "mem") (by kernel_rfl) (by kernel_rfl) (it_ fun t1 => ?_)
 refine pair_ ?_
 kp_kind "r"
 refine subS_ (es := [(n_fs, .int 0 0), (n_gs, .int 0 0)]) (x := .int 0 0) (by kp_kind "mem") (by kernel_rfl) (by kernel_rfl) (it_ fun t2 => ?_)
 refine pair0_ ?_
 refine ⟨by kernel_rfl, by show List.Nodup [n_fs, n_gs]; kp_kind "dq", _, .here, ?_⟩
 kp_kind "r"
 refine setS (sLoc rg xm f mm sg M.rip M.beg false) (by kp_kind "put") (by kernel_rfl) (by kernel_rfl) (by kp_kind "wt") ?_
 kp_kind "r"
 refine setS (sLoc rg xm f mm sg M.rip M.beg M.halted) (by kp_kind "put") (by kernel_rfl) (by kernel_rfl) (by kp_kind "wt") ?_
 kp_kind "r"
 refine ⟨_, ?_, h ⟨B.s, B.d, rg, xm, f, fd, mm, md, hd, sg⟩ hs⟩
 kp_kind "keep"
end
theorem ints_nv {vs : List Value} {ns : List Int} (e : vs.map nv = ns.map vi) {h : Heap} {as : List Addr} : DT.atL h (ns.map .int) vs as := by
 induction ns generalizing vs with
 | nil => unfold DT.atL; simpa using e
 | cons i ns ih =>
  cases vs with
  | nil => simp at e
  | cons v vs =>
   simp only [List.map_cons, List.cons.injEq] at e
   obtain ⟨t, rfl⟩ := vi_nv e.1
   unfold DT.atL
   exact ⟨_, _, rfl, by unfold DT.at; exact ⟨t, rfl⟩, ih e.2⟩
theorem tints_deep {h : Heap} {T : Addr} {ns : List Int} {as : List Addr} (r : Rep h T (.tints ns)) (hT : T ∈ as) : (DT.tup (ns.map .int)).at h (.ref T) as := by
 obtain ⟨vs, k, ho, em⟩ := tup_at r
 unfold DT.at
 exact ⟨T, vs, k, rfl, hT, ho, ints_nv em⟩
theorem told_deep {h : Heap} {M : Mach} {T a1 a2 a3 a4 a5 : Addr} {as : List Addr} (r : Rep h T (.tup [.ref a1, .ref a2, .ref a3, .ref a4, .int M.rip 0, .ref a5, .bool M.halted])) (r1 : Rep h a1 (.tints M.regs)) (r2 : Rep h a2 (.tints (List.replicate 16 0))) (r3 : Rep h a3 (.tints (List.replicate 7 0)))
  (r4 : Rep h a4 (.deep (memDT M.mem) as)) (r5 : Rep h a5 (.tints [0, 0])) : Rep h T (.deep (toldDT M) (T :: (as ++ [a3, a2, a1, a5]))) := by
 obtain ⟨vs, k, ho, em⟩ := tup_at r
 have s1 := r1.there (p := (a1, .tints M.regs)) a1 (.head _)
 have s2 := r2.there (p := (a2, .tints (List.replicate 16 0))) a2 (.head _)
 have s3 := r3.there (p := (a3, .tints (List.replicate 7 0))) a3 (.head _)
 have s5 := r5.there (p := (a5, .tints [0, 0])) a5 (.head _)
 refine ⟨?_, fun b hb => ?_⟩
 ·unfold toldDT DT.at
  refine ⟨T, vs, k, rfl, .head _, ho, ?_⟩
  rcases hv : vs.toList with _ | ⟨v1, _ | ⟨v2, _ | ⟨v3, _ | ⟨v4, _ | ⟨v5, _ | ⟨v6, _ | ⟨v7, _ | ⟨v8, vr⟩⟩⟩⟩⟩⟩⟩⟩ <;> rw [hv] at em <;> simp only [List.map_cons, List.map_nil, List.cons.injEq, reduceCtorEq, and_false, and_true] at em
  obtain ⟨e1, e2, e3, e4, e5, e6, e7⟩ := em
  rw [nv_ref e1, nv_ref e2, nv_ref e3, nv_ref e4, nv_ref e6, nv_bool e7]
  obtain ⟨t, rfl⟩ := nv_int e5
  unfold DT.atL DT.atL DT.atL DT.atL DT.atL DT.atL DT.atL DT.atL
  refine ⟨_, _, rfl, tints_deep r1 (by simp), _, _, rfl, tints_deep r2 (by simp), _, _, rfl, tints_deep r3 (by simp), _, _, rfl, DT.at_of _ _ _ _ (fun b hb => ⟨by simp [hb], rfl⟩) r4.1, _, _, rfl, ?_, _, _, rfl, ?_, _, _, rfl, ?_, rfl⟩
  ·unfold DT.at; exact ⟨t, rfl⟩
  ·exact tints_deep (ns := [0, 0]) r5 (by simp)
  ·unfold DT.at; rfl
 ·simp only [List.mem_cons, List.mem_append, List.not_mem_nil, or_false] at hb
  rcases hb with rfl | hb | rfl | rfl | rfl | rfl
  ·exact ⟨_, ho⟩
  ·exact r4.2 b hb
  ·exact s3
  ·exact s2
  ·exact s1
  ·exact s5
section
variable {c : Cx} {u : Cu} {env : Env} {E : EP} {m : Loc} {n : Led} {Q : Value → Loc → Led → Prop}
theorem stTold_ {A : SA} {M : Mach} {n : Led} (ok : MOk c.w A M) (hh : u.hd = none) (hr : 6 ≤ u.r) (h : ∀ T as, Q (.ref T) m ((T, .deep (toldDT M) as) :: (stL c.w A M ++ n))) : V c u env (call (.ref 590) [.ref A.s]) Q E m (stL c.w A M ++ n) := by
 refine V.reQ (V.keepN ?_)
 refine Call_ (fState_told _) (Binds.pure (binds := [(n_self, .ref A.s)]) (fun _ _ _ _ _ => by kernel_rfl)) (by kernel_rfl) (m₀ := [(n_self, .ref A.s)]) rfl (by omega) ?_
 intro L _ _ _ _
 refine execs_cons ?_
 kp_kind "names"
 kp_kind "r"
 refine subS_ (es := [(n_fs, .int 0 0), (n_gs, .int 0 0)]) (x := .int 0 0) (by kp_kind "mem") (by kernel_rfl) (by kernel_rfl) (it_ fun t1 => ?_)
 kp_kind "r"
 refine subS_ (es := [(n_fs, .int 0 0), (n_gs, .int 0 0)]) (x := .int 0 0) (by kp_kind "mem") (by kernel_rfl) (by kernel_rfl) (it_ fun t2 => ?_)
 kp_kind "r"
 refine tupleOf_ (xs := M.regs.map vi) (by kp_kind "mem") (by rw [List.length_map, ok.len]; decide) fun a1 => ?_
 kp_kind "r"
 refine tupleOf_ (xs := (List.replicate 16 (0 : Int)).map vi) (by kp_kind "mem") (by decide) fun a2 => ?_
 kp_kind "r"
 refine flagsTold_ (d := A.fd) (by kp_kind "mem") (by kp_kind "room") fun a3 => ?_
 kp_kind "r"
 refine memTold_ (d := A.md) (l := M.mem) (by kp_kind "mem") (by kp_kind "mem") ok.apart ok.size hh (by kp_kind "room") fun a4 as => ?_
 kp_kind "r"
 rename_i a5 tk T
 refine ⟨_, .refl, (T, .deep (toldDT M) (T :: (as ++ [a3, a2, a1, a5]))) :: (stL c.w A M ++ n), ?_, fun hp hr p hp' => ?_, h T _⟩
 ·generalize stL c.w A M ++ n = R
  have e : foot ((T, .deep (toldDT M) (T :: (as ++ [a3, a2, a1, a5]))) :: R) = T :: (as ++ ([a3, a2, a1, a5] ++ foot R)) := by
   rw [foot_cons, ← List.append_assoc]; rfl
  rw [e]
  simp only [foot_cons]
  exact .refl _
 ·rcases List.mem_cons.mp hp' with rfl | hp'
  ·exact told_deep (hr _ (.head _)) (hr _ (.tail _ (.tail _ (.tail _ (.tail _ (.head _)))))) (hr _ (.tail _ (.tail _ (.tail _ (.head _))))) (hr _ (.tail _ (.tail _ (.head _)))) (hr _ (.tail _ (.head _))) (hr _ (.tail _ (.tail _ (.tail _ (.tail _ (.tail _ (.head _)))))))
  ·exact hr p (.tail _ (.tail _ (.tail _ (.tail _ (.tail _ (.tail _ hp'))))))
end
structure PA where
 p : Addr
 d : Addr
 l : Addr
 k : Addr
noncomputable abbrev ptA (mm : Addr) (P : PA) : Loc := [(n_memory, .ref mm), (n_places, .ref P.l), (n_kept, .ref P.k)]
noncomputable def ptL (w : World) (P : PA) (mm : Addr) (pls : List Int) (kept : Mem) : Led := [(P.p, .inst 158 P.d (ptA mm P)), (P.l, .ints pls), (P.k, .mem w kept)]
section
variable {w : World} {P : PA} {mm : Addr} {pls pls' : List Int} {kept kept' : Mem} {n : Led}
theorem pt0 : (P.p, AObj.inst 158 P.d (ptA mm P)) ∈ ptL w P mm pls kept ++ n := .head _
theorem pt1 : (P.l, AObj.ints pls) ∈ ptL w P mm pls kept ++ n := .tail _ (.head _)
theorem pt2 : (P.k, AObj.mem w kept) ∈ ptL w P mm pls kept ++ n := .tail _ (.tail _ (.head _))
theorem ptp_l : Put P.l (.ints pls) (.ints pls') (ptL w P mm pls kept ++ n) (ptL w P mm pls' kept ++ n) := .there .here
theorem ptp_k : Put P.k (.mem w kept) (.mem w kept') (ptL w P mm pls kept ++ n) (ptL w P mm pls kept' ++ n) := .there (.there .here)
end
theorem ptL_eq (w : World) (P : PA) (mm : Addr) (pls : List Int) (kept : Mem) (n : Led) : ptL w P mm pls kept ++ n = (P.p, .inst 158 P.d (ptA mm P)) :: (P.l, .ints pls) :: (P.k, .mem w kept) :: n := rfl
noncomputable def plantF : List Int → Mem → Mem → Mem × Mem
 | [], m, k => (m, k)
 | p :: r, m, k => plantF r (mset m (p % W64) 204) (mset k p (oct m p))
noncomputable def liftF (kept : Mem) : List Int → Mem → Mem
 | [], m => m
 | p :: r, m => liftF kept r (if oct m p = 204 then mset m (p % W64) ((mget kept p).getD 0) else m)
noncomputable def putF (pls : List Int) (p : Int) : List Int := if pls.any (· == p) then pls else pls ++ [p]
noncomputable def shownF (m kept : Mem) (p : Int) (k : Nat) : List Int := (List.range k).map fun (i : Nat) => if oct m (p + i) = 204 then (mget kept (p + i)).getD (oct m (p + i)) else oct m (p + i)
noncomputable def Mach.withMem (M : Mach) (l : Mem) : Mach := { M with mem := l }
inductive Pt1 (P : PA) (kept : Mem) (it : Addr) (c : Cx) (pls : List Int) (A : SA) (M : Mach) (n : Led) (i : Nat) (m' : Loc) (n' : Led) : Prop
 | mk (mem : Mem) (kp : Mem) (h1 : plantF pls M.mem kept = plantF (pls.drop i) mem kp) (h2 : mem.length ≤ M.mem.length + i) (h3 : kp.length ≤ kept.length + i) (h4 : n' = (it, .liter P.l i) :: (ptL c.w P A.mm pls kp ++ (stL c.w A (M.withMem mem) ++ n))) (h5 : m'.lookup n_self = some (.ref P.p))
inductive Pt2 (P : PA) (kept : Mem) (it : Addr) (ns : List Int) (sl : Addr) (kl : Addr) (c : Cx) (pls : List Int) (A : SA) (M : Mach) (n : Led) (i : Nat) (m' : Loc) (n' : Led) : Prop
 | mk (mem : Mem) (h1 : liftF kept ns M.mem = liftF kept (ns.drop i) mem) (h2 : mem.length ≤ M.mem.length + i) (h3 : n' = (it, .liter sl i) :: (sl, .ints ns) :: (kl, .ints (kept.map (·.1))) :: (ptL c.w P A.mm pls kept ++ (stL c.w A (M.withMem mem) ++ n))) (h4 : m'.lookup n_self = some (.ref P.p))
section
variable {c : Cx} {u : Cu} {env : Env} {E : EP} {m : Loc} {n : Led} {Q : Value → Loc → Led → Prop} {A : SA} {M : Mach} {P : PA} {pls : List Int} {kept : Mem}
theorem mkPoints_ {mm : Addr} (hr : 2 ≤ u.r) (h : ∀ P : PA, (P.k == sysModules) = false → Q (.ref P.p) m (ptL c.w P mm [] [] ++ n)) : V c u env (call (.ref 158) [.ref mm]) Q E m n := by
 refine V.keepN ?_
 refine Make_ (by kernel_rfl) (by kernel_rfl) (by kernel_rfl) (fSoftPoints_init _) (fun x => Binds.pure (binds := [(n_self, x), (n_memory, .ref mm)]) (fun _ _ _ _ _ => by kernel_rfl)) (fun x => by kernel_rfl) (m₀ := fun x => [(n_memory, .ref mm), (n_self, x)]) (fun x => rfl) (by lia) ?_
 intro a d L _ _ _ _
 refine execs_cons ?_
 kp_kind "names"
 repeat (first | kp_kind "1" | kp_kind "set")
 rename_i l
 refine DictNil_ (fun hd hs => ?_)
 repeat (first | kp_kind "1" | kp_kind "set")
 exact ⟨rfl, _, by kp_kind "keep", h ⟨a, d, l, hd⟩ hs⟩
theorem ptPut_ {mm : Addr} {p : Int} {t : Tok} (hz : pls.length ≤ 1000) (hr : 1 ≤ u.r) (h : Q .none m (ptL c.w P mm (putF pls p) kept ++ n)) : V c u env (call (.ref 129) [.ref P.p, .int p t]) Q E m (ptL c.w P mm pls kept ++ n) := by
 refine Call_ (fSoftPoints_put _) (Binds.pure (binds := [(n_self, .ref P.p), (n_place, .int p t)]) (fun _ _ _ _ _ => by kernel_rfl)) (by kernel_rfl) (m₀ := [(n_place, .int p t), (n_self, .ref P.p)]) rfl (by lia) ?_
 intro L _ _ _ _
 refine execs_cons ?_
 kp_kind "names"
 kp_kind "r"
 refine notInL_ (ns := pls) (by kp_kind "mem") ?_
 kp_kind "r"
 unfold putF at h
 cases hp : pls.any (· == p) with
 | true =>
  rw [hp, if_pos rfl] at h
  refine ifF rfl ?_
  kp_kind "r"
  exact h
 | false =>
  rw [hp, if_neg (by decide)] at h
  refine ifT rfl ?_
  kp_kind "r"
  refine appendI_ (ns := pls) ptp_l (by lia) ?_
  kp_kind "r"
  exact h
theorem ptDrop_ {mm : Addr} {p : Int} {t : Tok} (hz : pls.length ≤ 1000) (hh : u.hd = none) (hr : 3 ≤ u.r) (h : ∀ l, Q .none m (ptL c.w { P with l := l } mm (pls.filter fun x => x != p) kept ++ n)) : V c u env (call (.ref 134) [.ref P.p, .int p t]) Q E m (ptL c.w P mm pls kept ++ n) := by
 refine V.keepN ?_
 refine CallC_ (fSoftPoints_drop _) (binds := [(n_self, .ref P.p), (n_place, .int p t)]) (fun _ _ _ => by kernel_rfl) (by kp_kind "dq") (by kernel_rfl) (cs := fun L => [(n_place, L + 1)]) (fun L => by kernel_rfl) (m₀ := [(n_self, .ref P.p)]) (by kernel_rfl) (b₀ := [(n_place, .int p t)]) (by kernel_rfl) (by lia) ?_
 intro L _ _ _ _
 show V _ _ _ _ _ _ _ ((L + 1, .cellO (some (.int p 0))) :: (ptL c.w P mm pls kept ++ n))
 refine execs_cons ?_
 kp_kind "names"
 kp_kind "r"
 refine Comp1_ (cl := [(n_place, L + 1)]) (by kernel_rfl) (by kp_kind "dq") (by kernel_rfl) (by kp_kind "dq") ?_
 kp_kind "r"
 refine iterL_ (xs := pls.map vi) (by kp_kind "mem") fun it => ?_
 intro C D _ _
 refine ⟨pls.length, fun i m' n' => Keep ((it, .liter P.l i) :: (D, .ints ((pls.take i).filter fun x => x != p)) :: (L + 1, .cellO (some (.int p 0))) :: (ptL c.w P mm pls kept ++ n)) n', Keep.cons (.there .here) Keep.refl, ?_, ?_⟩
 ·rintro _ m' n' hK
  exact selfLM_ (hK.mem _ (.head _))
 rintro _ i m' n' hi hK
 refine turnName (by kernel_rfl) ?_
 refine V.keepL hK ?_
 intro l₀
 refine nextLI_ pls (by exact hh) (by kp_kind "mem") (fun j tj hj hil => ?_) (fun hge => ?_)
 ·skip
  kp_kind "r"
  refine NameC_ (by kernel_rfl) (by kernel_rfl) (a := L + 1) (by kernel_rfl) (by kp_kind "mem") (by kernel_rfl) (it_ fun tv => ?_)
  kp_kind "r"
  by_cases hjp : j = p
  ·refine ifF (by simpa using hjp) ?_
   refine ⟨hil, ?_⟩
   show Keep _ _
   rw [ftk0 hj hjp]
   exact Keep.refl
  ·refine ifT (by simpa using hjp) ?_
   kp_kind "r"
   refine appendI_ (ns := (pls.take i).filter fun x => x != p) (by kp_kind "put") (Nat.le_trans (List.length_filter_le _ _) (by rw [List.length_take]; lia)) ?_
   refine ⟨hil, ?_⟩
   show Keep _ _
   rw [ftk1 hj hjp]
   exact Keep.refl
 ·have this := hge
  rw [List.take_of_length_le this]
  kp_kind "r"
  rw [ptL_eq]
  refine setA2 (C := 158) (as' := [(n_memory, .ref mm), (n_places, .ref D), (n_kept, .ref P.k)]) (by kp_kind "put") (by kernel_rfl) (Nat.le_of_ble_eq_true (by kernel_rfl)) (by kp_kind "wt") ?_
  kp_kind "r"
  exact ⟨_, .refl _, _, by kp_kind "keep", h D⟩
theorem ptPlant_ {mm : Addr} (hmm : mm = A.mm) (hsk : (P.k == sysModules) = false) (ok : (A.h == sysModules) = false) (hz : M.mem.length + pls.length ≤ 9000) (hk : kept.length + pls.length ≤ 9000) (hh : u.hd = none) (hr : 4 ≤ u.r)
  (h : Q .none m (ptL c.w P mm pls (plantF pls M.mem kept).2 ++ (stL c.w A (M.withMem (plantF pls M.mem kept).1) ++ n))) : V c u env (call (.ref 141) [.ref P.p]) Q E m (ptL c.w P mm pls kept ++ (stL c.w A M ++ n)) := by
 subst hmm
 refine V.keepN ?_
 refine Call_ (fSoftPoints_plant _) (Binds.pure (binds := [(n_self, .ref P.p)]) (fun _ _ _ _ _ => by kernel_rfl)) (by kernel_rfl) (m₀ := [(n_self, .ref P.p)]) rfl (by lia) ?_
 intro L _ _ _ _
 refine execs_cons ?_
 kp_kind "names"
 kp_kind "r"
 refine For_ ?_
 kp_kind "r"
 refine iterL_ (xs := pls.map vi) (by kp_kind "mem") fun it => ?_
 have step : ∀ i mem kp, (plantF pls M.mem kept) = plantF (pls.drop i) mem kp → ∀ j, pls[i]? = some j → (plantF pls M.mem kept) = plantF (pls.drop (i + 1)) (mset mem (j % W64) 204) (mset kp j (oct mem j)) := by
  intro i mem kp e j hj
  rw [e, List.drop_eq_getElem_cons (List.getElem?_eq_some_iff.mp hj).1]
  rw [List.getElem?_eq_getElem (List.getElem?_eq_some_iff.mp hj).1] at hj
  rw [Option.some.inj hj]; rfl
 refine ⟨pls.length, fun i m' n' => Pt1 P kept it c pls A M n i m' n', ⟨M.mem, kept, rfl, by lia, by lia, rfl, by kp_kind "lk"⟩, ?_⟩
 rintro _ i m' n' hi ⟨mem, kp, e, z1, z2, rfl, l1⟩
 refine turnName (by kernel_rfl) ?_
 refine nextLI_ pls (by exact hh) (by kp_kind "mem") (fun j tj hj hil => ?_) (fun hge => ?_)
 ·skip
  kp_kind "r"
  refine octet_ (d := A.md) (hd := A.h) (l := mem) (by kp_kind "mem") (by exact .tail _ (List.mem_append_right _ (st3 (M := M.withMem mem)))) ok (by kp_kind "room") fun t1 => ?_
  kp_kind "r"
  refine setM_ (l := kp) (by kp_kind "put") (by lia) ?_
  kp_kind "r"
  refine set_octet_ (d := A.md) (hd := A.h) (l := mem) (n' := (it, .liter P.l (i + 1)) :: (ptL c.w P A.mm pls (mset kp j (oct mem j)) ++ (stL c.w A (M.withMem (mset mem (j % W64) 204)) ++ n))) (by kp_kind "mem") (.there (Put.app (stp_mem (M := M.withMem mem)) _)) (by lia) (by kp_kind "room") ?_
  kp_kind "r"
  exact ⟨hil, _, _, step i mem kp e j hj, Nat.le_trans mset_len (by lia), Nat.le_trans mset_len (by lia), rfl, by kp_kind "lk"⟩
 ·have this := hge
  rw [List.drop_eq_nil_of_le this] at e
  have e1 : mem = (plantF pls M.mem kept).1 := by rw [e]; rfl
  have e2 : kp = (plantF pls M.mem kept).2 := by rw [e]; rfl
  rw [← e1, ← e2] at h
  kp_kind "r"
  exact ⟨_, Keep.refl, h⟩
theorem ptLift_ {mm : Addr} (hmm : mm = A.mm) (hsk : (P.k == sysModules) = false) (ok : (A.h == sysModules) = false) (hz : M.mem.length + kept.length ≤ 9000) (hk : kept.length < 64) (hh : u.hd = none) (hr : 4 ≤ u.r)
  (h : ∀ ns k, ns.Perm (kept.map (·.1)) → (k == sysModules) = false → Q .none m (ptL c.w { P with k := k } mm pls [] ++ (stL c.w A (M.withMem (liftF kept ns M.mem)) ++ n))) : V c u env (call (.ref 148) [.ref P.p]) Q E m (ptL c.w P mm pls kept ++ (stL c.w A M ++ n)) := by
 subst hmm
 refine V.keepN ?_
 refine Call_ (fSoftPoints_lift _) (Binds.pure (binds := [(n_self, .ref P.p)]) (fun _ _ _ _ _ => by kernel_rfl)) (by kernel_rfl) (m₀ := [(n_self, .ref P.p)]) rfl (by lia) ?_
 intro L _ _ _ _
 refine execs_cons ?_
 kp_kind "names"
 kp_kind "r"
 refine For_ ?_
 kp_kind "r"
 refine listKeys_ (l := kept) (by exact hh) hsk (by kp_kind "mem") (by lia) fun kl => ?_
 kp_kind "r"
 refine sorted_ (ns := kept.map (·.1)) (by kp_kind "mem") (by rw [List.length_map]; exact hk) fun sl ns hns => ?_
 kp_kind "r"
 refine iterL_ (xs := ns.map vi) (by kp_kind "mem") fun it => ?_
 have hln : ns.length = kept.length := by rw [hns.length_eq, List.length_map]
 have step : ∀ i mem, liftF kept ns M.mem = liftF kept (ns.drop i) mem → ∀ j, ns[i]? = some j → liftF kept ns M.mem = liftF kept (ns.drop (i + 1)) (if oct mem j = 204 then mset mem (j % W64) ((mget kept j).getD 0) else mem) := by
  intro i mem e j hj
  rw [e, List.drop_eq_getElem_cons (List.getElem?_eq_some_iff.mp hj).1]
  rw [List.getElem?_eq_getElem (List.getElem?_eq_some_iff.mp hj).1] at hj
  rw [Option.some.inj hj]; rfl
 refine ⟨ns.length, fun i m' n' => Pt2 P kept it ns sl kl c pls A M n i m' n', ⟨M.mem, rfl, by lia, rfl, by kp_kind "lk"⟩, ?_⟩
 rintro _ i m' n' hi ⟨mem, e, z1, rfl, l1⟩
 refine turnName (by kernel_rfl) ?_
 refine nextLI_ ns (by exact hh) (by kp_kind "mem") (fun j tj hj hil => ?_) (fun hge => ?_)
 ·skip
  have hjk : ∃ x, mget kept j = some x := by
   have : j ∈ kept.map (·.1) := hns.mem_iff.mp (List.mem_of_getElem? hj)
   obtain ⟨p, hp, rfl⟩ := List.mem_map.mp this
   unfold mget
   cases q : kept.find? (fun q => decide (q.1 = p.1)) with
   | none => exact absurd (List.find?_eq_none.mp q p hp) (by simp)
   | some x => exact ⟨_, rfl⟩
  obtain ⟨x, hjk⟩ := hjk
  have st' := step i mem e j hj
  kp_kind "r"
  refine octet_ (d := A.md) (hd := A.h) (l := mem) (by kp_kind "mem") (by exact .tail _ (.tail _ (.tail _ (List.mem_append_right _ (st3 (M := M.withMem mem)))))) ok (by kp_kind "room") fun t1 => ?_
  kp_kind "r"
  by_cases h204 : oct mem j = 204
  ·rw [if_pos h204, hjk] at st'
   refine ifT (by simpa using h204) ?_
   kp_kind "r"
   refine subM_ (l := kept) (by kp_kind "mem") hjk (by kernel_rfl) fun t2 => ?_
   kp_kind "r"
   refine set_octet_ (d := A.md) (hd := A.h) (l := mem) (n' := (it, .liter sl (i + 1)) :: (sl, .ints ns) :: (kl, .ints (kept.map (·.1))) :: (ptL c.w P A.mm pls kept ++ (stL c.w A (M.withMem (mset mem (j % W64) x)) ++ n))) (by kp_kind "mem") (.there (.there (.there (Put.app (stp_mem (M := M.withMem mem)) _)))) (by lia) (by kp_kind "room") ?_
   kp_kind "r"
   exact ⟨hil, _, st', Nat.le_trans mset_len (by lia), rfl, by kp_kind "lk"⟩
  ·rw [if_neg h204] at st'
   refine ifF (by simpa using h204) ?_
   kp_kind "r"
   exact ⟨hil, _, st', by lia, rfl, by kp_kind "lk"⟩
 ·have this := hge
  rw [List.drop_eq_nil_of_le this] at e
  have e1 : mem = liftF kept ns M.mem := e.symm
  kp_kind "r"
  refine DictNil_ (fun k hk => ?_)
  kp_kind "r"
  rw [ptL_eq]
  refine setA2 (C := 158) (as' := [(n_memory, .ref A.mm), (n_places, .ref P.l), (n_kept, .ref k)]) (by kp_kind "put") (by kernel_rfl) (Nat.le_of_ble_eq_true (by kernel_rfl)) (by kp_kind "wt") ?_
  kp_kind "r"
  have hq := h ns k hns hk
  rw [← e1] at hq
  refine ⟨_, ?_, hq⟩
  rw [ptL_eq]
  refine Keep.cons (by kp_kind "pick") (Keep.cons (by kp_kind "pick") (Keep.cons (by kp_kind "pick") ?_))
  exact Keep.skip (Keep.skip (Keep.skip Keep.refl))
end
theorem Keep.swap {a b n : Led} : Keep (a ++ (b ++ n)) (b ++ (a ++ n)) := ⟨[], by rw [List.append_nil, ← List.append_assoc, ← List.append_assoc]; exact List.Perm.append_right n List.perm_append_comm⟩
structure MB (b : Nat) (M : Mach) : Prop where
 len : M.regs.length = 16
 mem : MemOk M.mem
 size : M.mem.length ≤ b
theorem MB.ok {b : Nat} {M : Mach} {w : World} {A : SA} (h : MB b M) (hb : b ≤ 9000) (hA : (A.h == sysModules) = false) : MOk w A M := ⟨h.len, h.mem, Nat.le_trans h.size hb, hA⟩
theorem MB.mono {b b' : Nat} {M : Mach} (h : MB b M) (hb : b ≤ b') : MB b' M := ⟨h.len, h.mem, Nat.le_trans h.size hb⟩
theorem MB.goto {b : Nat} {M : Mach} {i : Int} (h : MB b M) : MB b (M.goto i) := ⟨h.len, h.mem, h.size⟩
theorem MB.setR {b : Nat} {M : Mach} {k : Nat} {v : Int} (h : MB b M) : MB b (M.setR k v) := ⟨by show (List.set _ _ _).length = 16; rw [List.length_set]; exact h.len, h.mem, h.size⟩
theorem MB.popped {b : Nat} {M : Mach} (h : MB b M) : MB b M.popped := ⟨by show (List.set _ _ _).length = 16; rw [List.length_set]; exact h.len, h.mem, h.size⟩
theorem pushed_mem (M : Mach) (v : Int) : (M.pushed v).mem = wr M.mem ((M.regs.getD 4 0 - 8) % W64) v 8 := by unfold Mach.pushed; with_reducible rfl
theorem MB.pushed {b : Nat} {M : Mach} {v : Int} (h : MB b M) : MB (b + 8) (M.pushed v) := by
 refine ⟨?_, ?_, ?_⟩
 ·show (List.set _ _ _).length = 16
  rw [List.length_set]; exact h.len
 ·rw [pushed_mem]; exact wr_ok h.mem 8
 ·rw [pushed_mem]; exact Nat.le_trans (wr_len 8) (Nat.add_le_add_right h.size 8)
theorem runI_mb {b : Nat} {M : Mach} {I : Ins} (h : MB b M) : MB (b + 8) (runI M I) := by
 cases I with
 | hlt => exact h.mono (by lia)
 | ud2 => exact h.mono (by lia)
 | nop => exact h.mono (by lia)
 | push k => exact h.pushed
 | call i => exact h.pushed.goto
 | pop k => exact (h.popped.setR).mono (by lia)
 | ret => exact (h.popped.goto).mono (by lia)
 | jmp i => exact h.goto.mono (by lia)
 | loop i =>
  show MB (b + 8) (if M.count ≠ 0 then _ else _)
  split
  ·exact h.setR.goto.mono (by lia)
  ·exact h.setR.mono (by lia)
 | mov k i => exact h.setR.mono (by lia)
 | sto p i => exact ⟨h.len, mset_ok h.mem (Int.emod_nonneg _ (by decide)) (Int.emod_lt_of_pos _ (by decide)), Nat.le_trans mset_len (Nat.add_le_add h.size (by lia))⟩
theorem stepOk_run {M : Mach} {I : Ins} (h : I.plain = true ∨ I = .ud2) : stepOk M I = runI (stepM M) I := by
 cases I <;> first | rfl | (rcases h with h | h <;> first | exact Bool.noConfusion h | cases h)
theorem stepOk_mb {b : Nat} {M : Mach} {I : Ins} (h : MB b M) : MB (b + 8) (stepOk M I) := by
 have hs : MB b (stepM M) := ⟨h.len, h.mem, h.size⟩
 by_cases hp : I.plain = true ∨ I = .ud2
 ·rw [stepOk_run hp]; exact runI_mb hs
 ·have : I = .hlt := by
   cases I <;> first | rfl | exact absurd (Or.inl rfl) hp | exact absurd (Or.inr rfl) hp
  subst this
  exact ⟨h.len, h.mem, Nat.le_trans h.size (by lia)⟩
theorem adv_mb {b : Nat} {M : Mach} {rows : List Ins} (h : MB b M) : MB (b + 8) (adv rows M).1 := by
 unfold adv
 split
 ·exact h.mono (by lia)
 ·split
  ·exact h.mono (by lia)
  ·split
   ·exact h.mono (by lia)
   ·split
    ·exact ⟨h.len, h.mem, Nat.le_trans h.size (by lia)⟩
    ·exact stepOk_mb h
noncomputable def loopP (rows : List Ins) (kept : Mem) : Nat → Mach → Nat → Mach × Nat × Str
 | 0, M, k => (M, k, if M.halted = true then n_halted else n_most)
 | f + 1, M, k => if M.halted = true then (M, k, n_halted) else match adv rows M with
  | (M', none) => loopP rows kept f M' (k + 1)
  | (M', some w) => (M', k, if w == n_int3 && (mget kept M'.rip).isSome then n_break else n_fault)
theorem loopP_mb {rows : List Ins} {kept : Mem} : ∀ (f : Nat) {b : Nat} {M : Mach} {k : Nat}, MB b M → MB (b + 8 * f) (loopP rows kept f M k).1
 | 0, b, M, k, h => h
 | f + 1, b, M, k, h => by
  unfold loopP
  split
  ·exact h.mono (by lia)
  ·have ha := adv_mb (rows := rows) h
   rcases e : adv rows M with ⟨M', _ | w⟩
   ·rw [e] at ha
    exact (loopP_mb f ha).mono (by lia)
   ·rw [e] at ha
    exact ha.mono (by lia)
theorem plantF_len : ∀ (pls : List Int) (m k : Mem), (plantF pls m k).1.length ≤ m.length + pls.length ∧ (plantF pls m k).2.length ≤ k.length + pls.length
 | [], m, k => ⟨by simp [plantF], by simp [plantF]⟩
 | p :: r, m, k => by
  have := plantF_len r (mset m (p % W64) 204) (mset k p (oct m p))
  have h1 : (mset m (p % W64) 204).length ≤ m.length + 1 := mset_len
  have h2 : (mset k p (oct m p)).length ≤ k.length + 1 := mset_len
  unfold plantF
  simp only [List.length_cons]
  lia
theorem plantF_ok : ∀ (pls : List Int) (m k : Mem), MemOk m → MemOk (plantF pls m k).1
 | [], m, k, h => h
 | p :: r, m, k, h => plantF_ok r _ _ (mset_ok h (by decide) (by decide))
section
variable {c : Cx} {u : Cu} {env : Env} {E : EP} {m : Loc} {n : Led} {Q : Value → Loc → Led → Prop} {A : SA} {M : Mach} {P : PA} {pls : List Int} {kept : Mem}
theorem ptOctets_ {mm : Addr} {p : Int} {k : Nat} {t t' : Tok} (hmm : mm = A.mm) (hk : k ≤ 1000) (hsk : (P.k == sysModules) = false) (ok : (A.h == sysModules) = false) (hb : ∀ i ∈ shownF M.mem kept p k, 0 ≤ i ∧ i < 256) (hh : u.hd = none) (hr : 4 ≤ u.r)
  (h : ∀ t, Q (.bytes (byteArr (shownF M.mem kept p k)) t) m (ptL c.w P mm pls kept ++ (stL c.w A M ++ n))) : V c u env (call (.ref 155) [.ref P.p, .int p t, .int k t']) Q E m (ptL c.w P mm pls kept ++ (stL c.w A M ++ n)) := by
 subst hmm
 refine V.keepN ?_
 refine Call_ (fSoftPoints_octets _) (Binds.pure (binds := [(n_self, .ref P.p), (n_place, .int p t), (n_count, .int k t')]) (fun _ _ _ _ _ => by kernel_rfl)) (by kernel_rfl) (m₀ := [(n_count, .int k t'), (n_place, .int p t), (n_self, .ref P.p)]) rfl (by lia) ?_
 intro L _ _ _ _
 refine execs_cons ?_
 kp_kind "names"
 kp_kind "r"
 rename_i fl
 refine For_ ?_
 kp_kind "r"
 refine range_ fun r => ?_
 refine iterR_ (.head _) (by decide) (by lia) (by lia) fun it => ?_
 have nxt : ∀ i, shownF M.mem kept p (i + 1) = shownF M.mem kept p i ++ [if oct M.mem (p + i) = 204 then (mget kept (p + i)).getD (oct M.mem (p + i)) else oct M.mem (p + i)] := fun i => by
  unfold shownF
  rw [List.range_succ, List.map_append]; rfl
 have ln : ∀ i, (shownF M.mem kept p i).length = i := fun i => by unfold shownF; simp
 refine ⟨k, fun i m' n' => n' = (it, .riter i (k - 0 - i)) :: (r, .range 0 k) :: (fl, .ints (shownF M.mem kept p i)) :: (ptL c.w P A.mm pls kept ++ (stL c.w A M ++ n)) ∧ m'.lookup n_self = some (.ref P.p) ∧ m'.lookup n_place = some (.int p t) ∧ m'.lookup n_found = some (.ref fl), ⟨by simp [shownF]; rfl, by kp_kind "lk", by kp_kind "lk", by kp_kind "lk"⟩, ?_⟩
 rintro _ i m' n' hi ⟨rfl, l1, l2, l3⟩
 refine turnName (by kernel_rfl) ?_
 refine nextR_ (by exact hh) (fun hlt tt => ?_) (fun hge => ?_)
 ·kp_kind "r"
  refine octet_ (d := A.md) (hd := A.h) (l := M.mem) (by kp_kind "mem") (by kp_kind "mem") ok (by kp_kind "room") fun t1 => ?_
  kp_kind "r"
  have fin : ∀ x, x = (if oct M.mem (p + i) = 204 then (mget kept (p + i)).getD (oct M.mem (p + i)) else oct M.mem (p + i)) → Put fl (.ints (shownF M.mem kept p i)) (.ints (shownF M.mem kept p i ++ [x])) ((it, .riter ((i : Int) + 1) (k - 0 - i - 1)) :: (r, .range 0 k) :: (fl, .ints (shownF M.mem kept p i)) :: (ptL c.w P A.mm pls kept ++ (stL c.w A M ++ n)))
    ((it, .riter ((i + 1 : Nat) : Int) (k - 0 - ((i + 1 : Nat) : Int))) :: (r, .range 0 k) :: (fl, .ints (shownF M.mem kept p (i + 1))) :: (ptL c.w P A.mm pls kept ++ (stL c.w A M ++ n))) := by
   intro x e
   rw [nxt, ← e, show (k : Int) - 0 - i - 1 = k - 0 - ((i + 1 : Nat) : Int) by lia]
   exact .there (.there .here)
  by_cases h204 : oct M.mem (p + i) = 204
  ·refine ifT (by simpa using h204) ?_
   kp_kind "r"
   refine getD_ (l := kept) (by kp_kind "mem") hsk fun t2 => ?_
   kp_kind "r"
   refine appendI_ (fin _ (by rw [if_pos h204])) (by rw [ln]; lia) ?_
   kp_kind "r"
   exact ⟨by lia, rfl, by kp_kind "lk", by kp_kind "lk", by kp_kind "lk"⟩
  ·refine ifF (by simpa using h204) ?_
   kp_kind "r"
   refine appendI_ (fin _ (by rw [if_neg h204])) (by rw [ln]; lia) ?_
   kp_kind "r"
   exact ⟨by lia, rfl, by kp_kind "lk", by kp_kind "lk", by kp_kind "lk"⟩
 ·have : i = k := by lia
  subst this
  kp_kind "r"
  refine bytes_ (ns := shownF M.mem kept p i) (by exact hh) (by kp_kind "mem") (by rw [ln]; lia) hb fun t => ?_
  kp_kind "r"
  refine ⟨_, ?_, h t⟩
  kp_kind "keep"
end
noncomputable def StartR (rows : List Ins) (pls : List Int) (most : Nat) (M M1 : Mach) (c0 : Nat) : Prop :=
 (pls.any (· == M.rip) = true ∧ 0 < most ∧ adv rows M = (M1, none) ∧ c0 = 1) ∨ (¬ (pls.any (· == M.rip) = true ∧ 0 < most) ∧ M1 = M ∧ c0 = 0)
noncomputable def TailR (rows : List Ins) (pls : List Int) (most : Nat) (M1 : Mach) (c0 : Nat) (M' : Mach) (cnt : Nat) (rs : Str) : Prop :=
 ∃ ns : List Int, ns.Perm ((plantF pls M1.mem []).2.map (·.1)) ∧ ∃ M2, loopP rows (plantF pls M1.mem []).2 (most - c0) (M1.withMem (plantF pls M1.mem []).1) c0 = (M2, cnt, rs) ∧ M' = M2.withMem (liftF (plantF pls M1.mem []).2 ns M2.mem)
noncomputable def RunR (rows : List Ins) (pls : List Int) (most : Nat) (M M' : Mach) (cnt : Nat) (rs : Str) : Prop :=
 (∃ w, pls.any (· == M.rip) = true ∧ 0 < most ∧ adv rows M = (M', some w) ∧ cnt = 0 ∧ rs = n_fault) ∨ ∃ M1 c0, StartR rows pls most M M1 c0 ∧ TailR rows pls most M1 c0 M' cnt rs
theorem loopP_halted {rows : List Ins} {kept : Mem} {f : Nat} {M : Mach} {k : Nat} (h : M.halted = true) : loopP rows kept f M k = (M, k, n_halted) := by
 cases f <;> unfold loopP <;> rw [if_pos h]
theorem loopP_most {rows : List Ins} {kept : Mem} {M : Mach} {k : Nat} (h : M.halted = false) : loopP rows kept 0 M k = (M, k, n_most) := by
 unfold loopP; rw [if_neg (by simp [h])]
theorem loopP_next {rows : List Ins} {kept : Mem} {f : Nat} {M : Mach} {k : Nat} (h : M.halted = false) (ha : (adv rows M).2 = none) : loopP rows kept (f + 1) M k = loopP rows kept f (adv rows M).1 (k + 1) := by
 conv => lhs; unfold loopP
 rw [if_neg (by simp [h])]
 rcases e : adv rows M with ⟨M', _ | w⟩
 ·rfl
 ·rw [e] at ha; cases ha
theorem loopP_stop {rows : List Ins} {kept : Mem} {f : Nat} {M : Mach} {k : Nat} {w : Str} (h : M.halted = false) (ha : (adv rows M).2 = some w) : loopP rows kept (f + 1) M k = ((adv rows M).1, k, if w == n_int3 && (mget kept (adv rows M).1.rip).isSome then n_break else n_fault) := by
 conv => lhs; unfold loopP
 rw [if_neg (by simp [h])]
 rcases e : adv rows M with ⟨M', _ | w⟩
 ·rw [e] at ha; cases ha
 ·rw [e] at ha; cases ha; rfl
inductive Rp1 (c : Cx) (rows : List Ins) (pls : List Int) (most : Nat) (t : Tok) (b : Nat) (A : SA) (P : PA) (M : Mach) (n : Led) (f : Addr) (fl : Flow) (m' : Loc) (n' : Led) : Prop
 | mk (h1 : fl = .next) (M1 : Mach) (c0 : Nat) (tc : Tok) (h2 : StartR rows pls most M M1 c0) (h3 : MB (b + 8) M1) (h4 : Keep (ptL c.w P A.mm pls [] ++ (stL c.w A M1 ++ n)) n') (h5 : m'.lookup n_state = some (.ref A.s)) (h6 : m'.lookup n_points = some (.ref P.p)) (h7 : m'.lookup n_most = some (.int most t)) (h8 : m'.lookup n_advance = some (.ref f)) (h9 : m'.lookup n_count = some (.int (c0 : Nat) tc))
inductive Rp2 (c : Cx) (rows : List Ins) (pls : List Int) (most : Nat) (A : SA) (P : PA) (M : Mach) (n : Led) (fl : Flow) (n' : Led) : Prop
 | mk (T : Addr) (M1 : Mach) (w : Str) (h1 : fl = .ret (.ref T)) (h2 : pls.any (· == M.rip) = true) (h3 : 0 < most) (h4 : adv rows M = (M1, some w)) (h5 : Keep ((T, .tup [.int 0 0, .str n_fault 0]) :: (ptL c.w P A.mm pls [] ++ (stL c.w A M1 ++ n))) n')
inductive Rp3 (c : Cx) (rows : List Ins) (pls : List Int) (most : Nat) (A : SA) (P : PA) (n : Led) (kp : Mem) (mp : Mem) (M1 : Mach) (c0 : Nat) (fl : Flow) (m' : Loc) (n' : Led) : Prop
 | mk (h1 : fl = .next) (M2 : Mach) (cnt : Nat) (rs : Str) (tc : Tok) (tr : Tok) (h2 : loopP rows kp (most - c0) (M1.withMem mp) c0 = (M2, cnt, rs)) (h3 : Keep (ptL c.w P A.mm pls kp ++ (stL c.w A M2 ++ n)) n') (h4 : m'.lookup n_points = some (.ref P.p)) (h5 : m'.lookup n_count = some (.int (cnt : Nat) tc)) (h6 : m'.lookup n_reason = some (.str rs tr))
inductive Rp4 (c : Cx) (rows : List Ins) (pls : List Int) (most : Nat) (b : Nat) (A : SA) (P : PA) (n : Led) (kp : Mem) (mp : Mem) (M1 : Mach) (c0 : Nat) (tc : Tok) (tr : Tok) (j : Nat) (m' : Loc) (n' : Led) : Prop
 | mk (fi : Nat) (Mi : Mach) (ci : Nat) (h1 : j = fi + 1) (h2 : ci + fi = most) (h3 : MB (b + 8 + pls.length + 8 * (ci - c0)) Mi) (h4 : c0 ≤ ci) (h5 : loopP rows kp (most - c0) (M1.withMem mp) c0 = loopP rows kp fi Mi ci) (h6 : Keep (ptL c.w P A.mm pls kp ++ (stL c.w A Mi ++ n)) n') (h7 : m'.lookup n_count = some (.int (ci : Nat) tc)) (h8 : m'.lookup n_reason = some (.str nS tr))
inductive Rp5 (c : Cx) (rows : List Ins) (pls : List Int) (most : Nat) (A : SA) (P : PA) (n : Led) (kp : Mem) (mp : Mem) (M1 : Mach) (c0 : Nat) (tc : Tok) (tr : Tok) (j : Nat) (m' : Loc) (n' : Led) : Prop
 | mk (h1 : j = 0) (M2 : Mach) (cnt : Nat) (rs : Str) (h2 : loopP rows kp (most - c0) (M1.withMem mp) c0 = (M2, cnt, rs)) (h3 : (rs == nS) = false) (h4 : Keep (ptL c.w P A.mm pls kp ++ (stL c.w A M2 ++ n)) n') (h5 : m'.lookup n_count = some (.int (cnt : Nat) tc)) (h6 : m'.lookup n_reason = some (.str rs tr))
inductive Rp6 (c : Cx) (rows : List Ins) (pls : List Int) (most : Nat) (t : Tok) (b : Nat) (A : SA) (P : PA) (n : Led) (f : Addr) (kp : Mem) (mp : Mem) (M1 : Mach) (c0 : Nat) (j : Nat) (m' : Loc) (n' : Led) : Prop
 | mk (tc : Tok) (tr : Tok) (h1 : m'.lookup n_points = some (.ref P.p)) (h2 : m'.lookup n_state = some (.ref A.s)) (h3 : m'.lookup n_most = some (.int most t)) (h4 : m'.lookup n_advance = some (.ref f)) (h5 : (Rp4 c rows pls most b A P n kp mp M1 c0 tc tr j m' n' ∨ Rp5 c rows pls most A P n kp mp M1 c0 tc tr j m' n'))
section
variable {c : Cx} {u : Cu} {env : Env} {E : EP} {m : Loc} {n : Led} {Q : Value → Loc → Led → Prop} {A : SA} {M : Mach} {P : PA} {pls : List Int} {kept : Mem}
theorem runPlanted_ {rows : List Ins} {f : Addr} {most b : Nat} {t : Tok} (hM : MB b M) (hb : b ≤ 5000) (hmost : most ≤ 100) (hpl : pls.length ≤ 60) (hA : (A.h == sysModules) = false) (hPk : (P.k == sysModules) = false) (hf : AdvIn c.w n rows f) (hh : u.hd = none) (hr : 20 ≤ u.r)
  (h : ∀ T P' M' cnt rs, P'.p = P.p → (P'.k == sysModules) = false → RunR rows pls most M M' cnt rs → Q (.ref T) m ((T, .tup [.int cnt 0, .str rs 0]) :: (ptL c.w P' A.mm pls [] ++ (stL c.w A M' ++ n)))) :
  V c u env (call (.ref 169) [.ref A.s, .ref P.p, .int most t, .ref f]) Q E m (ptL c.w P A.mm pls [] ++ (stL c.w A M ++ n)) := by
 have hf' := hf
 obtain ⟨qn, pm, c', pc, pd, es, hf1, _⟩ := hf'
 refine V.keepN ?_
 refine Call_ (frun_planted _) (Binds.pure (binds := [(n_state, .ref A.s), (n_points, .ref P.p), (n_most, .int most t), (n_advance, .ref f)]) (fun _ _ _ _ _ => by kernel_rfl)) (by kernel_rfl) (m₀ := [(n_advance, .ref f), (n_most, .int most t), (n_points, .ref P.p), (n_state, .ref A.s)]) rfl (by lia) ?_
 intro L _ _ _ _
 refine execs_cons ?_
 kp_kind "names"
 iterate 3 kp_kind "1"
 refine V.mono (Q := fun fl m' n' => Rp1 c rows pls most t b A P M n f fl m' n' ∨ Rp2 c rows pls most A P M n fl n') ?_ ?_ (fun _ _ _ _ _ x => x)
 ·kp_kind "1"
  kp_kind "r"
  refine inLI_ (ns := pls) (by kp_kind "mem") ?_
  kp_kind "r"
  cases hany : pls.any (· == M.rip) with
  | false =>
   refine ifF rfl ?_
   kp_kind "r"
   exact .inl ⟨rfl, M, 0, _, .inr ⟨fun x => absurd (hany.symm.trans x.1) (by decide), rfl, rfl⟩, hM.mono (by lia), .refl, by kp_kind "lk", by kp_kind "lk", by kp_kind "lk", by kp_kind "lk", by kp_kind "lk"⟩
  | true =>
   refine ifT rfl ?_
   kp_kind "r"
   by_cases hm0 : 0 < most
   ·refine ifT (by simpa using hm0) ?_
    kp_kind "r"
    refine Try_ rfl ?_
    kp_kind "r"
    refine callL_ (pr := fun o => ∃ doc ctv, o = fnMade n__law_advance qn (paramsOf sadv) (bodyOf sadv) (scopeOf sadv) [(n_program, pc)] doc pm c' ctv) (fun o ho => by obtain ⟨doc, ctv, rfl⟩ := ho; exact ⟨_, rfl⟩) (by kernel_rfl) (by kernel_rfl) ?_
    kp_kind "r"
    refine ⟨List.mem_append_right _ (List.mem_append_right _ hf1), ?_⟩
    refine V.keep0 Keep.swap ?_
    refine adv_ (hM.ok (by lia) hA) (hf.sub fun p hp => List.mem_append_right _ hp) (by exact hh) (by kp_kind "room") (fun hn g => ?_) (fun w hw e d => ?_)
    ·kp_kind "r"
     exact .inl ⟨rfl, _, 1, _, .inl ⟨by first | exact hany | rfl, hm0, Prod.ext rfl hn, rfl⟩, adv_mb hM, Keep.swap, by kp_kind "lk", by kp_kind "lk", by kp_kind "lk", by kp_kind "lk", by kp_kind "lk"⟩
    ·intro T
     refine Handle_ (C := 46) (exm46 _) ?_ fun T => ?_
     ·kp_kind "r"
      exact ⟨rfl, rfl, rfl⟩
     ·kp_kind "r"
      exact .inr ⟨_, _, w, rfl, by first | exact hany | rfl, hm0, Prod.ext rfl hw, Keep.consC (Keep.drop _ (Keep.skip Keep.swap))⟩
   ·refine ifF (by simpa using hm0) ?_
    kp_kind "r"
    exact .inl ⟨rfl, M, 0, _, .inr ⟨fun x => hm0 x.2, rfl, rfl⟩, hM.mono (by lia), .refl, by kp_kind "lk", by kp_kind "lk", by kp_kind "lk", by kp_kind "lk", by kp_kind "lk"⟩
 rintro fl m' n' (⟨rfl, M1, c0, tc, hS, hM1, hK, l1, l2, l3, l4, l5⟩ | ⟨T, M1, w, rfl, h1, h2, h3, hK⟩)
 ·refine V.keepL hK ?_
  intro l₀
  have hc0 : c0 + (most - c0) = most := by
   rcases hS with ⟨_, h2, _, h4⟩ | ⟨_, _, h4⟩ <;> lia
  kp_kind "r"
  refine ptPlant_ rfl hPk hA (Nat.le_trans (Nat.add_le_add_right hM1.size _) (by lia)) (by simp; lia) (by exact hh) (by kp_kind "room") ?_
  kp_kind "r"
  generalize hpm : (plantF pls M1.mem []).1 = mp
  generalize hpk : (plantF pls M1.mem []).2 = kp
  have hMP : MB (b + 8 + pls.length) (M1.withMem mp) := ⟨hM1.len, by rw [← hpm]; exact plantF_ok pls _ _ hM1.mem, by
   have := (plantF_len pls M1.mem []).1
   rw [hpm] at this
   exact Nat.le_trans this (Nat.add_le_add_right hM1.size _)⟩
  refine V.mono (Q := fun fl m' n' => Rp3 c rows pls most A P n kp mp M1 c0 fl m' n') ?_ ?_ (fun _ _ _ _ _ x => x)
  ·refine While_ (fun j m' n' => Rp6 c rows pls most t b A P n f kp mp M1 c0 j m' n') ((most - c0) + 1)
    ⟨_, _, by kp_kind "lk", by kp_kind "lk", by kp_kind "lk", by kp_kind "lk", .inl ⟨most - c0, M1.withMem mp, c0, rfl, hc0, by simpa using hMP, Nat.le_refl _, rfl, .refl, by kp_kind "lk", by kp_kind "lk"⟩⟩ ?_
   rintro _ j m' n' ⟨tc, tr, k1, k2, k3, k4, (⟨fi, Mi, ci, rfl, hcf, hMi, hci, hL, hK, k5, k6⟩ | ⟨rfl, M2, cnt, rs, hL, hrs, hK, k5, k6⟩)⟩
   ·refine V.keepL hK ?_
    intro l₀
    kp_kind "r"
    cases hH : Mi.halted with
    | true =>
     rw [loopP_halted hH] at hL
     refine ifT rfl ?_
     kp_kind "r"
     exact ⟨rfl, Mi, ci, n_halted, tc, _, hL, .refl, by kp_kind "lk", by kp_kind "lk", by kp_kind "lk"⟩
    | false =>
     refine ifF rfl ?_
     kp_kind "r"
     cases fi with
     | zero =>
      rw [loopP_most hH] at hL
      refine ifT (by simp; lia) ?_
      kp_kind "r"
      exact ⟨rfl, Mi, ci, n_most, tc, _, hL, .refl, by kp_kind "lk", by kp_kind "lk", by kp_kind "lk"⟩
     | succ fi =>
      refine ifF (by simp; lia) ?_
      kp_kind "r"
      refine Try_ rfl ?_
      kp_kind "r"
      refine callL_ (pr := fun o => ∃ doc ctv, o = fnMade n__law_advance qn (paramsOf sadv) (bodyOf sadv) (scopeOf sadv) [(n_program, pc)] doc pm c' ctv) (fun o ho => by obtain ⟨doc, ctv, rfl⟩ := ho; exact ⟨_, rfl⟩) (by kernel_rfl) (by kernel_rfl) ?_
      kp_kind "r"
      refine ⟨List.mem_append_right _ (List.mem_append_right _ hf1), ?_⟩
      refine V.keep0 Keep.swap ?_
      have hz := Nat.sub_le ci c0
      refine adv_ (hMi.ok (by generalize ci - c0 = z at hz ⊢; lia) hA) (hf.sub fun p hp => List.mem_append_right _ hp) (by exact hh) (by kp_kind "room") (fun hn g => ?_) (fun w hw e d => ?_)
      ·rw [loopP_next hH hn] at hL
       kp_kind "r"
       exact ⟨fi + 1, by lia, _, tr, by kp_kind "lk", by kp_kind "lk", by kp_kind "lk", by kp_kind "lk", .inl ⟨fi, _, ci + 1, rfl, by lia, (adv_mb hMi).mono (Nat.le_of_eq (by rw [Nat.sub_add_comm ‹c0 ≤ ci›, Nat.mul_succ, ← Nat.add_assoc])), by lia, hL, Keep.swap, lkI (by lia), by kp_kind "lk"⟩⟩
      ·rw [loopP_stop hH hw] at hL
       intro T
       refine HandleAs_ (C := 46) (by kernel_rfl) (exm46 _) ?_ fun T => ?_
       ·kp_kind "r"
        exact ⟨rfl, rfl, rfl⟩
       ·kp_kind "r"
        refine getE_ (excG_what _) (.head _) (by kp_kind "lk") (fun v hv => by obtain ⟨tv, rfl⟩ := nv_str hv; rfl) (st_ fun tv => ?_)
        kp_kind "r"
        rw [en_int3]
        cases hw3 : w == n_int3 with
        | false =>
         rw [hw3, Bool.false_and, if_neg (by decide)] at hL
         refine ifF rfl ?_
         kp_kind "r"
         intro m2 hm2
         kp_kind "r"
         refine ⟨0, by lia, tc, _, (hm2 n_points (by kp_kind "dq")).trans (by kp_kind "lk"), (hm2 n_state (by kp_kind "dq")).trans (by kp_kind "lk"), (hm2 n_most (by kp_kind "dq")).trans (by kp_kind "lk"), (hm2 n_advance (by kp_kind "dq")).trans (by kp_kind "lk"), .inr ⟨rfl, _, ci, n_fault, hL, by kp_kind "dq", Keep.drop _ (Keep.skip Keep.swap), (hm2 n_count (by kp_kind "dq")).trans (by kp_kind "lk"), (hm2 n_reason (by kp_kind "dq")).trans (by kp_kind "lk")⟩⟩
        | true =>
         rw [hw3, Bool.true_and] at hL
         refine ifT rfl ?_
         kp_kind "r"
         refine inM_ (l := kp) (by kp_kind "mem") hPk ?_
         kp_kind "r"
         cases hkr : (mget kp (adv rows Mi).1.rip).isSome with
         | true =>
          rw [hkr, if_pos rfl] at hL
          refine ifT rfl ?_
          kp_kind "r"
          intro m2 hm2
          kp_kind "r"
          refine ⟨0, by lia, tc, _, (hm2 n_points (by kp_kind "dq")).trans (by kp_kind "lk"), (hm2 n_state (by kp_kind "dq")).trans (by kp_kind "lk"), (hm2 n_most (by kp_kind "dq")).trans (by kp_kind "lk"), (hm2 n_advance (by kp_kind "dq")).trans (by kp_kind "lk"), .inr ⟨rfl, _, ci, n_break, hL, by kp_kind "dq", Keep.drop _ (Keep.skip Keep.swap), (hm2 n_count (by kp_kind "dq")).trans (by kp_kind "lk"), (hm2 n_reason (by kp_kind "dq")).trans (by kp_kind "lk")⟩⟩
         | false =>
          rw [hkr, if_neg (by decide)] at hL
          refine ifF rfl ?_
          kp_kind "r"
          intro m2 hm2
          kp_kind "r"
          refine ⟨0, by lia, tc, _, (hm2 n_points (by kp_kind "dq")).trans (by kp_kind "lk"), (hm2 n_state (by kp_kind "dq")).trans (by kp_kind "lk"), (hm2 n_most (by kp_kind "dq")).trans (by kp_kind "lk"), (hm2 n_advance (by kp_kind "dq")).trans (by kp_kind "lk"), .inr ⟨rfl, _, ci, n_fault, hL, by kp_kind "dq", Keep.drop _ (Keep.skip Keep.swap), (hm2 n_count (by kp_kind "dq")).trans (by kp_kind "lk"), (hm2 n_reason (by kp_kind "dq")).trans (by kp_kind "lk")⟩⟩
   ·refine V.keepL hK ?_
    intro l₀
    kp_kind "r"
    exact ⟨rfl, M2, cnt, rs, tc, tr, hL, .refl, k1, k5, k6⟩
  rintro fl m' n' ⟨rfl, M2, cnt, rs, tc, tr, hL, hK2, k1, k2, k3⟩
  refine after_next ?_
  refine V.keep0 hK2 ?_
  have hM2 : MB (b + 8 + pls.length + 8 * (most - c0)) M2 := by have := loopP_mb (rows := rows) (kept := kp) (most - c0) (k := c0) hMP; rw [hL] at this; exact this
  have hkl : kp.length ≤ pls.length := by rw [← hpk]; have := (plantF_len pls M1.mem []).2; simpa using this
  kp_kind "r"
  refine ptLift_ rfl hPk hA (Nat.le_trans (Nat.add_le_add_right hM2.size _) (by have hz := Nat.sub_le most c0; generalize most - c0 = z at hz ⊢; lia)) (by lia) (by exact hh) (by kp_kind "room") fun ns k hns hk => ?_
  kp_kind "r"
  refine ⟨_, .refl, h _ { P with k := k } _ cnt rs rfl hk (.inr ⟨M1, c0, hS, ns, by rw [hpk]; exact hns, M2, by rw [hpk, hpm]; exact hL, by rw [hpk]⟩)⟩
 ·kp_kind "r"
  exact ⟨_, hK, h T P M1 0 n_fault rfl hPk (.inl ⟨w, h1, h2, h3, rfl, rfl⟩)⟩
end
section
variable {c : Cx} {u : Cu} {env : Env} {E : EP} {m : Loc} {n : Led} {Q : Value → Loc → Led → Prop} {QB : Bool → Loc → Led → Prop}
theorem IsChain_ {l r₁ r₂ : Expr} {rs : List Expr} {op₁ op₂ : CmpOp} {ops : List CmpOp} {pos : Pos} {whole : Sem Value} (hm : lastMarks (op₁ :: op₂ :: ops) (r₁ :: r₂ :: rs) = false)
  (h : V c u env (eval l env) (Kf c u env E (fun a => testChain pos a (op₁ :: op₂ :: ops) (eval r₁ env :: eval r₂ env :: evalEach rs env)) QB) E m n) : V c u env (isTrue (.Compare l (op₁ :: op₂ :: ops) (r₁ :: r₂ :: rs) pos) env whole) QB E m n :=
 V.seq (fun h => isTrue_chain h hm) h
theorem testLast_ {pos : Pos} {a : Value} {op : CmpOp} {r : Sem Value} (h : V c u env r (Kf c u env E (compareOp op a) (Kf c u env E truthy QB)) E m n) : V c u env (testChain pos a [op] [r]) QB E m n :=
 V.i fun ok A hp tk fit md => test_last (wpAny_mono (h.go ok A hp tk fit md) (fun _ _ q => q.go2 ok fit) fun _ _ x => x)
theorem testLink_ {pos : Pos} {a : Value} {op op' : CmpOp} {ops : List CmpOp} {r r' : Sem Value} {rs : List (Sem Value)}
  (h : V c u env r (fun b m n => V c u env (compareOp op a b) (fun cv m n => V c u env (truthy cv) (fun t m n => if t = true then V c u env (testChain pos b (op' :: ops) (r' :: rs)) QB E m n else QB false m n) E m n) E m n) E m n) :
  V c u env (testChain pos a (op :: op' :: ops) (r :: r' :: rs)) QB E m n :=
 V.i fun ok A hp tk fit md => test_link (wpAny_mono (h.go ok A hp tk fit md) (fun b s q => wpAny_mono (q.go ok fit) (fun cv s q => wpAny_mono (q.go ok fit) (fun t s q => by
  cases t with
  | true => exact PV.go q ok fit
  | false => exact q) fun _ _ x => x) fun _ _ x => x) fun _ _ x => x)
end
noncomputable def regWords : List Str := [Str.ofString "rax", Str.ofString "rcx", Str.ofString "rdx", Str.ofString "rbx", Str.ofString "rsp", Str.ofString "rbp", Str.ofString "rsi", Str.ofString "rdi"]
theorem regWords_shaped : SeqAt.shaped (PyData.list (List.map pdv (List.map vx regWords))) = true := by kp_kind "dq"
theorem regWords_flat : ∀ x ∈ List.map vx regWords, flatV x = true := by kp_kind "dq"
theorem words_regs : Txt.words (Str.ofString "rax rcx rdx rbx rsp rbp rsi rdi") = regWords := by kp_kind "dq"
section
variable {c : Cx} {u : Cu} {env : Env} {E : EP} {m : Loc} {n : Led} {Q : Value → Loc → Led → Prop}
theorem early_ {t : Tok} (hr : 1 ≤ u.r) (h : ∀ a, Q (.ref a) m ((a, .strs regWords) :: n)) : V c u env (call (.ref 379) [.int 64 t]) Q E m n := by
 refine Call_ (fearly_names _) (Binds.pure (binds := [(n_size, .int 64 t)]) (fun _ _ _ _ _ => by kernel_rfl)) (by kernel_rfl) (m₀ := [(n_size, .int 64 t)]) rfl hr ?_
 intro L _ _ _ _
 refine execs_cons ?_
 kp_kind "names"
 kp_kind "r"
 refine split_ words_regs (by kp_kind "dq") fun a => ?_
 kp_kind "r"
 exact h a
theorem mkRegister_ {nm : Str} {k : Int} {t t' t'' t3 : Tok} (hr : 2 ≤ u.r) (h : ∀ R Rd, Q (.ref R) m ((R, .inst 368 Rd (regL nm k)) :: n)) : V c u env (call (.ref 368) [.str nm t, .str n_gpr t', .int k t'', .int 64 t3]) Q E m n := by
 refine Make_ (by kernel_rfl) (by kernel_rfl) (by kernel_rfl) (fRegister_init _) (fun x => Binds.pure (binds := [(n_self, x), (n_name, .str nm t), (n_kind, .str n_gpr t'), (n_number, .int k t''), (n_size, .int 64 t3)]) (fun _ _ _ _ _ => by kernel_rfl)) (fun x => by kernel_rfl)
  (m₀ := fun x => [(n_size, .int 64 t3), (n_number, .int k t''), (n_kind, .str n_gpr t'), (n_name, .str nm t), (n_self, x)]) (fun x => rfl) hr fun a d L => ?_
 refine execs_cons ?_
 kp_kind "names"
 repeat (first | kp_kind "1" | kp_kind "set")
 exact ⟨rfl, h a d⟩
theorem gpr_ {k : Nat} {t t' : Tok} (hk : k < 8) (hr : 10 ≤ u.r) (h : ∀ R Rd nm, Q (.ref R) m ((R, .inst 368 Rd (regL nm k)) :: n)) : V c u env (call (.ref 393) [.int k t, .int 64 t']) Q E m n := by
 refine V.keepN ?_
 refine Call_ (fgpr _) (Binds.pure (binds := [(n_number, .int k t), (n_size, .int 64 t')]) (fun _ _ _ _ _ => by kernel_rfl)) (by kernel_rfl) (m₀ := [(n_size, .int 64 t'), (n_number, .int k t)]) rfl (by omega) ?_
 intro L _ _ _ _
 refine execs_cons ?_
 kp_kind "names"
 kp_kind "r"
 refine early_ (by kp_kind "room") fun a => ?_
 kp_kind "r"
 refine eqL_ (xs := regWords.map vx) (ys := []) (by kp_kind "room") (by kp_kind "mem") (by kp_kind "mem") regWords_flat (by simp) regWords_shaped (by kp_kind "dq") ?_
 kp_kind "r"
 refine ifT (by simp) ?_
 refine testLast_ ?_
 kp_kind "r"
 have hk15 : decide ((k : Int) ≤ 15) = true := by simp; omega
 rw [hk15]
 refine ifF rfl ?_
 kp_kind "r"
 refine ifT (by simp; omega) ?_
 kp_kind "r"
 obtain ⟨nm, hnm⟩ : ∃ nm, regWords[k]? = some nm := ⟨_, List.getElem?_eq_getElem (by show k < 8; omega)⟩
 refine subL_ (xs := regWords.map vx) (x := vx nm) (by kp_kind "mem") (by omega) (by omega) (by rw [show ((k : Int)).toNat = k from rfl, List.getElem?_map, hnm]; rfl) (by kernel_rfl) (st_ fun tv => ?_)
 kp_kind "r"
 refine mkRegister_ (by kp_kind "room") fun R Rd => ?_
 kp_kind "r"
 exact ⟨_, Keep.consC (Keep.skip (Keep.skip Keep.refl)), h R Rd nm⟩
section
variable (p : Params)
theorem opG : specialIn (myK p) (.ref 670) "__getattribute__" = some (some (.builtin "type.__getattribute__")) := by kernel_rfl
theorem opR : readsIn (myK p) 670 (.type "type") = true := by kernel_rfl
theorem opF : findCls (myK p) (.ref 670) (.type "type") n___init__ = some (.val (.ref 646)) := by kernel_rfl
theorem opK : keepIn (myK p) (.ref 646) = true := by kernel_rfl
end
theorem opInit_ {C a d : Addr} {kd : Str} {t : Tok} {n' : Led} (st : SetIn c.K C n_kind) (hp : Put a (.inst C d []) (.inst C d [(n_kind, .str kd 0)]) n n') (hr : 1 ≤ u.r) (h : Q .none m n') : V c u env (call (.ref 646) [.ref a, .str kd t]) Q E m n := by
 refine Call_ (fOperand_init _) (Binds.pure (binds := [(n_self, .ref a), (n_kind, .str kd t)]) (fun _ _ _ _ _ => by kernel_rfl)) (by kernel_rfl) (m₀ := [(n_kind, .str kd t), (n_self, .ref a)]) rfl (by omega) ?_
 intro L _ _ _ _
 refine execs_cons ?_
 kp_kind "names"
 kp_kind "r"
 refine setA2 hp (by kernel_rfl) (Nat.le_of_ble_eq_true (by kernel_rfl)) st ?_
 kp_kind "r"
 exact h
theorem mkReg_ {R : Addr} (hr : 3 ≤ u.r) (h : ∀ o od, Q (.ref o) m ((o, .inst 705 od (opRegL R)) :: n)) : V c u env (call (.ref 705) [.ref R]) Q E m n := by
 refine Make_ (by kernel_rfl) (by kernel_rfl) (by kernel_rfl) (fReg_init _) (fun x => Binds.pure (binds := [(n_self, x), (n_register, .ref R)]) (fun _ _ _ _ _ => by kernel_rfl)) (fun x => by kernel_rfl) (m₀ := fun x => [(n_register, .ref R), (n_self, x)]) (fun x => rfl) (by omega) ?_
 intro a d L _ _ _ _
 refine execs_cons ?_
 kp_kind "names"
 kp_kind "r"
 refine methC_ (v := .ref 646) (opG _) (opR _) (opF _) rfl ?_
 refine callK_ (opK _) (by kernel_rfl) (by kernel_rfl) ?_
 kp_kind "r"
 refine opInit_ (wt_ (by kp_kind "dq")) .here (by kp_kind "room") ?_
 repeat (first | kp_kind "1" | kp_kind "set")
 exact ⟨rfl, h a d⟩
section
variable (p : Params)
theorem dfl715 : (myK p).lookup 715 = some { cls := .type "tuple", data := .seq #[.str nS 1157] 0 } := by kernel_rfl
theorem dfl749 : (myK p).lookup 749 = some { cls := .type "tuple", data := .seq #[.str nS 1199] 0 } := by kernel_rfl
theorem dfl790 : (myK p).lookup 790 = some { cls := .type "tuple", data := .seq #[.int 0 1249, .str nS 1250, .str nS 1251] 0 } := by kernel_rfl
theorem dfl843 : (myK p).lookup 843 = some { cls := .type "tuple", data := .seq #[.str nS 1325] 0 } := by kernel_rfl
theorem bindsImm (e x : Value) : Binds (myK p) (Str.ofString "Imm.__init__") (paramsOf sImm_init) (.ref 715) ⟨[e, x], []⟩ [(n_self, e), (n_worth, x), (n_name, .str nS 1157)] :=
 Binds.dflt (dfl715 p) rfl fun name body scope pm cd => by
  refine ⟨?k, ?a, ?b⟩
  case a => unfold bindArgs; exact rfl
  case b => kernel_rfl
theorem bindsRel (e x : Value) : Binds (myK p) (Str.ofString "Rel.__init__") (paramsOf sRel_init) (.ref 749) ⟨[e, x], []⟩ [(n_self, e), (n_worth, x), (n_name, .str nS 1199)] :=
 Binds.dflt (dfl749 p) rfl fun name body scope pm cd => by
  refine ⟨?k, ?a, ?b⟩
  case a => unfold bindArgs; exact rfl
  case b => kernel_rfl
theorem bindsMem (e b i s w z : Value) : Binds (myK p) (Str.ofString "Mem.__init__") (paramsOf sMem_init) (.ref 790) ⟨[e, b, i, s, w, z], []⟩ [(n_self, e), (n_base, b), (n_index, i), (n_scale, s), (n_worth, w), (n_size, z), (n_segment, .str nS 1250), (n_name, .str nS 1251)] :=
 Binds.dflt (dfl790 p) rfl fun name body scope pm cd => by
  refine ⟨?k, ?a, ?b⟩
  case a => unfold bindArgs; exact rfl
  case b => kernel_rfl
theorem bindsInstr (e x o : Value) : Binds (myK p) (Str.ofString "Instruction.__init__") (paramsOf sInstruction_init) (.ref 843) ⟨[e, x, o], []⟩ [(n_self, e), (n_name, x), (n_operands, o), (n_prefix, .str nS 1325)] :=
 Binds.dflt (dfl843 p) rfl fun name body scope pm cd => by
  refine ⟨?k, ?a, ?b⟩
  case a => unfold bindArgs; exact rfl
  case b => kernel_rfl
end
theorem mkImm_ {i : Int} {t : Tok} (hr : 3 ≤ u.r) (h : ∀ o od, Q (.ref o) m ((o, .inst 739 od (opImmL i)) :: n)) : V c u env (call (.ref 739) [.int i t]) Q E m n := by
 refine Make_ (by kernel_rfl) (by kernel_rfl) (by kernel_rfl) (fImm_init _) (fun x => bindsImm _ x _) (fun x => by kernel_rfl) (m₀ := fun x => [(n_name, .str nS 1157), (n_worth, .int i t), (n_self, x)]) (fun x => rfl) (by omega) ?_
 intro a d L _ _ _ _
 refine execs_cons ?_
 kp_kind "names"
 kp_kind "r"
 refine methC_ (v := .ref 646) (opG _) (opR _) (opF _) rfl ?_
 refine callK_ (opK _) (by kernel_rfl) (by kernel_rfl) ?_
 kp_kind "r"
 refine opInit_ (wt_ (by kp_kind "dq")) .here (by kp_kind "room") ?_
 repeat (first | kp_kind "1" | kp_kind "set")
 exact ⟨rfl, h a d⟩
theorem mkRel_ {i : Int} {t : Tok} (hr : 3 ≤ u.r) (h : ∀ o od, Q (.ref o) m ((o, .inst 780 od (opRelL i)) :: n)) : V c u env (call (.ref 780) [.int i t]) Q E m n := by
 refine Make_ (by kernel_rfl) (by kernel_rfl) (by kernel_rfl) (fRel_init _) (fun x => bindsRel _ x _) (fun x => by kernel_rfl) (m₀ := fun x => [(n_name, .str nS 1199), (n_worth, .int i t), (n_self, x)]) (fun x => rfl) (by omega) ?_
 intro a d L _ _ _ _
 refine execs_cons ?_
 kp_kind "names"
 kp_kind "r"
 refine methC_ (v := .ref 646) (opG _) (opR _) (opF _) rfl ?_
 refine callK_ (opK _) (by kernel_rfl) (by kernel_rfl) ?_
 kp_kind "r"
 refine opInit_ (wt_ (by kp_kind "dq")) .here (by kp_kind "room") ?_
 repeat (first | kp_kind "1" | kp_kind "set")
 exact ⟨rfl, h a d⟩
theorem mkMemOp_ {p : Int} {t t' t'' : Tok} (hr : 3 ≤ u.r) (h : ∀ o od, Q (.ref o) m ((o, .inst 833 od (opMemL p)) :: n)) : V c u env (call (.ref 833) [.none, .none, .int 1 t, .int p t', .int 8 t'']) Q E m n := by
 refine Make_ (by kernel_rfl) (by kernel_rfl) (by kernel_rfl) (fMem_init _) (fun x => bindsMem _ x _ _ _ _ _) (fun x => by kernel_rfl)
  (m₀ := fun x => [(n_name, .str nS 1251), (n_segment, .str nS 1250), (n_size, .int 8 t''), (n_worth, .int p t'), (n_scale, .int 1 t), (n_index, .none), (n_base, .none), (n_self, x)]) (fun x => rfl) (by omega) fun a d L => ?_
 refine execs_cons ?_
 kp_kind "names"
 kp_kind "r"
 refine methC_ (v := .ref 646) (opG _) (opR _) (opF _) rfl ?_
 refine callK_ (opK _) (by kernel_rfl) (by kernel_rfl) ?_
 kp_kind "r"
 refine opInit_ (wt_ (by kp_kind "dq")) .here (by kp_kind "room") ?_
 repeat (first | kp_kind "1" | kp_kind "set")
 exact ⟨rfl, h a d⟩
theorem tupT_ {a : Addr} {xs : List Value} (hm : (a, AObj.tup xs) ∈ n) (h : Q (.ref a) m n) : V c u env (call (.type "tuple") [.ref a]) Q E m n :=
 V.val _ (fun A hp tk ok fit md Q' E' hq => by
  obtain ⟨vs, e, ho, em⟩ := tup_at (md.led _ hm)
  exact call_tuple_tup (s := ⟨hp, _, _, _, _⟩) ⟨_, ho, rfl, e, rfl⟩ (hq _)) h
theorem mkIns_ {nm : Str} {t : Tok} {tp : Addr} {xs : List Value} (hm : (tp, AObj.tup xs) ∈ n) (hx : xs.length ≤ 100) (hr : 3 ≤ u.r) (h : ∀ i id, Q (.ref i) m ((i, .inst 886 id (insL nm tp)) :: n)) : V c u env (call (.ref 886) [.str nm t, .ref tp]) Q E m n := by
 refine Make_ (by kernel_rfl) (by kernel_rfl) (by kernel_rfl) (fInstruction_init _) (fun x => bindsInstr _ x _ _) (fun x => by kernel_rfl) (m₀ := fun x => [(n_prefix, .str nS 1325), (n_operands, .ref tp), (n_name, .str nm t), (n_self, x)]) (fun x => rfl) (by omega) ?_
 intro a d L _ _ _ _
 refine execs_cons ?_
 kp_kind "names"
 repeat (first | kp_kind "1" | kp_kind "set")
 refine tupT_ (xs := xs) (by kp_kind "mem") ?_
 repeat (first | kp_kind "1" | kp_kind "set")
 exact ⟨rfl, h a d⟩
theorem mkDec_ {i : Addr} {t : Tok} (hr : 3 ≤ u.r) (h : ∀ f fd, Q (.ref f) m ((f, .inst 193 fd (decL i)) :: n)) : V c u env (call (.ref 193) [.ref i, .int 2 t, .none, .none]) Q E m n := by
 refine Make_ (by kernel_rfl) (by kernel_rfl) (by kernel_rfl) (fDecoded_init _) (fun x => Binds.pure (binds := [(n_self, x), (n_instruction, .ref i), (n_length, .int 2 t), (n_form, .none), (n_prefixes, .none)]) (fun _ _ _ _ _ => by kernel_rfl)) (fun x => by kernel_rfl)
  (m₀ := fun x => [(n_prefixes, .none), (n_form, .none), (n_length, .int 2 t), (n_instruction, .ref i), (n_self, x)]) (fun x => rfl) (by omega) fun a d L => ?_
 refine execs_cons ?_
 kp_kind "names"
 repeat (first | kp_kind "1" | kp_kind "set")
 exact ⟨rfl, h a d⟩
end
theorem Keep.appC {a b : Led} (l : Led) (h : Keep a b) : Keep (l ++ a) (l ++ b) := by
 induction l with
 | nil => exact h
 | cons x l ih => exact Keep.consC ih
noncomputable def rawF (s : List Int) (seed : Int) (k : Nat) : Int := if k < s.length then s.getD k 0 else (((seed + 7919 * k) * 2654435761).fmod 4294967291).fdiv 16
structure Pen where
 p : Addr
 l : Addr
 s : List Int
 seed : Int
noncomputable def penL (w : World) (N : Pen) (k : Nat) : Led := [(N.p, .list [.ref N.l, .int k 0, .int N.seed 0]), (N.l, .ints N.s)]
theorem penL_eq (w : World) (N : Pen) (k : Nat) (n : Led) : penL w N k ++ n = (N.p, .list [.ref N.l, .int k 0, .int N.seed 0]) :: (N.l, .ints N.s) :: n := rfl
structure Pen.ok (N : Pen) (k : Nat) : Prop where
 few : N.s.length ≤ 60
 seed : 0 ≤ N.seed ∧ N.seed < 1000003
 spot : k ≤ 1000
section
variable {c : Cx} {u : Cu} {env : Env} {E : EP} {m : Loc} {n : Led} {Q : Value → Loc → Led → Prop} {N : Pen} {k : Nat}
theorem raw_ (ok : N.ok k) (hr : 2 ≤ u.r) (h : ∀ t, Q (.int (rawF N.s N.seed k) t) m (penL c.w N (k + 1) ++ n)) : V c u env (call (.ref 1089) [.ref N.p]) Q E m (penL c.w N k ++ n) := by
 rw [penL_eq]
 refine Call_ (f_law_raw _) (Binds.pure (binds := [(n_pen, .ref N.p)]) (fun _ _ _ _ _ => by kernel_rfl)) (by kernel_rfl) (m₀ := [(n_pen, .ref N.p)]) rfl (by lia) ?_
 intro L _ _ _ _
 refine execs_cons ?_
 kp_kind "names"
 kp_kind "r"
 refine subL_ (xs := [.ref N.l, .int k 0, .int N.seed 0]) (x := .int k 0) (by kp_kind "mem") (by decide) (by decide) rfl (by kernel_rfl) (it_ fun t1 => ?_)
 kp_kind "r"
 refine setItemL_ (xs := [.ref N.l, .int k 0, .int N.seed 0]) .here (by decide) (by decide) (by simp) ?_
 show V _ _ _ _ _ _ _ ((N.p, .list [.ref N.l, .int ((k : Int) + 1) 0, .int N.seed 0]) :: (N.l, .ints N.s) :: n)
 kp_kind "r"
 refine subL_ (xs := [.ref N.l, .int ((k : Int) + 1) 0, .int N.seed 0]) (x := .ref N.l) (by kp_kind "mem") (by decide) (by decide) rfl (by kernel_rfl) (rf ?_)
 kp_kind "r"
 refine lenI_ (ns := N.s) (by kp_kind "mem") (by have := ok.few; lia) fun t2 => ?_
 kp_kind "r"
 by_cases hk : k < N.s.length
 ·refine ifT (by simpa using hk) ?_
  kp_kind "r"
  refine subL_ (xs := [.ref N.l, .int ((k : Int) + 1) 0, .int N.seed 0]) (x := .ref N.l) (by kp_kind "mem") (by decide) (by decide) rfl (by kernel_rfl) (rf ?_)
  kp_kind "r"
  refine subLI_ (ns := N.s) (by kp_kind "mem") (by lia) (by have := ok.spot; lia) (by simpa using hk) (by kernel_rfl) fun t3 => ?_
  kp_kind "r"
  refine intInt_ ?_
  kp_kind "r"
  have e : rawF N.s N.seed k = N.s.getD (k : Int).toNat 0 := by unfold rawF; rw [if_pos hk]; rfl
  rw [e] at h
  exact h _
 ·refine ifF (by simpa using hk) ?_
  kp_kind "r"
  refine subL_ (xs := [.ref N.l, .int ((k : Int) + 1) 0, .int N.seed 0]) (x := .int N.seed 0) (by kp_kind "mem") (by decide) (by decide) rfl (by kernel_rfl) (it_ fun t3 => ?_)
  kp_kind "r"
  refine mul_ (IntMulOk.of_left (by decide)) fun t4 => ?_
  kp_kind "r"
  refine mul_ (IntMulOk.of_right (by decide)) fun t5 => ?_
  kp_kind "r"
  refine mod_ (by decide) fun t6 => ?_
  kp_kind "r"
  have e : rawF N.s N.seed k = (((N.seed + 7919 * k) * 2654435761).fmod 4294967291).fdiv 16 := by unfold rawF; rw [if_neg hk]
  rw [e] at h
  exact h _
theorem draw_ {many : Int} {t : Tok} (hm : many ≠ 0) (ok : N.ok k) (hr : 3 ≤ u.r) (h : ∀ t, Q (.int ((rawF N.s N.seed k).fmod many) t) m (penL c.w N (k + 1) ++ n)) : V c u env (call (.ref 1096) [.ref N.p, .int many t]) Q E m (penL c.w N k ++ n) := by
 refine Call_ (f_law_draw _) (Binds.pure (binds := [(n_pen, .ref N.p), (n_many, .int many t)]) (fun _ _ _ _ _ => by kernel_rfl)) (by kernel_rfl) (m₀ := [(n_many, .int many t), (n_pen, .ref N.p)]) rfl (by lia) ?_
 intro L _ _ _ _
 refine execs_cons ?_
 kp_kind "names"
 kp_kind "r"
 refine raw_ ok (by kp_kind "room") fun t => ?_
 kp_kind "r"
 refine mod_ hm fun t => ?_
 kp_kind "r"
 exact h _
theorem reg_ {j : Nat} {t : Tok} (hj : j < 8) (hr : 12 ≤ u.r) (h : ∀ o l, (∀ n', OpReg (l ++ n') j o) → Q (.ref o) m (l ++ n)) : V c u env (call (.ref 1103) [.int j t]) Q E m n := by
 refine Call_ (f_law_reg _) (Binds.pure (binds := [(n_number, .int j t)]) (fun _ _ _ _ _ => by kernel_rfl)) (by kernel_rfl) (m₀ := [(n_number, .int j t)]) rfl (by lia) ?_
 intro L _ _ _ _
 refine execs_cons ?_
 kp_kind "names"
 kp_kind "r"
 refine gpr_ hj (by kp_kind "room") fun R Rd nm => ?_
 kp_kind "r"
 refine mkReg_ (by kp_kind "room") fun o od => ?_
 kp_kind "r"
 exact h o [(o, .inst 705 od (opRegL R)), (R, .inst 368 Rd (regL nm j))] fun n' => ⟨od, R, .head _, Rd, nm, .tail _ (.head _)⟩
inductive RowV where
 | store (raw : Int)
 | rel (way : Nat) (raw : Int)
 | ins (I : Ins)
noncomputable def wayN (way : Nat) : Str := [n_loop, n_jmp, n_call].getD way nS
noncomputable def RowIn (n : Led) : RowV → Addr → Prop
 | .store raw, v => (v, AObj.tup [.str n_store 0, .int raw 0]) ∈ n
 | .rel way raw, v => way < 3 ∧ (v, AObj.tup [.str (wayN way) 0, .int raw 0]) ∈ n
 | .ins I, v => InsIn n I v
noncomputable def rowF (sort raw : Int) : RowV :=
 if sort = 0 ∨ sort = 8 ∨ sort = 9 then .store raw
 else if sort = 1 then .ins (.push (raw.fmod 4).toNat)
 else if sort = 2 then .ins (.pop (if raw.fmod 2 = 0 then 0 else 3))
 else if sort = 3 ∨ sort = 4 ∨ sort = 5 then .rel (sort - 3).toNat raw
 else if sort = 6 then .ins (if raw.fmod 4 = 0 then .ret else if raw.fmod 4 = 1 then .hlt else if raw.fmod 4 = 2 then .ud2 else .nop)
 else .ins (.mov ((raw.fdiv 4).fmod 4).toNat (raw.fmod 4))
theorem rowF_0 (raw : Int) : rowF 0 raw = .store raw := rfl
theorem rowF_8 (raw : Int) : rowF 8 raw = .store raw := rfl
theorem rowF_9 (raw : Int) : rowF 9 raw = .store raw := rfl
theorem lt4 {x : Int} (h : 0 ≤ x ∧ x < 4) : x.toNat < 4 := (Int.toNat_lt h.1).mpr h.2
theorem rowF_1 (raw : Int) : rowF 1 raw = .ins (.push (raw.fmod 4).toNat) := rfl
theorem rowF_2 (raw : Int) : rowF 2 raw = .ins (.pop (if raw.fmod 2 = 0 then 0 else 3)) := rfl
theorem rowF_3 (raw : Int) : rowF 3 raw = .rel 0 raw := rfl
theorem rowF_4 (raw : Int) : rowF 4 raw = .rel 1 raw := rfl
theorem rowF_5 (raw : Int) : rowF 5 raw = .rel 2 raw := rfl
theorem rowF_6 (raw : Int) : rowF 6 raw = .ins (if raw.fmod 4 = 0 then .ret else if raw.fmod 4 = 1 then .hlt else if raw.fmod 4 = 2 then .ud2 else .nop) := rfl
theorem rowF_7 (raw : Int) : rowF 7 raw = .ins (.mov ((raw.fdiv 4).fmod 4).toNat (raw.fmod 4)) := rfl
theorem row_ (ok : N.ok (k + 1)) (hr : 16 ≤ u.r) (hh : u.hd = none) (h : ∀ v l, (∀ n', RowIn (l ++ n') (rowF ((rawF N.s N.seed k).fmod 10) (rawF N.s N.seed (k + 1))) v) → Q (.ref v) m (l ++ (penL c.w N (k + 2) ++ n))) : V c u env (call (.ref 1110) [.ref N.p]) Q E m (penL c.w N k ++ n) := by
 have ok0 : N.ok k := ⟨ok.few, ok.seed, by have := ok.spot; lia⟩
 refine V.keepN ?_
 refine Call_ (f_law_row _) (Binds.pure (binds := [(n_pen, .ref N.p)]) (fun _ _ _ _ _ => by kernel_rfl)) (by kernel_rfl) (m₀ := [(n_pen, .ref N.p)]) rfl (by lia) ?_
 intro L _ _ _ _
 refine execs_cons ?_
 kp_kind "names"
 kp_kind "r"
 refine AssignSw_ (names := [n_sort, n_raw]) (by exact hh) (by kernel_rfl) ?_
 kp_kind "r"
 refine draw_ (by decide) ok0 (by kp_kind "room") fun t1 => ?_
 kp_kind "r"
 refine raw_ ok (by kp_kind "room") fun t2 => ?_
 kp_kind "r"
 rename_i T0
 refine unpII (by kernel_rfl) (by kernel_rfl) fun tx ty => ?_
 have hs0 : 0 ≤ (rawF N.s N.seed k).fmod 10 := Int.fmod_nonneg_of_pos _ (by decide)
 have hs1 : (rawF N.s N.seed k).fmod 10 < 10 := Int.fmod_lt_of_pos _ (by decide)
 generalize (rawF N.s N.seed k).fmod 10 = s at hs0 hs1 h ⊢
 generalize rawF N.s N.seed (k + 1) = raw at h ⊢
 refine V.keep0 (n' := penL c.w N (k + 2) ++ n) (Keep.skip Keep.refl) ?_
 repeat (first | kp_kind "1" | refine inOrd_ ?_ | refine inOrd0_ ?_ | refine bindN_ ?_)
 refine inT_ (ns := [0, 8, 9]) (by kp_kind "mem") ?_
 have cs : s = 0 ∨ s = 1 ∨ s = 2 ∨ s = 3 ∨ s = 4 ∨ s = 5 ∨ s = 6 ∨ s = 7 ∨ s = 8 ∨ s = 9 := by lia
 have hm4 : 0 ≤ raw.fmod 4 ∧ raw.fmod 4 < 4 := ⟨Int.fmod_nonneg_of_pos _ (by decide), Int.fmod_lt_of_pos _ (by decide)⟩
 have hm2 : 0 ≤ raw.fmod 2 ∧ raw.fmod 2 < 2 := ⟨Int.fmod_nonneg_of_pos _ (by decide), Int.fmod_lt_of_pos _ (by decide)⟩
 have hd4 : 0 ≤ (raw.fdiv 4).fmod 4 ∧ (raw.fdiv 4).fmod 4 < 4 := ⟨Int.fmod_nonneg_of_pos _ (by decide), Int.fmod_lt_of_pos _ (by decide)⟩
 rcases cs with rfl | rfl | rfl | rfl | rfl | rfl | rfl | rfl | rfl | rfl
 ·rw [rowF_0] at h
  kp_kind "r"
  rename_i T1 _ T2
  exact ⟨_, Keep.consC (Keep.skip Keep.refl), h T2 [(T2, .tup [.str n_store 0, .int raw 0])] fun _ => .head _⟩
 ·rw [rowF_1] at h
  kp_kind "r"
  refine mod_ (by decide) fun t3 => ?_
  kp_kind "r"
  rw [show raw.fmod 4 = (((raw.fmod 4).toNat : Nat) : Int) from (Int.toNat_of_nonneg hm4.1).symm]
  refine reg_ (Nat.lt_trans (lt4 hm4) (by decide)) (by kp_kind "room") fun o l ho => ?_
  kp_kind "r"
  rename_i tp
  refine mkIns_ (xs := [.ref o]) (by kp_kind "mem") (by simp) (by kp_kind "room") fun i id => ?_
  kp_kind "r"
  refine ⟨_, ?_, h i ((i, .inst 886 id (insL n_push tp)) :: (tp, .tup [.ref o]) :: l) fun n' => ⟨Nat.lt_trans (lt4 hm4) (by decide), id, tp, [.ref o], .head _, .tail _ (.head _), o, rfl, (ho n').sub fun p hp => .tail _ (.tail _ hp)⟩⟩
  exact Keep.consC (Keep.consC (Keep.appC l (Keep.skip Keep.refl)))
 ·rw [rowF_2] at h
  kp_kind "r"
  refine mod_ (by decide) fun t3 => ?_
  kp_kind "r"
  have fin : ∀ (j : Nat) (o : Addr) (l : Led) (i id tp : Addr), j < 16 → (∀ n', OpReg (l ++ n') j o) → ∀ n', RowIn (((i, AObj.inst 886 id (insL n_pop tp)) :: (tp, AObj.tup [.ref o]) :: l) ++ n') (.ins (.pop j)) i :=
   fun j o l i id tp hj ho n' => ⟨hj, id, tp, [.ref o], .head _, .tail _ (.head _), o, rfl, (ho n').sub fun p hp => .tail _ (.tail _ hp)⟩
  have cq : raw.fmod 2 = 0 ∨ raw.fmod 2 = 1 := by rw [Int.fmod_eq_emod_of_nonneg _ (by decide)]; exact Int.emod_two_eq _
  rcases cq with hq | hq
  ·simp only [hq] at h ⊢
   (try rw [if_pos rfl] at h)
   (try rw [if_neg (by decide)] at h)
   (try rw [if_pos rfl] at h)
   (try rw [if_neg (by decide)] at h)
   (try rw [if_pos rfl] at h)
   (try rw [if_neg (by decide)] at h)
   refine subL_ (xs := [vi 0, vi 3]) (x := vi 0) (by kp_kind "mem") (by decide) (by decide) rfl (by kernel_rfl) (it_ fun tv => ?_)
   kp_kind "r"
   refine reg_ (j := 0) (by decide) (by kp_kind "room") fun o l ho => ?_
   kp_kind "r"
   rename_i tp
   refine mkIns_ (xs := [.ref o]) (by kp_kind "mem") (by simp) (by kp_kind "room") fun i id => ?_
   kp_kind "r"
   refine ⟨_, ?_, h i ((i, .inst 886 id (insL n_pop tp)) :: (tp, .tup [.ref o]) :: l) (fin 0 o l i id tp (by decide) ho)⟩
   exact Keep.consC (Keep.consC (Keep.appC l (Keep.skip (Keep.skip Keep.refl))))
  ·simp only [hq] at h ⊢
   (try rw [if_pos rfl] at h)
   (try rw [if_neg (by decide)] at h)
   (try rw [if_pos rfl] at h)
   (try rw [if_neg (by decide)] at h)
   (try rw [if_pos rfl] at h)
   (try rw [if_neg (by decide)] at h)
   refine subL_ (xs := [vi 0, vi 3]) (x := vi 3) (by kp_kind "mem") (by decide) (by decide) rfl (by kernel_rfl) (it_ fun tv => ?_)
   kp_kind "r"
   refine reg_ (j := 3) (by decide) (by kp_kind "room") fun o l ho => ?_
   kp_kind "r"
   rename_i tp
   refine mkIns_ (xs := [.ref o]) (by kp_kind "mem") (by simp) (by kp_kind "room") fun i id => ?_
   kp_kind "r"
   refine ⟨_, ?_, h i ((i, .inst 886 id (insL n_pop tp)) :: (tp, .tup [.ref o]) :: l) (fin 3 o l i id tp (by decide) ho)⟩
   exact Keep.consC (Keep.consC (Keep.appC l (Keep.skip (Keep.skip Keep.refl))))
 ·rw [rowF_3] at h
  kp_kind "r"
  refine inT_ (ns := [3, 4, 5]) (by kp_kind "mem") ?_
  kp_kind "r"
  refine subL_ (xs := [vx n_loop, vx n_jmp, vx n_call]) (x := vx n_loop) (by kp_kind "mem") (by decide) (by decide) rfl (by kernel_rfl) (st_ fun tv => ?_)
  kp_kind "r"
  rename_i T2
  exact ⟨_, Keep.consC (Keep.skip (Keep.drop [_, _] Keep.refl)), h T2 [(T2, .tup [.str n_loop 0, .int raw 0])] fun _ => ⟨by decide, .head _⟩⟩
 ·rw [rowF_4] at h
  kp_kind "r"
  refine inT_ (ns := [3, 4, 5]) (by kp_kind "mem") ?_
  kp_kind "r"
  refine subL_ (xs := [vx n_loop, vx n_jmp, vx n_call]) (x := vx n_jmp) (by kp_kind "mem") (by decide) (by decide) rfl (by kernel_rfl) (st_ fun tv => ?_)
  kp_kind "r"
  rename_i T2
  exact ⟨_, Keep.consC (Keep.skip (Keep.drop [_, _] Keep.refl)), h T2 [(T2, .tup [.str n_jmp 0, .int raw 0])] fun _ => ⟨by decide, .head _⟩⟩
 ·rw [rowF_5] at h
  kp_kind "r"
  refine inT_ (ns := [3, 4, 5]) (by kp_kind "mem") ?_
  kp_kind "r"
  refine subL_ (xs := [vx n_loop, vx n_jmp, vx n_call]) (x := vx n_call) (by kp_kind "mem") (by decide) (by decide) rfl (by kernel_rfl) (st_ fun tv => ?_)
  kp_kind "r"
  rename_i T2
  exact ⟨_, Keep.consC (Keep.skip (Keep.drop [_, _] Keep.refl)), h T2 [(T2, .tup [.str n_call 0, .int raw 0])] fun _ => ⟨by decide, .head _⟩⟩
 ·rw [rowF_6] at h
  kp_kind "r"
  refine inT_ (ns := [3, 4, 5]) (by kp_kind "mem") ?_
  kp_kind "r"
  refine mod_ (by decide) fun t3 => ?_
  kp_kind "r"
  have cq : raw.fmod 4 = 0 ∨ raw.fmod 4 = 1 ∨ raw.fmod 4 = 2 ∨ raw.fmod 4 = 3 := by lia
  rcases cq with hq | hq | hq | hq
  ·simp only [hq] at h ⊢
   (try rw [if_pos rfl] at h)
   (try rw [if_neg (by decide)] at h)
   (try rw [if_pos rfl] at h)
   (try rw [if_neg (by decide)] at h)
   (try rw [if_pos rfl] at h)
   (try rw [if_neg (by decide)] at h)
   refine subL_ (xs := [vx n_ret, vx n_hlt, vx n_ud2, vx n_nop]) (x := vx n_ret) (by kp_kind "mem") (by decide) (by decide) rfl (by kernel_rfl) (st_ fun tv => ?_)
   kp_kind "r"
   rename_i tp
   refine mkIns_ (xs := []) (by kp_kind "mem") (by simp) (by kp_kind "room") fun i id => ?_
   kp_kind "r"
   refine ⟨_, ?_, h i [(i, .inst 886 id (insL n_ret tp)), (tp, .tup [])] fun n' => ⟨trivial, id, tp, [], .head _, .tail _ (.head _), rfl⟩⟩
   exact Keep.consC (Keep.consC (Keep.drop [_, _, _] Keep.refl))
  ·simp only [hq] at h ⊢
   (try rw [if_pos rfl] at h)
   (try rw [if_neg (by decide)] at h)
   (try rw [if_pos rfl] at h)
   (try rw [if_neg (by decide)] at h)
   (try rw [if_pos rfl] at h)
   (try rw [if_neg (by decide)] at h)
   refine subL_ (xs := [vx n_ret, vx n_hlt, vx n_ud2, vx n_nop]) (x := vx n_hlt) (by kp_kind "mem") (by decide) (by decide) rfl (by kernel_rfl) (st_ fun tv => ?_)
   kp_kind "r"
   rename_i tp
   refine mkIns_ (xs := []) (by kp_kind "mem") (by simp) (by kp_kind "room") fun i id => ?_
   kp_kind "r"
   refine ⟨_, ?_, h i [(i, .inst 886 id (insL n_hlt tp)), (tp, .tup [])] fun n' => ⟨trivial, id, tp, [], .head _, .tail _ (.head _), rfl⟩⟩
   exact Keep.consC (Keep.consC (Keep.drop [_, _, _] Keep.refl))
  ·simp only [hq] at h ⊢
   (try rw [if_pos rfl] at h)
   (try rw [if_neg (by decide)] at h)
   (try rw [if_pos rfl] at h)
   (try rw [if_neg (by decide)] at h)
   (try rw [if_pos rfl] at h)
   (try rw [if_neg (by decide)] at h)
   refine subL_ (xs := [vx n_ret, vx n_hlt, vx n_ud2, vx n_nop]) (x := vx n_ud2) (by kp_kind "mem") (by decide) (by decide) rfl (by kernel_rfl) (st_ fun tv => ?_)
   kp_kind "r"
   rename_i tp
   refine mkIns_ (xs := []) (by kp_kind "mem") (by simp) (by kp_kind "room") fun i id => ?_
   kp_kind "r"
   refine ⟨_, ?_, h i [(i, .inst 886 id (insL n_ud2 tp)), (tp, .tup [])] fun n' => ⟨trivial, id, tp, [], .head _, .tail _ (.head _), rfl⟩⟩
   exact Keep.consC (Keep.consC (Keep.drop [_, _, _] Keep.refl))
  ·simp only [hq] at h ⊢
   (try rw [if_pos rfl] at h)
   (try rw [if_neg (by decide)] at h)
   (try rw [if_pos rfl] at h)
   (try rw [if_neg (by decide)] at h)
   (try rw [if_pos rfl] at h)
   (try rw [if_neg (by decide)] at h)
   refine subL_ (xs := [vx n_ret, vx n_hlt, vx n_ud2, vx n_nop]) (x := vx n_nop) (by kp_kind "mem") (by decide) (by decide) rfl (by kernel_rfl) (st_ fun tv => ?_)
   kp_kind "r"
   rename_i tp
   refine mkIns_ (xs := []) (by kp_kind "mem") (by simp) (by kp_kind "room") fun i id => ?_
   kp_kind "r"
   refine ⟨_, ?_, h i [(i, .inst 886 id (insL n_nop tp)), (tp, .tup [])] fun n' => ⟨trivial, id, tp, [], .head _, .tail _ (.head _), rfl⟩⟩
   exact Keep.consC (Keep.consC (Keep.drop [_, _, _] Keep.refl))
 ·rw [rowF_7] at h
  kp_kind "r"
  refine inT_ (ns := [3, 4, 5]) (by kp_kind "mem") ?_
  kp_kind "r"
  refine mod_ (by decide) fun t4 => ?_
  kp_kind "r"
  have e4 : (raw.fdiv 4).fmod 4 = ((((raw.fdiv 4).fmod 4).toNat : Nat) : Int) := (Int.toNat_of_nonneg hd4.1).symm
  rw [e4]
  refine reg_ (Nat.lt_trans (lt4 hd4) (by decide)) (by kp_kind "room") fun o l ho => ?_
  kp_kind "r"
  refine mod_ (by decide) fun t5 => ?_
  kp_kind "r"
  refine mkImm_ (by kp_kind "room") fun o2 od2 => ?_
  kp_kind "r"
  rename_i tp
  refine mkIns_ (xs := [.ref o, .ref o2]) (by kp_kind "mem") (by simp) (by kp_kind "room") fun i id => ?_
  kp_kind "r"
  refine ⟨_, ?_, h i ((i, .inst 886 id (insL n_mov tp)) :: (tp, .tup [.ref o, .ref o2]) :: (o2, .inst 739 od2 (opImmL (raw.fmod 4))) :: l) fun n' => ⟨Nat.lt_trans (lt4 hd4) (by decide), id, tp, [.ref o, .ref o2], .head _, .tail _ (.head _), o, o2, rfl, (ho n').sub fun p hp => .tail _ (.tail _ (.tail _ hp)), od2, .tail _ (.tail _ (.head _))⟩⟩
  exact Keep.consC (Keep.consC (Keep.consC (Keep.appC l (Keep.skip (Keep.skip Keep.refl)))))
 ·rw [rowF_8] at h
  kp_kind "r"
  rename_i T1 _ T2
  exact ⟨_, Keep.consC (Keep.skip Keep.refl), h T2 [(T2, .tup [.str n_store 0, .int raw 0])] fun _ => .head _⟩
 ·rw [rowF_9] at h
  kp_kind "r"
  rename_i T1 _ T2
  exact ⟨_, Keep.consC (Keep.skip Keep.refl), h T2 [(T2, .tup [.str n_store 0, .int raw 0])] fun _ => .head _⟩
end
noncomputable def cover (S : List Int) (l : Mem) : Mem := l.map fun q => if S.any (· == q.1) then (q.1, 204) else q
theorem cover_nil (l : Mem) : cover [] l = l := by
 unfold cover
 conv => rhs; rw [← List.map_id l]
 exact List.map_congr_left fun q _ => by simp
theorem cover_len (S : List Int) (l : Mem) : (cover S l).length = l.length := by unfold cover; simp
theorem mget_cover (S : List Int) (a : Int) : ∀ l : Mem, mget (cover S l) a = (mget l a).map fun v => if S.any (· == a) then 204 else v
 | [] => rfl
 | q :: l => by
  have ih := mget_cover S a l
  unfold mget cover at ih ⊢
  rw [List.map_cons, List.find?_cons, List.find?_cons]
  by_cases h : q.1 = a
  ·subst h
   cases hS : S.any (· == q.1) with
   | true => simp
   | false => simp
  ·have h1 : decide ((if S.any (· == q.1) then (q.1, (204 : Int)) else q).1 = a) = false := by split <;> simpa using h
   simp only [h1, h, decide_false]
   exact ih
theorem any_keys (S : List Int) (a : Int) (l : Mem) : (cover S l).any (fun q => decide (q.1 = a)) = l.any (fun q => decide (q.1 = a)) := by
 unfold cover
 rw [List.any_map]
 congr 1
 funext q
 simp only [Function.comp]
 split <;> rfl
theorem mem_filter_ne (S : List Int) (a b : Int) (h : b ≠ a) : (S.filter (fun x => x != a)).any (· == b) = S.any (· == b) := by
 induction S with
 | nil => rfl
 | cons x S ih =>
  rw [List.filter_cons]
  by_cases hx : x = a
  ·subst hx
   simp only [bne_self_eq_false, Bool.false_eq_true, if_false, List.any_cons]
   rw [ih, show (x == b) = false by simpa using fun e => h e.symm, Bool.false_or]
  ·rw [if_pos (by simpa using hx), List.any_cons, List.any_cons, ih]
theorem not_in_filter (S : List Int) (a : Int) : (S.filter (fun x => x != a)).any (· == a) = false := by
 simp only [List.any_eq_false, List.mem_filter, beq_iff_eq, and_imp]
 intro x _ h
 simpa using h
theorem mset_cover (S : List Int) (l : Mem) (a v : Int) : mset (cover S l) a v = cover (S.filter (fun x => x != a)) (mset l a v) := by
 unfold mset
 rw [any_keys]
 split
 ·unfold cover
  rw [List.map_map, List.map_map]
  refine List.map_congr_left fun q _ => ?_
  simp only [Function.comp]
  by_cases h : q.1 = a
  ·have h1 : (if S.any (· == q.1) then (q.1, (204 : Int)) else q).1 = a := by split <;> exact h
   rw [if_pos h1, if_pos h]
   rw [h, not_in_filter]
   simp only [Bool.false_eq_true, if_false]
   rw [← h1, h]
   split <;> simp_all
  ·have h1 : ¬ (if S.any (· == q.1) then (q.1, (204 : Int)) else q).1 = a := by split <;> exact h
   rw [if_neg h1, if_neg h, mem_filter_ne S a q.1 h]
 ·rename_i hne
  unfold cover
  rw [List.map_append]
  congr 1
  ·refine List.map_congr_left fun q hq => ?_
   have h : q.1 ≠ a := fun e => hne (List.any_eq_true.mpr ⟨q, hq, by simpa using e⟩)
   rw [mem_filter_ne S a q.1 h]
  ·simp only [List.map_cons, List.map_nil, not_in_filter, Bool.false_eq_true, if_false]
theorem filter_same {S : List Int} {a : Int} (h : S.any (· == a) = false) : S.filter (fun x => x != a) = S := by
 rw [List.filter_eq_self]
 intro x hx
 have := List.any_eq_false.mp h x hx
 simpa using this
theorem mset_cover_out {S : List Int} {l : Mem} {a v : Int} (h : S.any (· == a) = false) : mset (cover S l) a v = cover S (mset l a v) := by rw [mset_cover, filter_same h]
theorem oct_cover_out {S : List Int} {l : Mem} {a : Int} (h : S.any (· == (a % W64)) = false) : oct (cover S l) a = oct l a := by
 unfold oct
 rw [mget_cover]
 simp only [h, Bool.false_eq_true, if_false, Option.map_id']
theorem oct_cover_in {S : List Int} {l : Mem} {a v : Int} (h : S.any (· == (a % W64)) = true) (hk : mget l (a % W64) = some v) : oct (cover S l) a = 204 := by
 unfold oct
 rw [mget_cover, hk]
 simp only [h, if_true, Option.map_some, Option.getD_some]
theorem rd_cover {S : List Int} {l : Mem} {p : Int} : ∀ k : Nat, (∀ j : Nat, j < k → S.any (· == ((p + j) % W64)) = false) → rd (cover S l) p k = rd l p k
 | 0, _ => rfl
 | k + 1, h => by
  unfold rd
  rw [rd_cover k fun j hj => h j (by lia), oct_cover_out (h k (by lia))]
theorem wr_cover {S : List Int} {l : Mem} {p v : Int} : ∀ k : Nat, (∀ j : Nat, j < k → S.any (· == ((p + j) % W64)) = false) → wr (cover S l) p v k = cover S (wr l p v k)
 | 0, _ => rfl
 | k + 1, h => by
  unfold wr
  rw [wr_cover k fun j hj => h j (by lia), mset_cover_out (h k (by lia))]
theorem mget_mset (l : Mem) (a v b : Int) : mget (mset l a v) b = if b = a then some v else mget l b := by
 unfold mset
 split
 ·rename_i hany
  induction l with
  | nil => simp at hany
  | cons q l ih =>
   unfold mget at ih ⊢
   rw [List.map_cons, List.find?_cons, List.find?_cons]
   by_cases hq : q.1 = a
   ·simp only [hq, if_true]
    by_cases hb : b = a
    ·subst hb; simp [hq]
    ·have : ¬ a = b := fun e => hb e.symm
     simp only [this, decide_false, hq, hb, if_false]
     by_cases hl : l.any (fun q => decide (q.1 = a)) = true
     ·have := ih hl; simpa [hb] using this
     ·have e : l.map (fun q => if q.1 = a then (q.1, v) else q) = l := by
       conv => rhs; rw [← List.map_id l]
       refine List.map_congr_left fun x hx => ?_
       have : x.1 ≠ a := fun e => hl (List.any_eq_true.mpr ⟨x, hx, by simpa using e⟩)
       simp [this]
      rw [e]
   ·have hl : l.any (fun q => decide (q.1 = a)) = true := by simpa [hq] using hany
    have := ih hl
    simp only [hq, if_false]
    by_cases hb : q.1 = b
    ·have hba : b ≠ a := fun e => hq (hb.trans e)
     simp [hb, hba]
    ·simp only [hb, decide_false]
     exact this
 ·rename_i hany
  unfold mget
  rw [List.find?_append]
  have hn : ∀ q ∈ l, q.1 ≠ a := fun q hq e => hany (List.any_eq_true.mpr ⟨q, hq, by simpa using e⟩)
  by_cases hb : b = a
  ·subst hb
   have : l.find? (fun q => decide (q.1 = b)) = none := List.find?_eq_none.mpr fun q hq => by simpa using hn q hq
   rw [this]; simp
  ·have : ¬ a = b := fun e => hb e.symm
   simp [hb, this]
theorem mset_keys {l : Mem} {a v : Int} (h : (l.map (·.1)).Nodup) : ((mset l a v).map (·.1)).Nodup := by
 unfold mset
 split
 ·have : (l.map fun q => if q.1 = a then (q.1, v) else q).map (·.1) = l.map (·.1) := by
   rw [List.map_map]
   exact List.map_congr_left fun q _ => by simp only [Function.comp]; split <;> rfl
  rw [this]; exact h
 ·rename_i hany
  rw [List.map_append, List.nodup_append]
  refine ⟨h, by simp, ?_⟩
  intro x hx y hy e
  simp only [List.map_cons, List.map_nil, List.mem_singleton] at hy
  subst hy
  obtain ⟨q, hq, rfl⟩ := List.mem_map.mp hx
  exact hany (List.any_eq_true.mpr ⟨q, hq, by simpa using e⟩)
theorem mset_same {l : Mem} {a v : Int} (h : (l.map (·.1)).Nodup) (hg : mget l a = some v) : mset l a v = l := by
 unfold mset
 have hq : ∃ q ∈ l, q.1 = a := by
  unfold mget at hg
  cases e : l.find? (fun q => decide (q.1 = a)) with
  | none => rw [e] at hg; cases hg
  | some q => exact ⟨q, List.mem_of_find?_eq_some e, by simpa using List.find?_some e⟩
 obtain ⟨q0, hq0, e0⟩ := hq
 rw [if_pos (List.any_eq_true.mpr ⟨q0, hq0, by simpa using e0⟩)]
 conv => rhs; rw [← List.map_id l]
 refine List.map_congr_left fun q hq => ?_
 by_cases e : q.1 = a
 ·rw [if_pos e]
  obtain ⟨i, hi⟩ := List.getElem?_of_mem hq
  have := valueAt_nodup h (i := i) (k := q.1) (v := q.2) hi
  rw [e, hg] at this
  have e2 : v = q.2 := Option.some.inj this
  rw [e2]; rfl
 ·rw [if_neg e]; rfl
noncomputable def RowOk (wide : Nat) : Ins → Prop
 | .push k => k < 4
 | .pop k => k < 4
 | .mov k _ => k < 4
 | .sto p i => 4096 ≤ p ∧ p < 4096 + wide ∧ 0 ≤ i ∧ i < 100
 | _ => True
structure Inv (wide k : Nat) (M : Mach) : Prop where
 len : M.regs.length = 16
 mem : MemOk M.mem
 keys : (M.mem.map (·.1)).Nodup
 code : ∀ p : Int, 4096 ≤ p → p < 4096 + wide → ∃ v, mget M.mem p = some v ∧ 0 ≤ v ∧ v < 100
 sp : 32768 - 8 * (k : Int) ≤ M.regs.getD 4 0 ∧ M.regs.getD 4 0 ≤ 32768 + 8 * (k : Int)
 rip : 0 ≤ M.rip ∧ M.rip < W64
 size : M.mem.length ≤ wide + 8 * k
structure RelP (S : List Int) (R M : Mach) : Prop where
 regs : M.regs = R.regs
 rip : M.rip = R.rip
 halted : M.halted = R.halted
 mem : M.mem = cover S R.mem
noncomputable def InCode (wide : Nat) (S : List Int) : Prop := ∀ p ∈ S, 4096 ≤ p ∧ p < 4096 + (wide : Int)
theorem InCode.out {wide : Nat} {S : List Int} (h : InCode wide S) {a : Int} (ha : a < 4096 ∨ 4096 + (wide : Int) ≤ a) : S.any (· == a) = false := by
 rw [List.any_eq_false]
 intro x hx e
 have := h x hx
 have e' : x = a := by simpa using e
 lia
theorem InCode.filter {wide : Nat} {S : List Int} (h : InCode wide S) (a : Int) : InCode wide (S.filter fun x => x != a) := fun p hp => h p (List.mem_filter.mp hp).1
theorem stack_out {wide k : Nat} {S : List Int} (hS : InCode wide S) (hw : wide ≤ 24) (hk : k ≤ 40) {s : Int} (h1 : 32768 - 8 * (k : Int) ≤ s) (h2 : s ≤ 32768 + 8 * (k : Int)) (d : Int) (hd : -8 ≤ d ∧ d ≤ 0) : ∀ j : Nat, j < 8 → S.any (· == (((s + d) % W64 + j) % W64)) = false := by
 intro j hj
 have e : (s + d) % W64 = s + d := Int.emod_eq_of_lt (by lia) (by unfold W64; lia)
 rw [e, Int.emod_eq_of_lt (by lia) (by unfold W64; lia)]
 exact hS.out (.inr (by lia))
section
variable {wide k : Nat} {S : List Int} {R M : Mach}
theorem rel_pushed (hS : InCode wide S) (hw : wide ≤ 24) (hk : k ≤ 40) (hR : Inv wide k R) (h : RelP S R M) {v : Int} : RelP S (R.pushed v) (M.pushed v) := by
 refine ⟨?_, h.rip, h.halted, ?_⟩
 ·show M.regs.set 4 ((M.regs.getD 4 0 - 8) % W64) = R.regs.set 4 ((R.regs.getD 4 0 - 8) % W64)
  rw [h.regs]
 ·rw [pushed_mem, pushed_mem, h.regs, h.mem]
  refine wr_cover 8 ?_
  have := stack_out hS hw hk hR.sp.1 hR.sp.2 (-8) (by lia)
  intro j hj
  have := this j hj
  rwa [show R.regs.getD 4 0 + -8 = R.regs.getD 4 0 - 8 by lia] at this
theorem rel_popped (h : RelP S R M) : RelP S R.popped M.popped := by
 refine ⟨?_, h.rip, h.halted, h.mem⟩
 show M.regs.set 4 ((M.regs.getD 4 0 + 8) % W64) = R.regs.set 4 ((R.regs.getD 4 0 + 8) % W64)
 rw [h.regs]
theorem rel_setR (h : RelP S R M) {i : Nat} {v : Int} : RelP S (R.setR i v) (M.setR i v) := by
 refine ⟨?_, h.rip, h.halted, h.mem⟩
 show M.regs.set i v = R.regs.set i v
 rw [h.regs]
theorem rel_goto (h : RelP S R M) {i : Int} : RelP S (R.goto i) (M.goto i) := ⟨h.regs, rfl, h.halted, h.mem⟩
theorem rel_top (hS : InCode wide S) (hw : wide ≤ 24) (hk : k ≤ 40) (hR : Inv wide k R) (h : RelP S R M) : M.top = R.top := by
 unfold Mach.top
 rw [h.regs, h.mem]
 refine rd_cover 8 fun j hj => ?_
 rw [Int.emod_eq_of_lt (by have := hR.sp; lia) (by have := hR.sp; unfold W64; lia)]
 exact hS.out (.inr (by have := hR.sp; lia))
theorem rel_count (h : RelP S R M) : M.count = R.count := by unfold Mach.count; rw [h.regs]
noncomputable def leftS (S : List Int) : Ins → List Int
 | .sto p _ => S.filter fun x => x != p
 | _ => S
theorem rel_run {I : Ins} (hI : RowOk wide I) (hS : InCode wide S) (hw : wide ≤ 24) (hk : k ≤ 40) (hR : Inv wide k R) (h : RelP S R M) : RelP (leftS S I) (runI R I) (runI M I) := by
 cases I with
 | push i =>
  show RelP S (R.pushed (R.regs.getD i 0 % W64)) (M.pushed (M.regs.getD i 0 % W64))
  rw [h.regs]
  exact rel_pushed hS hw hk hR h
 | pop i =>
  show RelP S (R.popped.setR i (R.top % W64)) (M.popped.setR i (M.top % W64))
  rw [rel_top hS hw hk hR h]
  exact rel_setR (rel_popped h)
 | jmp i =>
  show RelP S (R.goto ((R.rip + i) % W64)) (M.goto ((M.rip + i) % W64))
  rw [h.rip]; exact rel_goto h
 | loop i =>
  show RelP S (if R.count ≠ 0 then (R.setR 1 R.count).goto ((R.rip + i) % W64) else R.setR 1 R.count) (if M.count ≠ 0 then (M.setR 1 M.count).goto ((M.rip + i) % W64) else M.setR 1 M.count)
  rw [rel_count h, h.rip]
  split
  ·exact rel_goto (rel_setR h)
  ·exact rel_setR h
 | call i =>
  show RelP S ((R.pushed R.rip).goto ((R.rip + i) % W64)) ((M.pushed M.rip).goto ((M.rip + i) % W64))
  rw [h.rip]; exact rel_goto (rel_pushed hS hw hk hR h)
 | ret =>
  show RelP S (R.popped.goto R.top) (M.popped.goto M.top)
  rw [rel_top hS hw hk hR h]; exact rel_goto (rel_popped h)
 | hlt => exact h
 | ud2 => exact h
 | nop => exact h
 | mov i j => exact rel_setR h
 | sto p i =>
  refine ⟨h.regs, h.rip, h.halted, ?_⟩
  show mset M.mem (p % W64) (i % 256) = cover (S.filter fun x => x != p) (mset R.mem (p % W64) (i % 256))
  have hp : p % W64 = p := Int.emod_eq_of_lt (by have := hI.1; lia) (by have := hI.2.1; unfold W64; lia)
  rw [h.mem, hp, mset_cover]
theorem rel_step (h : RelP S R M) : RelP S (stepM R) (stepM M) := ⟨h.regs, by show (M.rip + 2) % W64 = (R.rip + 2) % W64; rw [h.rip], h.halted, h.mem⟩
theorem inv_step (h : Inv wide k R) : Inv wide k (stepM R) := ⟨h.len, h.mem, h.keys, h.code, h.sp, ⟨Int.emod_nonneg _ (by decide), Int.emod_lt_of_pos _ (by decide)⟩, h.size⟩
theorem rel_stepOk {I : Ins} (hI : RowOk wide I) (hS : InCode wide S) (hw : wide ≤ 24) (hk : k ≤ 40) (hR : Inv wide k R) (h : RelP S R M) : RelP (leftS S I) (stepOk R I) (stepOk M I) := by
 by_cases hp : I.plain = true ∨ I = .ud2
 ·rw [stepOk_run hp, stepOk_run hp]
  exact rel_run hI hS hw hk (inv_step hR) (rel_step h)
 ·have : I = .hlt := by
   cases I <;> first | rfl | exact absurd (Or.inl rfl) hp | exact absurd (Or.inr rfl) hp
  subst this
  have h' := rel_step h
  exact ⟨h'.regs, h'.rip, rfl, h'.mem⟩
end
theorem rd_bound {l : Mem} (h : MemOk l) {p : Int} : ∀ k : Nat, 0 ≤ rd l p k ∧ rd l p k < 2 ^ (8 * k)
 | 0 => by unfold rd; simp
 | k + 1 => by
  have ih := rd_bound h (p := p) k
  have ho := oct_ok h (p + k)
  unfold rd
  have e : (2 : Int) ^ (8 * (k + 1)) = 2 ^ (8 * k) * 256 := by rw [Nat.mul_add, Int.pow_add]; rfl
  have hp : (0 : Int) < 2 ^ (8 * k) := Int.pow_pos (by decide)
  generalize oct l (p + k) = o at ho ⊢
  generalize (2 : Int) ^ (8 * k) = z at hp ih e ⊢
  rw [e]
  have h1 : 0 ≤ o * z := Int.mul_nonneg ho.1 (Int.le_of_lt hp)
  have h2 : o * z ≤ 255 * z := Int.mul_le_mul_of_nonneg_right (by lia) (Int.le_of_lt hp)
  constructor
  ·lia
  ·have : z * 256 = 255 * z + z := by rw [Int.mul_comm z 256, show (256 : Int) = 255 + 1 from rfl, Int.add_mul, Int.one_mul]
   lia
theorem wr_keys {l : Mem} (h : (l.map (·.1)).Nodup) {p v : Int} : ∀ k : Nat, ((wr l p v k).map (·.1)).Nodup
 | 0 => h
 | k + 1 => mset_keys (wr_keys h k)
theorem wr_get {l : Mem} {p v q : Int} : ∀ k : Nat, (∀ j : Nat, j < k → (p + j) % W64 ≠ q) → mget (wr l p v k) q = mget l q
 | 0, _ => rfl
 | k + 1, h => by
  unfold wr
  rw [mget_mset, if_neg fun e => h k (by lia) e.symm]
  exact wr_get k fun j hj => h j (by lia)
theorem getD_set4 {l : List Int} (h : l.length = 16) (v : Int) : (l.set 4 v).getD 4 0 = v := by
 rw [List.getD_eq_getElem?_getD, List.getElem?_set_self (by lia)]; rfl
theorem getD_set_ne {l : List Int} {i : Nat} (h : i < 4) (v : Int) : (l.set i v).getD 4 0 = l.getD 4 0 := by
 rw [List.getD_eq_getElem?_getD, List.getD_eq_getElem?_getD, List.getElem?_set_ne (by lia)]
section
variable {wide k : Nat} {S : List Int} {R M : Mach}
theorem size_more (w k : Nat) : w + 8 * k ≤ w + 8 * (k + 1) := Nat.add_le_add_left (Nat.mul_le_mul_left 8 (Nat.le_succ k)) w
theorem sp_more {k : Nat} {x y : Int} (h : 32768 - 8 * (k : Int) ≤ x ∧ x ≤ 32768 + 8 * (k : Int)) (h1 : x - 8 ≤ y) (h2 : y ≤ x + 8) : 32768 - 8 * ((k + 1 : Nat) : Int) ≤ y ∧ y ≤ 32768 + 8 * ((k + 1 : Nat) : Int) := by lia
theorem sp_dn {k : Nat} {x : Int} (h : 32768 - 8 * (k : Int) ≤ x ∧ x ≤ 32768 + 8 * (k : Int)) : 32768 - 8 * ((k + 1 : Nat) : Int) ≤ x - 8 ∧ x - 8 ≤ 32768 + 8 * ((k + 1 : Nat) : Int) := sp_more h (Int.le_refl _) (by lia)
theorem sp_up {k : Nat} {x : Int} (h : 32768 - 8 * (k : Int) ≤ x ∧ x ≤ 32768 + 8 * (k : Int)) : 32768 - 8 * ((k + 1 : Nat) : Int) ≤ x + 8 ∧ x + 8 ≤ 32768 + 8 * ((k + 1 : Nat) : Int) := sp_more h (by lia) (Int.le_refl _)
theorem sp_eq {k : Nat} {x : Int} (h : 32768 - 8 * (k : Int) ≤ x ∧ x ≤ 32768 + 8 * (k : Int)) : 32768 - 8 * ((k + 1 : Nat) : Int) ≤ x ∧ x ≤ 32768 + 8 * ((k + 1 : Nat) : Int) := sp_more h (by lia) (by lia)
theorem inv_pushed (hw : wide ≤ 24) (hk : k ≤ 40) (hR : Inv wide k R) {v : Int} : Inv wide (k + 1) (R.pushed v) := by
 have hb := hR.sp
 have e : (R.regs.getD 4 0 - 8) % W64 = R.regs.getD 4 0 - 8 := Int.emod_eq_of_lt (by lia) (by unfold W64; lia)
 refine ⟨?_, ?_, ?_, ?_, ?_, hR.rip, ?_⟩
 ·show (R.regs.set 4 _).length = 16
  rw [List.length_set]; exact hR.len
 ·rw [pushed_mem]; exact wr_ok hR.mem 8
 ·rw [pushed_mem]; exact wr_keys hR.keys 8
 ·intro p h1 h2
  rw [pushed_mem, wr_get 8]
  ·exact hR.code p h1 h2
  ·intro j hj
   rw [e, Int.emod_eq_of_lt (by lia) (by unfold W64; lia)]
   lia
 ·show _ ≤ (R.regs.set 4 ((R.regs.getD 4 0 - 8) % W64)).getD 4 0 ∧ (R.regs.set 4 ((R.regs.getD 4 0 - 8) % W64)).getD 4 0 ≤ _
  rw [getD_set4 hR.len, e]; exact sp_dn hb
 ·rw [pushed_mem]
  exact Nat.le_trans (wr_len (l := R.mem) (p := (R.regs.getD 4 0 - 8) % W64) (w := v) 8) (by rw [Nat.mul_succ, ← Nat.add_assoc]; exact Nat.add_le_add_right hR.size 8)
theorem inv_popped (hw : wide ≤ 24) (hk : k ≤ 40) (hR : Inv wide k R) : Inv wide (k + 1) R.popped := by
 have hb := hR.sp
 have e : (R.regs.getD 4 0 + 8) % W64 = R.regs.getD 4 0 + 8 := Int.emod_eq_of_lt (by lia) (by unfold W64; lia)
 refine ⟨?_, hR.mem, hR.keys, hR.code, ?_, hR.rip, Nat.le_trans hR.size (size_more wide k)⟩
 ·show (R.regs.set 4 _).length = 16
  rw [List.length_set]; exact hR.len
 ·show _ ≤ (R.regs.set 4 ((R.regs.getD 4 0 + 8) % W64)).getD 4 0 ∧ (R.regs.set 4 ((R.regs.getD 4 0 + 8) % W64)).getD 4 0 ≤ _
  rw [getD_set4 hR.len, e]; exact sp_up hb
theorem inv_more (hR : Inv wide k R) : Inv wide (k + 1) R := ⟨hR.len, hR.mem, hR.keys, hR.code, sp_eq hR.sp, hR.rip, Nat.le_trans hR.size (size_more wide k)⟩
theorem inv_setR (hR : Inv wide k R) {i : Nat} (hi : i < 4) {v : Int} : Inv wide k (R.setR i v) := by
 refine ⟨?_, hR.mem, hR.keys, hR.code, ?_, hR.rip, hR.size⟩
 ·show (R.regs.set i v).length = 16
  rw [List.length_set]; exact hR.len
 ·show _ ≤ (R.regs.set i v).getD 4 0 ∧ (R.regs.set i v).getD 4 0 ≤ _
  rw [getD_set_ne hi]; exact hR.sp
theorem inv_goto (hR : Inv wide k R) {i : Int} (h0 : 0 ≤ i) (h1 : i < W64) : Inv wide k (R.goto i) := ⟨hR.len, hR.mem, hR.keys, hR.code, hR.sp, ⟨h0, h1⟩, hR.size⟩
theorem mod_in (x : Int) : 0 ≤ x % W64 ∧ x % W64 < W64 := ⟨Int.emod_nonneg _ (by decide), Int.emod_lt_of_pos _ (by decide)⟩
theorem inv_run {I : Ins} (hI : RowOk wide I) (hw : wide ≤ 24) (hk : k ≤ 40) (hR : Inv wide k R) : Inv wide (k + 1) (runI R I) := by
 cases I with
 | push i => exact inv_pushed hw hk hR
 | pop i => exact inv_setR (inv_popped hw hk hR) hI
 | jmp i => exact inv_more (inv_goto hR (mod_in _).1 (mod_in _).2)
 | loop i =>
  show Inv wide (k + 1) (if R.count ≠ 0 then (R.setR 1 R.count).goto ((R.rip + i) % W64) else R.setR 1 R.count)
  split
  ·exact inv_more (inv_goto (inv_setR hR (by decide)) (mod_in _).1 (mod_in _).2)
  ·exact inv_more (inv_setR hR (by decide))
 | call i => exact inv_goto (inv_pushed hw hk hR) (mod_in _).1 (mod_in _).2
 | ret =>
  have := rd_bound hR.mem (p := R.regs.getD 4 0) 8
  exact inv_goto (inv_popped hw hk hR) this.1 this.2
 | hlt => exact inv_more hR
 | ud2 => exact inv_more hR
 | nop => exact inv_more hR
 | mov i j => exact inv_more (inv_setR hR hI)
 | sto p i =>
  have hi := hI.2.2
  have e : i % 256 = i := Int.emod_eq_of_lt hi.1 (by lia)
  have hp : p % W64 = p := Int.emod_eq_of_lt (by have := hI.1; lia) (by have := hI.2.1; unfold W64; lia)
  refine ⟨hR.len, mset_ok hR.mem (by lia) (by lia), mset_keys hR.keys, fun q h1 h2 => ?_, sp_eq hR.sp, hR.rip, ?_⟩
  ·show ∃ v, mget (mset R.mem (p % W64) (i % 256)) q = some v ∧ _
   rw [mget_mset]
   split
   ·exact ⟨_, rfl, by lia, by lia⟩
   ·exact hR.code q h1 h2
  ·show (mset R.mem (p % W64) (i % 256)).length ≤ _
   have := mset_len (l := R.mem) (k := p % W64) (v := i % 256)
   have := hR.size
   lia
theorem inv_stepOk {I : Ins} (hI : RowOk wide I) (hw : wide ≤ 24) (hk : k ≤ 40) (hR : Inv wide k R) : Inv wide (k + 1) (stepOk R I) := by
 by_cases hp : I.plain = true ∨ I = .ud2
 ·rw [stepOk_run hp]
  exact inv_run hI hw hk (inv_step hR)
 ·have : I = .hlt := by
   cases I <;> first | rfl | exact absurd (Or.inl rfl) hp | exact absurd (Or.inr rfl) hp
  subst this
  have h' := inv_more (inv_step hR)
  exact ⟨h'.len, h'.mem, h'.keys, h'.code, h'.sp, h'.rip, h'.size⟩
end
structure Prg (rows : List Ins) : Prop where
 len : 1 ≤ rows.length ∧ rows.length ≤ 12
 ok : ∀ I ∈ rows, RowOk (2 * rows.length) I
theorem fetch_mem {rows : List Ins} {r : Int} {I : Ins} (h : fetch rows r = some I) : I ∈ rows := by
 unfold fetch at h
 split at h
 ·exact List.mem_of_getElem? h
 ·cases h
theorem adv_cases (rows : List Ins) (R : Mach) : (∃ w, (adv rows R).2 = some w ∧ (adv rows R).1.regs = R.regs ∧ (adv rows R).1.mem = R.mem ∧ (adv rows R).1.rip = R.rip ∧ (adv rows R).1.halted = R.halted) ∨ (∃ I, fetch rows R.rip = some I ∧ isUd2 I = false ∧ adv rows R = (stepOk R I, none)) := by
 unfold adv
 split
 ·exact .inl ⟨_, rfl, rfl, rfl, rfl, rfl⟩
 ·split
  ·exact .inl ⟨_, rfl, rfl, rfl, rfl, rfl⟩
  ·split
   ·exact .inl ⟨_, rfl, rfl, rfl, rfl, rfl⟩
   ·rename_i I hf
    by_cases hu : isUd2 I = true
    ·rw [if_pos hu]; exact .inl ⟨_, rfl, rfl, rfl, rfl, rfl⟩
    ·rw [if_neg hu]; exact .inr ⟨I, hf, by simpa using hu, rfl⟩
noncomputable def nextS (rows : List Ins) (S : List Int) (r : Int) : List Int := match fetch rows r with
 | some I => leftS S I
 | none => S
theorem adv_inv {rows : List Ins} (hp : Prg rows) {k : Nat} (hk : k ≤ 40) {R R' : Mach} (hR : Inv (2 * rows.length) k R) (h : adv rows R = (R', none)) : Inv (2 * rows.length) (k + 1) R' := by
 rcases adv_cases rows R with ⟨w, h1, _⟩ | ⟨I, h1, _, h3⟩
 ·rw [h] at h1; cases h1
 ·rw [h] at h3; cases h3
  exact inv_stepOk (hp.ok I (fetch_mem h1)) (by have := hp.len; lia) hk hR
theorem adv_trap {rows : List Ins} {k : Nat} {S : List Int} {R M : Mach} (hS : InCode (2 * rows.length) S) (hR : Inv (2 * rows.length) k R) (h : RelP S R M) (ht : S.any (· == R.rip) = true) : adv rows M = (M, some n_int3) := by
 obtain ⟨x, hx, e⟩ := List.any_eq_true.mp ht
 have e' : x = R.rip := by simpa using e
 have hc := hS x hx
 obtain ⟨v, hv, _⟩ := hR.code x hc.1 (by simpa using hc.2)
 have hm : R.rip % W64 = R.rip := Int.emod_eq_of_lt hR.rip.1 hR.rip.2
 have : oct M.mem M.rip = 204 := by
  rw [h.mem, h.rip]
  exact oct_cover_in (v := v) (by rw [hm]; exact ht) (by rw [hm, ← e']; exact hv)
 unfold adv
 rw [if_pos this]
theorem adv_rel {rows : List Ins} (hp : Prg rows) {k : Nat} (hk : k ≤ 40) {S : List Int} {R M : Mach} (hS : InCode (2 * rows.length) S) (hR : Inv (2 * rows.length) k R) (h : RelP S R M) (ht : S.any (· == R.rip) = false) :
  (adv rows M).2 = (adv rows R).2 ∧ ((adv rows R).2 = none → RelP (nextS rows S R.rip) (adv rows R).1 (adv rows M).1) ∧ ((adv rows R).2 ≠ none → RelP S (adv rows R).1 (adv rows M).1) := by
 have hm : R.rip % W64 = R.rip := Int.emod_eq_of_lt hR.rip.1 hR.rip.2
 have ho : oct M.mem M.rip = oct R.mem R.rip := by
  rw [h.mem, h.rip]
  exact oct_cover_out (by rw [hm]; exact ht)
 unfold adv nextS
 rw [ho, h.halted, h.rip]
 split
 ·exact ⟨rfl, fun x => (by cases x), fun _ => h⟩
 ·split
  ·exact ⟨rfl, fun x => (by cases x), fun _ => h⟩
  ·cases hf : fetch rows R.rip with
   | none => exact ⟨rfl, fun x => (by cases x), fun _ => h⟩
   | some I =>
    dsimp only
    by_cases hu : isUd2 I = true
    ·rw [if_pos hu, if_pos hu]
     exact ⟨rfl, fun x => (by cases x), fun _ => ⟨h.regs, rfl, rfl, h.mem⟩⟩
    ·rw [if_neg hu, if_neg hu]
     exact ⟨rfl, fun _ => rel_stepOk (hp.ok I (fetch_mem hf)) hS (by have := hp.len; lia) hk hR h, fun x => absurd rfl x⟩
structure Tel (rows : List Ins) (T : List Mach) (over : Bool) : Prop where
 some_ : 1 ≤ T.length
 few : T.length ≤ 21
 inv : ∀ i R, T[i]? = some R → Inv (2 * rows.length) i R
 step : ∀ i R R', T[i]? = some R → T[i + 1]? = some R' → adv rows R = (R', none)
 last : over = true → ∀ R, T[T.length - 1]? = some R → ∃ w, (adv rows R).2 = some w
noncomputable def stoAt (rows : List Ins) (r : Int) : Option Int := match fetch rows r with
 | some (.sto p _) => some p
 | _ => none
theorem nextS_eq (rows : List Ins) (S : List Int) (r : Int) : nextS rows S r = match stoAt rows r with
  | some p => S.filter fun x => x != p
  | none => S := by
 unfold nextS stoAt
 cases fetch rows r with
 | none => rfl
 | some I => cases I <;> rfl
theorem nextS_sub {rows : List Ins} {S : List Int} {r : Int} : ∀ x ∈ nextS rows S r, x ∈ S := by
 rw [nextS_eq]
 split
 ·exact fun x hx => (List.mem_filter.mp hx).1
 ·exact fun x hx => hx
noncomputable def lrF (T : List Mach) (sto : Int → Option Int) (most : Nat) : Nat → Nat → Nat → List Int → Nat × Nat × Str
 | 0, a, k, _ => (a, k, n_fault)
 | f + 1, a, k, pl => match T[a]? with
  | none => (a, k, n_fault)
  | some R => if R.halted = true then (a, k, n_halted) else if most ≤ k then (a, k, n_most) else if pl.any (· == R.rip) = true then (a, k, n_break) else if a + 1 = T.length then (a, k, n_fault) else
   lrF T sto most f (a + 1) (k + 1) (match sto R.rip with
    | some p => pl.filter fun x => x != p
    | none => pl)
theorem str_ne : (n_halted == n_int3) = false ∧ (n_norow == n_int3) = false ∧ (n_ud2 == n_int3) = false := ⟨by kp_kind "dq", by kp_kind "dq", by kp_kind "dq"⟩
theorem not_204 {wide k : Nat} {R : Mach} (hR : Inv wide k R) {p : Int} (h0 : 4096 ≤ p) (h1 : p < 4096 + wide) (hw : wide ≤ 24) : oct R.mem p ≠ 204 ∧ oct R.mem p < 100 ∧ 0 ≤ oct R.mem p ∧ mget R.mem p = some (oct R.mem p) := by
 obtain ⟨v, hv, h2, h3⟩ := hR.code p h0 h1
 have hm : p % W64 = p := Int.emod_eq_of_lt (by lia) (by unfold W64; lia)
 have : oct R.mem p = v := by unfold oct; rw [hm, hv]; rfl
 rw [this]
 exact ⟨by lia, by lia, by lia, hv⟩
theorem adv_why {rows : List Ins} {k : Nat} {R : Mach} (hp : Prg rows) (hR : Inv (2 * rows.length) k R) {w : Str} (h : (adv rows R).2 = some w) (hc : 4096 ≤ R.rip ∧ R.rip < 4096 + (2 * rows.length : Nat)) : (w == n_int3) = false := by
 have hn := (not_204 hR hc.1 hc.2 (by have := hp.len; lia)).1
 unfold adv at h
 rw [if_neg hn] at h
 split at h
 ·cases h; exact str_ne.1
 ·split at h
  ·cases h; exact str_ne.2.1
  ·split at h
   ·cases h; exact str_ne.2.2
   ·cases h
noncomputable def LoopLaw (rows : List Ins) (T : List Mach) (over : Bool) (most : Nat) (pls : List Int) (kept : Mem) (f : Nat) : Prop :=
  ∀ (a k : Nat) (S : List Int) (R M : Mach) (g : Nat), k + f = most → T[a]? = some R → (over = true ∨ a + f < T.length) → RelP S R M → (∀ x ∈ S, x ∈ pls) → T.length ≤ a + g →
   ∃ a' R' S', lrF T (stoAt rows) most (g + 1) a k S = (a', (loopP rows kept f M k).2.1, (loopP rows kept f M k).2.2) ∧ T[a']? = some R' ∧ RelP S' R' (loopP rows kept f M k).1 ∧ (∀ x ∈ S', x ∈ S ∧ (∀ i Ri, a ≤ i → i < a' → T[i]? = some Ri → stoAt rows Ri.rip ≠ some x)) ∧ a ≤ a'
theorem loop_law_step {rows : List Ins} (hp : Prg rows) {T : List Mach} {over : Bool} (hT : Tel rows T over) {most : Nat} {pls : List Int} {kept : Mem} (hkept : ∀ p, (mget kept p).isSome = pls.any (· == p)) (hpls : InCode (2 * rows.length) pls) (f : Nat) (ih : ∀ f', f = f' + 1 → LoopLaw rows T over most pls kept f') : LoopLaw rows T over most pls kept f := by
  intro a k S R M g hkf hR hov hrel hsub hg
  have hI := hT.inv a R hR
  have haT : a < T.length := (List.getElem?_eq_some_iff.mp hR).1
  have hSc : InCode (2 * rows.length) S := fun x hx => hpls x (hsub x hx)
  have ha40 : a ≤ 40 := by have := hT.few; lia
  conv => enter [1, a', 1, R', 1, S', 1, 1]; unfold lrF
  rw [hR]
  dsimp only
  by_cases hh : R.halted = true
  ·have hM : M.halted = true := by rw [hrel.halted]; exact hh
   rw [loopP_halted hM, if_pos hh]
   exact ⟨a, R, S, rfl, hR, hrel, fun x hx => ⟨hx, fun i Ri h1 h2 => by lia⟩, Nat.le_refl _⟩
  rw [if_neg hh]
  have hM : M.halted = false := by rw [hrel.halted]; simpa using hh
  cases f with
  | zero =>
   rw [loopP_most hM, if_pos (by lia)]
   exact ⟨a, R, S, rfl, hR, hrel, fun x hx => ⟨hx, fun i Ri h1 h2 => by lia⟩, Nat.le_refl _⟩
  | succ f =>
   rw [if_neg (by lia)]
   cases ht : S.any (· == R.rip) with
   | true =>
    rw [if_pos rfl]
    have ha := adv_trap hSc hI hrel ht
    have hk1 : (mget kept M.rip).isSome = true := by
     rw [hkept, hrel.rip]
     obtain ⟨x, hx, e⟩ := List.any_eq_true.mp ht
     exact List.any_eq_true.mpr ⟨x, hsub x hx, e⟩
    have e : (n_int3 == n_int3) = true := by kp_kind "dq"
    rw [loopP_stop (w := n_int3) hM (by rw [ha]), ha]
    dsimp only
    rw [e, hk1, Bool.and_self, if_pos rfl]
    exact ⟨a, R, S, rfl, hR, hrel, fun x hx => ⟨hx, fun i Ri h1 h2 => by lia⟩, Nat.le_refl _⟩
   | false =>
    rw [if_neg (by decide)]
    obtain ⟨h1, h2, h3⟩ := adv_rel hp ha40 hSc hI hrel ht
    by_cases hlast : a + 1 = T.length
    ·rw [if_pos hlast]
     have ho : over = true := by rcases hov with h | h; exact h; lia
     obtain ⟨w, hw⟩ := hT.last ho R (by rw [show T.length - 1 = a by lia]; exact hR)
     rw [loopP_stop (w := w) hM (by rw [h1]; exact hw)]
     have hrel' := h3 (by rw [hw]; simp)
     rcases adv_cases rows R with ⟨w', e1, e2, e3, e4, e5⟩ | ⟨I, _, _, e⟩
     ·have hrelR : RelP S R (adv rows M).1 := ⟨hrel'.regs.trans e2, hrel'.rip.trans e4, hrel'.halted.trans e5, by rw [hrel'.mem, e3]⟩
      have hb : (w == n_int3 && (mget kept (adv rows M).1.rip).isSome) = false := by
       rw [hrelR.rip, hkept]
       cases hq : pls.any (· == R.rip) with
       | false => rw [Bool.and_false]
       | true =>
        obtain ⟨x, hx, ex⟩ := List.any_eq_true.mp hq
        have ex' : x = R.rip := by simpa using ex
        have hcx := hpls x hx
        rw [adv_why hp hI hw (by rw [← ex']; exact hcx), Bool.false_and]
      rw [hb, if_neg (by decide)]
      exact ⟨a, R, S, rfl, hR, hrelR, fun x hx => ⟨hx, fun i Ri h1 h2 => by lia⟩, Nat.le_refl _⟩
     ·rw [e] at hw; cases hw
    ·rw [if_neg hlast]
     obtain ⟨R1, hR1⟩ : ∃ R1, T[a + 1]? = some R1 := ⟨_, List.getElem?_eq_getElem (by lia)⟩
     have hs := hT.step a R R1 hR hR1
     have hn : (adv rows R).2 = none := by rw [hs]
     have hr2 := h2 hn
     rw [show (adv rows R).1 = R1 by rw [hs]] at hr2
     rw [loopP_next hM (by rw [h1]; exact hn)]
     have hpl : (match stoAt rows R.rip with
       | some p => S.filter fun x => x != p
       | none => S) = nextS rows S R.rip := (nextS_eq rows S R.rip).symm
     rw [hpl]
     obtain ⟨g', rfl⟩ : ∃ g', g = g' + 1 := ⟨g - 1, by lia⟩
     have q1 : k + 1 + f = most := by lia
     have q2 : over = true ∨ a + 1 + f < T.length := by
      rcases hov with h | h
      ·exact .inl h
      ·exact .inr (by lia)
     have q3 : T.length ≤ a + 1 + g' := by lia
     obtain ⟨a', R', S', i1, i2, i3, i4, i5⟩ := ih f rfl (a + 1) (k + 1) (nextS rows S R.rip) R1 (adv rows M).1 g' q1 hR1 q2 hr2 (fun x hx => hsub x (nextS_sub x hx)) q3
     refine ⟨a', R', S', i1, i2, i3, fun x hx => ⟨nextS_sub x (i4 x hx).1, fun i Ri j1 j2 j3 => ?_⟩, by lia⟩
     by_cases hia : i = a
     ·subst hia
      rw [hR] at j3; cases j3
      intro e
      have := (i4 x hx).1
      rw [nextS_eq, e] at this
      have := (List.mem_filter.mp this).2
      simp at this
     ·exact (i4 x hx).2 i Ri (by lia) j2 j3
theorem loop_law {rows : List Ins} (hp : Prg rows) {T : List Mach} {over : Bool} (hT : Tel rows T over) {most : Nat} {pls : List Int} {kept : Mem} (hkept : ∀ p, (mget kept p).isSome = pls.any (· == p)) (hpls : InCode (2 * rows.length) pls) :
  ∀ (f : Nat) (a k : Nat) (S : List Int) (R M : Mach) (g : Nat), k + f = most → T[a]? = some R → (over = true ∨ a + f < T.length) → RelP S R M → (∀ x ∈ S, x ∈ pls) → T.length ≤ a + g →
   ∃ a' R' S', lrF T (stoAt rows) most (g + 1) a k S = (a', (loopP rows kept f M k).2.1, (loopP rows kept f M k).2.2) ∧ T[a']? = some R' ∧ RelP S' R' (loopP rows kept f M k).1 ∧ (∀ x ∈ S', x ∈ S ∧ (∀ i Ri, a ≤ i → i < a' → T[i]? = some Ri → stoAt rows Ri.rip ≠ some x)) ∧ a ≤ a' := by
 intro f
 exact Nat.rec (motive := LoopLaw rows T over most pls kept) (loop_law_step hp hT hkept hpls 0 fun f' e => by cases e) (fun f ih => loop_law_step hp hT hkept hpls (f + 1) fun f' e => by cases e; exact ih) f
theorem code_mod {wide : Nat} {p : Int} (h : 4096 ≤ p ∧ p < 4096 + (wide : Int)) (hw : wide ≤ 24) : p % W64 = p := Int.emod_eq_of_lt (by lia) (by unfold W64; lia)
theorem any_iff {S : List Int} {a : Int} : S.any (· == a) = true ↔ a ∈ S := by
 rw [List.any_eq_true]
 constructor
 ·rintro ⟨x, hx, e⟩
  have : x = a := by simpa using e
  exact this ▸ hx
 ·exact fun h => ⟨a, h, by simp⟩
theorem any_not {S : List Int} {a : Int} : S.any (· == a) = false ↔ a ∉ S := by
 rw [← any_iff]; cases S.any (· == a) <;> simp
theorem cover_snoc {S : List Int} {m : Mem} {p : Int} (hp : ∃ v, mget m p = some v) : mset (cover S m) p 204 = cover (S ++ [p]) m := by
 unfold mset
 have hany : (cover S m).any (fun q => decide (q.1 = p)) = true := by
  rw [any_keys]
  obtain ⟨v, hv⟩ := hp
  unfold mget at hv
  cases e : m.find? (fun q => decide (q.1 = p)) with
  | none => rw [e] at hv; cases hv
  | some q => exact List.any_eq_true.mpr ⟨q, List.mem_of_find?_eq_some e, by have := List.find?_some e; simpa using this⟩
 rw [if_pos hany]
 unfold cover
 rw [List.map_map]
 refine List.map_congr_left fun q _ => ?_
 simp only [Function.comp, List.any_append, List.any_cons, List.any_nil, Bool.or_false]
 by_cases h : q.1 = p
 ·cases hS : S.any (· == q.1) <;> simp [h]
 ·have h' : ¬ p = q.1 := fun e => h e.symm
  cases hS : S.any (· == q.1) with
  | true => simp [h]
  | false => simp [h, h']
theorem plantF_eq {wide : Nat} (hw : wide ≤ 24) {m : Mem} (hc : ∀ p : Int, 4096 ≤ p → p < 4096 + wide → ∃ v, mget m p = some v) : ∀ (r S : List Int) (k : Mem), InCode wide r → (S ++ r).Nodup → k.map (·.1) = S →
  plantF r (cover S m) k = (cover (S ++ r) m, k ++ r.map fun p => (p, oct m p))
 | [], S, k, _, _, _ => by simp [plantF]
 | p :: r, S, k, hr, hn, hk => by
  have hpc := hr p (.head _)
  have hm := code_mod hpc hw
  have hpS : p ∉ S := fun h => (List.nodup_append.mp hn).2.2 p h p (.head _) rfl
  unfold plantF
  rw [hm, cover_snoc (hc p hpc.1 hpc.2), oct_cover_out (by rw [hm]; exact any_not.mpr hpS), mset_new fun q hq e => hpS (by rw [← hk, ← e]; exact List.mem_map_of_mem (f := (·.1)) hq)]
  rw [plantF_eq hw hc r (S ++ [p]) (k ++ [(p, oct m p)]) (fun x hx => hr x (.tail _ hx)) (by rw [List.append_assoc]; exact hn) (by rw [List.map_append, hk]; rfl)]
  simp [List.append_assoc]
theorem liftF_eq {wide : Nat} (hw : wide ≤ 24) {kept l : Mem} (hn : (l.map (·.1)).Nodup) (h204 : ∀ p : Int, 4096 ≤ p → p < 4096 + wide → oct l p ≠ 204) : ∀ (ns S : List Int), InCode wide ns → InCode wide S → (∀ p ∈ S, ∃ v, mget l p = some v ∧ mget kept p = some v) →
  liftF kept ns (cover S l) = cover (S.filter fun x => !ns.any (· == x)) l
 | [], S, _, _, _ => by
  unfold liftF
  rw [List.filter_eq_self.mpr]
  intro a _; rfl
 | p :: r, S, hc, hS, hk => by
  have hpc := hc p (.head _)
  have hm := code_mod hpc hw
  have fl : ∀ S' : List Int, S' = S.filter (fun x => x != p) → S'.filter (fun x => !r.any (· == x)) = S.filter fun x => !(p :: r).any (· == x) := by
   intro S' e
   rw [e, List.filter_filter]
   refine List.filter_congr fun x _ => ?_
   rw [List.any_cons, Bool.not_or, Bool.and_comm]
   congr 1
   by_cases h : x = p
   ·subst h; simp
   ·have h' : ¬ p = x := fun e => h e.symm
    rw [show (x != p) = true by simpa using h, show (p == x) = false by simpa using h']; rfl
  unfold liftF
  cases hp : S.any (· == p) with
  | true =>
   obtain ⟨v, h1, h2⟩ := hk p (any_iff.mp hp)
   rw [if_pos (oct_cover_in (v := v) (by rw [hm]; exact hp) (by rw [hm]; exact h1)), hm, h2]
   show liftF kept r (mset (cover S l) p v) = _
   rw [mset_cover, mset_same hn h1]
   rw [liftF_eq hw hn h204 r (S.filter fun x => x != p) (fun x hx => hc x (.tail _ hx)) (hS.filter p) (fun x hx => hk x (List.mem_filter.mp hx).1)]
   rw [fl _ rfl]
  | false =>
   rw [if_neg (by rw [oct_cover_out (by rw [hm]; exact hp)]; exact h204 p hpc.1 hpc.2)]
   rw [liftF_eq hw hn h204 r S (fun x hx => hc x (.tail _ hx)) hS hk]
   rw [fl S (filter_same hp).symm]
theorem step_get {rows : List Ins} (hp : Prg rows) {k : Nat} (hk : k ≤ 40) {R R' : Mach} (hR : Inv (2 * rows.length) k R) (h : adv rows R = (R', none)) {x : Int} (hx : 4096 ≤ x ∧ x < 4096 + ((2 * rows.length : Nat) : Int)) (hs : stoAt rows R.rip ≠ some x) : mget R'.mem x = mget R.mem x := by
 have hw : 2 * rows.length ≤ 24 := by have := hp.len; lia
 rcases adv_cases rows R with ⟨w, h1, _⟩ | ⟨I, h1, _, h3⟩
 ·rw [h] at h1; cases h1
 rw [h] at h3; cases h3
 have hI := hp.ok I (fetch_mem h1)
 have hpush : ∀ v, mget ((stepM R).pushed v).mem x = mget R.mem x := by
  intro v
  rw [pushed_mem]
  refine wr_get 8 fun j hj => ?_
  have hb := hR.sp
  have e : ((stepM R).regs.getD 4 0 - 8) % W64 = R.regs.getD 4 0 - 8 := Int.emod_eq_of_lt (by show 0 ≤ R.regs.getD 4 0 - 8; lia) (by show R.regs.getD 4 0 - 8 < W64; unfold W64; lia)
  rw [e, Int.emod_eq_of_lt (by lia) (by unfold W64; lia)]
  lia
 by_cases hpl : I.plain = true ∨ I = .ud2
 ·rw [stepOk_run hpl]
  cases I with
  | push i => exact hpush _
  | call i => exact hpush _
  | sto p i =>
   show mget (mset R.mem (p % W64) (i % 256)) x = _
   rw [code_mod ⟨hI.1, hI.2.1⟩ hw, mget_mset, if_neg]
   intro e
   refine hs ?_
   unfold stoAt
   rw [h1, e]
  | loop i =>
   show mget (if (stepM R).count ≠ 0 then _ else _ : Mach).mem x = _
   split <;> rfl
  | _ => rfl
 ·have : I = .hlt := by
   cases I <;> first | rfl | exact absurd (Or.inl rfl) hpl | exact absurd (Or.inr rfl) hpl
  subst this; rfl
theorem steps_get {rows : List Ins} (hp : Prg rows) {T : List Mach} {over : Bool} (hT : Tel rows T over) {x : Int} (hx : 4096 ≤ x ∧ x < 4096 + ((2 * rows.length : Nat) : Int)) : ∀ (d a : Nat) (R R' : Mach), T[a]? = some R → T[a + d]? = some R' → (∀ i Ri, a ≤ i → i < a + d → T[i]? = some Ri → stoAt rows Ri.rip ≠ some x) → mget R'.mem x = mget R.mem x
 | 0, a, R, R', h1, h2, _ => by rw [Nat.add_zero, h1] at h2; cases h2; rfl
 | d + 1, a, R, R', h1, h2, h3 => by
  have hl : a + (d + 1) < T.length := (List.getElem?_eq_some_iff.mp h2).1
  obtain ⟨R1, e1⟩ : ∃ R1, T[a + 1]? = some R1 := ⟨_, List.getElem?_eq_getElem (by lia)⟩
  have := steps_get hp hT hx d (a + 1) R1 R' e1 (by rw [show a + 1 + d = a + (d + 1) by lia]; exact h2) (fun i Ri j1 j2 j3 => h3 i Ri (by lia) (by lia) j3)
  rw [this]
  exact step_get hp (by have := hT.few; lia) (hT.inv a R h1) (hT.step a R R1 h1 e1) hx (h3 a R (Nat.le_refl _) (by lia) h1)
noncomputable def lawRun (T : List Mach) (rows : List Ins) (most a : Nat) (pls : List Int) : Nat × Nat × Str := match T[a]? with
 | none => (a, 0, n_fault)
 | some R => if pls.any (· == R.rip) = true ∧ 0 < most then (if a + 1 = T.length then (a, 0, n_fault) else lrF T (stoAt rows) most (T.length + 1) (a + 1) 1 pls) else lrF T (stoAt rows) most (T.length + 1) a 0 pls
theorem tail_law {rows : List Ins} (hp : Prg rows) {T : List Mach} {over : Bool} (hT : Tel rows T over) {most : Nat} {pls : List Int} (hpn : pls.Nodup) (hpls : InCode (2 * rows.length) pls) {a c0 : Nat} {R M M' : Mach} {cnt : Nat} {rs : Str} (hc0 : c0 ≤ most) (hR : T[a]? = some R) (hrel : RelP [] R M)
  (hov : over = true ∨ a + (most - c0) < T.length) (h : TailR rows pls most M c0 M' cnt rs) : ∃ a' R', lrF T (stoAt rows) most (T.length + 1) a c0 pls = (a', cnt, rs) ∧ T[a']? = some R' ∧ RelP [] R' M' := by
 have hw : 2 * rows.length ≤ 24 := by have := hp.len; lia
 have hI := hT.inv a R hR
 have hmem : M.mem = R.mem := by rw [hrel.mem, cover_nil]
 obtain ⟨ns, hns, M2, hL, rfl⟩ := h
 have hpl := plantF_eq hw (m := R.mem) (fun p h1 h2 => by obtain ⟨v, hv, _⟩ := hI.code p h1 h2; exact ⟨v, hv⟩) pls [] [] hpls hpn rfl
 rw [cover_nil, List.nil_append, List.nil_append] at hpl
 rw [hmem, hpl] at hL hns
 rw [hmem, hpl]
 dsimp only at hL hns ⊢
 have hkeys : (pls.map fun p => (p, oct R.mem p)).map (·.1) = pls := by rw [List.map_map]; exact (List.map_congr_left fun x _ => rfl).trans (List.map_id pls)
 rw [hkeys] at hns
 have hkg : ∀ p, mget (pls.map fun p => (p, oct R.mem p)) p = if pls.any (· == p) = true then some (oct R.mem p) else none := by
  intro p
  clear hL hns hkeys hpl hpn hpls hov
  induction pls with
  | nil => rfl
  | cons x pls ih =>
   unfold mget at ih ⊢
   rw [List.map_cons, List.find?_cons, List.any_cons]
   by_cases e : x = p
   ·subst e; simp
   ·have : (x == p) = false := by simpa using e
    rw [this, Bool.false_or]
    simp only [e, decide_false]
    exact ih
 have hkept : ∀ p, (mget (pls.map fun p => (p, oct R.mem p)) p).isSome = pls.any (· == p) := by
  intro p
  rw [hkg]
  cases pls.any (· == p) <;> rfl
 have hrel2 : RelP pls R (M.withMem (cover pls R.mem)) := ⟨hrel.regs, hrel.rip, hrel.halted, rfl⟩
 obtain ⟨a', R', S', i1, i2, i3, i4, i5⟩ := loop_law (most := most) hp hT hkept hpls (most - c0) a c0 pls R (M.withMem (cover pls R.mem)) T.length (by lia) hR hov hrel2 (fun x hx => hx) (by lia)
 rw [hL] at i1 i3
 dsimp only at i1 i3
 refine ⟨a', R', i1, i2, ?_⟩
 have hI' := hT.inv a' R' i2
 refine ⟨i3.regs, i3.rip, i3.halted, ?_⟩
 show liftF _ ns M2.mem = cover [] R'.mem
 rw [i3.mem]
 rw [liftF_eq hw hI'.keys (fun p h1 h2 => (not_204 hI' h1 h2 hw).1) ns S' (fun x hx => hpls x (hns.mem_iff.mp hx)) (fun x hx => hpls x (i4 x hx).1)]
 ·congr 1
  rw [List.filter_eq_nil_iff]
  intro x hx
  have : ns.any (· == x) = true := any_iff.mpr (hns.mem_iff.mpr (i4 x hx).1)
  rw [this]; simp
 ·intro x hx
  have hxp := (i4 x hx).1
  have hxc := hpls x hxp
  have hg := steps_get hp hT hxc (a' - a) a R R' hR (by rw [show a + (a' - a) = a' by lia]; exact i2) (fun i Ri j1 j2 j3 => (i4 x hx).2 i Ri j1 (by lia) j3)
  obtain ⟨_, _, _, hgx⟩ := not_204 hI hxc.1 hxc.2 hw
  exact ⟨oct R.mem x, by rw [hg]; exact hgx, by rw [hkg, if_pos (any_iff.mpr hxp)]⟩
theorem run_law {rows : List Ins} (hp : Prg rows) {T : List Mach} {over : Bool} (hT : Tel rows T over) {most : Nat} {pls : List Int} (hpn : pls.Nodup) (hpls : InCode (2 * rows.length) pls) {a : Nat} {R M M' : Mach} {cnt : Nat} {rs : Str} (hR : T[a]? = some R) (hrel : RelP [] R M)
  (hov : over = true ∨ a + most < T.length) (h : RunR rows pls most M M' cnt rs) : ∃ a' R', lawRun T rows most a pls = (a', cnt, rs) ∧ T[a']? = some R' ∧ RelP [] R' M' := by
 have haT : a < T.length := (List.getElem?_eq_some_iff.mp hR).1
 have ha40 : a ≤ 40 := by have := hT.few; lia
 have hI := hT.inv a R hR
 unfold lawRun
 rw [hR]
 dsimp only
 have hnil : InCode (2 * rows.length) [] := fun x hx => (by cases hx)
 obtain ⟨r1, r2, r3⟩ := adv_rel hp ha40 hnil hI hrel rfl
 have hnx : nextS rows [] R.rip = [] := by rw [nextS_eq]; split <;> rfl
 rw [hnx] at r2
 rcases h with ⟨w, h1, h2, h3, rfl, rfl⟩ | ⟨M1, c0, hS, hTl⟩
 ·rw [hrel.rip] at h1
  rw [if_pos ⟨h1, h2⟩]
  have hne : (adv rows R).2 ≠ none := by rw [← r1, h3]; simp
  have hr := r3 hne
  rw [h3] at hr
  dsimp only at hr
  rcases adv_cases rows R with ⟨w', e1, e2, e3, e4, e5⟩ | ⟨I, _, _, e⟩
  ·have hlast : a + 1 = T.length := by
    rcases Nat.lt_or_ge (a + 1) T.length with hl | hl
    ·obtain ⟨R1, hR1⟩ : ∃ R1, T[a + 1]? = some R1 := ⟨_, List.getElem?_eq_getElem hl⟩
     have := hT.step a R R1 hR hR1
     rw [this] at e1; cases e1
    ·lia
   rw [if_pos hlast]
   exact ⟨a, R, rfl, hR, hr.regs.trans e2, hr.rip.trans e4, hr.halted.trans e5, by rw [hr.mem, e3]⟩
  ·rw [e] at hne; exact absurd rfl hne
 ·rcases hS with ⟨h1, h2, h3, rfl⟩ | ⟨h1, rfl, rfl⟩
  ·rw [hrel.rip] at h1
   rw [if_pos ⟨h1, h2⟩]
   have hn : (adv rows R).2 = none := by rw [← r1, h3]
   have hr := r2 hn
   rw [h3] at hr
   dsimp only at hr
   have hlast : a + 1 ≠ T.length := by
    intro hl
    rcases hov with ho | ho
    ·obtain ⟨w, hw⟩ := hT.last ho R (by rw [show T.length - 1 = a by lia]; exact hR)
     rw [hn] at hw; cases hw
    ·lia
   rw [if_neg hlast]
   obtain ⟨R1, hR1⟩ : ∃ R1, T[a + 1]? = some R1 := ⟨_, List.getElem?_eq_getElem (by lia)⟩
   have hs := hT.step a R R1 hR hR1
   rw [show (adv rows R).1 = R1 by rw [hs]] at hr
   exact tail_law hp hT hpn hpls h2 hR1 hr (by rcases hov with h | h; exact .inl h; exact .inr (by lia)) hTl
  ·rw [hrel.rip] at h1
   rw [if_neg h1]
   exact tail_law hp hT hpn hpls (Nat.zero_le _) hR hrel (by rcases hov with h | h; exact .inl h; exact .inr (by lia)) hTl
noncomputable abbrev TE := Addr × List Addr × Mach
noncomputable def telL (es : List TE) : Led := es.map fun e => (e.1, .deep (toldDT e.2.2) e.2.1)
noncomputable def mchs (es : List TE) : List Mach := es.map fun e => e.2.2
structure Rec (rows : List Ins) (M0 : Mach) (T : List Mach) (M : Mach) : Prop where
 first : T[0]? = some M0
 last : T[T.length - 1]? = some M
 step : ∀ i R R', T[i]? = some R → T[i + 1]? = some R' → adv rows R = (R', none)
theorem Rec.one {rows : List Ins} {M : Mach} : Rec rows M [M] M := ⟨rfl, rfl, fun i R R' h1 h2 => by simp at h2⟩
theorem Rec.snoc {rows : List Ins} {M0 M M' : Mach} {T : List Mach} (h : Rec rows M0 T M) (ha : adv rows M = (M', none)) : Rec rows M0 (T ++ [M']) M' := by
 have hl : 1 ≤ T.length := by
  rcases Nat.eq_zero_or_pos T.length with e | e
  ·have := h.first
   rw [List.eq_nil_of_length_eq_zero e] at this; cases this
  ·exact e
 refine ⟨?_, ?_, fun i R R' h1 h2 => ?_⟩
 ·rw [List.getElem?_append_left (by lia)]; exact h.first
 ·rw [List.length_append, List.length_cons, List.length_nil, List.getElem?_append_right (by lia)]
  simp
 ·rcases Nat.lt_or_ge (i + 1) T.length with hi | hi
  ·rw [List.getElem?_append_left (by lia)] at h1 h2
   exact h.step i R R' h1 h2
  ·have h2' := h2
   rw [List.getElem?_append_right hi] at h2
   have hi1 : i + 1 - T.length = 0 := by
    have := (List.getElem?_eq_some_iff.mp h2).1
    simp at this; lia
   rw [hi1] at h2
   cases h2
   rw [List.getElem?_append_left (Nat.sub_eq_zero_iff_le.mp hi1), show i = T.length - 1 by rw [Nat.le_antisymm hi (Nat.sub_eq_zero_iff_le.mp hi1)]; rfl, h.last] at h1
   cases h1
   exact ha
theorem adv_mb_no {b : Nat} {M : Mach} {rows : List Ins} {w : Str} (h : MB b M) (hw : (adv rows M).2 = some w) : MB b (adv rows M).1 := by
 rcases adv_cases rows M with ⟨w', _, h1, h2, _, _⟩ | ⟨I, _, _, e⟩
 ·exact ⟨by rw [h1]; exact h.len, by rw [h2]; exact h.mem, by rw [h2]; exact h.size⟩
 ·rw [e] at hw; cases hw
structure RecR (rows : List Ins) (M0 : Mach) (T : List Mach) (over : Bool) : Prop where
 rec_ : ∃ M, Rec rows M0 T M ∧ (over = true → ∃ w, (adv rows M).2 = some w)
 few : T.length ≤ 21
 full : over = false → T.length = 21
theorem RecR.tel {rows : List Ins} (hp : Prg rows) {M0 : Mach} {T : List Mach} {over : Bool} (h : RecR rows M0 T over) (h0 : Inv (2 * rows.length) 0 M0) : Tel rows T over := by
 obtain ⟨M, hr, ho⟩ := h.rec_
 have inv : ∀ i R, T[i]? = some R → Inv (2 * rows.length) i R := by
  intro i
  induction i with
  | zero => intro R hR; rw [hr.first] at hR; cases hR; exact h0
  | succ i ih =>
   intro R hR
   have hl : i + 1 < T.length := (List.getElem?_eq_some_iff.mp hR).1
   obtain ⟨R0, e0⟩ : ∃ R0, T[i]? = some R0 := ⟨_, List.getElem?_eq_getElem (by lia)⟩
   exact adv_inv hp (by have := h.few; lia) (ih R0 e0) (hr.step i R0 R e0 hR)
 refine ⟨?_, h.few, inv, hr.step, fun hov R hR => ?_⟩
 ·have := (List.getElem?_eq_some_iff.mp hr.first).1; lia
 ·rw [hr.last] at hR; cases hR; exact ho hov
inductive Rd1 (tl : Addr) (rows : List Ins) (M : Mach) (n : Led) (fl : Flow) (m' : Loc) (n' : Led) : Prop
 | mk (h1 : fl = .next) (es : List TE) (over : Bool) (h2 : RecR rows M (mchs es) over) (h3 : Keep ((tl, .list (es.map fun e => .ref e.1)) :: (telL es ++ n)) n') (h4 : m'.lookup n_tellings = some (.ref tl)) (h5 : m'.lookup n_is_over = some (.bool over))
inductive Rd2 (tl : Addr) (c : Cx) (rows : List Ins) (b : Nat) (A : SA) (M : Mach) (n : Led) (f : Addr) (j : Nat) (m' : Loc) (n' : Led) : Prop
 | mk (es : List TE) (M1 : Mach) (M2 : Mach) (over : Bool) (h1 : Rec rows M (mchs es) M1) (h2 : MB (b + 8 * es.length) M2) (h3 : es.length ≤ 21) (h4 : (over = true → ∃ w, (adv rows M1).2 = some w)) (h5 : (over = false → M2 = M1)) (h6 : j = (if over then 0 else 22 - es.length)) (h7 : Keep (stL c.w A M2 ++ ((tl, .list (es.map fun e => .ref e.1)) :: (telL es ++ n))) n') (h8 : m'.lookup n_tellings = some (.ref tl)) (h9 : m'.lookup n_is_over = some (.bool over)) (h10 : m'.lookup n_state = some (.ref A.s)) (h11 : m'.lookup n_advance = some (.ref f))
section
variable {c : Cx} {u : Cu} {env : Env} {E : EP} {m : Loc} {n : Led} {Q : Value → Loc → Led → Prop} {A : SA} {M : Mach}
theorem recorded_ {rows : List Ins} {f : Addr} {b : Nat} (hM : MB b M) (hb : b ≤ 5000) (hA : (A.h == sysModules) = false) (hf : AdvIn c.w n rows f) (hh : u.hd = none) (hr : 20 ≤ u.r)
  (h : ∀ T tl es over, RecR rows M (mchs es) over → Q (.ref T) m ((T, .tup [.ref tl, .bool over]) :: (tl, .list (es.map fun e => .ref e.1)) :: (telL es ++ n))) :
  V c u env (call (.ref 1124) [.ref A.s, .ref f]) Q E m (stL c.w A M ++ n) := by
 have hf' := hf
 obtain ⟨qn, pm, c', pc, pd, es0, hf1, _⟩ := hf'
 refine V.keepN ?_
 refine Call_ (f_law_recorded _) (Binds.pure (binds := [(n_state, .ref A.s), (n_advance, .ref f)]) (fun _ _ _ _ _ => by kernel_rfl)) (by kernel_rfl) (m₀ := [(n_advance, .ref f), (n_state, .ref A.s)]) rfl (by lia) ?_
 intro L _ _ _ _
 refine execs_cons ?_
 kp_kind "names"
 kp_kind "r"
 refine AssignSw_ (names := [n_tellings, n_is_over]) (by exact hh) (by kernel_rfl) ?_
 kp_kind "r"
 refine stTold_ (hM.ok (by lia) hA) (by exact hh) (by kp_kind "room") fun t0 as0 => ?_
 kp_kind "r"
 refine unpRB (by kernel_rfl) (by kernel_rfl) ?_
 rename_i tl T0
 kp_kind "r"
 refine V.mono (Q := fun fl m' n' => Rd1 tl rows M n fl m' n') ?_ ?_ (fun _ _ _ _ _ x => x)
 ·refine While_ (fun j m' n' => Rd2 tl c rows b A M n f j m' n') 21
    ⟨[(t0, as0, M)], M, M, false, Rec.one, hM.mono (by lia), by simp, fun x => (by cases x), fun _ => rfl, rfl, ?_, by kp_kind "lk", by kp_kind "lk", by kp_kind "lk", by kp_kind "lk"⟩ ?_
  ·exact Keep.skip (Keep.swap (b := [_, _]))
  rintro _ j m' n' ⟨es, M1, M2, over, hRec, hM2, hlen, hov, hno, rfl, hK, k1, k2, k3, k4⟩
  refine V.keepL hK ?_
  intro l₀
  kp_kind "r"
  refine len_ (xs := es.map fun e => .ref e.1) (by kp_kind "mem") (by rw [List.length_map]; lia) fun t1 => ?_
  kp_kind "r"
  have hml : (mchs es).length = es.length := by unfold mchs; simp
  rw [List.length_map]
  by_cases h20 : es.length ≤ 20
  ·refine ifT (by simp; lia) ?_
   kp_kind "r"
   cases hover : over with
   | true =>
    subst hover
    refine ifF rfl ?_
    kp_kind "r"
    exact ⟨rfl, es, true, ⟨⟨M1, hRec, hov⟩, by rw [hml]; exact hlen, fun x => (by cases x)⟩, Keep.drop _ Keep.refl, k1, k2⟩
   | false =>
    subst hover
    obtain rfl := hno rfl
    refine ifT rfl ?_
    kp_kind "r"
    refine Try_ rfl ?_
    kp_kind "r"
    refine callL_ (pr := fun o => ∃ doc ctv, o = fnMade n__law_advance qn (paramsOf sadv) (bodyOf sadv) (scopeOf sadv) [(n_program, pc)] doc pm c' ctv) (fun o ho => by obtain ⟨doc, ctv, rfl⟩ := ho; exact ⟨_, rfl⟩) (by kernel_rfl) (by kernel_rfl) ?_
    kp_kind "r"
    refine ⟨List.mem_append_right _ (.tail _ (List.mem_append_right _ hf1)), ?_⟩
    refine adv_ (hM2.ok (by lia) hA) (hf.sub fun p hp => .tail _ (List.mem_append_right _ hp)) (by exact hh) (by kp_kind "room") (fun hn g => ?_) (fun w hw e d => ?_)
    ·kp_kind "r"
     have hM3 := adv_mb (rows := rows) hM2
     refine stTold_ (hM3.ok (by lia) hA) (by exact hh) (by kp_kind "room") fun t2 as2 => ?_
     kp_kind "r"
     refine append_ (xs := es.map fun e => .ref e.1) (.there (Put.app .here _)) (by rw [List.length_map]; lia) ?_
     kp_kind "r"
     refine ⟨20 - es.length + 1, ?_, es ++ [(t2, as2, (adv rows M2).1)], (adv rows M2).1, (adv rows M2).1, false, ?_, ?_, by rw [List.length_append]; simp; lia, fun x => (by cases x), fun _ => rfl, ?_, ?_, by kp_kind "lk", by kp_kind "lk", by kp_kind "lk", by kp_kind "lk"⟩
     ·simp; lia
     ·unfold mchs
      rw [List.map_append]
      exact hRec.snoc (Prod.ext rfl hn)
     ·exact hM3.mono (by rw [List.length_append]; simp; lia)
     ·rw [List.length_append]; simp; lia
     ·have e1 : telL (es ++ [(t2, as2, (adv rows M2).1)]) = telL es ++ [(t2, .deep (toldDT (adv rows M2).1) as2)] := by unfold telL; rw [List.map_append]; rfl
      rw [e1, List.map_append]
      have := Keep.back (pre := stL c.w A (adv rows M2).1 ++ ((tl, .list ((es.map fun e => Value.ref e.1) ++ [.ref t2])) :: telL es)) (x := (t2, .deep (toldDT (adv rows M2).1) as2)) (post := n)
      simp only [List.append_assoc, List.cons_append, List.nil_append] at this ⊢
      exact this
    ·intro T
     refine Handle_ (C := 71) (exm71 _) ?_ fun T => ?_
     ·kp_kind "r"
      exact ⟨rfl, rfl, rfl⟩
     ·kp_kind "r"
      refine ⟨0, by simp; lia, es, M2, (adv rows M2).1, true, hRec, adv_mb_no hM2 hw, by lia, fun _ => ⟨w, hw⟩, fun x => (by cases x), rfl, ?_, by kp_kind "lk", by kp_kind "lk", by kp_kind "lk", by kp_kind "lk"⟩
      exact Keep.drop _ (Keep.skip Keep.refl)
  ·refine ifF (by simp; lia) ?_
   kp_kind "r"
   exact ⟨rfl, es, over, ⟨⟨M1, hRec, hov⟩, by rw [hml]; exact hlen, fun _ => by rw [hml]; lia⟩, Keep.drop _ Keep.refl, k1, k2⟩
 rintro fl m' n' ⟨rfl, es, over, hR, hK, k1, k2⟩
 refine after_next ?_
 refine V.keepL hK ?_
 intro l₀
 kp_kind "r"
 rename_i T
 exact ⟨_, .refl, h T tl es over hR⟩
end
noncomputable def insF (N : Nat) (k : Nat) : RowV → Ins
 | .store raw => .sto (4096 + (raw.fdiv 100).fmod (2 * N)) (raw.fmod 100)
 | .rel w raw => if w = 0 then .loop (2 * raw.fmod (N + 1) - 2 * (k + 1)) else if w = 1 then .jmp (2 * raw.fmod (N + 1) - 2 * (k + 1)) else .call (2 * raw.fmod (N + 1) - 2 * (k + 1))
 | .ins I => I
noncomputable def prgF (N : Nat) (rows : List RowV) : List Ins := rows.mapIdx fun k r => insF N k r
theorem prgF_len {N : Nat} {rows : List RowV} : (prgF N rows).length = rows.length := by unfold prgF; simp
theorem prgF_get {N : Nat} {rows : List RowV} {i : Nat} {r : RowV} (h : rows[i]? = some r) : (prgF N rows)[i]? = some (insF N i r) := by unfold prgF; rw [List.getElem?_mapIdx, h]; rfl
theorem at_k (i : Nat) : (4096 ≤ 4096 + 2 * (i : Int) ∧ (4096 + 2 * (i : Int) - 4096) % 2 = 0) ∧ ((4096 + 2 * (i : Int) - 4096) / 2).toNat = i := by
 rw [show 4096 + 2 * (i : Int) - 4096 = 2 * (i : Int) from by rw [Int.add_comm, Int.add_sub_cancel]]
 refine ⟨⟨Int.le_add_of_nonneg_right (Int.mul_nonneg (by decide) (Int.natCast_nonneg i)), Int.mul_emod_right _ _⟩, ?_⟩
 rw [Int.mul_ediv_cancel_left _ (by decide), Int.toNat_natCast]
theorem fetch_take {rows : List Ins} {i : Nat} {I : Ins} (h : rows[i]? = some I) (r : Int) : fetch (rows.take (i + 1)) r = if r = 4096 + 2 * (i : Int) then some I else fetch (rows.take i) r := by
 unfold fetch
 by_cases hr : r = 4096 + 2 * (i : Int)
 ·subst hr
  rw [if_pos rfl, if_pos (at_k i).1, (at_k i).2, List.getElem?_take, if_pos (Nat.lt_succ_self i), h]
 ·rw [if_neg hr]
  by_cases hc : 4096 ≤ r ∧ (r - 4096) % 2 = 0
  ·rw [if_pos hc, if_pos hc, List.getElem?_take, List.getElem?_take]
   have hne : ((r - 4096) / 2).toNat ≠ i := fun q => hr (by
    have h2 := Int.mul_ediv_add_emod (r - 4096) 2
    rw [hc.2, Int.add_zero] at h2
    rw [← q, Int.toNat_of_nonneg (Int.ediv_nonneg (Int.sub_nonneg_of_le hc.1) (by decide)), h2, Int.add_comm, Int.sub_add_cancel])
   generalize ((r - 4096) / 2).toNat = x at hne
   by_cases hl : x < i
   ·rw [if_pos (Nat.lt_succ_of_lt hl), if_pos hl]
   ·rw [if_neg (fun q => hl (Nat.lt_of_le_of_ne (Nat.le_of_lt_succ q) hne)), if_neg hl]
  ·rw [if_neg hc, if_neg hc]
theorem valueAt_st (es : List (Int × Value)) (k : Int) (v : Value) (r : Int) : valueAt (stored es k v) r = if r = k then some v else valueAt es r := by
 unfold stored
 split
 ·rename_i hany
  induction es with
  | nil => simp at hany
  | cons q l ih =>
   unfold valueAt at ih ⊢
   rw [List.map_cons, List.find?_cons, List.find?_cons]
   by_cases hq : q.1 = k
   ·simp only [hq, if_true]
    by_cases hb : r = k
    ·subst hb; simp
    ·have : ¬ k = r := fun e => hb e.symm
     simp only [this, decide_false, hb, if_false]
     by_cases hl : l.any (fun q => decide (q.1 = k)) = true
     ·have := ih hl; simpa [hb] using this
     ·have e : l.map (fun q => if q.1 = k then (q.1, v) else q) = l := by
       conv => rhs; rw [← List.map_id l]
       refine List.map_congr_left fun x hx => ?_
       have : x.1 ≠ k := fun e => hl (List.any_eq_true.mpr ⟨x, hx, by simpa using e⟩)
       simp [this]
      rw [e]
   ·have hl : l.any (fun q => decide (q.1 = k)) = true := by simpa [hq] using hany
    have := ih hl
    simp only [hq, if_false]
    by_cases hb : q.1 = r
    ·have hba : r ≠ k := fun e => hq (hb.trans e)
     simp [hb, hba]
    ·simp only [hb, decide_false]
     exact this
 ·rename_i hany
  unfold valueAt
  rw [List.find?_append]
  have hn : ∀ q ∈ es, q.1 ≠ k := fun q hq e => hany (List.any_eq_true.mpr ⟨q, hq, by simpa using e⟩)
  by_cases hb : r = k
  ·subst hb
   have : es.find? (fun q => decide (q.1 = r)) = none := List.find?_eq_none.mpr fun q hq => by simpa using hn q hq
   rw [this]; simp
  ·have : ¬ k = r := fun e => hb e.symm
   simp [hb, this]
theorem notTup886 (p : Params) : NotTup (myK p) 886 := ⟨by kernel_rfl, by kernel_rfl, by kernel_rfl, by kernel_rfl, by kernel_rfl, by kernel_rfl, by kernel_rfl⟩
theorem RowIn.sub {n n' : Led} {r : RowV} {v : Addr} (h : RowIn n r v) (hs : ∀ p ∈ n, p ∈ n') : RowIn n' r v := by
 cases r with
 | store raw => exact hs _ h
 | rel w raw => exact ⟨h.1, hs _ h.2⟩
 | ins I => exact InsIn.sub h hs
theorem stored_len (es : List (Int × Value)) (k : Int) (v : Value) : (stored es k v).length ≤ es.length + 1 := by
 unfold stored
 split <;> simp
theorem fetch_nil (r : Int) : fetch [] r = none := by unfold fetch; split <;> rfl
noncomputable def RowV.fine (r : RowV) : Prop := ∀ p q, r ≠ .ins (.sto p q)
theorem rowF_fine (sort raw : Int) : (rowF sort raw).fine := by
 intro p q
 unfold rowF
 split
 ·intro e; cases e
 ·split
  ·intro e; cases e
  ·split
   ·intro e; cases e
   ·split
    ·intro e; cases e
    ·split
     ·intro e
      injection e with e'
      split at e'
      ·cases e'
      ·split at e'
       ·cases e'
       ·split at e' <;> cases e'
     ·intro e; cases e
theorem rel_in {n : Led} {w N k : Nat} {raw : Int} {il id tp o1 : Addr} (hw : w < 3) (h1 : (il, AObj.inst 886 id (insL (wayN w) tp)) ∈ n) (h2 : (tp, AObj.tup [.ref o1]) ∈ n) (h3 : OpRel n (2 * raw.fmod ((N : Int) + 1) - 2 * ((k : Int) + 1)) o1) : InsIn n (insF N k (.rel w raw)) il := by
 have : w = 0 ∨ w = 1 ∨ w = 2 := by lia
 rcases this with rfl | rfl | rfl <;> exact ⟨trivial, id, tp, [.ref o1], h1, h2, o1, rfl, h3⟩
inductive Pg1 (n₀ : Led) (e : Addr) (it : Addr) (L0 : Addr) (pd : Addr) (sd : Addr) (c : Cx) (rows : List Ins) (n : Led) (i : Nat) (m' : Loc) (n' : Led) : Prop
 | mk (es : List (Int × Value)) (sto : Mem) (l : Led) (h1 : PrgIn (l ++ n₀) (rows.take i) es) (h2 : (∀ r, mget sto r = stoAt (rows.take i) r)) (h3 : es.length ≤ i) (h4 : sto.length ≤ i) (h5 : Keep ((e, .enum it i) :: (it, .liter L0 i) :: (pd, .imap c.w es) :: (sd, .mem c.w sto) :: (l ++ n)) n') (h6 : m'.lookup n_found = some (.ref pd)) (h7 : m'.lookup n_stores = some (.ref sd)) (h8 : m'.lookup n_rows = some (.ref L0))
section
variable {c : Cx} {u : Cu} {env : Env} {E : EP} {m : Loc} {n : Led} {Q : Value → Loc → Led → Prop}
theorem program_ {n₀ : Led} {L0 : Addr} {rvs : List (RowV × Addr)} (hL : (L0, AObj.list (rvs.map fun x => .ref x.2)) ∈ n) (hs0 : ∀ p ∈ n₀, p ∈ n) (hrows : ∀ (i : Nat) (r : RowV) (v : Addr), rvs[i]? = some (r, v) → RowIn n₀ r v ∧ r.fine) (h1 : 1 ≤ rvs.length) (h12 : rvs.length ≤ 12) (hh : u.hd = none) (hr : 16 ≤ u.r)
  (h : ∀ T pd sd es sto l, PrgIn (l ++ n₀) (prgF rvs.length (rvs.map (·.1))) es → (pd == sysModules) = false → (sd == sysModules) = false → (∀ r, mget sto r = stoAt (prgF rvs.length (rvs.map (·.1))) r) → Q (.ref T) m ((T, .tup [.ref pd, .ref sd]) :: (pd, .imap c.w es) :: (sd, .mem c.w sto) :: (l ++ n))) :
  V c u env (call (.ref 1117) [.ref L0]) Q E m n := by
 refine V.keepN ?_
 refine Call_ (f_law_program _) (Binds.pure (binds := [(n_rows, .ref L0)]) (fun _ _ _ _ _ => by kernel_rfl)) (by kernel_rfl) (m₀ := [(n_rows, .ref L0)]) rfl (by lia) ?_
 intro L _ _ _ _
 refine execs_cons ?_
 kp_kind "names"
 kp_kind "r"
 refine AssignSw_ (names := [n_found, n_stores]) (by exact hh) (by kernel_rfl) ?_
 kp_kind "r"
 refine DictNil_ fun pd hpd => ?_
 kp_kind "r"
 refine DictNil_ fun sd hsd => ?_
 kp_kind "r"
 refine unpRR (by kernel_rfl) (by kernel_rfl) ?_
 kp_kind "r"
 refine For_ ?_
 kp_kind "r"
 refine enumL_ (xs := rvs.map fun x => .ref x.2) (by kp_kind "mem") fun e it => ?_
 kp_kind "r"
 refine iterE_ (it := it) (i := 0) (.head _) ?_
 generalize hP : prgF rvs.length (rvs.map (·.1)) = rows at h
 refine ⟨rvs.length, fun i m' n' => Pg1 n₀ e it L0 pd sd c rows n i m' n', ?_, ?_⟩
 ·refine ⟨[], [], [], ?_, fun r => ?_, by decide, by decide, ?_, by kp_kind "lk", by kp_kind "lk", by kp_kind "lk"⟩
  ·exact fun r => fetch_nil r
  ·show none = stoAt [] r
   unfold stoAt
   rw [fetch_nil]
  ·exact Keep.consC (Keep.consC (Keep.skip (Keep.cons (.there .here) (Keep.consC Keep.refl))))
 rintro _ i m' n' hi ⟨es, sto, l, hP1, hsto, hz1, hz2, hK, k1, k2, k3⟩
 refine turnE_ (it := it) (i := (i : Int) + 1) (by exact hh) (by kernel_rfl) (by kernel_rfl) ?_
 refine V.keepL hK ?_
 intro l₀
 refine nextER_ rvs (fun x => x.2) (by exact hh) (by kp_kind "mem") (fun rv T t hrv hil => ?_) (fun hl => ?_)
 ·obtain ⟨r, va⟩ := rv
  obtain ⟨hrow, hfine⟩ := hrows i r va hrv
  have hri : rows[i]? = some (insF rvs.length i r) := by
   rw [← hP]
   exact prgF_get (by rw [List.getElem?_map, hrv]; rfl)
  have hes : ∀ (f : Addr) (l' : Led) (J : Ins) , insF rvs.length i r = J → DecIn (l' ++ n₀) J f → (∀ p ∈ l, p ∈ l') → PrgIn (l' ++ n₀) (rows.take (i + 1)) (stored es (4096 + 2 * (i : Int)) (.ref f)) := by
   intro f l' J hJ hD hs r'
   rw [valueAt_st, fetch_take hri]
   by_cases hr' : r' = 4096 + 2 * (i : Int)
   ·rw [if_pos hr', if_pos hr']
    exact ⟨f, J, rfl, hD, by rw [hJ]⟩
   ·rw [if_neg hr', if_neg hr']
    have := (hP1.sub (n' := l' ++ n₀) fun p hp => (List.mem_append.mp hp).elim (fun h => List.mem_append_left _ (hs p h)) (fun h => List.mem_append_right _ h)) r'
    exact this
  have hsto1 : ∀ r', stoAt (rows.take (i + 1)) r' = if r' = 4096 + 2 * (i : Int) then (match insF rvs.length i r with
    | .sto p _ => some p
    | _ => none) else stoAt (rows.take i) r' := by
   intro r'
   unfold stoAt
   rw [fetch_take hri]
   by_cases hr' : r' = 4096 + 2 * (i : Int)
   ·rw [if_pos hr', if_pos hr']
    cases insF rvs.length i r <;> rfl
   ·rw [if_neg hr', if_neg hr']
  have hnone : mget sto (4096 + 2 * (i : Int)) = none := by
   rw [hsto]
   unfold stoAt fetch
   rw [if_pos (at_k i).1, (at_k i).2, List.getElem?_take, if_neg (Nat.lt_irrefl i)]
  refine ⟨T, _, _, _, rfl, rfl, ?_⟩
  kp_kind "r"
  cases r with
  | ins I =>
   have hI : InsIn n₀ I va := hrow
   obtain ⟨_, id, tt, xs, hi1, _⟩ := hI
   have hI : InsIn n₀ I va := hrow
   refine isTupNo_ (C := 886) (d := id) (as := insL I.nm tt) ?_ (notTup886 _) ?_
   ·exact .tail _ (.tail _ (.tail _ (.tail _ (.tail _ (List.mem_append_right _ (hs0 _ hi1))))))
   kp_kind "r"
   refine isTupNo_ (C := 886) (d := id) (as := insL I.nm tt) ?_ (notTup886 _) ?_
   ·exact .tail _ (.tail _ (.tail _ (.tail _ (.tail _ (List.mem_append_right _ (hs0 _ hi1))))))
   kp_kind "r"
   refine mkDec_ (by kp_kind "room") fun f fd => ?_
   kp_kind "r"
   refine mul_ (IntMulOk.of_left (by decide)) fun t7 => ?_
   kp_kind "r"
   refine setI_ (es := es) (by kp_kind "put") (by lia) ?_
   kp_kind "r"
   refine ⟨hil, stored es (4096 + 2 * (i : Int)) (.ref f), sto, (f, .inst 193 fd (decL va)) :: l, ?_, ?_, Nat.le_trans (stored_len _ _ _) (by lia), by lia, ?_, by kp_kind "lk", by kp_kind "lk", by kp_kind "lk"⟩
   ·exact hes f _ _ rfl ⟨fd, va, .head _, hI.sub fun p hp => List.mem_append_right _ hp⟩ (fun p hp => .tail _ hp)
   ·intro r'
    rw [hsto1]
    by_cases hr' : r' = 4096 + 2 * (i : Int)
    ·rw [if_pos hr', hr', hnone]
     cases I with
     | sto p q => exact absurd rfl (hfine p q)
     | _ => rfl
    ·rw [if_neg hr', hsto]
   ·exact Keep.cons (.there (.there .here)) (Keep.cons (.there (.there .here)) (Keep.cons (.there (.there .here)) (Keep.cons (.there (.there .here)) (Keep.consC (Keep.skip Keep.refl)))))
  | store raw =>
   have hw : (va, AObj.tup [.str n_store 0, .int raw 0]) ∈ n := hs0 _ hrow
   have hw6 : ∀ (x1 x2 x3 x4 x5 : Addr × AObj) (l' : Led), (va, AObj.tup [.str n_store 0, .int raw 0]) ∈ x1 :: x2 :: x3 :: x4 :: x5 :: (l' ++ n) := fun _ _ _ _ _ _ => .tail _ (.tail _ (.tail _ (.tail _ (.tail _ (List.mem_append_right _ hw)))))
   refine isTup_ (xs := [.str n_store 0, .int raw 0]) (hw6 _ _ _ _ _ _) ?_
   kp_kind "r"
   refine subT_ (xs := [.str n_store 0, .int raw 0]) (x := .str n_store 0) (hw6 _ _ _ _ _ _) (by decide) (by decide) rfl (by kernel_rfl) (st_ fun tv => ?_)
   kp_kind "r"
   refine subT_ (xs := [.str n_store 0, .int raw 0]) (x := .int raw 0) (hw6 _ _ _ _ _ _) (by decide) (by decide) rfl (by kernel_rfl) (it_ fun tv2 => ?_)
   kp_kind "r"
   refine len_ (xs := rvs.map fun x => .ref x.2) (by exact List.mem_cons_of_mem _ (List.mem_cons_of_mem _ (List.mem_cons_of_mem _ (List.mem_cons_of_mem _ (List.mem_cons_of_mem _ (List.mem_append_right _ hL)))))) (by rw [List.length_map]; lia) fun t2 => ?_
   rw [List.length_map]
   kp_kind "r"
   refine mul_ (IntMulOk.of_left (by decide)) fun t3 => ?_
   kp_kind "r"
   refine mod_ (by lia) fun t4 => ?_
   kp_kind "r"
   refine mul_ (IntMulOk.of_left (by decide)) fun t5 => ?_
   kp_kind "r"
   refine setM_ (l := sto) (by kp_kind "put") (by lia) ?_
   kp_kind "r"
   refine mul_ (IntMulOk.of_left (by decide)) fun t6 => ?_
   kp_kind "r"
   refine subM_ (l := mset sto (4096 + 2 * (i : Int)) (4096 + (raw.fdiv 100).fmod (2 * (rvs.length : Int)))) (i := 4096 + (raw.fdiv 100).fmod (2 * (rvs.length : Int))) (by kp_kind "mem") (by rw [mget_mset, if_pos rfl]) (by kernel_rfl) fun t8 => ?_
   kp_kind "r"
   refine mkMemOp_ (by kp_kind "room") fun o1 od1 => ?_
   kp_kind "r"
   refine subT_ (xs := [.str n_store 0, .int raw 0]) (x := .int raw 0) (List.mem_cons_of_mem _ (hw6 _ _ _ _ _ _)) (by decide) (by decide) rfl (by kernel_rfl) (it_ fun tv3 => ?_)
   kp_kind "r"
   refine mod_ (by decide) fun t9 => ?_
   kp_kind "r"
   refine mkImm_ (by kp_kind "room") fun o2 od2 => ?_
   kp_kind "r"
   rename_i tp
   refine mkIns_ (xs := [.ref o1, .ref o2]) (by kp_kind "mem") (by simp) (by kp_kind "room") fun il id => ?_
   kp_kind "r"
   refine mkDec_ (by kp_kind "room") fun f fd => ?_
   kp_kind "r"
   refine mul_ (IntMulOk.of_left (by decide)) fun t7 => ?_
   kp_kind "r"
   refine setI_ (es := es) (by kp_kind "put") (by lia) ?_
   kp_kind "r"
   refine ⟨hil, stored es (4096 + 2 * (i : Int)) (.ref f), mset sto (4096 + 2 * (i : Int)) (4096 + (raw.fdiv 100).fmod (2 * (rvs.length : Int))), (f, .inst 193 fd (decL il)) :: ((il, .inst 886 id (insL n_mov tp)) :: (tp, .tup [.ref o1, .ref o2]) :: (o2, .inst 739 od2 (opImmL (raw.fmod 100))) :: (o1, .inst 833 od1 (opMemL (4096 + (raw.fdiv 100).fmod (2 * (rvs.length : Int))))) :: l), ?_, ?_, Nat.le_trans (stored_len _ _ _) (by lia), Nat.le_trans mset_len (by lia), ?_, by kp_kind "lk", by kp_kind "lk", by kp_kind "lk"⟩
   ·refine hes f _ _ rfl ⟨fd, il, .head _, ⟨trivial, id, tp, [.ref o1, .ref o2], .tail _ (.head _), .tail _ (.tail _ (.head _)), o1, o2, rfl, ⟨od1, .tail _ (.tail _ (.tail _ (.tail _ (.head _))))⟩, ⟨od2, .tail _ (.tail _ (.tail _ (.head _)))⟩⟩⟩ (fun p hp => ?_)
    simp [hp]
   ·intro r'
    rw [hsto1]
    rw [mget_mset]
    by_cases hr' : r' = 4096 + 2 * (i : Int)
    ·rw [if_pos hr', if_pos hr']; rfl
    ·rw [if_neg hr', if_neg hr', hsto]
   ·refine Keep.cons (by kp_kind "pick") (Keep.cons (by kp_kind "pick") (Keep.cons (by kp_kind "pick") (Keep.cons (by kp_kind "pick") ?_)))
    exact Keep.consC (Keep.consC (Keep.consC (Keep.consC (Keep.consC (Keep.skip Keep.refl)))))
  | rel w raw =>
   obtain ⟨hw3, hw⟩ := hrow
   have hw := hs0 _ hw
   have hw6 : ∀ (x1 x2 x3 x4 x5 : Addr × AObj) (l' : Led), (va, AObj.tup [.str (wayN w) 0, .int raw 0]) ∈ x1 :: x2 :: x3 :: x4 :: x5 :: (l' ++ n) := fun _ _ _ _ _ _ => .tail _ (.tail _ (.tail _ (.tail _ (.tail _ (List.mem_append_right _ hw)))))
   have hne : (wayN w == n_store) = false := by
    have : w = 0 ∨ w = 1 ∨ w = 2 := by lia
    rcases this with rfl | rfl | rfl <;> decide +kernel
   refine isTup_ (xs := [.str (wayN w) 0, .int raw 0]) (hw6 _ _ _ _ _ _) ?_
   kp_kind "r"
   refine subT_ (xs := [.str (wayN w) 0, .int raw 0]) (x := .str (wayN w) 0) (hw6 _ _ _ _ _ _) (by decide) (by decide) rfl (by kernel_rfl) (st_ fun tv => ?_)
   kp_kind "r"
   refine isTup_ (xs := [.str (wayN w) 0, .int raw 0]) (hw6 _ _ _ _ _ _) ?_
   kp_kind "r"
   refine subT_ (xs := [.str (wayN w) 0, .int raw 0]) (x := .str (wayN w) 0) (hw6 _ _ _ _ _ _) (by decide) (by decide) rfl (by kernel_rfl) (st_ fun tv1 => ?_)
   kp_kind "r"
   refine subT_ (xs := [.str (wayN w) 0, .int raw 0]) (x := .int raw 0) (hw6 _ _ _ _ _ _) (by decide) (by decide) rfl (by kernel_rfl) (it_ fun tv2 => ?_)
   kp_kind "r"
   refine len_ (xs := rvs.map fun x => .ref x.2) (by exact List.mem_cons_of_mem _ (List.mem_cons_of_mem _ (List.mem_cons_of_mem _ (List.mem_cons_of_mem _ (List.mem_cons_of_mem _ (List.mem_append_right _ hL)))))) (by rw [List.length_map]; lia) fun t2 => ?_
   rw [List.length_map]
   kp_kind "r"
   refine mod_ (by lia) fun t4 => ?_
   kp_kind "r"
   refine mul_ (IntMulOk.of_left (by decide)) fun t5 => ?_
   kp_kind "r"
   refine mul_ (IntMulOk.of_left (by decide)) fun t6 => ?_
   kp_kind "r"
   refine mkRel_ (by kp_kind "room") fun o1 od1 => ?_
   kp_kind "r"
   rename_i tp
   refine mkIns_ (xs := [.ref o1]) (by kp_kind "mem") (by simp) (by kp_kind "room") fun il id => ?_
   kp_kind "r"
   refine mkDec_ (by kp_kind "room") fun f fd => ?_
   kp_kind "r"
   refine mul_ (IntMulOk.of_left (by decide)) fun t7 => ?_
   kp_kind "r"
   refine setI_ (es := es) (by kp_kind "put") (by lia) ?_
   kp_kind "r"
   refine ⟨hil, stored es (4096 + 2 * (i : Int)) (.ref f), sto, (f, .inst 193 fd (decL il)) :: ((il, .inst 886 id (insL (wayN w) tp)) :: (tp, .tup [.ref o1]) :: (o1, .inst 780 od1 (opRelL (2 * raw.fmod ((rvs.length : Int) + 1) - 2 * ((i : Int) + 1)))) :: l), ?_, ?_, Nat.le_trans (stored_len _ _ _) (by lia), by lia, ?_, by kp_kind "lk", by kp_kind "lk", by kp_kind "lk"⟩
   ·refine hes f _ _ rfl ⟨fd, il, .head _, rel_in hw3 (.tail _ (.head _)) (.tail _ (.tail _ (.head _))) ⟨od1, .tail _ (.tail _ (.tail _ (.head _)))⟩⟩ (fun p hp => ?_)
    simp [hp]
   ·intro r'
    rw [hsto1]
    by_cases hr' : r' = 4096 + 2 * (i : Int)
    ·rw [if_pos hr', hr', hnone]
     have : w = 0 ∨ w = 1 ∨ w = 2 := by lia
     rcases this with rfl | rfl | rfl <;> rfl
    ·rw [if_neg hr', hsto]
   ·refine Keep.cons (by kp_kind "pick") (Keep.cons (by kp_kind "pick") (Keep.cons (by kp_kind "pick") (Keep.cons (by kp_kind "pick") ?_)))
    exact Keep.consC (Keep.consC (Keep.consC (Keep.consC (Keep.skip Keep.refl))))
 ·have hrl : rows.length = rvs.length := by rw [← hP, prgF_len, List.length_map]
  rw [List.take_of_length_le (by lia)] at hP1 hsto
  (try dsimp only)
  kp_kind "r"
  rename_i T
  exact ⟨_, .refl, h T pd sd es sto l hP1 hpd hsd hsto⟩
end
structure Stop (p : Prop) : Prop where
 go : p
section
variable {c : Cx} {u : Cu} {env : Env} {E : EP} {m : Loc} {n : Led}
theorem stopA_ {y : Str} {py spos pos : Pos} {elt : Expr} {gens : List Comprehension} {scope : Scope} {Q : Flow → Loc → Led → Prop} (h : Stop (V c u env (exec (.Assign [.Name y py] (.ListComp elt gens scope pos) spos) env) Q E m n)) : V c u env (exec (.Assign [.Name y py] (.ListComp elt gens scope pos) spos) env) Q E m n := h.go
theorem stopS_ (x : Str) {v : Value} {Q : Unit → Loc → Led → Prop} (h : Stop (V c u env (storeName env x v) Q E m n)) : V c u env (storeName env x v) Q E m n := h.go
end
noncomputable abbrev worldS (tl : Addr) (over : Bool) (a : Nat) (pl sd : Addr) : List (Str × Value) := [(n_tellings, .ref tl), (n_over, .bool over), (n_at, .int a 0), (n_places, .ref pl), (n_stores, .ref sd)]
theorem tel_get {es : List TE} {i : Nat} {e : TE} {n : Led} (h : es[i]? = some e) (hs : ∀ p ∈ telL es, p ∈ n) : (e.1, AObj.deep (toldDT e.2.2) e.2.1) ∈ n := hs _ (by
 unfold telL
 exact List.mem_map_of_mem (f := fun e : TE => (e.1, AObj.deep (toldDT e.2.2) e.2.1)) (List.mem_of_getElem? h))
inductive LrA (ms : List Mach) (so : Int → Option Int) (most : Nat) (t : Tok) (tl p0 : Addr) (a len : Nat) (pls : List Int) (RES : Nat × Nat × Str) (N : Led) : Flow → Loc → Led → Prop
 | go (m' : Loc) (n' : Led) (a1 k1 : Nat) (ta tc : Tok) (h1 : a1 < len) (h2 : lrF ms so most (ms.length + 1) a1 k1 pls = RES) (l1 : m'.lookup n_tellings = some (.ref tl)) (l2 : m'.lookup n_most = some (.int most t)) (l3 : m'.lookup n_places = some (.ref p0)) (l4 : m'.lookup n_at = some (.int a1 ta)) (l5 : m'.lookup n_count = some (.int k1 tc)) (hK : Keep N n') : LrA ms so most t tl p0 a len pls RES N .next m' n'
 | ret (m' : Loc) (n' : Led) (T : Addr) (h : RES = (a, 0, n_fault)) (hK : Keep ((T, .tup [.int 0 0, .str n_fault 0]) :: N) n') : LrA ms so most t tl p0 a len pls RES N (.ret (.ref T)) m' n'
inductive LrB (RES : Nat × Nat × Str) (L : Addr) (N : Led) : Flow → Loc → Led → Prop
 | mk (m' : Loc) (n' : Led) (ta tc tr : Tok) (p1 : Addr) (pl1 : List Int) (ch : Option Value) (l1 : m'.lookup n_at = some (.int RES.1 ta)) (l2 : m'.lookup n_count = some (.int RES.2.1 tc)) (l3 : m'.lookup n_reason = some (.str RES.2.2 tr)) (hK : Keep ((p1, .ints pl1) :: (L + 2, .cellO ch) :: N) n') : LrB RES L N .next m' n'
inductive LrJ (ms : List Mach) (so : Int → Option Int) (most : Nat) (t : Tok) (tl : Addr) (len : Nat) (RES : Nat × Nat × Str) (L : Addr) (N : Led) : Nat → Loc → Led → Prop
 | on (j : Nat) (m' : Loc) (n' : Led) (ta tc tr : Tok) (p1 : Addr) (pl1 : List Int) (ch : Option Value) (q1 : m'.lookup n_tellings = some (.ref tl)) (q2 : m'.lookup n_most = some (.int most t)) (a1 k1 : Nat) (hj1 : j + 1 ≤ ms.length + 2) (hj0 : 1 ≤ j) (ha1 : a1 < len) (hja : ms.length < a1 + j) (hL : lrF ms so most j a1 k1 pl1 = RES) (hp1 : pl1.length ≤ 60)
   (hK : Keep ((p1, .ints pl1) :: (L + 2, .cellO ch) :: N) n') (q3 : m'.lookup n_places = some (.ref p1)) (q4 : m'.lookup n_at = some (.int a1 ta)) (q5 : m'.lookup n_count = some (.int k1 tc)) (q6 : m'.lookup n_reason = some (.str nS tr)) : LrJ ms so most t tl len RES L N j m' n'
 | off (m' : Loc) (n' : Led) (ta tc tr : Tok) (p1 : Addr) (pl1 : List Int) (ch : Option Value) (hrs : (RES.2.2 == nS) = false) (q3 : m'.lookup n_at = some (.int RES.1 ta)) (q4 : m'.lookup n_count = some (.int RES.2.1 tc)) (q5 : m'.lookup n_reason = some (.str RES.2.2 tr)) (hK : Keep ((p1, .ints pl1) :: (L + 2, .cellO ch) :: N) n') : LrJ ms so most t tl len RES L N 0 m' n'
theorem LrJ.offE {ms : List Mach} {so : Int → Option Int} {most : Nat} {t : Tok} {tl : Addr} {len : Nat} {RES r : Nat × Nat × Str} {L : Addr} {N : Led} {m' : Loc} {n' : Led} (e : r = RES) (ta tc tr : Tok) (p1 : Addr) (pl1 : List Int) (ch : Option Value) (hrs : (r.2.2 == nS) = false) (q3 : m'.lookup n_at = some (.int r.1 ta)) (q4 : m'.lookup n_count = some (.int r.2.1 tc)) (q5 : m'.lookup n_reason = some (.str r.2.2 tr)) (hK : Keep ((p1, .ints pl1) :: (L + 2, .cellO ch) :: N) n') : LrJ ms so most t tl len RES L N 0 m' n' := e ▸ .off _ _ ta tc tr p1 pl1 ch hrs q3 q4 q5 hK
section
variable {c : Cx} {u : Cu} {env : Env} {E : EP} {m : Loc} {n : Led} {Q : Value → Loc → Led → Prop}
theorem lawRun_ {wd tl pl sd : Addr} {over : Bool} {a : Nat} {es : List TE} {pls : List Int} {sto : Mem} {rows : List Ins} {most : Nat} {t : Tok} (hsd : (sd == sysModules) = false) (ha : a < es.length) (hes : es.length ≤ 30) (hmost : most ≤ 100) (hpl : pls.length ≤ 60) (hsto : ∀ r, mget sto r = stoAt rows r)
  (htl : (tl, AObj.list (es.map fun e => .ref e.1)) ∈ n) (hte : ∀ p ∈ telL es, p ∈ n) (hpls : (pl, AObj.ints pls) ∈ n) (hsm : (sd, AObj.mem c.w sto) ∈ n) (hh : u.hd = none) (hr : 10 ≤ u.r)
  (h : ∀ T, Q (.ref T) m ((T, .tup [.int (lawRun (mchs es) rows most a pls).2.1 0, .str (lawRun (mchs es) rows most a pls).2.2 0]) :: (wd, .smap c.w (worldS tl over (lawRun (mchs es) rows most a pls).1 pl sd)) :: n)) :
  V c u env (call (.ref 1129) [.ref wd, .int most t]) Q E m ((wd, .smap c.w (worldS tl over a pl sd)) :: n) := by
 refine V.keepN ?_
 refine CallC_ (f_law_run _) (binds := [(n_world, .ref wd), (n_most, .int most t)]) (fun _ _ _ => by kernel_rfl) (by kp_kind "dq") (by kernel_rfl) (cs := fun L => [(n_here, L + 2), (n_world, L + 1)]) (fun L => by kernel_rfl) (m₀ := [(n_most, .int most t)]) (by kernel_rfl) (b₀ := [(n_world, .ref wd)]) (by kernel_rfl) (by lia) ?_
 intro L _ _ _ _
 show V _ _ _ _ _ _ _ ((L + 2, .cellO none) :: (L + 1, .cellO (some (.ref wd))) :: (wd, .smap c.w (worldS tl over a pl sd)) :: n)
 refine execs_cons ?_
 kp_kind "names"
 kp_kind "r"
 refine AssignSw_ (names := [n_tellings, n_places, n_at]) (by exact hh) (by kernel_rfl) ?_
 kp_kind "r"
 refine NameC_ (by kernel_rfl) (by kernel_rfl) (a := L + 1) (by kernel_rfl) (by kp_kind "mem") (by kernel_rfl) (rf ?_)
 kp_kind "r"
 refine subS_ (es := worldS tl over a pl sd) (x := .ref tl) (by kp_kind "mem") (by kernel_rfl) (by kernel_rfl) (rf ?_)
 kp_kind "r"
 refine NameC_ (by kernel_rfl) (by kernel_rfl) (a := L + 1) (by kernel_rfl) (by kp_kind "mem") (by kernel_rfl) (rf ?_)
 kp_kind "r"
 refine subS_ (es := worldS tl over a pl sd) (x := .ref pl) (by kp_kind "mem") (by kernel_rfl) (by kernel_rfl) (rf ?_)
 kp_kind "r"
 refine listCopy_ (xs := pls.map vi) (by kp_kind "mem") (by rw [List.length_map]; lia) fun p0 => ?_
 kp_kind "r"
 refine NameC_ (by kernel_rfl) (by kernel_rfl) (a := L + 1) (by kernel_rfl) (by kp_kind "mem") (by kernel_rfl) (rf ?_)
 kp_kind "r"
 refine subS_ (es := worldS tl over a pl sd) (x := .int a 0) (by kp_kind "mem") (by kernel_rfl) (by kernel_rfl) (it_ fun ta => ?_)
 kp_kind "r"
 refine unpRRI_ fun tz => ?_
 refine V.keep0 (n' := (p0, .ints pls) :: (L + 2, .cellO none) :: (L + 1, .cellO (some (.ref wd))) :: (wd, .smap c.w (worldS tl over a pl sd)) :: n) (Keep.skip Keep.refl) ?_
 iterate 14 (first | kp_kind "1" | refine inOrd_ ?_ | refine inOrd0_ ?_ | refine bindN_ ?_)
 generalize hRES : lawRun (mchs es) rows most a pls = RES at h
 have hml : (mchs es).length = es.length := by unfold mchs; simp
 have hmg : ∀ {i : Nat} {e : TE}, es[i]? = some e → (mchs es)[i]? = some e.2.2 := fun he => by unfold mchs; rw [List.getElem?_map, he]; rfl
 refine V.mono (Q := LrA (mchs es) (stoAt rows) most t tl p0 a es.length pls RES ((p0, .ints pls) :: (L + 2, .cellO none) :: (L + 1, .cellO (some (.ref wd))) :: (wd, .smap c.w (worldS tl over a pl sd)) :: n)) ?_ ?_ (fun _ _ _ _ _ x => x)
 ·obtain ⟨e, he⟩ : ∃ e, es[a]? = some e := ⟨_, List.getElem?_eq_getElem ha⟩
  have hem := tel_get he hte
  have hRES' := hRES
  unfold lawRun at hRES'
  rw [hmg he] at hRES'
  dsimp only at hRES'
  kp_kind "1"
  kp_kind "r"
  refine subL_ (xs := es.map fun e => .ref e.1) (x := .ref e.1) (by kp_kind "mem") (by lia) (by lia) (by rw [show ((a : Nat) : Int).toNat = a from rfl, List.getElem?_map, he]; rfl) (by kernel_rfl) (rf ?_)
  kp_kind "r"
  refine subDI_ (as := e.2.1) (l := [.tup (e.2.2.regs.map .int), .tup ((List.replicate 16 (0 : Int)).map .int), .tup ((List.replicate 7 (0 : Int)).map .int), memDT e.2.2.mem, .int e.2.2.rip, .tup [.int 0, .int 0], .bool e.2.2.halted]) (i := e.2.2.rip) (by exact .tail _ (.tail _ (.tail _ (.tail _ hem)))) (by decide) (by decide) rfl (by kernel_rfl) fun t4 => ?_
  kp_kind "r"
  refine inLI_ (ns := pls) (by kp_kind "mem") ?_
  kp_kind "r"
  cases hany : pls.any (· == e.2.2.rip) with
  | false =>
   rw [hany, if_neg (fun x => by cases x.1)] at hRES'
   refine ifF rfl ?_
   kp_kind "r"
   exact .go _ _ a 0 _ _ ha hRES' (by kp_kind "lk") (by kp_kind "lk") (by kp_kind "lk") (by kp_kind "lk") (by kp_kind "lk") .refl
  | true =>
   rw [hany] at hRES'
   refine ifT rfl ?_
   kp_kind "r"
   by_cases hm0 : 0 < most
   ·rw [if_pos ⟨rfl, hm0⟩] at hRES'
    refine ifT (by simpa using hm0) ?_
    kp_kind "r"
    refine len_ (xs := es.map fun e => .ref e.1) (by exact List.mem_cons_of_mem _ (List.mem_cons_of_mem _ (List.mem_cons_of_mem _ (List.mem_cons_of_mem _ htl)))) (by rw [List.length_map]; lia) fun t5 => ?_
    rw [List.length_map]
    kp_kind "r"
    by_cases hlast : a + 1 = (mchs es).length
    ·rw [if_pos hlast] at hRES'
     refine ifT (by rw [hml] at hlast; rw [← hlast]; simp) ?_
     kp_kind "r"
     exact .ret _ _ _ hRES'.symm .refl
    ·rw [if_neg hlast] at hRES'
     refine ifF (by rw [hml] at hlast; simp; lia) ?_
     kp_kind "r"
     refine AssignSw_ (names := [n_at, n_count]) (by exact hh) (by kernel_rfl) ?_
     kp_kind "r"
     refine unpII (by kernel_rfl) (by kernel_rfl) fun tx ty => ?_
     kp_kind "r"
     exact .go _ _ (a + 1) 1 _ _ (by lia) hRES' (by kp_kind "lk") (by kp_kind "lk") (by kp_kind "lk") (lkI (by lia)) (by kp_kind "lk") (Keep.skip Keep.refl)
   ·rw [if_neg (fun x => hm0 x.2)] at hRES'
    refine ifF (by simpa using hm0) ?_
    kp_kind "r"
    exact .go _ _ a 0 _ _ ha hRES' (by kp_kind "lk") (by kp_kind "lk") (by kp_kind "lk") (by kp_kind "lk") (by kp_kind "lk") .refl
 rintro fl m' n' (⟨_, _, a1, k1, ta1, tc1, ha1, hL, l1, l2, l3, l4, l5, hK⟩ | ⟨_, _, T, hR, hK⟩)
 ·refine V.keepL hK ?_
  intro l₀
  iterate 4 kp_kind "1"
  refine V.mono (Q := LrB RES L ((L + 1, .cellO (some (.ref wd))) :: (wd, .smap c.w (worldS tl over a pl sd)) :: n)) ?_ ?_ (fun _ _ _ _ _ x => x)
  ·refine While_ (LrJ (mchs es) (stoAt rows) most t tl es.length RES L ((L + 1, .cellO (some (.ref wd))) :: (wd, .smap c.w (worldS tl over a pl sd)) :: n)) ((mchs es).length + 1)
    (.on _ _ _ ta1 tc1 _ p0 pls none (by kp_kind "lk") (by kp_kind "lk") a1 k1 (by lia) (by lia) ha1 (by lia) hL hpl .refl (by kp_kind "lk") (by kp_kind "lk") (by kp_kind "lk") (by kp_kind "lk")) ?_
   rintro _ j m' n' (⟨_, _, _, ta, tc, tr, p1, pl1, ch, q1, q2, a1, k1, hj1, hj0, ha1, hja, hL, hp1, hK, q3, q4, q5, q6⟩ | ⟨_, _, ta, tc, tr, p1, pl1, ch, hrs, q3, q4, q5, hK⟩)
   ·refine V.keepL hK ?_
    intro l₀
    obtain ⟨f, rfl⟩ : ∃ f, j = f + 1 := ⟨j - 1, by lia⟩
    obtain ⟨e, he⟩ : ∃ e, es[a1]? = some e := ⟨_, List.getElem?_eq_getElem ha1⟩
    have hem := tel_get he hte
    unfold lrF at hL
    rw [hmg he] at hL
    dsimp only at hL
    kp_kind "r"
    refine subL_ (xs := es.map fun e => .ref e.1) (x := .ref e.1) (by exact List.mem_cons_of_mem _ (List.mem_cons_of_mem _ (List.mem_cons_of_mem _ (List.mem_cons_of_mem _ htl)))) (by lia) (by lia) (by rw [show ((a1 : Nat) : Int).toNat = a1 from rfl, List.getElem?_map, he]; rfl) (by kernel_rfl) (rf ?_)
    kp_kind "r"
    refine subDI_ (as := e.2.1) (l := [.tup (e.2.2.regs.map .int), .tup ((List.replicate 16 (0 : Int)).map .int), .tup ((List.replicate 7 (0 : Int)).map .int), memDT e.2.2.mem, .int e.2.2.rip, .tup [.int 0, .int 0], .bool e.2.2.halted]) (i := e.2.2.rip) (by exact .tail _ (.tail _ (.tail _ (.tail _ hem)))) (by decide) (by decide) rfl (by kernel_rfl) fun t4 => ?_
    kp_kind "r"
    refine ⟨?_⟩
    refine StoreC_ (by kernel_rfl) (by kernel_rfl) (a := L + 2) (v₀ := ch) (by kernel_rfl) (.there .here) ?_
    kp_kind "r"
    refine subL_ (xs := es.map fun e => .ref e.1) (x := .ref e.1) (by exact List.mem_cons_of_mem _ (List.mem_cons_of_mem _ (List.mem_cons_of_mem _ (List.mem_cons_of_mem _ htl)))) (by lia) (by lia) (by rw [show ((a1 : Nat) : Int).toNat = a1 from rfl, List.getElem?_map, he]; rfl) (by kernel_rfl) (rf ?_)
    kp_kind "r"
    refine subDB_ (as := e.2.1) (l := [.tup (e.2.2.regs.map .int), .tup ((List.replicate 16 (0 : Int)).map .int), .tup ((List.replicate 7 (0 : Int)).map .int), memDT e.2.2.mem, .int e.2.2.rip, .tup [.int 0, .int 0], .bool e.2.2.halted]) (b := e.2.2.halted) (by exact .tail _ (.tail _ (.tail _ (.tail _ hem)))) (by decide) (by decide) rfl (by kernel_rfl) ?_
    kp_kind "r"
    cases hha : e.2.2.halted with
    | true =>
     rw [if_pos hha] at hL
     refine ifT rfl ?_
     kp_kind "r"
     exact ⟨0, by lia, .offE hL ta tc _ p1 pl1 _ (by show (n_halted == nS) = false; kp_kind "dq") (by kp_kind "lk") (by kp_kind "lk") (by kp_kind "lk") .refl⟩
    | false =>
     rw [if_neg (by simp [hha])] at hL
     refine ifF rfl ?_
     kp_kind "r"
     by_cases hmk : most ≤ k1
     ·rw [if_pos hmk] at hL
      refine ifT (by simpa using hmk) ?_
      kp_kind "r"
      exact ⟨0, by lia, .offE hL ta tc _ p1 pl1 _ (by show (n_most == nS) = false; kp_kind "dq") (by kp_kind "lk") (by kp_kind "lk") (by kp_kind "lk") .refl⟩
     ·rw [if_neg hmk] at hL
      refine ifF (by simpa using hmk) ?_
      kp_kind "r"
      refine NameC_ (by kernel_rfl) (by kernel_rfl) (a := L + 2) (by kernel_rfl) (by kp_kind "mem") (by kernel_rfl) (it_ fun th => ?_)
      kp_kind "r"
      refine inLI_ (ns := pl1) (by kp_kind "mem") ?_
      kp_kind "r"
      cases hany : pl1.any (· == e.2.2.rip) with
      | true =>
       rw [hany, if_pos rfl] at hL
       refine ifT rfl ?_
       kp_kind "r"
       exact ⟨0, by lia, .offE hL ta tc _ p1 pl1 _ (by show (n_break == nS) = false; kp_kind "dq") (by kp_kind "lk") (by kp_kind "lk") (by kp_kind "lk") .refl⟩
      | false =>
       rw [hany, if_neg (by decide)] at hL
       refine ifF rfl ?_
       kp_kind "r"
       refine len_ (xs := es.map fun e => .ref e.1) (by exact List.mem_cons_of_mem _ (List.mem_cons_of_mem _ (List.mem_cons_of_mem _ (List.mem_cons_of_mem _ htl)))) (by rw [List.length_map]; lia) fun t5 => ?_
       rw [List.length_map]
       kp_kind "r"
       by_cases hlast : a1 + 1 = (mchs es).length
       ·rw [if_pos hlast] at hL
        refine ifT (by rw [hml] at hlast; rw [← hlast]; simp) ?_
        kp_kind "r"
        exact ⟨0, by lia, .offE hL ta tc _ p1 pl1 _ (by show (n_fault == nS) = false; kp_kind "dq") (by kp_kind "lk") (by kp_kind "lk") (by kp_kind "lk") .refl⟩
       ·rw [if_neg hlast] at hL
        refine ifF (by rw [hml] at hlast; simp; lia) ?_
        kp_kind "r"
        refine NameC_ (by kernel_rfl) (by kernel_rfl) (a := L + 2) (by kernel_rfl) (by kp_kind "mem") (by kernel_rfl) (it_ fun th2 => ?_)
        kp_kind "r"
        refine NameC_ (by kernel_rfl) (by kernel_rfl) (a := L + 1) (by kernel_rfl) (by kp_kind "mem") (by kernel_rfl) (rf ?_)
        kp_kind "r"
        refine subS_ (es := worldS tl over a pl sd) (x := .ref sd) (by kp_kind "mem") (by kernel_rfl) (by kernel_rfl) (rf ?_)
        kp_kind "r"
        refine inM_ (l := sto) (by exact .tail _ (.tail _ (.tail _ (.tail _ hsm)))) hsd ?_
        kp_kind "r"
        rw [hsto]
        cases hs : stoAt rows e.2.2.rip with
        | none =>
         rw [hs] at hL
         dsimp only at hL
         refine ifF rfl ?_
         kp_kind "r"
         refine AssignSw_ (names := [n_at, n_count]) (by exact hh) (by kernel_rfl) ?_
         kp_kind "r"
         refine unpII (by kernel_rfl) (by kernel_rfl) fun tx ty => ?_
         kp_kind "r"
         exact ⟨f, by lia, .on _ _ _ _ _ tr p1 pl1 _ (by kp_kind "lk") (by kp_kind "lk") (a1 + 1) (k1 + 1) (by lia) (by lia) (by lia) (by lia) hL hp1 (Keep.skip Keep.refl) (by kp_kind "lk") (lkI (by lia)) (lk_miss (by kernel_rfl) (lkI (by lia))) (by kp_kind "lk")⟩
        | some pt =>
         rw [hs] at hL
         dsimp only at hL
         refine ifT rfl ?_
         kp_kind "r"
         refine ⟨?_⟩
         refine AssignComp1_ (cl := [(n_world, L + 1), (n_here, L + 2)]) (by kernel_rfl) (by kernel_rfl) (by kernel_rfl) (by kp_kind "dq") (by kernel_rfl) (by kp_kind "dq") ?_
         kp_kind "r"
         refine iterL_ (xs := pl1.map vi) (by kp_kind "mem") fun it => ?_
         intro C D _ _
         refine ⟨pl1.length, fun i m' n' => Keep ((it, .liter p1 i) :: (D, .ints ((pl1.take i).filter fun x => x != pt)) :: (p1, .ints pl1) :: (L + 2, .cellO (some (.int e.2.2.rip 0))) :: (L + 1, .cellO (some (.ref wd))) :: (wd, .smap c.w (worldS tl over a pl sd)) :: n) n', Keep.cons (.there .here) Keep.refl, ?_, ?_⟩
         ·rintro _ m' n' hK
          exact selfLM_ (hK.mem _ (.head _))
         rintro _ i mc n' hi hK
         refine turnName (by kernel_rfl) ?_
         refine V.keepL hK ?_
         intro l₀
         refine nextLI_ pl1 (by exact hh) (by kp_kind "mem") (fun jj tj hjj hil => ?_) (fun hge => ?_)
         ·skip
          kp_kind "r"
          refine NameC_ (by kernel_rfl) (by kernel_rfl) (a := L + 1) (by kernel_rfl) (by kp_kind "mem") (by kernel_rfl) (rf ?_)
          kp_kind "r"
          refine subS_ (es := worldS tl over a pl sd) (x := .ref sd) (by kp_kind "mem") (by kernel_rfl) (by kernel_rfl) (rf ?_)
          kp_kind "r"
          refine NameC_ (by kernel_rfl) (by kernel_rfl) (a := L + 2) (by kernel_rfl) (by kp_kind "mem") (by kernel_rfl) (it_ fun th3 => ?_)
          kp_kind "r"
          refine subM_ (l := sto) (i := pt) (by exact .tail _ (.tail _ (.tail _ (.tail _ (.tail _ (.tail _ hsm)))))) (by rw [hsto]; exact hs) (by kernel_rfl) fun t8 => ?_
          kp_kind "r"
          by_cases hjp : jj = pt
          ·refine ifF (by simpa using hjp) ?_
           refine ⟨hil, ?_⟩
           show Keep _ _
           rw [ftk0 hjj hjp]
           exact Keep.refl
          ·refine ifT (by simpa using hjp) ?_
           kp_kind "r"
           refine appendI_ (ns := (pl1.take i).filter fun x => x != pt) (by kp_kind "put") (Nat.le_trans (List.length_filter_le _ _) (by rw [List.length_take]; lia)) ?_
           refine ⟨hil, ?_⟩
           show Keep _ _
           rw [ftk1 hjj hjp]
           exact Keep.refl
         ·have this := hge
          rw [List.take_of_length_le this]
          kp_kind "r"
          refine AssignSw_ (names := [n_at, n_count]) (by exact hh) (by kernel_rfl) ?_
          kp_kind "r"
          refine unpII (by kernel_rfl) (by kernel_rfl) fun tx ty => ?_
          kp_kind "r"
          exact ⟨f, by lia, .on _ _ _ _ _ tr D (pl1.filter fun x => x != pt) _ (by kp_kind "lk") (by kp_kind "lk") (a1 + 1) (k1 + 1) (by lia) (by lia) (by lia) (by lia) hL (Nat.le_trans (List.length_filter_le _ _) hp1) (Keep.skip (Keep.consC (Keep.skip Keep.refl))) (by kp_kind "lk") (lkI (by lia)) (lk_miss (by kernel_rfl) (lkI (by lia))) (by kp_kind "lk")⟩
   ·refine V.keepL hK ?_
    intro l₀
    kp_kind "r"
    exact .mk _ _ ta tc tr p1 pl1 ch q3 q4 q5 .refl
  rintro fl m' n' ⟨_, _, ta, tc, tr, p1, pl1, ch, q1, q2, q3, hK⟩
  refine after_next ?_
  refine V.keepL hK ?_
  intro l₀
  kp_kind "r"
  refine NameC_ (by kernel_rfl) (by kernel_rfl) (a := L + 1) (by kernel_rfl) (by kp_kind "mem") (by kernel_rfl) (rf ?_)
  kp_kind "r"
  refine setS_ (es := worldS tl over a pl sd) (n' := (p1, .ints pl1) :: (L + 2, .cellO ch) :: (L + 1, .cellO (some (.ref wd))) :: (wd, .smap c.w (worldS tl over RES.1 pl sd)) :: n) (.there (.there (.there .here))) (by show (5 : Nat) ≤ 10000; decide) ?_
  kp_kind "r"
  rename_i T1
  exact ⟨_, .refl _, _, Keep.consC (Keep.drop [_, _, _] Keep.refl), h T1⟩
 ·kp_kind "r"
  rw [hR] at h
  exact ⟨_, .refl _, _, Keep.trans (Keep.consC (Keep.drop [_, _, _] Keep.refl)) hK, h T⟩
end
theorem canAll {l : List PyData} (h : ∀ x ∈ l, x.canLay0 = true) : PyData.canLayAll0 l = true := by
 induction l with
 | nil => rfl
 | cons x l ih =>
  unfold PyData.canLayAll0
  rw [h x (.head _), ih fun y hy => h y (.tail _ hy)]; rfl
theorem depAll {l : List PyData} {k : Nat} (h : ∀ x ∈ l, x.depth ≤ k) : PyData.depthAll l ≤ k := by
 induction l with
 | nil => unfold PyData.depthAll; lia
 | cons x l ih =>
  unfold PyData.depthAll
  have h1 := h x (.head _)
  have h2 := ih fun y hy => h y (.tail _ hy)
  lia
mutual
theorem DT.can : ∀ t : DT, t.pd.canLay0 = true
 | .int i => by unfold DT.pd; rfl
 | .bool b => by unfold DT.pd; rfl
 | .tup l => by
  unfold DT.pd
  show PyData.canLayAll0 (DT.pdL l) = true
  exact DT.canL l
theorem DT.canL : ∀ l : List DT, PyData.canLayAll0 (DT.pdL l) = true
 | [] => by unfold DT.pdL; rfl
 | t :: l => by
  unfold DT.pdL PyData.canLayAll0
  rw [DT.can t, DT.canL l]; rfl
end
theorem pdL_map : ∀ l : List DT, DT.pdL l = l.map DT.pd
 | [] => by unfold DT.pdL; rfl
 | t :: l => by unfold DT.pdL; rw [pdL_map l]; rfl
theorem dep_ints {l : List Int} : (DT.tup (l.map .int)).pd.depth ≤ 1 := by
 unfold DT.pd
 show PyData.depthAll (DT.pdL (l.map .int)) + 1 ≤ 1
 rw [pdL_map]
 have : PyData.depthAll ((l.map DT.int).map DT.pd) ≤ 0 := depAll fun x hx => by
  obtain ⟨y, hy, rfl⟩ := List.mem_map.mp hx
  obtain ⟨z, hz, rfl⟩ := List.mem_map.mp hy
  unfold DT.pd PyData.depth
  lia
 lia
theorem dep_told (M : Mach) : (toldDT M).pd.depth ≤ 3 := by
 unfold toldDT DT.pd
 show PyData.depthAll (DT.pdL _) + 1 ≤ 3
 rw [pdL_map]
 have : PyData.depthAll (List.map DT.pd [DT.tup (M.regs.map .int), .tup ((List.replicate 16 (0 : Int)).map .int), .tup ((List.replicate 7 (0 : Int)).map .int), memDT M.mem, .int M.rip, .tup [.int 0, .int 0], .bool M.halted]) ≤ 2 := depAll fun x hx => by
  simp only [List.map_cons, List.map_nil, List.mem_cons, List.not_mem_nil, or_false] at hx
  rcases hx with rfl | rfl | rfl | rfl | rfl | rfl | rfl
  ·exact Nat.le_trans dep_ints (by lia)
  ·exact Nat.le_trans dep_ints (by lia)
  ·exact Nat.le_trans dep_ints (by lia)
  ·unfold memDT DT.pd
   show PyData.depthAll (DT.pdL _) + 1 ≤ 2
   rw [pdL_map]
   have : PyData.depthAll (((srt (nz M.mem)).map fun i => pairD ((nz M.mem).getD i (0, 0))).map DT.pd) ≤ 1 := depAll fun x hx => by
    obtain ⟨y, hy, rfl⟩ := List.mem_map.mp hx
    obtain ⟨z, hz, rfl⟩ := List.mem_map.mp hy
    exact dep_ints (l := [((nz M.mem).getD z (0, 0)).1, ((nz M.mem).getD z (0, 0)).2])
   lia
  ·unfold DT.pd PyData.depth; lia
  ·exact Nat.le_trans (dep_ints (l := [0, 0])) (by lia)
  ·unfold DT.pd PyData.depth; lia
 lia
theorem shaped_told (M : Mach) : SeqAt.shaped (toldDT M).pd = true := by
 unfold SeqAt.shaped
 rw [DT.can, Bool.true_and, decide_eq_true_eq]
 have := dep_told M
 lia
theorem shaped_ints (ns : List Int) : SeqAt.shaped (.list ((ns.map vi).map pdv)) = true := by
 have e : (ns.map vi).map pdv = ns.map PyData.int := by rw [List.map_map]; rfl
 unfold SeqAt.shaped
 rw [e, Bool.and_eq_true, decide_eq_true_eq]
 constructor
 ·show PyData.canLayAll0 (ns.map PyData.int) = true
  exact canAll fun x hx => by obtain ⟨y, hy, rfl⟩ := List.mem_map.mp hx; rfl
 ·show PyData.depthAll (ns.map PyData.int) + 1 ≤ 64
  have : PyData.depthAll (ns.map PyData.int) ≤ 0 := depAll fun x hx => by
   obtain ⟨y, hy, rfl⟩ := List.mem_map.mp hx
   unfold PyData.depth; lia
  lia
theorem flat_ints (ns : List Int) : ∀ x ∈ ns.map vi, flatV x = true := fun x hx => by obtain ⟨y, hy, rfl⟩ := List.mem_map.mp hx; rfl
section
variable {c : Cx} {u : Cu} {env : Env} {E : EP} {m : Loc} {n : Led} {Q : Value → Loc → Led → Prop}
theorem eqI_ {a b : Addr} {ns : List Int} (hr : 8 ≤ u.r) (ha : (a, AObj.ints ns) ∈ n) (hb : (b, AObj.ints ns) ∈ n) (h : Q (.bool true) m n) : V c u env (compareOp .Eq (.ref a) (.ref b)) Q E m n :=
 eqL_ (xs := ns.map vi) (ys := ns.map vi) hr ha hb (flat_ints ns) (flat_ints ns) (shaped_ints ns) (shaped_ints ns) (by rw [SeqAt.eqv_refl _ (SeqAt.canLay_of_shaped (shaped_ints ns))]; exact h)
end
noncomputable def octF (l : Mem) (k : Nat) : List Int := (List.range k).map fun (i : Nat) => oct l (4096 + i)
theorem octF_succ (l : Mem) (k : Nat) : octF l (k + 1) = octF l k ++ [oct l (4096 + k)] := by unfold octF; rw [List.range_succ, List.map_append]; rfl
theorem octF_len (l : Mem) (k : Nat) : (octF l k).length = k := by unfold octF; simp
theorem octF_get (l : Mem) {k i : Nat} (h : i < k) : (octF l k)[i]? = some (oct l (4096 + i)) := by unfold octF; rw [List.getElem?_map, List.getElem?_range h]; rfl
noncomputable def dueF (l : Mem) (pls : List Int) (k : Nat) : List Int := (List.range k).map fun (i : Nat) => if pls.any (· == (4096 + (i : Int))) then 204 else oct l (4096 + i)
theorem dueF_succ (l : Mem) (pls : List Int) (k : Nat) : dueF l pls (k + 1) = dueF l pls k ++ [if pls.any (· == (4096 + (k : Int))) then 204 else oct l (4096 + k)] := by unfold dueF; rw [List.range_succ, List.map_append]; rfl
theorem dueF_len (l : Mem) (pls : List Int) (k : Nat) : (dueF l pls k).length = k := by unfold dueF; simp
theorem held_due {wide k : Nat} (hw : wide ≤ 24) {R : Mach} (hI : Inv wide k R) {pls : List Int} : octF (cover pls R.mem) wide = dueF R.mem pls wide := by
 unfold octF dueF
 refine List.map_congr_left fun i hi => ?_
 have hi' : i < wide := List.mem_range.mp hi
 have hm : (4096 + (i : Int)) % W64 = 4096 + i := Int.emod_eq_of_lt (by lia) (by unfold W64; lia)
 obtain ⟨v, hv, _⟩ := hI.code (4096 + i) (by lia) (by lia)
 cases h : pls.any (· == (4096 + (i : Int))) with
 | true => rw [if_pos rfl]; exact oct_cover_in (v := v) (by rw [hm]; exact h) (by rw [hm]; exact hv)
 | false => rw [if_neg (by decide)]; exact oct_cover_out (by rw [hm]; exact h)
theorem shown_clean {wide k : Nat} (hw : wide ≤ 24) {R : Mach} (hI : Inv wide k R) {pls : List Int} {kept : Mem} (hk : ∀ p, mget kept p = if pls.any (· == p) = true then some (oct R.mem p) else none) : shownF (cover pls R.mem) kept 4096 wide = octF R.mem wide := by
 unfold octF shownF
 refine List.map_congr_left fun i hi => ?_
 have hi' : i < wide := List.mem_range.mp hi
 have hm : (4096 + (i : Int)) % W64 = 4096 + i := Int.emod_eq_of_lt (by lia) (by unfold W64; lia)
 obtain ⟨v, hv, _⟩ := hI.code (4096 + i) (by lia) (by lia)
 have hn := (not_204 hI (p := 4096 + i) (by lia) (by lia) hw).1
 cases h : pls.any (· == (4096 + (i : Int))) with
 | true =>
  rw [if_pos (oct_cover_in (v := v) (by rw [hm]; exact h) (by rw [hm]; exact hv)), hk, if_pos h]; rfl
 | false =>
  rw [oct_cover_out (by rw [hm]; exact h), if_neg hn]
theorem kept_get (m : Mem) (p : Int) : ∀ pls : List Int, mget (pls.map fun p => (p, oct m p)) p = if pls.any (· == p) = true then some (oct m p) else none
 | [] => rfl
 | x :: pls => by
  have ih := kept_get m p pls
  unfold mget at ih ⊢
  rw [List.map_cons, List.find?_cons, List.any_cons]
  by_cases e : x = p
  ·subst e; simp
  ·have : (x == p) = false := by simpa using e
   rw [this, Bool.false_or]
   simp only [e, decide_false]
   exact ih
theorem Keep.behind {p q a n : Led} : Keep (p ++ (q ++ (a ++ n))) (a ++ (p ++ (q ++ n))) := by
 have := Keep.swap (a := p ++ q) (b := a) (n := n)
 simpa only [List.append_assoc] using this
section
variable {c : Cx} {u : Cu} {env : Env} {E : EP} {m : Loc} {n : Led} {Q : Value → Loc → Led → Prop} {A : SA} {M : Mach} {P : PA} {pls : List Int}
theorem selfRM_ {it : Addr} {x left : Int} (hm : (it, AObj.riter x left) ∈ n) : V c u env (pyIter (.ref it)) (fun it' m' n' => it' = .ref it ∧ m' = m ∧ n' = n) E m n :=
 V.val (.ref it) (fun A hp tk ok fit md Q' E' hq => by
  obtain ⟨o, ho', rfl⟩ := md.led _ hm
  exact wpAny_pyIter_rangeiter ho' (hq _)) ⟨rfl, rfl, rfl⟩
theorem looked_ {wd tl pl sd : Addr} {over : Bool} {a wide k : Nat} {t : Tok} (hI : Inv wide k M) (hk : k ≤ 40) (hw : wide ≤ 24) (hin : InCode wide pls) (hnd : pls.Nodup) (hpl : pls.length ≤ 60) (hA : (A.h == sysModules) = false) (hPk : (P.k == sysModules) = false)
  (hplm : (pl, AObj.ints pls) ∈ n) (hh : u.hd = none) (hr : 12 ≤ u.r)
  (h : ∀ P', P'.p = P.p → (P'.k == sysModules) = false → Q (.bool true) m (ptL c.w P' A.mm pls [] ++ (stL c.w A M ++ ((wd, .smap c.w (worldS tl over a pl sd)) :: n)))) :
  V c u env (call (.ref 1134) [.ref A.s, .ref P.p, .ref wd, .int wide t]) Q E m (ptL c.w P A.mm pls [] ++ (stL c.w A M ++ ((wd, .smap c.w (worldS tl over a pl sd)) :: n))) := by
 obtain ⟨KP, hKP⟩ : ∃ KP, KP = pls.map fun p => (p, oct M.mem p) := ⟨_, rfl⟩
 have hkg : ∀ p, mget KP p = if pls.any (· == p) = true then some (oct M.mem p) else none := fun p => by rw [hKP]; exact kept_get M.mem p pls
 have hkl : KP.length = pls.length := by rw [hKP, List.length_map]
 have hkk : KP.map (·.1) = pls := by rw [hKP, List.map_map]; exact (List.map_congr_left fun x _ => rfl).trans (List.map_id pls)
 have hplant : plantF pls M.mem [] = (cover pls M.mem, KP) := by
  have := plantF_eq hw (m := M.mem) (fun p h1 h2 => by obtain ⟨v, hv, _⟩ := hI.code p h1 h2; exact ⟨v, hv⟩) pls [] [] hin hnd rfl
  rw [cover_nil, List.nil_append, List.nil_append] at this
  rw [this, hKP]
 have hsz : M.mem.length ≤ 400 := by have := hI.size; lia
 have hsh : shownF (cover pls M.mem) KP 4096 wide = octF M.mem wide := shown_clean hw hI hkg
 have hoct : ∀ i ∈ octF M.mem wide, 0 ≤ i ∧ i < 256 := by
  intro x hx
  obtain ⟨i, hi, rfl⟩ := List.mem_map.mp hx
  have hi' : i < wide := List.mem_range.mp hi
  have := not_204 hI (p := 4096 + i) (by lia) (by lia) hw
  lia
 have hdue := held_due hw hI (pls := pls)
 refine V.keepN ?_
 refine CallC_ (f_law_looked _) (binds := [(n_state, .ref A.s), (n_points, .ref P.p), (n_world, .ref wd), (n_wide, .int wide t)]) (fun _ _ _ => by kernel_rfl) (by kp_kind "dq") (by kernel_rfl) (cs := fun L => [(n_world, L + 2), (n_state, L + 1)]) (fun L => by kernel_rfl) (m₀ := [(n_wide, .int wide t), (n_points, .ref P.p)]) (by kernel_rfl) (b₀ := [(n_world, .ref wd), (n_state, .ref A.s)]) (by kernel_rfl) (by lia) ?_
 intro L _ _ _ _
 show V _ _ _ _ _ _ _ ((L + 2, .cellO (some (.ref wd))) :: (L + 1, .cellO (some (.ref A.s))) :: (ptL c.w P A.mm pls [] ++ (stL c.w A M ++ ((wd, .smap c.w (worldS tl over a pl sd)) :: n))))
 refine execs_cons ?_
 kp_kind "names"
 kp_kind "r"
 refine ⟨?_⟩
 refine AssignComp0_ (cl := [(n_state, L + 1)]) (by kernel_rfl) (by kernel_rfl) (by kernel_rfl) (by kp_kind "dq") (by kernel_rfl) (by kp_kind "dq") ?_
 kp_kind "r"
 refine range_ fun r0 => ?_
 kp_kind "r"
 refine iterR_ (.head _) (by decide) (by lia) (by lia) fun it0 => ?_
 intro C0 D0 _ _
 refine ⟨wide, fun i m' n' => Keep ((it0, .riter i (wide - 0 - i)) :: (D0, .ints (octF (M.mem) i)) :: ((L + 2, .cellO (some (.ref wd))) :: (L + 1, .cellO (some (.ref A.s))) :: (ptL c.w P A.mm pls [] ++ (stL c.w A M ++ ((wd, .smap c.w (worldS tl over a pl sd)) :: n))))) n', ?_, ?_, ?_⟩
 ·refine Keep.cons (.there .here) (Keep.cons .here ?_)
  exact Keep.skip Keep.refl
 ·rintro _ m' n' hK
  exact selfRM_ (hK.mem _ (.head _))
 rintro _ i mc n' hi hK
 refine turnName (by kernel_rfl) ?_
 refine V.keepL hK ?_
 intro l₀
 refine nextR_ (by exact hh) (fun hlt tt => ?_) (fun hge => ?_)
 ·kp_kind "r"
  refine NameC_ (by kernel_rfl) (by kernel_rfl) (a := L + 1) (by kernel_rfl) (by kp_kind "mem") (by kernel_rfl) (rf ?_)
  kp_kind "r"
  refine octet_ (d := A.md) (hd := A.h) (l := M.mem) (by kp_kind "mem") (by kp_kind "mem") hA (by kp_kind "room") fun t1 => ?_
  kp_kind "r"
  refine appendI_ (ns := octF (M.mem) i) (by kp_kind "put") (by rw [octF_len]; lia) ?_
  refine ⟨by lia, ?_⟩
  show Keep _ _
  rw [octF_succ]
  rw [show (wide : Int) - 0 - i - 1 = wide - 0 - ((i + 1 : Nat) : Int) by lia]
  exact Keep.refl
 have hiw : i = wide := by lia
 rw [hiw]
 refine V.keep0 (n' := ptL c.w P A.mm pls [] ++ (stL c.w A M ++ ([(D0, .ints (octF M.mem wide)), (L + 2, .cellO (some (.ref wd))), (L + 1, .cellO (some (.ref A.s)))] ++ ((wd, .smap c.w (worldS tl over a pl sd)) :: n)))) (Keep.behind (a := [_, _, _])) ?_
 kp_kind "r"
 refine ptPlant_ rfl hPk hA (by lia) (by simp; lia) (by exact hh) (by kp_kind "room") ?_
 rw [hplant]
 kp_kind "r"
 refine ⟨?_⟩
 refine AssignComp0_ (cl := [(n_state, L + 1)]) (by kernel_rfl) (by kernel_rfl) (by kernel_rfl) (by kp_kind "dq") (by kernel_rfl) (by kp_kind "dq") ?_
 kp_kind "r"
 refine range_ fun r1 => ?_
 kp_kind "r"
 refine iterR_ (.head _) (by decide) (by lia) (by lia) fun it1 => ?_
 intro C1 D1 _ _
 refine ⟨wide, fun i m' n' => Keep ((it1, .riter i (wide - 0 - i)) :: (D1, .ints (octF (cover pls M.mem) i)) :: (ptL c.w P A.mm pls KP ++ (stL c.w A (M.withMem (cover pls M.mem)) ++ ([(D0, .ints (octF M.mem wide)), (L + 2, .cellO (some (.ref wd))), (L + 1, .cellO (some (.ref A.s)))] ++ ((wd, .smap c.w (worldS tl over a pl sd)) :: n))))) n', ?_, ?_, ?_⟩
 ·refine Keep.cons (.there .here) (Keep.cons .here ?_)
  exact Keep.skip Keep.refl
 ·rintro _ m' n' hK
  exact selfRM_ (hK.mem _ (.head _))
 rintro _ i mc n' hi hK
 refine turnName (by kernel_rfl) ?_
 refine V.keepL hK ?_
 intro l₀
 refine nextR_ (by exact hh) (fun hlt tt => ?_) (fun hge => ?_)
 ·kp_kind "r"
  refine NameC_ (by kernel_rfl) (by kernel_rfl) (a := L + 1) (by kernel_rfl) (by kp_kind "mem") (by kernel_rfl) (rf ?_)
  kp_kind "r"
  refine octet_ (d := A.md) (hd := A.h) (l := cover pls M.mem) (by kp_kind "mem") (by exact .tail _ (.tail _ (List.mem_append_right _ (st3 (M := (M.withMem (cover pls M.mem))))))) hA (by kp_kind "room") fun t1 => ?_
  kp_kind "r"
  refine appendI_ (ns := octF (cover pls M.mem) i) (by kp_kind "put") (by rw [octF_len]; lia) ?_
  refine ⟨by lia, ?_⟩
  show Keep _ _
  rw [octF_succ]
  rw [show (wide : Int) - 0 - i - 1 = wide - 0 - ((i + 1 : Nat) : Int) by lia]
  exact Keep.refl
 have hiw : i = wide := by lia
 rw [hiw]
 refine V.keep0 (n' := ptL c.w P A.mm pls KP ++ (stL c.w A (M.withMem (cover pls M.mem)) ++ ([(D1, .ints (octF (cover pls M.mem) wide))] ++ ([(D0, .ints (octF M.mem wide)), (L + 2, .cellO (some (.ref wd))), (L + 1, .cellO (some (.ref A.s)))] ++ ((wd, .smap c.w (worldS tl over a pl sd)) :: n))))) (Keep.behind (a := [_])) ?_
 kp_kind "r"
 refine ⟨?_⟩
 refine AssignComp0_ (cl := [(n_world, L + 2)]) (by kernel_rfl) (by kernel_rfl) (by kernel_rfl) (by kp_kind "dq") (by kernel_rfl) (by kp_kind "dq") ?_
 kp_kind "r"
 refine enumL_ (xs := (octF M.mem wide).map vi) (by kp_kind "mem") fun e2 it2 => ?_
 kp_kind "r"
 refine iterE_ (it := it2) (i := 0) (.head _) ?_
 intro C2 D2 _ _
 refine ⟨wide, fun i m' n' => Keep ((e2, .enum it2 i) :: (it2, .liter D0 i) :: (D2, .ints (dueF M.mem pls i)) :: (ptL c.w P A.mm pls KP ++ (stL c.w A (M.withMem (cover pls M.mem)) ++ ([(D1, .ints (octF (cover pls M.mem) wide))] ++ ([(D0, .ints (octF M.mem wide)), (L + 2, .cellO (some (.ref wd))), (L + 1, .cellO (some (.ref A.s)))] ++ ((wd, .smap c.w (worldS tl over a pl sd)) :: n)))))) n', ?_, ?_, ?_⟩
 ·exact Keep.cons (.there .here) (Keep.cons (.there .here) (Keep.cons .here Keep.refl))
 ·rintro _ m' n' hK
  exact iterE_ (hK.mem _ (.head _)) ⟨rfl, rfl, rfl⟩
 rintro _ i mc n' hi hK
 refine turnE_ (it := it2) (i := (i : Int) + 1) (by exact hh) (by kernel_rfl) (by kernel_rfl) ?_
 refine V.keepL hK ?_
 intro l₀
 refine nextEI_ (l := D0) (octF M.mem wide) (by exact hh) (by kp_kind "mem") (fun j tv T t hx hlt => ?_) (fun hge => ?_)
 ·have hil : i < wide := by rw [octF_len] at hlt; exact hlt
  rw [octF_get M.mem hil] at hx
  obtain rfl := Option.some.inj hx
  refine ⟨T, _, _, _, rfl, rfl, ?_⟩
  kp_kind "r"
  refine NameC_ (by kernel_rfl) (by kernel_rfl) (a := L + 2) (by kernel_rfl) (by kp_kind "mem") (by kernel_rfl) (rf ?_)
  kp_kind "r"
  refine subS_ (es := worldS tl over a pl sd) (x := .ref pl) (by kp_kind "mem") (by kernel_rfl) (by kernel_rfl) (rf ?_)
  kp_kind "r"
  refine inLI_ (ns := pls) (by kp_kind "mem") ?_
  kp_kind "r"
  cases hany : pls.any (· == (4096 + (i : Int))) with
  | true =>
   refine ifT rfl ?_
   kp_kind "r"
   refine appendI_ (ns := dueF M.mem pls i) (by kp_kind "put") (by rw [dueF_len]; lia) ?_
   refine ⟨hil, ?_⟩
   show Keep _ _
   rw [dueF_succ, if_pos hany]
   exact Keep.skip Keep.refl
  | false =>
   refine ifF rfl ?_
   kp_kind "r"
   refine appendI_ (ns := dueF M.mem pls i) (by kp_kind "put") (by rw [dueF_len]; lia) ?_
   refine ⟨hil, ?_⟩
   show Keep _ _
   rw [dueF_succ, if_neg (by rw [hany]; decide)]
   exact Keep.skip Keep.refl
 have hiw : i = wide := by
  rw [octF_len] at hge; lia
 rw [hiw]
 refine V.keep0 (n' := ptL c.w P A.mm pls KP ++ (stL c.w A (M.withMem (cover pls M.mem)) ++ ([(D2, .ints (dueF M.mem pls wide))] ++ ([(D1, .ints (octF (cover pls M.mem) wide))] ++ ([(D0, .ints (octF M.mem wide)), (L + 2, .cellO (some (.ref wd))), (L + 1, .cellO (some (.ref A.s)))] ++ ((wd, .smap c.w (worldS tl over a pl sd)) :: n)))))) (Keep.behind (a := [_])) ?_
 kp_kind "r"
 refine ptOctets_ rfl (by lia) hPk hA (fun x hx => hoct x (by rw [← hsh]; exact hx)) (by exact hh) (by kp_kind "room") fun t3 => ?_
 rw [show shownF (M.withMem (cover pls M.mem)).mem KP 4096 wide = octF M.mem wide from hsh]
 kp_kind "r"
 refine listB_ (by exact hh) hoct (by rw [octF_len]; lia) fun D3 => ?_
 kp_kind "r"
 refine V.keep0 (n' := ptL c.w P A.mm pls KP ++ (stL c.w A (M.withMem (cover pls M.mem)) ++ ([(D3, .ints (octF M.mem wide))] ++ ([(D2, .ints (dueF M.mem pls wide))] ++ ([(D1, .ints (octF (cover pls M.mem) wide))] ++ ([(D0, .ints (octF M.mem wide)), (L + 2, .cellO (some (.ref wd))), (L + 1, .cellO (some (.ref A.s)))] ++ ((wd, .smap c.w (worldS tl over a pl sd)) :: n))))))) (Keep.behind (a := [_])) ?_
 kp_kind "r"
 refine ptLift_ rfl hPk hA (by rw [hkl]; exact Nat.le_trans (Nat.add_le_add_right (Nat.le_of_eq (cover_len pls M.mem)) _) (by lia)) (by lia) (by exact hh) (by kp_kind "room") fun ns k' hns hk' => ?_
 have hlift : ((M.withMem (cover pls M.mem))).withMem (liftF KP ns ((M.withMem (cover pls M.mem))).mem) = M := by
  rw [hkk] at hns
  have e : liftF KP ns (cover pls M.mem) = M.mem := by
   rw [liftF_eq hw hI.keys (fun p h1 h2 => (not_204 hI h1 h2 hw).1) ns pls (fun x hx => hin x (hns.mem_iff.mp hx)) hin (fun x hx => ⟨oct M.mem x, (not_204 hI (hin x hx).1 (hin x hx).2 hw).2.2.2, by rw [hkg, if_pos (any_iff.mpr hx)]⟩)]
   rw [List.filter_eq_nil_iff.mpr, cover_nil]
   intro x hx
   have : ns.any (· == x) = true := any_iff.mpr (hns.mem_iff.mpr hx)
   rw [this]; simp
  show ((M.withMem (cover pls M.mem))).withMem (liftF KP ns (cover pls M.mem)) = M
  rw [e]; rfl
 rw [hlift]
 kp_kind "r"
 refine BAnd_ ?_
 kp_kind "r"
 refine eqI_ (ns := octF (cover pls M.mem) wide) (by kp_kind "room") (by kp_kind "mem") (by rw [hdue]; kp_kind "mem") ?_
 kp_kind "r"
 refine BAnd_ ?_
 kp_kind "r"
 refine eqI_ (ns := octF M.mem wide) (by kp_kind "room") (by kp_kind "mem") (by kp_kind "mem") ?_
 kp_kind "r"
 refine BoolOne_ ?_
 kp_kind "r"
 refine Comp0_ (cl := [(n_state, L + 1)]) (by kernel_rfl) (by kp_kind "dq") (by kernel_rfl) (by kp_kind "dq") ?_
 kp_kind "r"
 refine range_ fun r5 => ?_
 kp_kind "r"
 refine iterR_ (.head _) (by decide) (by lia) (by lia) fun it5 => ?_
 intro C5 D5 _ _
 refine ⟨wide, fun i m' n' => Keep ((it5, .riter i (wide - 0 - i)) :: (D5, .ints (octF (M.mem) i)) :: (ptL c.w { P with k := k' } A.mm pls [] ++ (stL c.w A M ++ ([(D3, .ints (octF M.mem wide))] ++ ([(D2, .ints (dueF M.mem pls wide))] ++ ([(D1, .ints (octF (cover pls M.mem) wide))] ++ ([(D0, .ints (octF M.mem wide)), (L + 2, .cellO (some (.ref wd))), (L + 1, .cellO (some (.ref A.s)))] ++ ((wd, .smap c.w (worldS tl over a pl sd)) :: n)))))))) n', ?_, ?_, ?_⟩
 ·refine Keep.cons (.there .here) (Keep.cons .here ?_)
  exact Keep.skip Keep.refl
 ·rintro _ m' n' hK
  exact selfRM_ (hK.mem _ (.head _))
 rintro _ i mc n' hi hK
 refine turnName (by kernel_rfl) ?_
 refine V.keepL hK ?_
 intro l₀
 refine nextR_ (by exact hh) (fun hlt tt => ?_) (fun hge => ?_)
 ·kp_kind "r"
  refine NameC_ (by kernel_rfl) (by kernel_rfl) (a := L + 1) (by kernel_rfl) (by kp_kind "mem") (by kernel_rfl) (rf ?_)
  kp_kind "r"
  refine octet_ (d := A.md) (hd := A.h) (l := M.mem) (by kp_kind "mem") (by kp_kind "mem") hA (by kp_kind "room") fun t1 => ?_
  kp_kind "r"
  refine appendI_ (ns := octF (M.mem) i) (by kp_kind "put") (by rw [octF_len]; lia) ?_
  refine ⟨by lia, ?_⟩
  show Keep _ _
  rw [octF_succ]
  rw [show (wide : Int) - 0 - i - 1 = wide - 0 - ((i + 1 : Nat) : Int) by lia]
  exact Keep.refl
 have hiw : i = wide := by lia
 rw [hiw]
 kp_kind "r"
 refine eqI_ (ns := octF M.mem wide) (by kp_kind "room") (by kp_kind "mem") (by kp_kind "mem") ?_
 kp_kind "r"
 exact ⟨_, .refl _, _, Keep.skip (Keep.appC _ (Keep.appC _ (Keep.drop [_, _, _, _, _, _] Keep.refl))), h _ rfl hk'⟩
end
theorem Keep.pick1 {x : Addr × AObj} {n n' l : Led} (p : n.Perm (x :: n')) (h : Keep l n') : Keep (x :: l) n := by
 obtain ⟨r, h⟩ := h
 exact ⟨r, p.trans (h.cons x)⟩
theorem Keep.blk {b n n' l : Led} (p : n.Perm (b ++ n')) (h : Keep l n') : Keep (b ++ l) n := by
 obtain ⟨r, h⟩ := h
 refine ⟨r, p.trans ?_⟩
 rw [List.append_assoc]
 exact List.Perm.append_left b h
theorem px_cons {x y : Addr × AObj} {n n' : Led} (h : n.Perm (x :: n')) : (y :: n).Perm (x :: y :: n') := (h.cons y).trans (List.Perm.swap _ _ _)
theorem px_app {x : Addr × AObj} {a n n' : Led} (h : n.Perm (x :: n')) : (a ++ n).Perm (x :: (a ++ n')) := (List.Perm.append_left a h).trans List.perm_middle
theorem pb_cons {y : Addr × AObj} {b n n' : Led} (h : n.Perm (b ++ n')) : (y :: n).Perm (b ++ (y :: n')) := (h.cons y).trans List.perm_middle.symm
theorem pb_app {a b n n' : Led} (h : n.Perm (b ++ n')) : (a ++ n).Perm (b ++ (a ++ n')) := by
 refine (List.Perm.append_left a h).trans ?_
 rw [← List.append_assoc, ← List.append_assoc]
 exact List.Perm.append_right n' List.perm_append_comm
theorem inv_rel {wide k : Nat} {R M : Mach} (h : Inv wide k R) (hr : RelP [] R M) : Inv wide k M := by
 have hm : M.mem = R.mem := by rw [hr.mem, cover_nil]
 exact ⟨by rw [hr.regs]; exact h.len, by rw [hm]; exact h.mem, by rw [hm]; exact h.keys, by rw [hm]; exact h.code, by rw [hr.regs]; exact h.sp, by rw [hr.rip]; exact h.rip, by rw [hm]; exact h.size⟩
structure DeedR (rows : List Ins) (T : List Mach) (a : Nat) (pls : List Int) (M : Mach) : Prop where
 nodup : pls.Nodup
 code : InCode (2 * rows.length) pls
 at_ : ∃ R, T[a]? = some R ∧ RelP [] R M
theorem putF_nodup {pls : List Int} {p : Int} (h : pls.Nodup) : (putF pls p).Nodup := by
 unfold putF
 split
 ·exact h
 ·rename_i hp
  refine List.nodup_append.mpr ⟨h, by simp, fun x hx y hy => ?_⟩
  rw [List.mem_singleton.mp hy]
  rintro rfl
  exact hp (any_iff.mpr hx)
theorem putF_code {wide : Nat} {pls : List Int} {p : Int} (h : InCode wide pls) (hp : 4096 ≤ p ∧ p < 4096 + (wide : Int)) : InCode wide (putF pls p) := by
 unfold putF
 split
 ·exact h
 ·intro x hx
  rcases List.mem_append.mp hx with hx | hx
  ·exact h x hx
  ·rw [List.mem_singleton.mp hx]; exact hp
theorem putF_len (pls : List Int) (p : Int) : (putF pls p).length ≤ pls.length + 1 := by
 unfold putF
 split
 ·lia
 ·simp
theorem stored_places {tl pl sd pl2 : Addr} {over : Bool} {a : Nat} : stored (worldS tl over a pl sd) n_places (nv (.ref pl2)) = worldS tl over a pl2 sd := by kernel_rfl
theorem putW {w : World} {wd tl pl sd pl2 : Addr} {over : Bool} {a : Nat} {n : Led} : Put wd (.smap w (worldS tl over a pl sd)) (.smap w (stored (worldS tl over a pl sd) n_places (nv (.ref pl2)))) ((wd, .smap w (worldS tl over a pl sd)) :: n) ((wd, .smap w (worldS tl over a pl2 sd)) :: n) := by
 rw [stored_places]; exact .here
theorem fl2 (i : Int) (x : Str) : ∀ v ∈ [Value.int i 0, .str x 0], flatV v = true := fun v hv => by
 simp only [List.mem_cons, List.not_mem_nil, or_false] at hv
 rcases hv with rfl | rfl <;> rfl
theorem sh2 (i : Int) {x : Str} (hx : PyData.strOk x = true) : SeqAt.shaped (.tuple ([Value.int i 0, .str x 0].map pdv)) = true := by
 unfold SeqAt.shaped
 rw [Bool.and_eq_true, decide_eq_true_eq]
 constructor
 ·show PyData.canLayAll0 [PyData.int i, PyData.str x] = true
  exact canAll fun y hy => by
   simp only [List.mem_cons, List.not_mem_nil, or_false] at hy
   rcases hy with rfl | rfl
   ·rfl
   ·unfold PyData.canLay0; exact hx
 ·show PyData.depthAll [PyData.int i, PyData.str x] + 1 ≤ 64
  have : PyData.depthAll [PyData.int i, PyData.str x] ≤ 0 := depAll fun y hy => by
   simp only [List.mem_cons, List.not_mem_nil, or_false] at hy
   rcases hy with rfl | rfl <;> (unfold PyData.depth; lia)
  lia
theorem ok_halted : PyData.strOk n_halted = true := by kernel_rfl
theorem ok_most : PyData.strOk n_most = true := by kernel_rfl
theorem ok_break : PyData.strOk n_break = true := by kernel_rfl
theorem ok_fault : PyData.strOk n_fault = true := by kernel_rfl
theorem loopP_ok {rows : List Ins} {kept : Mem} : ∀ (f : Nat) (M : Mach) (k : Nat), PyData.strOk (loopP rows kept f M k).2.2 = true
 | 0, M, k => by
  unfold loopP
  split
  ·exact ok_halted
  ·exact ok_most
 | f + 1, M, k => by
  unfold loopP
  split
  ·exact ok_halted
  ·rcases e : adv rows M with ⟨M', _ | w⟩
   ·exact loopP_ok f M' (k + 1)
   ·dsimp only
    split
    ·exact ok_break
    ·exact ok_fault
theorem runR_ok {rows : List Ins} {pls : List Int} {most cnt : Nat} {M M' : Mach} {rs : Str} (h : RunR rows pls most M M' cnt rs) : PyData.strOk rs = true := by
 rcases h with ⟨w, _, _, _, _, rfl⟩ | ⟨M1, c0, _, ns, _, M2, hL, _⟩
 ·exact ok_fault
 ·have := loopP_ok (rows := rows) (kept := (plantF pls M1.mem []).2) (most - c0) (M1.withMem (plantF pls M1.mem []).1) c0
  rw [hL] at this; exact this
theorem ints_snoc (pls : List Int) (p : Int) : AObj.list (pls.map vi ++ [vi p]) = AObj.ints (pls ++ [p]) := by
 unfold AObj.ints; rw [List.map_append]; rfl
theorem ints_list (pls : List Int) : AObj.list (pls.map vi) = AObj.ints pls := rfl
inductive Dd1 (N : Pen) (k : Nat) (L : Addr) (wd : Addr) (p : Int) (tl : Addr) (over : Bool) (a : Nat) (sd : Addr) (es : List TE) (P : PA) (c : Cx) (rows : List Ins) (pls : List Int) (t : Tok) (A : SA) (M : Mach) (n : Led) (fl : Flow) (m' : Loc) (n' : Led) : Prop
 | mk (h1 : fl = .next) (P2 : PA) (pl2 : Addr) (pls2 : List Int) (h2 : (P2.k == sysModules) = false) (h3 : DeedR rows (mchs es) a pls2 M) (h4 : pls2.length ≤ pls.length + 1) (h5 : P2.p = P.p) (h6 : Keep (penL c.w N (k + 3) ++ ((L + 1, .cellO (some (.int p 0))) :: (wd, .smap c.w (worldS tl over a pl2 sd)) :: (pl2, .ints pls2) :: (ptL c.w P2 A.mm pls2 [] ++ (stL c.w A M ++ n)))) n') (h7 : m'.lookup n_state = some (.ref A.s)) (h8 : m'.lookup n_points = some (.ref P.p)) (h9 : m'.lookup n_world = some (.ref wd)) (h10 : m'.lookup n_wide = some (.int (2 * rows.length : Nat) t))
inductive Dd2 (N : Pen) (k : Nat) (L : Addr) (wd : Addr) (p : Int) (tl : Addr) (over : Bool) (a : Nat) (sd : Addr) (pl : Addr) (es : List TE) (P : PA) (c : Cx) (pls : List Int) (A : SA) (M : Mach) (n : Led) (f : Addr) (fl : Flow) (m' : Loc) (n' : Led) : Prop
 | mk (h1 : fl = .next) (mk : Nat) (tm : Tok) (h2 : mk ≤ 40) (h3 : (over = true ∨ a + mk < (mchs es).length)) (h4 : n' = penL c.w N (k + 3) ++ ((L + 1, .cellO (some (.int p 0))) :: (wd, .smap c.w (worldS tl over a pl sd)) :: (pl, .ints pls) :: (ptL c.w P A.mm pls [] ++ (stL c.w A M ++ n)))) (h5 : m'.lookup n_state = some (.ref A.s)) (h6 : m'.lookup n_points = some (.ref P.p)) (h7 : m'.lookup n_world = some (.ref wd)) (h8 : m'.lookup n_advance = some (.ref f)) (h9 : m'.lookup n_many = some (.int (mk : Nat) tm))
section
variable {c : Cx} {u : Cu} {env : Env} {E : EP} {m : Loc} {n : Led} {Q : Value → Loc → Led → Prop} {A : SA} {M : Mach} {P : PA} {pls : List Int}
theorem deed_ {N : Pen} {wd tl pl sd f : Addr} {over : Bool} {a k : Nat} {es : List TE} {rows : List Ins} {sto : Mem} {t : Tok} (hp : Prg rows) (hT : Tel rows (mchs es) over) (D : DeedR rows (mchs es) a pls M) (hz : pls.length ≤ 50) (hsd : (sd == sysModules) = false) (hA : (A.h == sysModules) = false) (hPk : (P.k == sysModules) = false)
  (htl : (tl, AObj.list (es.map fun e => .ref e.1)) ∈ n) (hte : ∀ p ∈ telL es, p ∈ n) (hsm : (sd, AObj.mem c.w sto) ∈ n) (hsto : ∀ r, mget sto r = stoAt rows r) (hf : AdvIn c.w n rows f) (hN : N.ok (k + 2)) (hh : u.hd = none) (hr : 24 ≤ u.r)
  (h : ∀ P' pl' pls' a' M', P'.p = P.p → (P'.k == sysModules) = false → DeedR rows (mchs es) a' pls' M' → pls'.length ≤ pls.length + 1 →
   Q (.bool true) m (penL c.w N (k + 3) ++ ((wd, .smap c.w (worldS tl over a' pl' sd)) :: (pl', .ints pls') :: (ptL c.w P' A.mm pls' [] ++ (stL c.w A M' ++ n))))) :
  V c u env (call (.ref 1139) [.ref N.p, .ref A.s, .ref P.p, .ref wd, .int (2 * rows.length : Nat) t, .ref f]) Q E m (penL c.w N k ++ ((wd, .smap c.w (worldS tl over a pl sd)) :: (pl, .ints pls) :: (ptL c.w P A.mm pls [] ++ (stL c.w A M ++ n)))) := by
 have hrl : rows.length ≤ 12 ∧ 1 ≤ rows.length := by have := hp.len; lia
 obtain ⟨R, hR, hrel⟩ := D.at_
 have haT : a < (mchs es).length := (List.getElem?_eq_some_iff.mp hR).1
 have hml : (mchs es).length = es.length := by unfold mchs; simp
 have hTf := hT.few
 have hI : Inv (2 * rows.length) a M := inv_rel (hT.inv a R hR) hrel
 have ok0 : N.ok k := ⟨hN.few, hN.seed, by have := hN.spot; lia⟩
 have ok1 : N.ok (k + 1) := ⟨hN.few, hN.seed, by have := hN.spot; lia⟩
 refine V.keepN ?_
 refine CallC_ (f_law_deed _) (binds := [(n_pen, .ref N.p), (n_state, .ref A.s), (n_points, .ref P.p), (n_world, .ref wd), (n_wide, .int (2 * rows.length : Nat) t), (n_advance, .ref f)]) (fun _ _ _ => by kernel_rfl) (by kp_kind "dq") (by kernel_rfl) (cs := fun L => [(n_place, L + 1)]) (fun L => by kernel_rfl) (m₀ := [(n_advance, .ref f), (n_wide, .int (2 * rows.length : Nat) t), (n_world, .ref wd), (n_points, .ref P.p), (n_state, .ref A.s), (n_pen, .ref N.p)]) (by kernel_rfl) (b₀ := []) (by kernel_rfl) (by lia) ?_
 intro L _ _ _ _
 refine V.keep0 (n' := penL c.w N k ++ ((L + 1, .cellO none) :: (wd, .smap c.w (worldS tl over a pl sd)) :: (pl, .ints pls) :: (ptL c.w P A.mm pls [] ++ (stL c.w A M ++ n)))) Keep.back ?_
 refine execs_cons ?_
 kp_kind "names"
 kp_kind "r"
 refine AssignSw_ (names := [n_way, n_many, n_raw]) (by exact hh) (by kernel_rfl) ?_
 kp_kind "r"
 refine draw_ (by decide) ok0 (by kp_kind "room") fun t1 => ?_
 kp_kind "r"
 refine draw_ (by decide) ok1 (by kp_kind "room") fun t2 => ?_
 kp_kind "r"
 refine raw_ hN (by kp_kind "room") fun t3 => ?_
 kp_kind "r"
 rename_i T0
 refine unpIII_ fun tx ty tz => ?_
 have hw0 : 0 ≤ (rawF N.s N.seed k).fmod 5 := Int.fmod_nonneg_of_pos _ (by decide)
 have hmn0 : 0 ≤ (rawF N.s N.seed (k + 1)).fmod 12 := Int.fmod_nonneg_of_pos _ (by decide)
 have hmn1 : (rawF N.s N.seed (k + 1)).fmod 12 < 12 := Int.fmod_lt_of_pos _ (by decide)
 generalize (rawF N.s N.seed k).fmod 5 = way at hw0 ⊢
 obtain ⟨many, hmany⟩ : ∃ many : Nat, (rawF N.s N.seed (k + 1)).fmod 12 = many := ⟨_, (Int.toNat_of_nonneg hmn0).symm⟩
 rw [hmany] at hmn1
 rw [hmany]
 generalize rawF N.s N.seed (k + 2) = raw
 refine V.keep0 (n' := penL c.w N (k + 3) ++ ((L + 1, .cellO none) :: (wd, .smap c.w (worldS tl over a pl sd)) :: (pl, .ints pls) :: (ptL c.w P A.mm pls [] ++ (stL c.w A M ++ n)))) (Keep.skip Keep.refl) ?_
 repeat (first | kp_kind "1" | refine inOrd_ ?_ | refine inOrd0_ ?_ | refine bindN_ ?_)
 have hdiv : ((2 * rows.length : Nat) : Int).fdiv 2 = (rows.length : Int) := by
  rw [Int.fdiv_eq_ediv_of_nonneg _ (by decide)]; lia
 rw [hdiv]
 refine mod_ (by lia) fun t4 => ?_
 have hq0 : 0 ≤ raw.fmod rows.length := Int.fmod_nonneg_of_pos _ (by lia)
 have hq1 : raw.fmod rows.length < rows.length := Int.fmod_lt_of_pos _ (by lia)
 generalize raw.fmod (rows.length : Int) = q at hq0 hq1 ⊢
 kp_kind "r"
 refine mul_ (IntMulOk.of_left (by decide)) fun t5 => ?_
 kp_kind "r"
 have hp0 : 4096 ≤ 4096 + 2 * q ∧ 4096 + 2 * q < 4096 + ((2 * rows.length : Nat) : Int) := by lia
 generalize 4096 + 2 * q = p at hp0 ⊢
 refine ⟨?_⟩
 refine StoreC_ (by kernel_rfl) (by kernel_rfl) (a := L + 1) (v₀ := none) (by kernel_rfl) (Put.app .here _) ?_
 refine V.keep0 (n' := penL c.w N (k + 3) ++ ((L + 1, .cellO (some (.int p 0))) :: (wd, .smap c.w (worldS tl over a pl sd)) :: (pl, .ints pls) :: (ptL c.w P A.mm pls [] ++ (stL c.w A M ++ n)))) Keep.refl ?_
 kp_kind "r"
 have hpl := hz
 by_cases hway : way < 2
 ·refine ifT (by simpa using hway) ?_
  kp_kind "r"
  refine NameC_ (by kernel_rfl) (by kernel_rfl) (a := L + 1) (by kernel_rfl) (by kp_kind "mem") (by kernel_rfl) (it_ fun tv => ?_)
  kp_kind "r"
  refine V.keep0 (n' := ptL c.w P A.mm pls [] ++ (penL c.w N (k + 3) ++ ((L + 1, .cellO (some (.int p 0))) :: (wd, .smap c.w (worldS tl over a pl sd)) :: (pl, .ints pls) :: (stL c.w A M ++ n)))) (by kp_kind "kb") ?_
  refine ptPut_ (by lia) (by kp_kind "room") ?_
  kp_kind "r"
  refine subS_ (es := worldS tl over a pl sd) (x := .ref pl) (by kp_kind "mem") (by kernel_rfl) (by kernel_rfl) (rf ?_)
  kp_kind "r"
  refine NameC_ (by kernel_rfl) (by kernel_rfl) (a := L + 1) (by kernel_rfl) (by kp_kind "mem") (by kernel_rfl) (it_ fun tv => ?_)
  kp_kind "r"
  refine subS_ (es := worldS tl over a pl sd) (x := .ref pl) (by kp_kind "mem") (by kernel_rfl) (by kernel_rfl) (rf ?_)
  kp_kind "r"
  refine notInLI_ (ns := pls) (by kp_kind "mem") ?_
  kp_kind "r"
  have hD : DeedR rows (mchs es) a (putF pls p) M := ⟨putF_nodup D.nodup, putF_code D.code hp0, R, hR, hrel⟩
  have hq := h P
  cases hany : pls.any (· == p) with
  | true =>
   have hpf : putF pls p = pls := by unfold putF; rw [hany, if_pos rfl]
   rw [hpf] at hD ⊢
   refine ifF rfl ?_
   kp_kind "r"
   refine addL_ (xs := pls.map vi) (ys := []) (by kp_kind "mem") (by kp_kind "mem") (by rw [List.length_map]; simp; lia) fun pl2 => ?_
   rw [List.append_nil]
   rw [ints_list]
   kp_kind "r"
   refine V.keep0 (n' := (wd, .smap c.w (worldS tl over a pl sd)) :: (pl2, .ints (pls)) :: (penL c.w N (k + 3) ++ (ptL c.w P A.mm (pls) [] ++ (stL c.w A M ++ n)))) (by kp_kind "kb") ?_
   refine setS_ (es := worldS tl over a pl sd) putW (by show (5 : Nat) ≤ 10000; decide) ?_
   kp_kind "r"
   exact ⟨_, .refl _, _, by kp_kind "kb", hq pl2 _ a M rfl hPk hD (by have := putF_len pls p; rw [hpf] at this; exact this)⟩
  | false =>
   have hpf : putF pls p = pls ++ [p] := by unfold putF; rw [hany, if_neg (by decide)]
   rw [hpf] at hD ⊢
   refine ifT rfl ?_
   kp_kind "r"
   refine NameC_ (by kernel_rfl) (by kernel_rfl) (a := L + 1) (by kernel_rfl) (by kp_kind "mem") (by kernel_rfl) (it_ fun tv => ?_)
   kp_kind "r"
   refine addL_ (xs := pls.map vi) (ys := [vi p]) (by kp_kind "mem") (by kp_kind "mem") (by rw [List.length_map]; simp; lia) fun pl2 => ?_
   rw [ints_snoc]
   kp_kind "r"
   refine V.keep0 (n' := (wd, .smap c.w (worldS tl over a pl sd)) :: (pl2, .ints (pls ++ [p])) :: (penL c.w N (k + 3) ++ (ptL c.w P A.mm (pls ++ [p]) [] ++ (stL c.w A M ++ n)))) (by kp_kind "kb") ?_
   refine setS_ (es := worldS tl over a pl sd) putW (by show (5 : Nat) ≤ 10000; decide) ?_
   kp_kind "r"
   exact ⟨_, .refl _, _, by kp_kind "kb", hq pl2 _ a M rfl hPk hD (by have := putF_len pls p; rw [hpf] at this; exact this)⟩
 ·refine ifF (by simpa using hway) ?_
  kp_kind "r"
  by_cases hway2 : way = 2
  ·refine ifT (by simpa using hway2) ?_
   kp_kind "1"
   refine V.mono (Q := fun fl m' n' => Dd1 N k L wd p tl over a sd es P c rows pls t A M n fl m' n') ?_ ?_ (fun _ _ _ _ _ x => x)
   ·kp_kind "1"
    kp_kind "r"
    refine mod_ (by decide) fun t6 => ?_
    kp_kind "r"
    by_cases hr2 : raw.fmod 2 = 0
    ·refine ifT (by simpa using hr2) ?_
     kp_kind "r"
     refine NameC_ (by kernel_rfl) (by kernel_rfl) (a := L + 1) (by kernel_rfl) (by kp_kind "mem") (by kernel_rfl) (it_ fun tv => ?_)
     kp_kind "r"
     refine V.keep0 (n' := ptL c.w P A.mm pls [] ++ (penL c.w N (k + 3) ++ ((L + 1, .cellO (some (.int p 0))) :: (wd, .smap c.w (worldS tl over a pl sd)) :: (pl, .ints pls) :: (stL c.w A M ++ n)))) (by kp_kind "kb") ?_
     refine ptDrop_ (by lia) (by exact hh) (by kp_kind "room") fun l2 => ?_
     kp_kind "r"
     refine Comp1_ (cl := [(n_place, L + 1)]) (by kernel_rfl) (by kp_kind "dq") (by kernel_rfl) (by kp_kind "dq") ?_
     kp_kind "r"
     refine subS_ (es := worldS tl over a pl sd) (x := .ref pl) (by kp_kind "mem") (by kernel_rfl) (by kernel_rfl) (rf ?_)
     kp_kind "r"
     refine iterL_ (xs := pls.map vi) (by kp_kind "mem") fun it => ?_
     intro C0 D0 _ _
     refine ⟨pls.length, fun i m' n' => Keep ((it, .liter pl i) :: (D0, .ints ((pls.take i).filter fun x => x != p)) :: (ptL c.w { P with l := l2 } A.mm (pls.filter fun x => x != p) [] ++ (penL c.w N (k + 3) ++ ((L + 1, .cellO (some (.int p 0))) :: (wd, .smap c.w (worldS tl over a pl sd)) :: (pl, .ints pls) :: (stL c.w A M ++ n))))) n', Keep.cons (.there .here) Keep.refl, ?_, ?_⟩
     ·rintro _ m' n' hK
      exact selfLM_ (hK.mem _ (.head _))
     rintro _ i m' n' hi hK
     refine turnName (by kernel_rfl) ?_
     refine V.keepL hK ?_
     intro l₀
     refine nextLI_ pls (by exact hh) (by kp_kind "mem") (fun j tj hj hil => ?_) (fun hge => ?_)
     ·skip
      kp_kind "r"
      refine NameC_ (by kernel_rfl) (by kernel_rfl) (a := L + 1) (by kernel_rfl) (by kp_kind "mem") (by kernel_rfl) (it_ fun tv => ?_)
      kp_kind "r"
      by_cases hjp : j = p
      ·refine ifF (by simpa using hjp) ?_
       refine ⟨hil, ?_⟩
       show Keep _ _
       rw [ftk0 hj hjp]
       exact Keep.refl
      ·refine ifT (by simpa using hjp) ?_
       kp_kind "r"
       refine appendI_ (ns := (pls.take i).filter fun x => x != p) (by kp_kind "put") (Nat.le_trans (List.length_filter_le _ _) (by rw [List.length_take]; lia)) ?_
       refine ⟨hil, ?_⟩
       show Keep _ _
       rw [ftk1 hj hjp]
       exact Keep.refl
     ·have this := hge
      rw [List.take_of_length_le this]
      kp_kind "r"
      refine V.keep0 (n' := (wd, .smap c.w (worldS tl over a pl sd)) :: (D0, .ints (pls.filter fun x => x != p)) :: (L + 1, .cellO (some (.int p 0))) :: (penL c.w N (k + 3) ++ (ptL c.w { P with l := l2 } A.mm (pls.filter fun x => x != p) [] ++ (stL c.w A M ++ n)))) (by kp_kind "kb") ?_
      refine setS_ (es := worldS tl over a pl sd) putW (by show (5 : Nat) ≤ 10000; decide) ?_
      kp_kind "r"
      exact ⟨rfl, { P with l := l2 }, D0, pls.filter fun x => x != p, hPk, ⟨D.nodup.sublist List.filter_sublist, D.code.filter p, R, hR, hrel⟩, Nat.le_trans (List.length_filter_le _ _) (by lia), rfl, by kp_kind "kb", by kp_kind "lk", by kp_kind "lk", by kp_kind "lk", by kp_kind "lk"⟩
    ·refine ifF (by simpa using hr2) ?_
     kp_kind "r"
     exact ⟨rfl, P, pl, pls, hPk, ⟨D.nodup, D.code, R, hR, hrel⟩, by lia, rfl, Keep.refl, by kp_kind "lk", by kp_kind "lk", by kp_kind "lk", by kp_kind "lk"⟩
   rintro fl m' n' ⟨rfl, P2, pl2, pls2, hk2, D2, hz2, hpp, hK, l1, l2, l3, l4⟩
   refine V.keepL hK ?_
   intro l₀
   kp_kind "r"
   refine V.keep0 (n' := ptL c.w P2 A.mm pls2 [] ++ (stL c.w A M ++ ((wd, .smap c.w (worldS tl over a pl2 sd)) :: (pl2, .ints pls2) :: (penL c.w N (k + 3) ++ ((L + 1, .cellO (some (.int p 0))) :: n))))) (by kp_kind "kb") ?_
   rw [← hpp]
   refine looked_ hI (by lia) (by lia) D2.code D2.nodup (by lia) hA hk2 (by kp_kind "mem") (by exact hh) (by kp_kind "room") fun P3 hp3 hk3 => ?_
   kp_kind "r"
   exact ⟨_, .refl _, _, by kp_kind "kb", h P3 pl2 pls2 a M (hp3.trans hpp) hk3 D2 hz2⟩
  ·refine ifF (by simpa using hway2) ?_
   iterate 2 kp_kind "1"
   refine V.mono (Q := fun fl m' n' => Dd2 N k L wd p tl over a sd pl es P c pls A M n f fl m' n') ?_ ?_ (fun _ _ _ _ _ x => x)
   ·kp_kind "1"
    kp_kind "r"
    refine subS_ (es := worldS tl over a pl sd) (x := .bool over) (by kp_kind "mem") (by kernel_rfl) (by kernel_rfl) (bo_ ?_)
    kp_kind "r"
    cases over with
    | true =>
     refine ifF rfl ?_
     kp_kind "r"
     exact ⟨rfl, many, ty, by lia, .inl rfl, rfl, by kp_kind "lk", by kp_kind "lk", by kp_kind "lk", by kp_kind "lk", by kp_kind "lk"⟩
    | false =>
     refine ifT rfl ?_
     kp_kind "r"
     refine subS_ (es := worldS tl false a pl sd) (x := .int a 0) (by kp_kind "mem") (by kernel_rfl) (by kernel_rfl) (it_ fun ta => ?_)
     kp_kind "r"
     refine subS_ (es := worldS tl false a pl sd) (x := .ref tl) (by kp_kind "mem") (by kernel_rfl) (by kernel_rfl) (rf ?_)
     kp_kind "r"
     refine len_ (xs := es.map fun e => .ref e.1) (by kp_kind "mem") (by rw [List.length_map]; lia) fun t7 => ?_
     rw [List.length_map]
     kp_kind "r"
     by_cases hlong : es.length ≤ a + many
     ·refine ifT (by simp; lia) ?_
      kp_kind "r"
      refine subS_ (es := worldS tl false a pl sd) (x := .ref tl) (by kp_kind "mem") (by kernel_rfl) (by kernel_rfl) (rf ?_)
      kp_kind "r"
      refine len_ (xs := es.map fun e => .ref e.1) (by kp_kind "mem") (by rw [List.length_map]; lia) fun t8 => ?_
      rw [List.length_map]
      kp_kind "r"
      refine subS_ (es := worldS tl false a pl sd) (x := .int a 0) (by kp_kind "mem") (by kernel_rfl) (by kernel_rfl) (it_ fun ta => ?_)
      kp_kind "r"
      obtain ⟨d, hd⟩ := Nat.exists_eq_add_of_lt (hml ▸ haT : a < es.length)
      exact ⟨rfl, d, _, by lia, .inr (by lia), rfl, by kp_kind "lk", by kp_kind "lk", by kp_kind "lk", by kp_kind "lk", lkI (by lia)⟩
     ·refine ifF (by simp; lia) ?_
      kp_kind "r"
      exact ⟨rfl, many, ty, by lia, .inr (by lia), rfl, by kp_kind "lk", by kp_kind "lk", by kp_kind "lk", by kp_kind "lk", by kp_kind "lk"⟩
   rintro fl m' n' ⟨rfl, mk, tm, hmk, hov, rfl, l1, l2, l3, l4, l5⟩
   refine V.keep0 (n' := (wd, .smap c.w (worldS tl over a pl sd)) :: (pl, .ints pls) :: (penL c.w N (k + 3) ++ ((L + 1, .cellO (some (.int p 0))) :: (ptL c.w P A.mm pls [] ++ (stL c.w A M ++ n))))) (by kp_kind "kb") ?_
   kp_kind "r"
   refine lawRun_ (es := es) (pls := pls) (sto := sto) (rows := rows) hsd (by lia) (by lia) (by lia) (by lia) hsto (by kp_kind "mem") (fun p hp => by have := hte p hp; kp_kind "mem") (by kp_kind "mem") (by kp_kind "mem") (by exact hh) (by kp_kind "room") fun T1 => ?_
   kp_kind "r"
   refine V.keep0 (n' := ptL c.w P A.mm pls [] ++ (stL c.w A M ++ ((T1, .tup [.int (lawRun (mchs es) rows mk a pls).2.1 0, .str (lawRun (mchs es) rows mk a pls).2.2 0]) :: (wd, .smap c.w (worldS tl over (lawRun (mchs es) rows mk a pls).1 pl sd)) :: (pl, .ints pls) :: (penL c.w N (k + 3) ++ n)))) (by kp_kind "kb") ?_
   refine runPlanted_ (b := 400) ⟨hI.len, hI.mem, by have := hI.size; lia⟩ (by lia) (by lia) (by lia) hA hPk (hf.sub fun p hp => by kp_kind "mem") (by exact hh) (by kp_kind "room") fun T2 P3 M3 cnt rs hp3 hk3 hRun => ?_
   obtain ⟨a3, R3, hL, hR3, hrel3⟩ := run_law hp hT D.nodup D.code hR hrel hov hRun
   rw [hL]
   kp_kind "r"
   refine eqT_ (xs := [.int cnt 0, .str rs 0]) (ys := [.int cnt 0, .str rs 0]) (by kp_kind "room") (by kp_kind "mem") (by kp_kind "mem") (fl2 _ _) (fl2 _ _) (sh2 _ (runR_ok hRun)) (sh2 _ (runR_ok hRun)) ?_
   rw [SeqAt.eqv_refl _ (SeqAt.canLay_of_shaped (sh2 _ (runR_ok hRun)))]
   kp_kind "r"
   exact ⟨_, .refl _, _, by kp_kind "kb", h P3 pl pls a3 M3 hp3 hk3 ⟨D.nodup, D.code, R3, hR3, hrel3⟩ (by lia)⟩
end
noncomputable def slTo (k : Int) (t : Tok) : AObj := .one fun o => o.cls = .type "slice" ∧ o.data = .fields #[.none, .int k t, .none]
noncomputable def ldF (l : Mem) (p : Int) (ns : List Int) : Nat → Mem
 | 0 => l
 | i + 1 => mset (ldF l p ns i) ((p + i) % W64) (ns.getD i 0)
theorem ldF_len (l : Mem) (p : Int) (ns : List Int) : ∀ i, (ldF l p ns i).length ≤ l.length + i
 | 0 => Nat.le_refl _
 | i + 1 => by
  have := ldF_len l p ns i
  have h2 : (ldF l p ns (i + 1)).length ≤ (ldF l p ns i).length + 1 := mset_len
  lia
section
variable {c : Cx} {u : Cu} {env : Env} {E : EP} {m : Loc} {n : Led} {Q : Value → Loc → Led → Prop} {A : SA} {M : Mach}
theorem SliceTo_ {e : Expr} {p : Pos} (h : V c u env (eval e env) (fun v m n => ∃ k t, v = .int k t ∧ ∀ S, Q (.ref S) m ((S, slTo k t) :: n)) E m n) : V c u env (eval (.Slice none (some e) none p) env) Q E m n :=
 V.i fun ok A hp tk fit md => by
  refine wpAny_Slice ?_
  rw [evalPart_none]
  refine wpAny_pure ?_
  rw [evalPart_some]
  refine wpAny_mono (h.go ok A hp tk fit md) (fun v s q => q.el fun _ _ m' n' y ⟨k, t, hv, z⟩ => ?_) fun _ _ x => x
  subst hv
  exact wpAny_pure ⟨⟨rfl, rfl, rfl⟩, m', _, y.pushed rfl ⟨rfl, rfl⟩, z _⟩
theorem subTo_ {value slice : Expr} {a S : Addr} {ns : List Int} {k : Int} {t : Tok} {pr : Obj → Prop} (hpr : ∀ o, pr o → ∃ vs e, o.cls = .type "list" ∧ o.data = .seq vs e ∧ vs.toList.map nv = ns.map vi) (hm : (a, AObj.one pr) ∈ n) (hS : (S, slTo k t) ∈ n) (hk : 0 ≤ k) (hz : ns.length ≤ 10000)
  (hs : subscripted slice false (.ref a) (.ref S) = operate [.ref S, .ref a] (getItem (.ref a) (.ref S))) (ht : ∀ r, letTemporaryGo value (.ref a) r = pure ()) (h : ∀ D, Q (.ref D) m ((D, .ints (ns.take k.toNat)) :: n)) : V c u env (subscriptTail value slice (.ref a) (.ref S)) Q E m n :=
 V.i fun ok A hp tk fit md => by
  obtain ⟨o₁, ho, hp₁⟩ := md.led _ hm
  obtain ⟨vs, e, hc₁, hd₁, em⟩ := hpr _ hp₁
  obtain ⟨o, hoS, h1, h2⟩ := md.led _ hS
  have hl : hp.IsList a vs := ⟨_, ho, hc₁, e, hd₁⟩
  have hlen : vs.size = ns.length := by have := congrArg List.length em; simpa using this
  refine subscriptTail_ops (Heap.IsList.typeIs (s := ⟨hp, _, _, _, _⟩) hl) list_getitem_lookup (wpAny_getItem_list_slice hl ⟨o, hoS, h1, h2⟩ .none (.int k t) .none (by simp) ?_ (by rw [sizeLine_eq, hlen]; lia)) hs ht
  refine ⟨⟨rfl, rfl, rfl⟩, m, _, md.pushed (pr := fun o => ∃ vs e, o = listOf vs e ∧ vs.toList.map nv = (ns.take k.toNat).map vi) rfl ⟨_, 0, rfl, ?_⟩, h _⟩
  have e1 := kmk_upto (y := k) (ints_of em) hk
  rw [Array.toArray_toList] at e1
  exact of_ints e1
theorem load_ {p : Int} {ns : List Int} {t tb : Tok} (ho : Octs ns) (hz : M.mem.length + ns.length ≤ 9000) (hh : u.hd = none) (hr : 5 ≤ u.r)
  (h : Q .none m (stL c.w A (M.withMem (ldF M.mem p ns ns.length)) ++ n)) : V c u env (call (.ref 442) [.ref A.mm, .int p t, .bytes (byteArr ns) tb]) Q E m (stL c.w A M ++ n) := by
 refine V.keepN ?_
 refine Call_ (fMemory_load _) (Binds.pure (binds := [(n_self, .ref A.mm), (n_place, .int p t), (n_octets, .bytes (byteArr ns) tb)]) (fun _ _ _ _ _ => by kernel_rfl)) (by kernel_rfl) (m₀ := [(n_octets, .bytes (byteArr ns) tb), (n_place, .int p t), (n_self, .ref A.mm)]) rfl (by lia) ?_
 intro L _ _ _ _
 refine execs_cons ?_
 kp_kind "names"
 kp_kind "r"
 refine For_ ?_
 kp_kind "r"
 refine enumB_ (ns := ns) fun e it => ?_
 kp_kind "r"
 refine iterE_ (it := it) (i := 0) (.head _) ?_
 refine ⟨ns.length, fun i m' n' => Keep ((e, .enum it i) :: (it, .biter ns tb i) :: (stL c.w A (M.withMem (ldF M.mem p ns i)) ++ n)) n' ∧ m'.lookup n_self = some (.ref A.mm) ∧ m'.lookup n_place = some (.int p t), ⟨Keep.refl, by kp_kind "lk", by kp_kind "lk"⟩, ?_⟩
 rintro _ i m' n' hi ⟨hK, k1, k2⟩
 refine turnE_ (it := it) (i := (i : Int) + 1) (by exact hh) (by kernel_rfl) (by kernel_rfl) ?_
 refine V.keepL hK ?_
 intro l₀
 refine nextEB_ (by exact hh) ho hi (fun x hx T t1 t2 => ?_) (fun hx => ?_)
 ·have hil : i < ns.length := (List.getElem?_eq_some_iff.mp hx).1
  have hgx : ns.getD i 0 = x := by rw [List.getD_eq_getElem?_getD, hx]; rfl
  refine ⟨T, _, _, _, rfl, rfl, ?_⟩
  kp_kind "r"
  have hsz := ldF_len M.mem p ns i
  refine set_octet_ (d := A.md) (hd := A.h) (l := ldF M.mem p ns i) (n' := (T, tup2 (.int i t1) (.int x t2)) :: (e, .enum it ((i : Int) + 1)) :: (it, .biter ns tb (i + 1)) :: (stL c.w A (M.withMem (mset (ldF M.mem p ns i) ((p + i) % W64) x)) ++ n)) (by kp_kind "mem") (.there (.there (.there (stp_mem (M := M.withMem (ldF M.mem p ns i)))))) (by lia) (by kp_kind "room") ?_
  kp_kind "r"
  refine ⟨hil, ?_, by kp_kind "lk", by kp_kind "lk"⟩
  show Keep ((e, .enum it ((i + 1 : Nat) : Int)) :: (it, .biter ns tb (i + 1)) :: (stL c.w A (M.withMem (mset (ldF M.mem p ns i) ((p + i) % W64) (ns.getD i 0))) ++ n)) _
  rw [hgx]
  exact Keep.skip Keep.refl
 ·have hl : ns.length = i := by
   have := List.getElem?_eq_none_iff.mp hx
   lia
  rw [hl] at h
  (try dsimp only)
  kp_kind "r"
  exact ⟨_, Keep.refl, h⟩
end
noncomputable def RowV.good (r : RowV) : Prop := ∀ N k : Nat, 0 < N → RowOk (2 * N) (insF N k r)
theorem rowF_good (sort raw : Int) : (rowF sort raw).good := by
 intro N k hN
 have hm4 : 0 ≤ raw.fmod 4 ∧ raw.fmod 4 < 4 := ⟨Int.fmod_nonneg_of_pos _ (by decide), Int.fmod_lt_of_pos _ (by decide)⟩
 have hd4 : 0 ≤ (raw.fdiv 4).fmod 4 ∧ (raw.fdiv 4).fmod 4 < 4 := ⟨Int.fmod_nonneg_of_pos _ (by decide), Int.fmod_lt_of_pos _ (by decide)⟩
 unfold rowF
 split
 ·show RowOk (2 * N) (.sto (4096 + (raw.fdiv 100).fmod (2 * N)) (raw.fmod 100))
  have h1 : 0 ≤ (raw.fdiv 100).fmod (2 * N) := Int.fmod_nonneg_of_pos _ (by omega)
  have h2 : (raw.fdiv 100).fmod (2 * N) < 2 * N := Int.fmod_lt_of_pos _ (by omega)
  have h3 : 0 ≤ raw.fmod 100 := Int.fmod_nonneg_of_pos _ (by decide)
  have h4 : raw.fmod 100 < 100 := Int.fmod_lt_of_pos _ (by decide)
  exact ⟨by omega, by push_cast; omega, h3, h4⟩
 ·split
  ·exact lt4 hm4
  ·split
   ·show (if raw.fmod 2 = 0 then 0 else 3) < 4
    split <;> decide
   ·split
    ·unfold insF
     dsimp only
     split
     ·trivial
     ·split <;> trivial
    ·split
     ·show RowOk (2 * N) (if raw.fmod 4 = 0 then .ret else if raw.fmod 4 = 1 then .hlt else if raw.fmod 4 = 2 then .ud2 else .nop)
      split
      ·trivial
      ·split
       ·trivial
       ·split <;> trivial
     ·exact lt4 hd4
theorem prg_of {rows : List RowV} (h1 : 1 ≤ rows.length) (h12 : rows.length ≤ 12) (hg : ∀ r ∈ rows, r.good) : Prg (prgF rows.length rows) := by
 refine ⟨by rw [prgF_len]; exact ⟨h1, h12⟩, fun I hI => ?_⟩
 rw [prgF_len]
 unfold prgF at hI
 obtain ⟨i, hi, rfl⟩ := List.mem_mapIdx.mp hI
 exact hg _ (List.getElem_mem hi) _ _ (by omega)
noncomputable def setF (raw : Int) : Nat → List Int
 | 0 => List.replicate 16 0
 | i + 1 => (setF raw i).set i ((raw + i) % W64)
theorem setF_len (raw : Int) : ∀ i, (setF raw i).length = 16
 | 0 => by simp [setF]
 | i + 1 => by unfold setF; rw [List.length_set, setF_len raw i]
noncomputable def bF (raw : Int) (k : Nat) : List Int := (List.range k).map fun (i : Nat) => 1 + (raw + 7 * i).fmod 99
theorem bF_succ (raw : Int) (k : Nat) : bF raw (k + 1) = bF raw k ++ [1 + (raw + 7 * (k : Int)).fmod 99] := by unfold bF; rw [List.range_succ, List.map_append]; rfl
theorem bF_len (raw : Int) (k : Nat) : (bF raw k).length = k := by unfold bF; simp
theorem bF_in (raw : Int) (k : Nat) : ∀ v ∈ bF raw k, 1 ≤ v ∧ v < 100 := by
 intro v hv
 obtain ⟨i, _, rfl⟩ := List.mem_map.mp hv
 have h1 : 0 ≤ (raw + 7 * (i : Int)).fmod 99 := Int.fmod_nonneg_of_pos _ (by decide)
 have h2 : (raw + 7 * (i : Int)).fmod 99 < 99 := Int.fmod_lt_of_pos _ (by decide)
 omega
theorem bF_octs (raw : Int) (k : Nat) : Octs (bF raw k) := fun v hv => by have := bF_in raw k v hv; omega
theorem ldF_get {l : Mem} {ns : List Int} : ∀ (i : Nat) (q : Int), i ≤ 1000 → mget (ldF l 4096 ns i) q = if 4096 ≤ q ∧ q < 4096 + (i : Int) then some (ns.getD (q - 4096).toNat 0) else mget l q
 | 0, q, _ => by
  rw [if_neg (by omega)]; rfl
 | i + 1, q, hi => by
  unfold ldF
  have hm : (4096 + (i : Int)) % W64 = 4096 + i := Int.emod_eq_of_lt (by omega) (by unfold W64; omega)
  rw [mget_mset, hm, ldF_get i q (by omega)]
  clear hm
  by_cases hq : q = 4096 + (i : Int)
  ·rw [if_pos hq, if_pos (by lia)]
   subst hq
   rw [show (4096 + (i : Int) - 4096).toNat = i from by rw [Int.add_comm, Int.add_sub_cancel, Int.toNat_natCast]]
  ·rw [if_neg hq]
   by_cases hr : 4096 ≤ q ∧ q < 4096 + (i : Int)
   ·rw [if_pos hr, if_pos ⟨hr.1, Int.lt_trans hr.2 (by lia)⟩]
   ·rw [if_neg hr, if_neg (by lia)]
theorem ldF_ok {l : Mem} {p : Int} {ns : List Int} (h : MemOk l) (hn : ∀ v ∈ ns, 0 ≤ v ∧ v < 256) : ∀ i, MemOk (ldF l p ns i)
 | 0 => h
 | i + 1 => by
  unfold ldF
  have : 0 ≤ ns.getD i 0 ∧ ns.getD i 0 < 256 := by
   rw [List.getD_eq_getElem?_getD]
   cases q : ns[i]? with
   | none => exact ⟨by decide, by decide⟩
   | some v => exact hn v (List.mem_of_getElem? q)
  exact mset_ok (ldF_ok h hn i) this.1 this.2
theorem ldF_keys {l : Mem} {p : Int} {ns : List Int} (h : (l.map (·.1)).Nodup) : ∀ i, ((ldF l p ns i).map (·.1)).Nodup
 | 0 => h
 | i + 1 => mset_keys (ldF_keys h i)
noncomputable def mach0 (raw : Int) (wide : Nat) : Mach := ⟨(setF raw 4).set 4 (32768 % W64), ldF [] 4096 (bF raw wide) wide, 4096, 0, false⟩
theorem inv0 (raw : Int) {wide : Nat} (hw : wide ≤ 24) : Inv wide 0 (mach0 raw wide) := by
 refine ⟨?_, ?_, ?_, ?_, ?_, ?_, ?_⟩
 ·show ((setF raw 4).set 4 (32768 % W64)).length = 16
  rw [List.length_set, setF_len]
 ·exact ldF_ok (fun q hq => (by cases hq)) (fun v hv => by have := bF_in raw wide v hv; omega) wide
 ·exact ldF_keys (l := []) List.nodup_nil wide
 ·intro p h1 h2
  refine ⟨(bF raw wide).getD (p - 4096).toNat 0, ?_, ?_⟩
  ·show mget (ldF [] 4096 (bF raw wide) wide) p = _
   rw [ldF_get wide p (by omega), if_pos ⟨h1, h2⟩]
  ·have hl : (p - 4096).toNat < (bF raw wide).length := by rw [bF_len]; exact (Int.toNat_lt (Int.sub_nonneg_of_le h1)).mpr (Int.sub_left_lt_of_lt_add h2)
   have hm : (bF raw wide).getD (p - 4096).toNat 0 ∈ bF raw wide := by
    rw [List.getD_eq_getElem?_getD, List.getElem?_eq_getElem hl]
    exact List.getElem_mem hl
   have := bF_in raw wide _ hm
   omega
 ·have : ((setF raw 4).set 4 (32768 % W64)).getD 4 0 = 32768 := by rw [getD_set4 (setF_len raw 4)]; decide
  show 32768 - 8 * ((0 : Nat) : Int) ≤ ((setF raw 4).set 4 (32768 % W64)).getD 4 0 ∧ ((setF raw 4).set 4 (32768 % W64)).getD 4 0 ≤ 32768 + 8 * ((0 : Nat) : Int)
  omega
 ·exact ⟨by show (0 : Int) ≤ 4096; decide, by show (4096 : Int) < W64; decide⟩
 ·show (ldF [] 4096 (bF raw wide) wide).length ≤ wide + 8 * 0
  have := ldF_len [] 4096 (bF raw wide) wide
  simp only [List.length_nil] at this
  omega
theorem told_rel {R M : Mach} (h : RelP [] R M) : toldDT M = toldDT R := by
 unfold toldDT
 rw [h.regs, h.mem, cover_nil, h.rip, h.halted]
section
variable {c : Cx} {u : Cu} {env : Env} {E : EP} {m : Loc} {n : Led}
theorem stopT_ (x : Str) {v : Value} {Q : Unit → Loc → Led → Prop} (h : Stop (V c u env (storeName env x v) Q E m n)) : V c u env (storeName env x v) Q E m n := h.go
end
noncomputable def s_law : Stmt := (stAt 115)
theorem f_law (p : Params) : Fn0 (myK p) 1144 1143 n_law (paramsOf s_law) (bodyOf s_law) (scopeOf s_law) .none :=
 ⟨⟨.type "function", none, #[], n_law, .str (Str.ofString "law_nn0085_01") 1682, by kernel_rfl⟩, by kernel_rfl, by kernel_rfl, by kernel_rfl, by kernel_rfl⟩
noncomputable def posD : Stmt → Pos
 | .FunctionDef _ _ _ _ _ _ _ _ _ p => p
 | _ => default
noncomputable def AObj.tab : AObj := .one fun o => ∃ ps, o = tabObj ps
theorem Mod.grown {c : Cx} {fs : List (Env × Loc)} {n : Led} {h h' : Heap} {a : Addr} {pr pr' : Obj → Prop} (d : Mod c fs ((a, .one pr) :: n) h) (k : ∀ b o, b ≠ a → h.get? b = some o → h'.get? b = some o) (r : ∃ o, h'.get? a = some o ∧ pr' o) : Mod c fs ((a, .one pr') :: n) h' := by
 have haf : a ∈ foot ((a, AObj.one pr) :: n) := mem_foot (.head _) (.head _)
 have nd := d.nd
 rw [foot_cons] at nd
 have same : ∀ b, b ≠ a → ∀ o, h.get? b = some o → h'.get? b = h.get? b := fun b hb o e => by rw [k b o hb e, e]
 refine ⟨fun b ob e => k b ob (fun q => by rw [q, d.new a haf] at e; cases e) (d.keep b ob e), fun f hf => ?_, d.fnd, fun p hp => ?_, d.new, d.nd⟩
 ·have f1 := d.frs f hf
  obtain ⟨o', es, ep, ho', r⟩ := id f1.ns
  have hne : f.1.locals ≠ a := fun q => f1.out (q ▸ haf)
  exact ⟨Heap.Ns.of_get f1.ns (same _ hne _ ho'), f1.size, f1.out⟩
 ·rcases List.mem_cons.mp hp with rfl | hp
  ·exact r
  ·refine Rep.of (fun b hb => ?_) (d.led p (.tail _ hp))
   obtain ⟨o', ho'⟩ := (d.led p (.tail _ hp)).there b hb
   exact same b (fun q => (List.nodup_append.mp nd).2.2 a (.head _) b (mem_foot hp hb) q.symm) _ ho'
theorem Mod.moreL' {c : Cx} {fs fs' : List (Env × Loc)} {n l : Led} {h h' : Heap} (d : Mod c fs n h) (d' : Mod c fs' n h')
  (r : ∀ p ∈ l, Rep h' p.1 p.2) (nb : ∀ b ∈ foot l, b ∉ foot n) (hn : ∀ b ∈ foot l, c.b₀.get? b = none) (hnd : (foot l).Nodup) (ho : ∀ f ∈ fs', f.1.locals ∉ foot l) : Mod c fs' (l ++ n) h' := by
 refine ⟨d'.keep, fun f hf => ⟨(d'.frs f hf).ns, (d'.frs f hf).size, ?_⟩, d'.fnd, fun p hp => ?_, fun b hb => ?_, ?_⟩
 ·rw [foot_append, List.mem_append]
  rintro (hm | hm)
  ·exact ho f hf hm
  ·exact (d'.frs f hf).out hm
 ·rcases List.mem_append.mp hp with hp | hp
  ·exact r p hp
  ·exact d'.led p hp
 ·rw [foot_append, List.mem_append] at hb
  rcases hb with hb | hb
  ·exact hn b hb
  ·exact d'.new b hb
 ·rw [foot_append]
  exact List.nodup_append.mpr ⟨hnd, d'.nd, fun x hx y hy e => nb x hx (e ▸ hy)⟩
section
variable {c : Cx} {u : Cu} {env : Env} {E : EP} {m : Loc} {n : Led} {Q : Value → Loc → Led → Prop}
theorem DefT_ {st' st : Stmt} {name : Str} {cc Pt : Addr} {clos : List (Str × Addr)} {Q : Flow → Loc → Led → Prop} (hst : st' = .FunctionDef name (paramsOf st) (bodyOf st) [] none [] (scopeOf st) none name (posD st)) (hd0 : (paramsOf st).defaults = []) (hk0 : (paramsOf st).kw_defaults = []) (ha : annTrees (paramsOf st) none env = [])
  (hcl : closureFor (scopeOf st) env = pure clos) (hg : env.globals = mainGlobals) (hcode : env.code = .ref cc) (C : CodeHd c.b₀ cc Pt) (hns : nsOkIn c.K mainGlobals = true) (hb : c.b₀.BuiltinsAt (c.b₀.nsMap mainGlobals) Pt) (hl : env.kindOf name = some .local)
  (h : ∀ f c' qn pm, Q .next ((name, .ref f) :: m) ((f, .clos name qn (paramsOf st) (bodyOf st) (scopeOf st) clos pm c') :: (c', .code qn) :: (Pt, .tab) :: n)) :
  V c u env (exec st' env) Q E m ((Pt, .one fun o => o = tabObj #[]) :: n) := by
 rw [hst]
 refine V.i fun ok A hp tk fit md => ?_
 obtain ⟨o, hP, rfl⟩ := md.led _ (.head _)
 have N0 : c.b₀.Ns mainGlobals (c.b₀.nsMap mainGlobals) := .of_isNs (isNs_of_in ok.X hns)
 have N := N0.keeps md.keep
 have hgP : mainGlobals ≠ Pt := fun q => by
  obtain ⟨o, es, ep, e, hd, _⟩ := N
  rw [q, hP] at e; cases e; cases hd
 refine nestDef_K hd0 hk0 ha (makeFunction_K hcl hg N hcode (C.keeps md.keep) hP (by first | trivial | decide | simp [TriplesOk]) (by rfl) hgP (hb.keeps md.keep) fun c' ctv doc h' tk' hx hge hlt hrec htb => ?_)
 obtain ⟨c₂, oc, vs, t, e2, hoc, hd, hv⟩ := hrec
 cases e2
 generalize qualnameIn env name name = qn at hv ⊢
 have hge' : hp.objs.size ≤ c' := hge
 have m1 : Mod c ((env, m) :: u.fs) ((Pt, .tab) :: n) h' := md.grown hx ⟨_, htb, _, rfl⟩
 have old : ∀ b o, h'.get? b = some o → (h'.push (fnMade name qn (paramsOf st) (bodyOf st) (scopeOf st) clos doc (((c.b₀.nsMap mainGlobals) "__name__").getD .none) c' ctv)).get? b = some o := fun b o e => Heap.get?_push_of_some _ e
 have m2 := m1.ext old
 have nul : ∀ b ∈ foot [(h'.objs.size, AObj.clos name qn (paramsOf st) (bodyOf st) (scopeOf st) clos (((c.b₀.nsMap mainGlobals) "__name__").getD .none) c'), (c', .code qn)], hp.get? b = none := fun b hb => by
  have : b = h'.objs.size ∨ b = c' := by simpa [foot, fp, AObj.clos, AObj.code] using hb
  rcases this with rfl | rfl
  ·exact none_above (Nat.le_of_lt (Nat.lt_of_le_of_lt hge' hlt))
  ·exact none_above hge'
 have m3 : Mod c ((env, m) :: u.fs) ([(h'.objs.size, AObj.clos name qn (paramsOf st) (bodyOf st) (scopeOf st) clos (((c.b₀.nsMap mainGlobals) "__name__").getD .none) c'), (c', .code qn)] ++ ((Pt, .tab) :: n)) (h'.push (fnMade name qn (paramsOf st) (bodyOf st) (scopeOf st) clos doc (((c.b₀.nsMap mainGlobals) "__name__").getD .none) c' ctv)) := by
  refine m1.moreL' m2 (fun p hp' => ?_) ?_ ?_ ?_ (fun g hg hm => ?_)
  ·rcases List.mem_cons.mp hp' with rfl | hp'
   ·exact ⟨_, Heap.get?_push_size _ rfl, doc, ctv, rfl⟩
   ·rw [List.mem_singleton.mp hp']
    exact ⟨_, old _ _ hoc, vs, t, hd, hv⟩
  ·intro b hb hm
   obtain ⟨o', ho'⟩ := md.there (b := b) hm
   rw [nul b hb] at ho'; cases ho'
  ·intro b hb
   cases q : c.b₀.get? b with
   | none => rfl
   | some o' => have := md.keep b o' q; rw [nul b hb] at this; cases this
  ·have : c' ≠ h'.objs.size := Nat.ne_of_lt hlt
   simp [foot, fp, AObj.clos, AObj.code, this.symm]
  ·obtain ⟨o, es, ep, ho, _⟩ := (md.frs g hg).ns
   rw [nul _ hm] at ho; cases ho
 refine wpAny_mono ((Store_ (E := E) (Q := fun _ m' n' => m' = (name, .ref h'.objs.size) :: m ∧ n' = _) hl ⟨rfl, rfl⟩ : V c u env (storeName env name (.ref h'.objs.size)) _ _ m _).go ok A _ tk' fit m3) (fun _ s ⟨sm, m', n', y, e1, e2⟩ => ?_) fun _ _ x => x
 subst e1 e2
 exact ⟨sm, _, _, y, h _ _ _ _⟩
end
inductive Lt1 (N : Pen) (wd : Addr) (tl : Addr) (over : Bool) (sd : Addr) (ts : List TE) (P0 : PA) (it4 : Addr) (tw : Tok) (c : Cx) (rows : List Ins) (A : SA) (n : Led) (f : Addr) (i : Nat) (j : Nat) (m' : Loc) (n' : Led) : Prop
 | mk (P : PA) (pl : Addr) (pls : List Int) (a : Nat) (M1 : Mach) (h1 : P.p = P0.p) (h2 : (P.k == sysModules) = false) (h3 : DeedR rows (mchs ts) a pls M1) (h4 : pls.length ≤ j) (h5 : Keep ((it4, .riter j (8 - 0 - j)) :: (penL c.w N (2 + 2 * i + 3 * j) ++ ((wd, .smap c.w (worldS tl over a pl sd)) :: (pl, .ints pls) :: (ptL c.w P A.mm pls [] ++ (stL c.w A M1 ++ ((tl, .list (ts.map fun e => .ref e.1)) :: (telL ts ++ n))))))) n') (h6 : m'.lookup n_state = some (.ref A.s)) (h7 : m'.lookup n_points = some (.ref P0.p)) (h8 : m'.lookup n_world = some (.ref wd)) (h9 : m'.lookup n_wide = some (.int ((2 * rows.length : Nat) : Int) tw)) (h10 : m'.lookup n__law_advance = some (.ref f)) (h11 : m'.lookup n_tellings = some (.ref tl))
section
variable {c : Cx} {u : Cu} {n : Led} {Q : Flow → Loc → Led → Prop}
noncomputable abbrev lawEnv (L : Addr) : Env := envX n_law (scopeOf s_law) L 1144 (.ref 1143) [(n_program, L + 3), (n_raw, L + 2), (n_pen, L + 1)]
theorem lawTail_ {A : SA} {M : Mach} {m : Loc} {sd L f : Addr} {N : Pen} {rows : List Ins} {sto : Mem} {i : Nat} {tw : Tok} (hP : Prg rows) (hRl : rows.length = i) (hi : i ≤ 12) (hI0 : Inv (2 * rows.length) 0 M) (hA : (A.h == sysModules) = false) (hsd : (sd == sysModules) = false) (hsto : ∀ r, mget sto r = stoAt rows r)
  (hsm : (sd, AObj.mem c.w sto) ∈ n) (hf : AdvIn c.w n rows f) (hN : ∀ k, k ≤ 1000 → N.ok k) (hpen : (L + 1, AObj.cellO (some (.ref N.p))) ∈ n) (l1 : m.lookup n_state = some (.ref A.s)) (l2 : m.lookup n_wide = some (.int (2 * i) tw)) (l3 : m.lookup n_stores = some (.ref sd)) (l4 : m.lookup n__law_advance = some (.ref f)) (hh : u.hd = none) (hr : 39 ≤ u.r)
  (h : ∀ m' n', Keep n n' → Q (.ret (.bool true)) m' n') :
  V c u (lawEnv L) (execs ((bodyOf s_law).drop 10) (lawEnv L)) Q noE m (stL c.w A M ++ (penL c.w N (2 + 2 * i) ++ n)) := by
 have hMB : MB 400 M := ⟨hI0.len, hI0.mem, by have := hI0.size; lia⟩
 refine execs_cons ?_
 kp_kind "names"
 kp_kind "r"
 refine AssignTup_ (by exact hh) ?_
 kp_kind "r"
 refine stCopy_ (hMB.ok (by lia) hA) (by exact hh) (by kp_kind "room") fun B hB => ?_
 kp_kind "r"
 refine recorded_ hMB (by lia) hB (hf.sub fun p hp => List.mem_append_right _ (List.mem_append_right _ hp)) (by exact hh) (by kp_kind "room") fun T tl ts over hrec => ?_
 kp_kind "r"
 refine unpRB_ ?_
 refine V.keep0 (n' := (tl, .list (ts.map fun e => .ref e.1)) :: (telL ts ++ (stL c.w A M ++ (penL c.w N (2 + 2 * i) ++ n)))) (Keep.skip Keep.refl) ?_
 repeat (first | kp_kind "1" | refine inOrd_ ?_ | refine inOrd0_ ?_ | refine bindN_ ?_)
 refine DictS_ (by kernel_rfl) (by kernel_rfl) (by simp) (by decide) fun wd => ?_
 kp_kind "r"
 refine pair_ ?_
 kp_kind "r"
 refine pair_ ?_
 kp_kind "r"
 refine pair_ ?_
 kp_kind "r"
 refine pair_ ?_
 kp_kind "r"
 refine pair_ ?_
 kp_kind "r"
 refine pair0_ ?_
 refine ⟨by kernel_rfl, by show List.Nodup [n_tellings, n_over, n_at, n_places, n_stores]; kp_kind "dq", _, .there .here, ?_⟩
 rename_i pl tt0
 refine V.keep0 (n' := (wd, .smap c.w (worldS tl over 0 pl sd)) :: (pl, .ints []) :: (stL c.w A M ++ (penL c.w N (2 + 2 * i) ++ ((tl, .list (ts.map fun e => .ref e.1)) :: (telL ts ++ n))))) (by
  show Keep ((wd, .smap c.w [(n_tellings, .ref tl), (n_over, .bool over), (n_at, .int 0 0), (n_places, .ref pl), (n_stores, .ref sd)]) :: (pl, .list []) :: (stL c.w A M ++ (penL c.w N (2 + 2 * i) ++ ((tl, .list (ts.map fun e => .ref e.1)) :: (telL ts ++ n))))) ((pl, .list []) :: (wd, .smap c.w [(n_tellings, .ref tl), (n_over, .bool over), (n_at, .int 0 0), (n_places, .ref pl), (n_stores, .ref sd)]) :: (tl, .list (ts.map fun e => .ref e.1)) :: (telL ts ++ (stL c.w A M ++ (penL c.w N (2 + 2 * i) ++ n))))
  kp_kind "kb") ?_
 kp_kind "r"
 refine mkPoints_ (by kp_kind "room") fun P0 hP0 => ?_
 kp_kind "r"
 have hT := hrec.tel hP hI0
 have hts : (mchs ts)[0]? = some M := by obtain ⟨_, hr, _⟩ := hrec.rec_; exact hr.first
 have hml : (mchs ts).length = ts.length := by unfold mchs; simp
 have hTf := hT.few
 have D0 : DeedR rows (mchs ts) 0 [] M := ⟨List.nodup_nil, fun x hx => (by cases hx), M, hts, rfl, rfl, rfl, (cover_nil _).symm⟩
 have l2' : m.lookup n_wide = some (.int ((2 * rows.length : Nat) : Int) tw) := by rw [l2, hRl]; rfl
 refine V.mono (Q := fun fl m' n' => fl = .next ∧ Keep n n') ?_ ?_ (fun _ _ _ _ _ x => x)
 ·refine For_ ?_
  kp_kind "r"
  refine range_ fun r4 => ?_
  kp_kind "r"
  refine iterR_ (.head _) (by decide) (by decide) (by decide) fun it4 => ?_
  refine ⟨8, fun j m' n' => Lt1 N wd tl over sd ts P0 it4 tw c rows A n f i j m' n', ?_, ?_⟩
  ·refine ⟨P0, pl, [], 0, M, rfl, hP0, D0, Nat.le_refl _, ?_, by kp_kind "lk", by kp_kind "lk", by kp_kind "lk", by kp_kind "lk", by kp_kind "lk", by kp_kind "lk"⟩
   refine Keep.consC (Keep.skip ?_)
   show Keep (penL c.w N (2 + 2 * i) ++ ((wd, .smap c.w (worldS tl over 0 pl sd)) :: (pl, .ints []) :: (ptL c.w P0 A.mm [] [] ++ (stL c.w A M ++ ((tl, .list (ts.map fun e => .ref e.1)) :: (telL ts ++ n)))))) _
   kp_kind "kb"
  rintro _ j m' n' hj ⟨P, pl, pls, a, M1, hpp, hPk, D, hz, hK, k1, k2, k3, k4, k5, k6⟩
  refine turnName (by kernel_rfl) ?_
  refine V.keepL hK ?_
  intro l₀
  refine nextR_ (by exact hh) (fun hlt tt => ?_) (fun hge => ?_)
  ·kp_kind "r"
   refine NameC_ (by kernel_rfl) (by kernel_rfl) (a := L + 1) (by kernel_rfl) (by kp_kind "mem") (by kernel_rfl) (rf ?_)
   kp_kind "r"
   refine V.keep0 (n' := penL c.w N (2 + 2 * i + 3 * j) ++ ((wd, .smap c.w (worldS tl over a pl sd)) :: (pl, .ints pls) :: (ptL c.w P A.mm pls [] ++ (stL c.w A M1 ++ ((it4, .riter ((j : Int) + 1) (8 - 0 - j - 1)) :: (tl, .list (ts.map fun e => .ref e.1)) :: (telL ts ++ n)))))) (by kp_kind "kb") ?_
   rw [← hpp]
   refine deed_ hP hT D (by lia) hsd hA hPk (.tail _ (.head _)) (fun p hp => .tail _ (.tail _ (List.mem_append_left _ hp))) (.tail _ (.tail _ (List.mem_append_right _ hsm))) hsto (hf.sub fun p hp => .tail _ (.tail _ (List.mem_append_right _ hp))) (hN _ (by lia)) (by exact hh) (by kp_kind "room") fun P2 pl2 pls2 a2 M2 hpp2 hk2 D2 hz2 => ?_
   kp_kind "r"
   obtain ⟨R2, hR2, hrel2⟩ := D2.at_
   have haT : a2 < ts.length := by rw [← hml]; exact (List.getElem?_eq_some_iff.mp hR2).1
   obtain ⟨te, hte⟩ : ∃ te, ts[a2]? = some te := ⟨_, List.getElem?_eq_getElem haT⟩
   have hteR : te.2.2 = R2 := by
    have h1 : (mchs ts)[a2]? = some te.2.2 := by unfold mchs; rw [List.getElem?_map, hte]; rfl
    rw [hR2] at h1; cases h1; rfl
   have hI2 := inv_rel (hT.inv a2 R2 hR2) hrel2
   have hMB2 : MB 500 M2 := ⟨hI2.len, hI2.mem, by have := hI2.size; lia⟩
   have k2' : m'.lookup n_points = some (.ref P2.p) := by rw [hpp2, hpp]; exact k2
   clear k2
   refine V.keep0 (n' := stL c.w A M2 ++ (penL c.w N (2 + 2 * i + 3 * j + 3) ++ ((wd, .smap c.w (worldS tl over a2 pl2 sd)) :: (pl2, .ints pls2) :: (ptL c.w P2 A.mm pls2 [] ++ ((it4, .riter ((j : Int) + 1) (8 - 0 - j - 1)) :: (tl, .list (ts.map fun e => .ref e.1)) :: (telL ts ++ n)))))) (by kp_kind "kb") ?_
   refine stTold_ (hMB2.ok (by lia) hA) (by exact hh) (by kp_kind "room") fun T3 as3 => ?_
   kp_kind "r"
   refine subS_ (es := worldS tl over a2 pl2 sd) (x := .int a2 0) (by kp_kind "mem") (by kernel_rfl) (by kernel_rfl) (it_ fun ta => ?_)
   kp_kind "r"
   refine subL_ (xs := ts.map fun e => .ref e.1) (x := .ref te.1) (by kp_kind "mem") (by lia) (by lia) (by rw [List.getElem?_map, Int.toNat_natCast, hte]; rfl) (by kernel_rfl) (rf ?_)
   kp_kind "r"
   have hme : (te.1, AObj.deep (toldDT M2) te.2.1) ∈ telL ts := by
    rw [told_rel hrel2, ← hteR]
    exact List.mem_map_of_mem (f := fun e : TE => (e.1, AObj.deep (toldDT e.2.2) e.2.1)) (List.mem_of_getElem? hte)
   refine neDeep_ (t := toldDT M2) (by kp_kind "room") (.head _) (.tail _ (List.mem_append_right _ (List.mem_append_right _ (.tail _ (.tail _ (List.mem_append_right _ (.tail _ (.tail _ (List.mem_append_left _ hme))))))))) (shaped_told M2) ?_
   kp_kind "r"
   refine DictNil_ fun dn hdn => ?_
   kp_kind "r"
   refine neMap0_ (by kp_kind "room") hk2 hdn (show (P2.k, AObj.mem c.w []) ∈ _ from by kp_kind "mem") (.head _) ?_
   kp_kind "r"
   refine ⟨by lia, P2, pl2, pls2, a2, M2, hpp2.trans hpp, hk2, D2, by lia, ?_, by kp_kind "lk", by rw [← hpp2.trans hpp]; kp_kind "lk", by kp_kind "lk", by kp_kind "lk", by kp_kind "lk", by kp_kind "lk"⟩
   rw [show (8 : Int) - 0 - j - 1 = 8 - 0 - ((j + 1 : Nat) : Int) by lia, show 2 + 2 * i + 3 * (j + 1) = 2 + 2 * i + 3 * j + 3 by lia]
   show Keep ((it4, .riter ((j : Int) + 1) (8 - 0 - ((j + 1 : Nat) : Int))) :: (penL c.w N (2 + 2 * i + 3 * j + 3) ++ ((wd, .smap c.w (worldS tl over a2 pl2 sd)) :: (pl2, .ints pls2) :: (ptL c.w P2 A.mm pls2 [] ++ (stL c.w A M2 ++ ((tl, .list (ts.map fun e => .ref e.1)) :: (telL ts ++ n))))))) _
   kp_kind "kb"
  ·have hj8 : j = 8 := by lia
   kp_kind "r"
   refine ⟨rfl, ?_⟩
   kp_kind "kb"
 rintro fl m' n' ⟨rfl, hK⟩
 refine V.keepL hK ?_
 intro l₀
 kp_kind "r"
 exact h _ _ Keep.refl
end
section
variable {c : Cx} {u : Cu} {n : Led} {Q : Flow → Loc → Led → Prop}
theorem lawBody_ {sc L : Addr} {ns : List Int} {pr : Obj → Prop} (hlen : ns.length ≤ 63) (C : CodeHd c.b₀ 1143 1141) (hB : c.b₀.BuiltinsAt (c.b₀.nsMap mainGlobals) 1141) (hh : u.hd = none) (hr : 39 ≤ u.r)
  (hpr : ∀ o, pr o → ∃ vs e, o.cls = .type "list" ∧ o.data = .seq vs e ∧ vs.toList.map nv = ns.map vi) (h : ∀ m' n', Keep ((1141, .tab) :: (sc, .one pr) :: n) n' → Q (.ret (.bool true)) m' n') :
  V c u (lawEnv L) (execs (bodyOf s_law) (lawEnv L)) Q noE [(n_script, .ref sc)] ((L + 3, .cellO none) :: (L + 2, .cellO none) :: (L + 1, .cellO none) :: (1141, .one fun o => o = tabObj #[]) :: (sc, .one pr) :: n) := by
 refine execs_cons ?_
 kp_kind "names"
 kp_kind "r"
 refine SliceTo_ ?_
 kp_kind "r"
 refine ⟨_, _, rfl, fun S1 => ?_⟩
 kp_kind "r"
 refine subTo_ (ns := ns) hpr (by kp_kind "mem") (.head _) (by decide) (by lia) (by kernel_rfl) (by intro _; kernel_rfl) fun D1 => ?_
 rw [show (60 : Int).toNat = 60 from rfl]
 kp_kind "r"
 refine listCopy_ (xs := (ns.take 60).map vi) (.head _) (by rw [List.length_map, List.length_take]; lia) fun D2 => ?_
 kp_kind "r"
 refine SliceTo_ ?_
 kp_kind "r"
 refine ⟨_, _, rfl, fun S2 => ?_⟩
 kp_kind "r"
 refine subTo_ (ns := ns) hpr (by kp_kind "mem") (.head _) (by decide) (by lia) (by kernel_rfl) (by intro _; kernel_rfl) fun D3 => ?_
 rw [show (60 : Int).toNat = 60 from rfl]
 kp_kind "r"
 refine sum_ (ns := ns.take 60) (by exact hh) (.head _) fun t1 => ?_
 kp_kind "r"
 refine intInt_ ?_
 kp_kind "r"
 refine mod_ (by decide) fun t2 => ?_
 kp_kind "r"
 rename_i pa
 refine ⟨?_⟩
 refine StoreC_ (by kernel_rfl) (by kernel_rfl) (a := L + 1) (v₀ := none) (by kernel_rfl) (by kp_kind "put") ?_
 obtain ⟨N, hN⟩ : ∃ N : Pen, N = ⟨pa, D2, ns.take 60, (ns.take 60).sum.fmod 1000003⟩ := ⟨_, rfl⟩
 have hNok : ∀ k, k ≤ 1000 → N.ok k := fun k hk => by
  rw [hN]
  exact ⟨by show (ns.take 60).length ≤ 60; rw [List.length_take]; lia, ⟨Int.fmod_nonneg_of_pos _ (by decide), Int.fmod_lt_of_pos _ (by decide)⟩, hk⟩
 refine V.keep0 (n' := penL c.w N 0 ++ ((L + 3, .cellO none) :: (L + 2, .cellO none) :: (L + 1, .cellO (some (.ref N.p))) :: (1141, .one fun o => o = tabObj #[]) :: (sc, .one pr) :: n)) ?_ ?_
 ·rw [penL_eq, hN]
  exact Keep.consC (Keep.skip (Keep.skip (Keep.consC (Keep.skip (Keep.skip Keep.refl)))))
 clear hN
 kp_kind "r"
 refine NameC_ (by kernel_rfl) (by kernel_rfl) (a := L + 1) (by kernel_rfl) (by kp_kind "mem") (by kernel_rfl) (rf ?_)
 kp_kind "r"
 refine raw_ (hNok _ (by lia)) (by kp_kind "room") fun t3 => ?_
 generalize rawF N.s N.seed 0 = raw
 kp_kind "r"
 refine ⟨?_⟩
 refine StoreC_ (by kernel_rfl) (by kernel_rfl) (a := L + 2) (v₀ := none) (by kernel_rfl) (by kp_kind "put") ?_
 refine V.keep0 (n' := penL c.w N 1 ++ ((L + 3, .cellO none) :: (L + 2, .cellO (some (.int raw 0))) :: (L + 1, .cellO (some (.ref N.p))) :: (1141, .one fun o => o = tabObj #[]) :: (sc, .one pr) :: n)) Keep.refl ?_
 kp_kind "r"
 refine ⟨?_⟩
 refine AssignComp0_ (cl := [(n_pen, L + 1)]) (by kernel_rfl) (by kernel_rfl) (by kernel_rfl) (by kp_kind "dq") (by kernel_rfl) (by kp_kind "dq") ?_
 kp_kind "r"
 refine NameC_ (by kernel_rfl) (by kernel_rfl) (a := L + 1) (by kernel_rfl) (by kp_kind "mem") (by kernel_rfl) (rf ?_)
 kp_kind "r"
 refine draw_ (by decide) (hNok _ (by lia)) (by kp_kind "room") fun t4 => ?_
 have hd0 : 0 ≤ (rawF N.s N.seed 1).fmod 12 := Int.fmod_nonneg_of_pos _ (by decide)
 have hd1 : (rawF N.s N.seed 1).fmod 12 < 12 := Int.fmod_lt_of_pos _ (by decide)
 obtain ⟨nr, hnr⟩ : ∃ nr : Nat, 1 + (rawF N.s N.seed 1).fmod 12 = nr := ⟨(1 + (rawF N.s N.seed 1).fmod 12).toNat, by lia⟩
 have hnr1 : 1 ≤ nr ∧ nr ≤ 12 := by lia
 kp_kind "r"
 rw [hnr]
 refine range_ fun r0 => ?_
 kp_kind "r"
 refine iterR_ (.head _) (by decide) (by lia) (by lia) fun it0 => ?_
 intro C0 D0 _ _
 refine ⟨nr, fun i m' n' => ∃ (rvs : List (RowV × Addr)) (l : Led), rvs.length = i ∧ (∀ (j : Nat) (r : RowV) (v : Addr), rvs[j]? = some (r, v) → RowIn l r v ∧ r.fine ∧ r.good) ∧ Keep ((it0, .riter i (nr - 0 - i)) :: (D0, .list (rvs.map fun x => .ref x.2)) :: (penL c.w N (2 + 2 * i) ++ (l ++ ((L + 3, .cellO none) :: (L + 2, .cellO (some (.int raw 0))) :: (L + 1, .cellO (some (.ref N.p))) :: (1141, .one fun o => o = tabObj #[]) :: (sc, .one pr) :: n)))) n', ?_, ?_, ?_⟩
 ·refine ⟨[], [], rfl, fun j r v h => (by cases h), ?_⟩
  exact Keep.cons (.there .here) (Keep.cons .here (Keep.skip Keep.refl))
 ·rintro _ m' n' ⟨rvs, l, _, _, hK⟩
  exact selfRM_ (hK.mem _ (.head _))
 rintro _ i mc n' hi ⟨rvs, l, hrl, hrv, hK⟩
 refine turnName (by kernel_rfl) ?_
 refine V.keepL hK ?_
 intro l₀
 refine nextR_ (by exact hh) (fun hlt tt => ?_) (fun hge => ?_)
 ·kp_kind "r"
  refine NameC_ (by kernel_rfl) (by kernel_rfl) (a := L + 1) (by kernel_rfl) (by kp_kind "mem") (by kernel_rfl) (rf ?_)
  kp_kind "r"
  refine V.keep0 (n' := penL c.w N (2 + 2 * i) ++ ((it0, .riter ((i : Int) + 1) (nr - 0 - i - 1)) :: (D0, .list (rvs.map fun x => .ref x.2)) :: (l ++ ((L + 3, .cellO none) :: (L + 2, .cellO (some (.int raw 0))) :: (L + 1, .cellO (some (.ref N.p))) :: (1141, .one fun o => o = tabObj #[]) :: (sc, .one pr) :: n)))) (by kp_kind "kb") ?_
  refine row_ (hNok _ (by lia)) (by kp_kind "room") (by exact hh) fun v l2 hl2 => ?_
  kp_kind "r"
  refine append_ (xs := rvs.map fun x => .ref x.2) (n' := l2 ++ (penL c.w N (2 + 2 * i + 2) ++ ((it0, .riter ((i : Int) + 1) (nr - 0 - i - 1)) :: (D0, .list ((rvs.map fun x => .ref x.2) ++ [.ref v])) :: (l ++ ((L + 3, .cellO none) :: (L + 2, .cellO (some (.int raw 0))) :: (L + 1, .cellO (some (.ref N.p))) :: (1141, .one fun o => o = tabObj #[]) :: (sc, .one pr) :: n))))) (Put.app (Put.app (.there .here) _) _) (by rw [List.length_map]; lia) ?_
  have hl3 := hl2 []
  rw [List.append_nil] at hl3
  have hgood := rowF_good ((rawF N.s N.seed (2 + 2 * i)).fmod 10) (rawF N.s N.seed (2 + 2 * i + 1))
  have hfine := rowF_fine ((rawF N.s N.seed (2 + 2 * i)).fmod 10) (rawF N.s N.seed (2 + 2 * i + 1))
  generalize rowF ((rawF N.s N.seed (2 + 2 * i)).fmod 10) (rawF N.s N.seed (2 + 2 * i + 1)) = rw0 at hl3 hgood hfine
  refine ⟨by lia, rvs ++ [(rw0, v)], l2 ++ l, by rw [List.length_append, hrl]; rfl, fun j r w hj => ?_, ?_⟩
  ·rcases Nat.lt_or_ge j rvs.length with hjl | hjl
   ·rw [List.getElem?_append_left hjl] at hj
    obtain ⟨h1, h2, h3⟩ := hrv j r w hj
    exact ⟨h1.sub fun p hp => List.mem_append_right _ hp, h2, h3⟩
   ·rw [List.getElem?_append_right hjl] at hj
    have hj0 : j - rvs.length = 0 := by
     have := (List.getElem?_eq_some_iff.mp hj).1
     simp at this; lia
    rw [hj0] at hj
    cases hj
    exact ⟨hl3.sub fun p hp => List.mem_append_left _ hp, hfine, hgood⟩
  ·rw [List.map_append, List.append_assoc]
   rw [show (nr : Int) - 0 - i - 1 = nr - 0 - ((i + 1 : Nat) : Int) by lia, show 2 + 2 * (i + 1) = 2 + 2 * i + 2 by lia]
   show Keep ((it0, .riter ((i : Int) + 1) (nr - 0 - ((i + 1 : Nat) : Int))) :: (D0, .list (rvs.map (fun x => .ref x.2) ++ [.ref v])) :: (penL c.w N (2 + 2 * i + 2) ++ (l2 ++ (l ++ _)))) _
   kp_kind "kb"
 have hir : i = nr := by lia
 subst hir
 refine V.keep0 (n' := (D0, .list (rvs.map fun x => .ref x.2)) :: (penL c.w N (2 + 2 * i) ++ (l ++ ((L + 3, .cellO none) :: (L + 2, .cellO (some (.int raw 0))) :: (L + 1, .cellO (some (.ref N.p))) :: (1141, .one fun o => o = tabObj #[]) :: (sc, .one pr) :: n)))) Keep.refl ?_
 kp_kind "r"
 refine AssignTup_ (by exact hh) ?_
 kp_kind "r"
 refine program_ (n₀ := l) (rvs := rvs) (.head _) (fun p hp => .tail _ (List.mem_append_right _ (List.mem_append_left _ hp))) (fun j r v hj => ⟨(hrv j r v hj).1, (hrv j r v hj).2.1⟩) (by lia) (by lia) (by exact hh) (by kp_kind "room") fun T1 pd sd es sto l2 hPrg hpd hsd hsto => ?_
 have hP : Prg (prgF rvs.length (rvs.map (·.1))) := by
  have := prg_of (rows := rvs.map (·.1)) (by rw [List.length_map]; lia) (by rw [List.length_map]; lia) (fun r hr => by
   obtain ⟨x, hx, rfl⟩ := List.mem_map.mp hr
   obtain ⟨j, hj⟩ := List.getElem?_of_mem hx
   exact (hrv j x.1 x.2 hj).2.2)
  rw [List.length_map] at this
  exact this
 have hRl : (prgF rvs.length (rvs.map (·.1))).length = i := by rw [prgF_len, List.length_map, hrl]
 generalize prgF rvs.length (rvs.map (·.1)) = rows at hPrg hsto hP hRl
 kp_kind "r"
 refine unpRR_ ?_
 repeat (first | kp_kind "1" | refine inOrd_ ?_ | refine inOrd0_ ?_ | refine bindN_ ?_)
 refine ⟨?_⟩
 refine StoreC_ (by kernel_rfl) (by kernel_rfl) (a := L + 3) (v₀ := none) (by kernel_rfl) (.there (.there (.there (Put.app (.there (Put.app (Put.app .here _) _)) _)))) ?_
 refine V.keep0 (n' := penL c.w N (2 + 2 * i) ++ ((D0, .list (rvs.map fun x => .ref x.2)) :: (pd, .imap c.w es) :: (sd, .mem c.w sto) :: ((l2 ++ l) ++ ((L + 3, .cellO (some (.ref pd))) :: (L + 2, .cellO (some (.int raw 0))) :: (L + 1, .cellO (some (.ref N.p))) :: (1141, .one fun o => o = tabObj #[]) :: (sc, .one pr) :: n)))) ?_ ?_
 ·rw [List.append_assoc]
  show Keep _ ((T1, .tup [.ref pd, .ref sd]) :: (pd, .imap c.w es) :: (sd, .mem c.w sto) :: (l2 ++ ((D0, .list (rvs.map fun x => .ref x.2)) :: (penL c.w N (2 + 2 * i) ++ (l ++ ((L + 3, .cellO (some (.ref pd))) :: (L + 2, .cellO (some (.int raw 0))) :: (L + 1, .cellO (some (.ref N.p))) :: (1141, .one fun o => o = tabObj #[]) :: (sc, .one pr) :: n))))))
  kp_kind "kb"
 have hPrg' : ∀ n' : Led, (∀ p ∈ l2 ++ l, p ∈ n') → PrgIn n' rows es := fun n' hs => hPrg.sub hs
 generalize l2 ++ l = lr at hPrg'
 repeat (first | kp_kind "1" | refine inOrd_ ?_ | refine inOrd0_ ?_ | refine bindN_ ?_)
 refine AssignSw_ (names := [n_state, n_wide]) (by exact hh) (by kernel_rfl) ?_
 kp_kind "r"
 refine mkState_ (by kp_kind "room") fun A hA => ?_
 kp_kind "r"
 refine len_ (xs := rvs.map fun x => .ref x.2) (by kp_kind "mem") (by rw [List.length_map]; lia) fun t5 => ?_
 rw [List.length_map, hrl]
 kp_kind "r"
 refine mul_ (IntMulOk.of_left (by decide)) fun t6 => ?_
 kp_kind "r"
 refine unpRI (by kernel_rfl) (by kernel_rfl) fun tw => ?_
 refine after_next ?_
 refine V.keep0 (n' := (stL c.w A (M₀) ++ (penL c.w N (2 + 2 * i) ++ ((pd, .imap c.w es) :: (sd, .mem c.w sto) :: (lr ++ ((L + 3, .cellO (some (.ref pd))) :: (L + 2, .cellO (some (.int raw 0))) :: (L + 1, .cellO (some (.ref N.p))) :: (1141, .one fun o => o = tabObj #[]) :: (sc, .one pr) :: n)))))) (by kp_kind "kb") ?_
 repeat (first | kp_kind "1" | refine inOrd_ ?_ | refine inOrd0_ ?_ | refine bindN_ ?_)
 refine V.mono (Q := fun fl m' n' => fl = .next ∧ Keep ((stL c.w A ({ M₀ with regs := setF raw 4 }) ++ (penL c.w N (2 + 2 * i) ++ ((pd, .imap c.w es) :: (sd, .mem c.w sto) :: (lr ++ ((L + 3, .cellO (some (.ref pd))) :: (L + 2, .cellO (some (.int raw 0))) :: (L + 1, .cellO (some (.ref N.p))) :: (1141, .one fun o => o = tabObj #[]) :: (sc, .one pr) :: n)))))) n' ∧ m'.lookup n_state = some (.ref A.s) ∧ m'.lookup n_wide = some (.int (2 * i) tw) ∧ m'.lookup n_stores = some (.ref sd)) ?_ ?_ (fun _ _ _ _ _ x => x)
 ·refine For_ ?_
  kp_kind "r"
  refine range_ fun r1 => ?_
  kp_kind "r"
  refine iterR_ (.head _) (by decide) (by decide) (by decide) fun it1 => ?_
  refine ⟨4, fun j m' n' => Keep ((it1, .riter j (4 - 0 - j)) :: (stL c.w A ({ M₀ with regs := setF raw j }) ++ (penL c.w N (2 + 2 * i) ++ ((pd, .imap c.w es) :: (sd, .mem c.w sto) :: (lr ++ ((L + 3, .cellO (some (.ref pd))) :: (L + 2, .cellO (some (.int raw 0))) :: (L + 1, .cellO (some (.ref N.p))) :: (1141, .one fun o => o = tabObj #[]) :: (sc, .one pr) :: n)))))) n' ∧ m'.lookup n_state = some (.ref A.s) ∧ m'.lookup n_wide = some (.int (2 * i) tw) ∧ m'.lookup n_stores = some (.ref sd), ⟨Keep.consC (Keep.skip Keep.refl), by kp_kind "lk", by kp_kind "lk", by kp_kind "lk"⟩, ?_⟩
  rintro _ j m' n' hj ⟨hK, k1, k2, k3⟩
  refine turnName (by kernel_rfl) ?_
  refine V.keepL hK ?_
  intro l₀
  refine nextR_ (by exact hh) (fun hlt tt => ?_) (fun hge => ?_)
  ·kp_kind "r"
   refine gpr_ (k := j) (by lia) (by kp_kind "room") fun R Rd nm => ?_
   kp_kind "r"
   refine NameC_ (by kernel_rfl) (by kernel_rfl) (a := L + 2) (by kernel_rfl) (by kp_kind "mem") (by kernel_rfl) (it_ fun tv => ?_)
   kp_kind "r"
   refine V.keep0 (n' := stL c.w A ({ M₀ with regs := setF raw j }) ++ ((R, .inst 368 Rd (regL nm j)) :: (it1, .riter ((j : Int) + 1) (4 - 0 - j - 1)) :: (penL c.w N (2 + 2 * i) ++ ((pd, .imap c.w es) :: (sd, .mem c.w sto) :: (lr ++ ((L + 3, .cellO (some (.ref pd))) :: (L + 2, .cellO (some (.int raw 0))) :: (L + 1, .cellO (some (.ref N.p))) :: (1141, .one fun o => o = tabObj #[]) :: (sc, .one pr) :: n)))))) (by kp_kind "kb") ?_
   refine put_ (k := (j : Int)) ⟨Rd, nm, .head _⟩ (by lia) (by show (j : Int).toNat < (setF raw j).length; rw [setF_len]; lia) (by lia) (by kp_kind "room") ?_
   kp_kind "r"
   refine ⟨by lia, ?_, by kp_kind "lk", by kp_kind "lk", by kp_kind "lk"⟩
   rw [show (4 : Int) - 0 - j - 1 = 4 - 0 - ((j + 1 : Nat) : Int) by lia]
   show Keep ((it1, .riter ((j : Int) + 1) (4 - 0 - ((j + 1 : Nat) : Int))) :: (stL c.w A { M₀ with regs := (setF raw j).set (j : Int).toNat ((raw + j) % W64) } ++ (penL c.w N (2 + 2 * i) ++ ((pd, .imap c.w es) :: (sd, .mem c.w sto) :: (lr ++ ((L + 3, .cellO (some (.ref pd))) :: (L + 2, .cellO (some (.int raw 0))) :: (L + 1, .cellO (some (.ref N.p))) :: (1141, .one fun o => o = tabObj #[]) :: (sc, .one pr) :: n)))))) _
   kp_kind "kb"
  ·have hj4 : j = 4 := by lia
   subst hj4
   kp_kind "r"
   exact ⟨rfl, Keep.refl, by kp_kind "lk", by kp_kind "lk", by kp_kind "lk"⟩
 rintro fl m' n' ⟨rfl, hK, k1, k2, k3⟩
 refine V.keepL hK ?_
 intro l₀
 kp_kind "r"
 refine gpr_ (k := 4) (by lia) (by kp_kind "room") fun R Rd nm => ?_
 kp_kind "r"
 refine V.keep0 (n' := stL c.w A ({ M₀ with regs := setF raw 4 }) ++ ((R, .inst 368 Rd (regL nm ((4 : Nat) : Int))) :: (penL c.w N (2 + 2 * i) ++ ((pd, .imap c.w es) :: (sd, .mem c.w sto) :: (lr ++ ((L + 3, .cellO (some (.ref pd))) :: (L + 2, .cellO (some (.int raw 0))) :: (L + 1, .cellO (some (.ref N.p))) :: (1141, .one fun o => o = tabObj #[]) :: (sc, .one pr) :: n)))))) (by kp_kind "kb") ?_
 refine put_ (k := 4) ⟨Rd, nm, .head _⟩ (by decide) (by show (4 : Int).toNat < (setF raw 4).length; rw [setF_len]; decide) (by decide) (by kp_kind "room") ?_
 refine V.keep0 (n' := (stL c.w A ({ M₀ with regs := (setF raw 4).set 4 (32768 % W64) }) ++ (penL c.w N (2 + 2 * i) ++ ((pd, .imap c.w es) :: (sd, .mem c.w sto) :: (lr ++ ((L + 3, .cellO (some (.ref pd))) :: (L + 2, .cellO (some (.int raw 0))) :: (L + 1, .cellO (some (.ref N.p))) :: (1141, .one fun o => o = tabObj #[]) :: (sc, .one pr) :: n)))))) (by
  show Keep _ (stL c.w A ({ M₀ with regs := (setF raw 4).set 4 (32768 % W64) }) ++ ((R, .inst 368 Rd (regL nm ((4 : Nat) : Int))) :: (penL c.w N (2 + 2 * i) ++ ((pd, .imap c.w es) :: (sd, .mem c.w sto) :: (lr ++ ((L + 3, .cellO (some (.ref pd))) :: (L + 2, .cellO (some (.int raw 0))) :: (L + 1, .cellO (some (.ref N.p))) :: (1141, .one fun o => o = tabObj #[]) :: (sc, .one pr) :: n))))))
  kp_kind "kb") ?_
 kp_kind "r"
 refine Comp0_ (cl := [(n_raw, L + 2)]) (by kernel_rfl) (by kp_kind "dq") (by kernel_rfl) (by kp_kind "dq") ?_
 kp_kind "r"
 refine range_ fun r2 => ?_
 kp_kind "r"
 refine iterR_ (.head _) (by decide) (by lia) (by lia) fun it2 => ?_
 intro C3 D3 _ _
 refine ⟨2 * i, fun j m' n' => Keep ((it2, .riter j (2 * (i : Int) - 0 - j)) :: (D3, .ints (bF raw j)) :: (stL c.w A ({ M₀ with regs := (setF raw 4).set 4 (32768 % W64) }) ++ (penL c.w N (2 + 2 * i) ++ ((pd, .imap c.w es) :: (sd, .mem c.w sto) :: (lr ++ ((L + 3, .cellO (some (.ref pd))) :: (L + 2, .cellO (some (.int raw 0))) :: (L + 1, .cellO (some (.ref N.p))) :: (1141, .one fun o => o = tabObj #[]) :: (sc, .one pr) :: n)))))) n', ?_, ?_, ?_⟩
 ·exact Keep.cons (.there .here) (Keep.cons .here (Keep.skip Keep.refl))
 ·rintro _ m' n' hK
  exact selfRM_ (hK.mem _ (.head _))
 rintro _ j mc n' hj hK
 refine turnName (by kernel_rfl) ?_
 refine V.keepL hK ?_
 intro l₀
 refine nextR_ (by exact hh) (fun hlt tt => ?_) (fun hge => ?_)
 ·kp_kind "r"
  refine NameC_ (by kernel_rfl) (by kernel_rfl) (a := L + 2) (by kernel_rfl) (by kp_kind "mem") (by kernel_rfl) (it_ fun tv => ?_)
  kp_kind "r"
  refine mul_ (IntMulOk.of_left (by decide)) fun t7 => ?_
  kp_kind "r"
  refine mod_ (by decide) fun t8 => ?_
  kp_kind "r"
  refine appendI_ (ns := bF raw j) (by kp_kind "put") (by rw [bF_len]; lia) ?_
  refine ⟨by lia, ?_⟩
  show Keep _ _
  rw [bF_succ, show 2 * (i : Int) - 0 - j - 1 = 2 * i - 0 - ((j + 1 : Nat) : Int) by lia]
  exact Keep.refl
 have hjw : j = 2 * i := by lia
 rw [hjw]
 kp_kind "r"
 refine bytes_ (ns := bF raw (2 * i)) (by exact hh) (.head _) (by rw [bF_len]; lia) (bF_octs raw (2 * i)) fun t9 => ?_
 kp_kind "r"
 refine V.keep0 (n' := (stL c.w A ({ M₀ with regs := (setF raw 4).set 4 (32768 % W64) }) ++ (penL c.w N (2 + 2 * i) ++ ((pd, .imap c.w es) :: (sd, .mem c.w sto) :: (lr ++ ((L + 3, .cellO (some (.ref pd))) :: (L + 2, .cellO (some (.int raw 0))) :: (L + 1, .cellO (some (.ref N.p))) :: (1141, .one fun o => o = tabObj #[]) :: (sc, .one pr) :: n)))))) (Keep.skip Keep.refl) ?_
 refine load_ (bF_octs raw (2 * i)) (by rw [bF_len]; show 0 + 2 * i ≤ 9000; lia) (by exact hh) (by kp_kind "room") ?_
 rw [bF_len]
 kp_kind "r"
 refine setA2 (C := 600) (d := A.d) (as' := stA A (mach0 raw (2 * i))) (n' := (stL c.w A (mach0 raw (2 * i)) ++ (penL c.w N (2 + 2 * i) ++ ((pd, .imap c.w es) :: (sd, .mem c.w sto) :: (lr ++ ((L + 3, .cellO (some (.ref pd))) :: (L + 2, .cellO (some (.int raw 0))) :: (L + 1, .cellO (some (.ref N.p))) :: (1141, .one fun o => o = tabObj #[]) :: (sc, .one pr) :: n)))))) .here (by kernel_rfl) (Nat.le_of_ble_eq_true (by kernel_rfl)) (by kp_kind "wt") ?_
 have hI0 := inv0 raw (wide := 2 * i) (by lia)
 generalize hM0 : mach0 raw (2 * i) = M at hI0
 have hMB : MB 400 M := ⟨hI0.len, hI0.mem, by have := hI0.size; lia⟩
 clear hM0
 refine V.keep0 (n' := (1141, .one fun o => o = tabObj #[]) :: (stL c.w A M ++ (penL c.w N (2 + 2 * i) ++ ((pd, .imap c.w es) :: (sd, .mem c.w sto) :: (lr ++ ((L + 3, .cellO (some (.ref pd))) :: (L + 2, .cellO (some (.int raw 0))) :: (L + 1, .cellO (some (.ref N.p))) :: (sc, .one pr) :: n)))))) (by kp_kind "kb") ?_
 kp_kind "r"
 refine DefT_ (st := sadv) (name := n__law_advance) (by kernel_rfl) (cc := 1143) (clos := [(n_program, L + 3)]) rfl rfl rfl (by kernel_rfl) rfl rfl C (nsOk _) hB (by kernel_rfl) fun f c' qn pm => ?_
 have hPrgT : PrgIn _ rows es := hPrg' ((pd, .imap c.w es) :: (sd, .mem c.w sto) :: (f, AObj.clos n__law_advance qn (paramsOf sadv) (bodyOf sadv) (scopeOf sadv) [(n_program, L + 3)] pm c') :: (c', .code qn) :: (1141, .tab) :: (lr ++ ((L + 3, .cellO (some (.ref pd))) :: (L + 2, .cellO (some (.int raw 0))) :: (L + 1, .cellO (some (.ref N.p))) :: (sc, .one pr) :: n))) fun p hp => .tail _ (.tail _ (.tail _ (.tail _ (.tail _ (List.mem_append_left _ hp)))))
 refine V.keep0 (n' := stL c.w A M ++ (penL c.w N (2 + 2 * i) ++ ((pd, .imap c.w es) :: (sd, .mem c.w sto) :: (f, AObj.clos n__law_advance qn (paramsOf sadv) (bodyOf sadv) (scopeOf sadv) [(n_program, L + 3)] pm c') :: (c', .code qn) :: (1141, .tab) :: (lr ++ ((L + 3, .cellO (some (.ref pd))) :: (L + 2, .cellO (some (.int raw 0))) :: (L + 1, .cellO (some (.ref N.p))) :: (sc, .one pr) :: n))))) (by kp_kind "kb") ?_
 refine after_next ?_
 refine lawTail_ (tw := tw) hP hRl (by lia) (by rw [hRl]; exact hI0) hA hsd hsto (.tail _ (.head _)) ⟨qn, pm, c', L + 3, pd, es, by kp_kind "mem", by kp_kind "mem", by kp_kind "mem", .head _, hpd, hPrgT⟩ hNok (by kp_kind "mem") (by kp_kind "lk") (by kp_kind "lk") (by kp_kind "lk") (by kp_kind "lk") hh hr fun m' n' hK => ?_
 have hK2 : Keep ((1141, .tab) :: (sc, .one pr) :: n) ((pd, .imap c.w es) :: (sd, .mem c.w sto) :: (f, AObj.clos n__law_advance qn (paramsOf sadv) (bodyOf sadv) (scopeOf sadv) [(n_program, L + 3)] pm c') :: (c', .code qn) :: (1141, .tab) :: (lr ++ ((L + 3, .cellO (some (.ref pd))) :: (L + 2, .cellO (some (.int raw 0))) :: (L + 1, .cellO (some (.ref N.p))) :: (sc, .one pr) :: n))) := by kp_kind "kb"
 exact h _ _ (hK2.trans hK)
end
theorem CallTop_ {c : Cx} {n : Led} {Q : Value → Led → Prop} {f cd : Addr} {qual : Str} {params : Arguments} {body : List Stmt} {scope : Scope} {dV : Value} {args : List Value} {binds m₀ b₀ : List (Str × Value)} {cs : Addr → List (Str × Addr)}
  (F : Fn0 c.K f cd qual params body scope dV) (B : ∀ name pm cd', bindArgs (fnX name qual params body scope [] dV .none .none pm none cd' .none) ⟨args, []⟩ = Pure.pure binds)
  (hnd : ((cellsFrom 0 scope.names []).map (·.1)).Nodup) (hk : (binds.all fun x => decide (scope.names.lookup x.1 = some .local) || (decide (scope.names.lookup x.1 = some .cell) && ((cellsFrom 0 scope.names []).map (·.1)).contains x.1)) = true)
  (hcs : ∀ L, cellsFrom (L + 1) scope.names [] = cs L) (hm₀ : (binds.filter fun b => decide (scope.names.lookup b.1 = some .local)).reverse = m₀) (hb₀ : (binds.filter fun b => !decide (scope.names.lookup b.1 = some .local)).reverse = b₀)
  (hv : ∀ L, V c ⟨none, 40, [envX qual scope L f (.ref cd) (cs L)], []⟩ (envX qual scope L f (.ref cd) (cs L)) (execs body (envX qual scope L f (.ref cd) (cs L))) (fun fl _ n' => ∃ n'', n''.Sublist n' ∧ Q (retV fl) n'') noE m₀ (ledC (cs L) b₀ ++ n))
  {h : Heap} {tk : Nat} (ok : c.Ok) (md : Mod c [] n h) (hsz : c.b₀.objs.size ≤ h.objs.size) :
  wpAny (model P c.w) callerA (call (.ref f) args) (fun v s' => Same c s' ∧ ∃ n', Mod c [] n' s'.heap ∧ Q v n') (fun _ _ => False) ⟨h, c.gens, c.drawn, tk, c.os⟩ := by
 refine CallF_ (uu := fun e => ⟨none, 40, [e], []⟩) F B hnd hk hcs hm₀ hb₀ hv ok md (fun _ => rfl) (fun L => ?_) (by kp_kind "dq") hsz
 refine ⟨rfl, rfl, ?_, ?_, F.kind, fun e he => ?_⟩
 ·show callerA.depth + 1 + 40 < recursionLimit; kp_kind "dq"
 ·show callerA.units + 3 + 8 * 40 < cLine; kp_kind "dq"
 ·rcases List.mem_cons.mp he with rfl | he
  ·exact ⟨.head _, rfl, F.kind⟩
  ·cases he
noncomputable def aside (o : Obj) : Bool := match o.cls, o.data with
 | .none, .fields _ => false
 | .type s, _ => s != "list"
 | _, _ => true
theorem myK_aside (p : Params) : ((myK p).all fun x => aside x.2) = true := by kernel_rfl
theorem tabIn_law (p : Params) : tabIn (myK p) n_law = some (1143, 1141) := by kernel_rfl
theorem law_top {w : World} {s₁ : Shared} {sc : Addr} {vs : Array Value} {e : Nat} {ns : List Int} {p : Program} {loose : List Str} {mean : ExcName → Option Value} {mg mb : Str → Option Value} {d : DefRec} (X : (myK w.params).In s₁.heap) (T : Top p loose mean mg mb s₁.heap)
  (hrec : (recsOf p).find? (fun e => e.name == n_law) = some d) {oL : Obj} (hsc : s₁.heap.get? sc = some oL) (hcL : oL.cls = .type "list") (hdL : oL.data = .seq vs e) (em : vs.toList.map nv = ns.map vi) (hlen : ns.length ≤ 63) (hg : s₁.gens = #[]) (low : sysModules < s₁.heap.objs.size) :
  wpAny (model P w) callerA (call (.ref 1144) [.ref sc]) (fun v s' => v = .bool true ∧ OldK s₁.heap s'.heap ∧ s'.os = s₁.os ∧ AllBare s'.gens) (fun _ _ => False) s₁ := by
 obtain ⟨hC, hT⟩ := tab_of (x := n_law) (c := 1143) (P := 1141) T X hrec (tabIn_law w.params)
 obtain ⟨h, g, dr, tk, os⟩ := s₁
 have hne : (1141 : Addr) ≠ sc := fun q => by
  have h1 : h.get? 1141 = some (tabObj #[]) := hT
  have h2 : h.get? sc = some oL := hsc
  rw [q, h2] at h1; cases h1; cases hcL
 let c : Cx := ⟨w, hideAll h [1141, sc], g, dr, os⟩
 have old : ∀ b o, h.get? b = some o → aside o = true → c.b₀.get? b = some o := fun b o e1 ha => hideAll_get _ e1 fun hm => by
  have h1 : h.get? 1141 = some (tabObj #[]) := hT
  have h2 : h.get? sc = some oL := hsc
  rcases List.mem_cons.mp hm with rfl | hm
  ·rw [e1] at h1; cases h1; cases ha
  ·rw [List.mem_singleton] at hm
   subst hm
   rw [e1] at h2; cases h2
   unfold aside at ha
   rw [hcL] at ha
   exact absurd (show false = true from ha) Bool.false_ne_true
 have oldD : ∀ {a : Addr} {mm : Str → Option Value}, h.Ns a mm → c.b₀.Ns a mm := fun {a mm} ⟨o, es, ep, e1, hd, r⟩ => ⟨o, es, ep, hideAll_get [1141, sc] e1 (fun hm => by
  have h1 : h.get? 1141 = some (tabObj #[]) := hT
  have h2 : h.get? sc = some oL := hsc
  rcases List.mem_cons.mp hm with rfl | hm
  ·rw [e1] at h1; cases h1; cases hd
  ·rw [List.mem_singleton] at hm
   subst hm
   rw [e1] at h2; cases h2
   rw [hd] at hdL; cases hdL), hd, r⟩
 have X' : c.K.In c.b₀ := fun a o e1 => old a o (X a o e1) (List.all_eq_true.mp (myK_aside w.params) (a, o) (mem_of_lookupK e1))
 have hgm : c.b₀.Ns mainGlobals mg := oldD T.g
 have ok : c.Ok := by
  refine ⟨X', ⟨mb, oldD T.b, T.builtins⟩, ?_, ?_⟩
  ·obtain ⟨mc, a, r⟩ := T.nolimit
   exact ⟨mc, oldD a, r⟩
  ·show sysModules < (hideAll h [1141, sc]).objs.size
   rw [hideAll_size]; exact low
 have C : CodeHd c.b₀ 1143 1141 := by
  obtain ⟨o, vs', file, tf, flags, tg, inF, text, tt, e1, r1, r⟩ := hC
  refine ⟨o, vs', file, tf, flags, tg, inF, text, tt, old _ _ e1 ?_, r1, r⟩
  unfold aside
  rw [r1]
  rfl
 have hB : c.b₀.BuiltinsAt (c.b₀.nsMap mainGlobals) 1141 := by
  rw [← hgm.eq_nsMap]
  obtain ⟨bm, ob, b1, b2, b3, b4, b5, b6⟩ := T.bmain
  have b3' : c.b₀.get? bm = some ob := old _ _ b3 (by unfold aside; rw [b4]; rfl)
  refine ⟨bm, ob, b1, b2, fun q => ?_, fun q => ?_, b3', b4, b5, b6⟩
  ·obtain ⟨o, es, ep, e1, hd, _⟩ := T.g
   rw [q] at b3
   have b3 : h.get? mainGlobals = some ob := b3
   have e1 : h.get? mainGlobals = some o := e1
   rw [e1] at b3; cases b3; rw [hd] at b6; cases b6
  ·have h1 : h.get? 1141 = some (tabObj #[]) := hT
   have b3 : h.get? bm = some ob := b3
   rw [q, h1] at b3; cases b3; cases b4
 have md : Mod c [] [(1141, .one fun o => o = tabObj #[]), (sc, .one fun o => o = oL)] h := by
  refine ⟨fun b o e1 => of_hideAll _ e1, fun f hf => (by cases hf), List.nodup_nil, fun q hq => ?_, fun b hb => hideAll_none _ ?_, ?_⟩
  ·rcases List.mem_cons.mp hq with rfl | hq
   ·exact ⟨_, hT, rfl⟩
   ·rw [List.mem_singleton.mp hq]
    exact ⟨_, hsc, rfl⟩
  ·simpa [foot, fp] using hb
  ·simp [foot, fp, hne]
 have run := CallTop_ (c := c) (n := [(1141, .one fun o => o = tabObj #[]), (sc, .one fun o => o = oL)]) (Q := fun v n' => v = .bool true ∧ Keep [(1141, .tab), (sc, .one fun o => o = oL)] n') (args := [.ref sc]) (f_law w.params) (binds := [(n_script, .ref sc)]) (fun _ _ _ => by kernel_rfl) (by kp_kind "dq") (by kernel_rfl)
  (cs := fun L => [(n_program, L + 3), (n_raw, L + 2), (n_pen, L + 1)]) (fun L => by kernel_rfl) (m₀ := [(n_script, .ref sc)]) (by kernel_rfl) (b₀ := []) (by kernel_rfl)
  (fun L => lawBody_ (ns := ns) (n := []) hlen C hB rfl (Nat.le_succ 39) (fun o ho => ⟨vs, e, ho ▸ hcL, ho ▸ hdL, em⟩) fun m' n' hK => ⟨n', .refl _, rfl, hK⟩) (h := h) (tk := tk) ok md (by show (hideAll h [1141, sc]).objs.size ≤ _; rw [hideAll_size]; exact Nat.le_refl _)
 refine wpAny_mono run (fun v s' ⟨hs, n', md', hv, hK⟩ => ⟨hv, ?_, hs.2.2, .of_eq (hs.1.trans hg)⟩) fun _ _ x => x
 have m2 := md'.keeps hK
 obtain ⟨o1, g1, ps, rfl⟩ := m2.led _ (.head _)
 obtain ⟨o2, g2, q2⟩ := m2.led _ (.tail _ (.head _))
 have q2 : o2 = oL := q2
 rw [q2] at g2
 have keep : ∀ b o, b ≠ 1141 → h.get? b = some o → s'.heap.get? b = some o := fun b o hb e1 => by
  by_cases hbs : b = sc
  ·subst hbs
   have h2 : h.get? b = some oL := hsc
   rw [h2] at e1; cases e1; exact g2
  ·exact m2.keep b o (hideAll_get _ e1 fun hm => by
    rcases List.mem_cons.mp hm with rfl | hm
    ·exact hb rfl
    ·exact hbs (List.mem_singleton.mp hm))
 refine ⟨fun b o e1 => ?_, fun b o e1 => ?_⟩
 ·by_cases hb : b = 1141
  ·subst hb
   have h1 : h.get? 1141 = some (tabObj #[]) := hT
   have e1 : h.get? 1141 = some o := e1
   rw [h1] at e1; cases e1
   exact .inr (.inl ⟨(hC.tab hT).isCodeTable, rfl, #[], ps, rfl, by rw [Array.empty_append]; exact g1⟩)
  ·exact .inl (keep b o hb e1)
 ·by_cases hb : b = 1141
  ·subst hb; exact ⟨_, g1⟩
  ·exact ⟨o, keep b o hb e1⟩
theorem joint {q : Program} {loose : List Str} {XP : (Str → Option Value) → Heap → Prop} {YP : World → Heap → Prop} {d d' : DefRec} (hYP : ∀ w h, YP w h → (myK w.params).In h) (hrec : (recsOf q).find? (fun e => e.name == n_law) = some d') (hname : d.name = n_law) :
  WalkO q loose XP YP PySem.Challenge.rw_nn0085_01.row.toRowW d [] (fun f vs => PySem.call f vs) := by
 intro w s₀ s₁ mg mb G Y fa o pm cd doc dV kV ho hd hcd hD hmg hg args vals as hpre hlay hrd hwl hlo
 have X := hYP _ _ Y
 have hfa : mg n_law = some (.ref 1144) := mg_of X G.T.g (by kernel_rfl)
 rw [hname, hfa] at hmg
 cases hmg
 wrow_args hpre hlay hrd hwl hlo
 rename_i ns _ _ _ _ _ _ _ sc vs _ hL _ _ _ hI _ hcond _
 obtain ⟨oL, hsc, hcL, e, hdL⟩ := hL
 have hlen : ns.length ≤ 63 := by omega
 refine wpAny_mono (law_top X G.T hrec hsc hcL hdL (of_ints hI) hlen hg G.low) (fun v s' h => ?_) fun _ _ x => x.elim
 obtain ⟨rfl, h1, h2, h3⟩ := h
 refine ⟨.inl ⟨.bool true, .bool true, [], rfl, fun _ => rfl, .bool true, ?_, fun _ => ⟨List.nodup_nil, fun a ha => by cases ha⟩⟩, h1, h2, h3⟩
 wrow_post
theorem jointD {q : Program} {loose : List Str} {XP : (Str → Option Value) → Heap → Prop} {YP : World → Heap → Prop} {d : DefRec} (hYP : ∀ w h, YP w h → (myK w.params).In h) (hrec : ((recsOf q).find? (fun e => e.name == n_law)).isSome = true) (hname : d.name = n_law) :
  WalkO q loose XP YP PySem.Challenge.rw_nn0085_01.row.toRowW d [] (fun f vs => PySem.call f vs) := by
 obtain ⟨d', hd'⟩ := Option.isSome_iff_exists.mp hrec
 exact joint hYP hd' hname
end Mine.Internal
theorem PySem.Challenge.cw_nn0085_01_holds : PySem.Challenge.rw_nn0085_01.Holds :=
 Mine.Internal.head fun _ h => Mine.Internal.jointD (fun _ _ y => y) Mine.Internal.recL h
