import PyProof.Rows.All
import Wide.All
import OpenK.AllK
import Wide.FinOn
import PySem.Challenge.RW_rg0226_04
open PySem PySem.W PyProof.Rows
set_option Elab.async false
set_option linter.all false
set_option maxRecDepth 100000
set_option maxHeartbeats 0
set_option compiler.extract_closed false
namespace Mine
noncomputable abbrev zA {α:Type} (l:List α):Array α:=Array.mk l
noncomputable abbrev z0 {α:Type}:Array α:=Array.mk []
noncomputable abbrev zI (n:Nat):Value:=.int (.ofNat n) (nat_lit 0)
noncomputable abbrev zR (n:Nat):Value:=.ref n
noncomputable abbrev zZ (s:Str) (n:Nat):Value:=.str s n
noncomputable abbrev zk (P:Params) (s:Str):Int:=PyData.keyHash P s
noncomputable abbrev zS (l:List Nat):Str:=Str.mk (Array.mk l)
noncomputable def s0:Str:=zS [95,108,97,119,95,110,117,109,98,101,114]
theorem a0:Str.ofString "_law_number"=s0:=by kernel_rfl
noncomputable def s1:Str:=zS [98,97,110,107]
theorem a1:Str.ofString "bank"=s1:=by kernel_rfl
noncomputable def s2:Str:=zS [116]
theorem a2:Str.ofString "t"=s2:=by kernel_rfl
noncomputable def s3:Str:=zS [97,114,103,115]
theorem a3:Str.ofString "args"=s3:=by kernel_rfl
noncomputable def s4:Str:=zS [111,112]
theorem a4:Str.ofString "op"=s4:=by kernel_rfl
noncomputable def s5:Str:=zS [119,105,100,101]
theorem a5:Str.ofString "wide"=s5:=by kernel_rfl
noncomputable def s6:Str:=zS [119,105,100,116,104]
theorem a6:Str.ofString "width"=s6:=by kernel_rfl
noncomputable def s7:Str:=zS [98,118,110,117,109]
theorem a7:Str.ofString "bvnum"=s7:=by kernel_rfl
noncomputable def s8:Str:=zS [100,97,116,97]
theorem a8:Str.ofString "data"=s8:=by kernel_rfl
noncomputable def s9:Str:=zS [99,111,110,99,97,116]
theorem a9:Str.ofString "concat"=s9:=by kernel_rfl
noncomputable def s10:Str:=zS [101,120,116,114,97,99,116]
theorem a10:Str.ofString "extract"=s10:=by kernel_rfl
noncomputable def s11:Str:=zS [115,105,103,110,95,101,120,116,101,110,100]
theorem a11:Str.ofString "sign_extend"=s11:=by kernel_rfl
noncomputable def s12:Str:=zS [105,110,110,101,114]
theorem a12:Str.ofString "inner"=s12:=by kernel_rfl
noncomputable def s13:Str:=zS [98,118,110,111,116]
theorem a13:Str.ofString "bvnot"=s13:=by kernel_rfl
noncomputable def s14:Str:=zS [115,117,109]
theorem a14:Str.ofString "sum"=s14:=by kernel_rfl
noncomputable def s15:Str:=zS [95,108,97,119,95,110,117,109,98,101,114,115]
theorem a15:Str.ofString "_law_numbers"=s15:=by kernel_rfl
noncomputable def s16:Str:=zS [115,111,109,101]
theorem a16:Str.ofString "some"=s16:=by kernel_rfl
noncomputable def s17:Str:=zS [116,97,98,108,101]
theorem a17:Str.ofString "table"=s17:=by kernel_rfl
noncomputable def s18:Str:=zS [111,110,101]
theorem a18:Str.ofString "one"=s18:=by kernel_rfl
noncomputable def s19:Str:=zS [46,48]
theorem a19:Str.ofString ".0"=s19:=by kernel_rfl
noncomputable def s20:Str:=zS [102,97,115,116]
theorem a20:Str.ofString "fast"=s20:=by kernel_rfl
noncomputable def s21:Str:=zS [95,108,97,119,95,108,97,98,101,108,115]
theorem a21:Str.ofString "_law_labels"=s21:=by kernel_rfl
noncomputable def s22:Str:=zS [119,105,100,116,104,115]
theorem a22:Str.ofString "widths"=s22:=by kernel_rfl
noncomputable def s23:Str:=zS [106]
theorem a23:Str.ofString "j"=s23:=by kernel_rfl
noncomputable def s24:Str:=zS [114,97,110,103,101]
theorem a24:Str.ofString "range"=s24:=by kernel_rfl
noncomputable def s25:Str:=zS [122,101,114,111,95,101,120,116,101,110,100]
theorem a25:Str.ofString "zero_extend"=s25:=by kernel_rfl
noncomputable def s26:Str:=zS [95,108,97,119,95,100,117,101]
theorem a26:Str.ofString "_law_due"=s26:=by kernel_rfl
noncomputable def s27:Str:=zS [108,97,98,101,108,115]
theorem a27:Str.ofString "labels"=s27:=by kernel_rfl
noncomputable def s28:Str:=zS [104,105,103,104]
theorem a28:Str.ofString "high"=s28:=by kernel_rfl
noncomputable def s29:Str:=zS [108,111,119]
theorem a29:Str.ofString "low"=s29:=by kernel_rfl
noncomputable def s30:Str:=zS [99,117,116]
theorem a30:Str.ofString "cut"=s30:=by kernel_rfl
noncomputable def s31:Str:=zS [108,101,110]
theorem a31:Str.ofString "len"=s31:=by kernel_rfl
noncomputable def s32:Str:=zS [95,108,97,119,95,105,115,95,99,117,116,95,114,105,103,104,116]
theorem a32:Str.ofString "_law_is_cut_right"=s32:=by kernel_rfl
noncomputable def s33:Str:=zS [114,101,119,114,105,116,101,114]
theorem a33:Str.ofString "rewriter"=s33:=by kernel_rfl
noncomputable def s34:Str:=zS [116,97,98,108,101,115]
theorem a34:Str.ofString "tables"=s34:=by kernel_rfl
noncomputable def s35:Str:=zS [116,111,108,100]
theorem a35:Str.ofString "told"=s35:=by kernel_rfl
noncomputable def s36:Str:=zS [104,101,114,101]
theorem a36:Str.ofString "here"=s36:=by kernel_rfl
noncomputable def s37:Str:=zS [116,117,114,110,115]
theorem a37:Str.ofString "turns"=s37:=by kernel_rfl
noncomputable def s38:Str:=zS [99,117,116,95,119,105,116,104,105,110]
theorem a38:Str.ofString "cut_within"=s38:=by kernel_rfl
noncomputable def s39:Str:=zS [108,97,112]
theorem a39:Str.ofString "lap"=s39:=by kernel_rfl
noncomputable def s40:Str:=zS [105,110,116]
theorem a40:Str.ofString "int"=s40:=by kernel_rfl
noncomputable def s41:Str:=zS [111,116,104,101,114]
theorem a41:Str.ofString "other"=s41:=by kernel_rfl
noncomputable def s42:Str:=zS [108,97,119]
theorem a42:Str.ofString "law"=s42:=by kernel_rfl
noncomputable def s43:Str:=zS [115,99,114,105,112,116]
theorem a43:Str.ofString "script"=s43:=by kernel_rfl
noncomputable def s44:Str:=zS [112,111,116]
theorem a44:Str.ofString "pot"=s44:=by kernel_rfl
noncomputable def s45:Str:=zS [99,101,108,108]
theorem a45:Str.ofString "cell"=s45:=by kernel_rfl
noncomputable def s46:Str:=zS [84,101,114,109,66,97,110,107]
theorem a46:Str.ofString "TermBank"=s46:=by kernel_rfl
noncomputable def s47:Str:=zS [66,105,116,115,82,101,119,114,105,116,101,114]
theorem a47:Str.ofString "BitsRewriter"=s47:=by kernel_rfl
noncomputable def s48:Str:=zS [102,114,101,115,104,95,99,111,110,115,116]
theorem a48:Str.ofString "fresh_const"=s48:=by kernel_rfl
noncomputable def s49:Str:=zS [120]
theorem a49:Str.ofString "x"=s49:=by kernel_rfl
noncomputable def s50:Str:=zS [98,118,95,115,111,114,116]
theorem a50:Str.ofString "bv_sort"=s50:=by kernel_rfl
noncomputable def s51:Str:=zS [121]
theorem a51:Str.ofString "y"=s51:=by kernel_rfl
noncomputable def s52:Str:=zS [98,118,95,110,117,109]
theorem a52:Str.ofString "bv_num"=s52:=by kernel_rfl
noncomputable def s53:Str:=zS [95,108,97,119,95,108,97,100,108,101]
theorem a53:Str.ofString "_law_ladle"=s53:=by kernel_rfl
noncomputable def s54:Str:=zS [97,112,112,101,110,100]
theorem a54:Str.ofString "append"=s54:=by kernel_rfl
noncomputable def s55:Str:=zS [95,108,97,119,95,116,101,114,109]
theorem a55:Str.ofString "_law_term"=s55:=by kernel_rfl
noncomputable def s56:Str:=zS [114,101,115,116]
theorem a56:Str.ofString "rest"=s56:=by kernel_rfl
noncomputable def s57:Str:=zS [98,118,95,111,110,101]
theorem a57:Str.ofString "bv_one"=s57:=by kernel_rfl
noncomputable def s58:Str:=zS [98,118,110,101,103]
theorem a58:Str.ofString "bvneg"=s58:=by kernel_rfl
noncomputable def s59:Str:=zS [98,118,95,116,119,111]
theorem a59:Str.ofString "bv_two"=s59:=by kernel_rfl
noncomputable def s60:Str:=zS [66,86,95,83,65,77,69]
theorem a60:Str.ofString "BV_SAME"=s60:=by kernel_rfl
noncomputable def s61:Str:=zS [115,105,122,101]
theorem a61:Str.ofString "size"=s61:=by kernel_rfl
noncomputable def s62:Str:=zS [68,69,69,80,69,83,84]
theorem a62:Str.ofString "DEEPEST"=s62:=by kernel_rfl
noncomputable def s63:Str:=zS [66,111,111,108,82,101,119,114,105,116,101,114]
theorem a63:Str.ofString "BoolRewriter"=s63:=by kernel_rfl
noncomputable def s64:Str:=zS [95,95,105,110,105,116,95,95]
theorem a64:Str.ofString "__init__"=s64:=by kernel_rfl
noncomputable def s65:Str:=zS [115,101,108,102]
theorem a65:Str.ofString "self"=s65:=by kernel_rfl
noncomputable def s66:Str:=zS [121,101,115]
theorem a66:Str.ofString "yes"=s66:=by kernel_rfl
noncomputable def s67:Str:=zS [116,114,117,101,95,116,101,114,109]
theorem a67:Str.ofString "true_term"=s67:=by kernel_rfl
noncomputable def s68:Str:=zS [110,111]
theorem a68:Str.ofString "no"=s68:=by kernel_rfl
noncomputable def s69:Str:=zS [102,97,108,115,101,95,116,101,114,109]
theorem a69:Str.ofString "false_term"=s69:=by kernel_rfl
noncomputable def s70:Str:=zS [107,110,111,119,110]
theorem a70:Str.ofString "known"=s70:=by kernel_rfl
noncomputable def s71:Str:=zS [115,105,109,112,108,105,102,121]
theorem a71:Str.ofString "simplify"=s71:=by kernel_rfl
noncomputable def s72:Str:=zS [95,119,97,108,108]
theorem a72:Str.ofString "_wall"=s72:=by kernel_rfl
noncomputable def s73:Str:=zS [109,97,100,101]
theorem a73:Str.ofString "made"=s73:=by kernel_rfl
noncomputable def s74:Str:=zS [102,108,97,116]
theorem a74:Str.ofString "flat"=s74:=by kernel_rfl
noncomputable def s75:Str:=zS [117,110,105,116]
theorem a75:Str.ofString "unit"=s75:=by kernel_rfl
noncomputable def s76:Str:=zS [115,101,116,116,108,105,110,103]
theorem a76:Str.ofString "settling"=s76:=by kernel_rfl
noncomputable def s77:Str:=zS [97,110,100]
theorem a77:Str.ofString "and"=s77:=by kernel_rfl
noncomputable def s78:Str:=zS [102,111,117,110,100]
theorem a78:Str.ofString "found"=s78:=by kernel_rfl
noncomputable def s79:Str:=zS [115,116,97,99,107]
theorem a79:Str.ofString "stack"=s79:=by kernel_rfl
noncomputable def s80:Str:=zS [108,105,115,116]
theorem a80:Str.ofString "list"=s80:=by kernel_rfl
noncomputable def s81:Str:=zS [114,101,118,101,114,115,101,100]
theorem a81:Str.ofString "reversed"=s81:=by kernel_rfl
noncomputable def s82:Str:=zS [112,111,112]
theorem a82:Str.ofString "pop"=s82:=by kernel_rfl
noncomputable def s83:Str:=zS [110,111,116,95,111,102]
theorem a83:Str.ofString "not_of"=s83:=by kernel_rfl
noncomputable def s84:Str:=zS [101,120,116,101,110,100]
theorem a84:Str.ofString "extend"=s84:=by kernel_rfl
noncomputable def s85:Str:=zS [116,104,105,110,110,101,100]
theorem a85:Str.ofString "thinned"=s85:=by kernel_rfl
noncomputable def s86:Str:=zS [107,101,112,116]
theorem a86:Str.ofString "kept"=s86:=by kernel_rfl
noncomputable def s87:Str:=zS [115,111,114,116,101,100]
theorem a87:Str.ofString "sorted"=s87:=by kernel_rfl
noncomputable def s88:Str:=zS [97,110,121]
theorem a88:Str.ofString "any"=s88:=by kernel_rfl
noncomputable def s89:Str:=zS [108,101,102,116]
theorem a89:Str.ofString "left"=s89:=by kernel_rfl
noncomputable def s90:Str:=zS [106,111,105,110,101,100]
theorem a90:Str.ofString "joined"=s90:=by kernel_rfl
noncomputable def s91:Str:=zS [111,114]
theorem a91:Str.ofString "or"=s91:=by kernel_rfl
noncomputable def s92:Str:=zS [97,110,100,95,111,102]
theorem a92:Str.ofString "and_of"=s92:=by kernel_rfl
noncomputable def s93:Str:=zS [111,114,95,111,102]
theorem a93:Str.ofString "or_of"=s93:=by kernel_rfl
noncomputable def s94:Str:=zS [110,101,103,97,116,101,100]
theorem a94:Str.ofString "negated"=s94:=by kernel_rfl
noncomputable def s95:Str:=zS [112,97,114,105,116,121]
theorem a95:Str.ofString "parity"=s95:=by kernel_rfl
noncomputable def s96:Str:=zS [115,97,109,101]
theorem a96:Str.ofString "same"=s96:=by kernel_rfl
noncomputable def s97:Str:=zS [97]
theorem a97:Str.ofString "a"=s97:=by kernel_rfl
noncomputable def s98:Str:=zS [98]
theorem a98:Str.ofString "b"=s98:=by kernel_rfl
noncomputable def s99:Str:=zS [105,115,95,111,100,100]
theorem a99:Str.ofString "is_odd"=s99:=by kernel_rfl
noncomputable def s100:Str:=zS [110,111,116]
theorem a100:Str.ofString "not"=s100:=by kernel_rfl
noncomputable def s101:Str:=zS [114,101,115,117,108,116]
theorem a101:Str.ofString "result"=s101:=by kernel_rfl
noncomputable def s102:Str:=zS [105,102,102]
theorem a102:Str.ofString "iff"=s102:=by kernel_rfl
noncomputable def s103:Str:=zS [99,104,111,115,101,110,95,98,111,111,108]
theorem a103:Str.ofString "chosen_bool"=s103:=by kernel_rfl
noncomputable def s104:Str:=zS [99]
theorem a104:Str.ofString "c"=s104:=by kernel_rfl
noncomputable def s105:Str:=zS [105,116,101]
theorem a105:Str.ofString "ite"=s105:=by kernel_rfl
noncomputable def s106:Str:=zS [99,104,111,115,101,110]
theorem a106:Str.ofString "chosen"=s106:=by kernel_rfl
noncomputable def s107:Str:=zS [115,111,114,116]
theorem a107:Str.ofString "sort"=s107:=by kernel_rfl
noncomputable def s108:Str:=zS [66,79,79,76]
theorem a108:Str.ofString "BOOL"=s108:=by kernel_rfl
noncomputable def s109:Str:=zS [101,113,117,97,108]
theorem a109:Str.ofString "equal"=s109:=by kernel_rfl
noncomputable def s110:Str:=zS [100,101,101,112]
theorem a110:Str.ofString "deep"=s110:=by kernel_rfl
noncomputable def s111:Str:=zS [105,115,95,118,97,108,117,101]
theorem a111:Str.ofString "is_value"=s111:=by kernel_rfl
noncomputable def s112:Str:=zS [118,97,108,117,101]
theorem a112:Str.ofString "value"=s112:=by kernel_rfl
noncomputable def s113:Str:=zS [101,113,117,97,108,95,99,104,111,115,101,110]
theorem a113:Str.ofString "equal_chosen"=s113:=by kernel_rfl
noncomputable def s114:Str:=zS [101,113,117,97,108,95,111,116,104,101,114,115]
theorem a114:Str.ofString "equal_others"=s114:=by kernel_rfl
noncomputable def s115:Str:=zS [101,113]
theorem a115:Str.ofString "eq"=s115:=by kernel_rfl
noncomputable def s116:Str:=zS [102,105,114,115,116]
theorem a116:Str.ofString "first"=s116:=by kernel_rfl
noncomputable def s117:Str:=zS [115,101,99,111,110,100]
theorem a117:Str.ofString "second"=s117:=by kernel_rfl
noncomputable def s118:Str:=zS [97,114,101,95,116,111,111,95,109,97,110,121]
theorem a118:Str.ofString "are_too_many"=s118:=by kernel_rfl
noncomputable def s119:Str:=zS [97,112,97,114,116]
theorem a119:Str.ofString "apart"=s119:=by kernel_rfl
noncomputable def s120:Str:=zS [101,113,117,97,108,95,98,105,116,115]
theorem a120:Str.ofString "equal_bits"=s120:=by kernel_rfl
noncomputable def s121:Str:=zS [115,117,112,101,114]
theorem a121:Str.ofString "super"=s121:=by kernel_rfl
noncomputable def s122:Str:=zS [95,95,99,108,97,115,115,95,95]
theorem a122:Str.ofString "__class__"=s122:=by kernel_rfl
noncomputable def s123:Str:=zS [105,115,95,98,105,116,115]
theorem a123:Str.ofString "is_bits"=s123:=by kernel_rfl
noncomputable def s124:Str:=zS [118,97,108,117,101,95,111,114]
theorem a124:Str.ofString "value_or"=s124:=by kernel_rfl
noncomputable def s125:Str:=zS [110,117,109,98,101,114]
theorem a125:Str.ofString "number"=s125:=by kernel_rfl
noncomputable def s126:Str:=zS [108,105,107,101]
theorem a126:Str.ofString "like"=s126:=by kernel_rfl
noncomputable def s127:Str:=zS [111,110,101,95,98,105,116,115]
theorem a127:Str.ofString "one_bits"=s127:=by kernel_rfl
noncomputable def s128:Str:=zS [116,119,111,95,98,105,116,115]
theorem a128:Str.ofString "two_bits"=s128:=by kernel_rfl
noncomputable def s129:Str:=zS [109,105,120,101,100,95,98,105,116,115]
theorem a129:Str.ofString "mixed_bits"=s129:=by kernel_rfl
noncomputable def s130:Str:=zS [105,115,95,116,117,114,110,101,100]
theorem a130:Str.ofString "is_turned"=s130:=by kernel_rfl
noncomputable def s131:Str:=zS [109,105,120,101,100,95,110,117,109,98,101,114]
theorem a131:Str.ofString "mixed_number"=s131:=by kernel_rfl
noncomputable def s132:Str:=zS [108,101,115,115,95,98,105,116,115]
theorem a132:Str.ofString "less_bits"=s132:=by kernel_rfl
noncomputable def s133:Str:=zS [115,104,105,102,116,101,100,95,98,105,116,115]
theorem a133:Str.ofString "shifted_bits"=s133:=by kernel_rfl
noncomputable def s134:Str:=zS [100,105,118,105,100,101,100,95,98,105,116,115]
theorem a134:Str.ofString "divided_bits"=s134:=by kernel_rfl
noncomputable def s135:Str:=zS [97,115,107,101,100,95,98,105,116,115]
theorem a135:Str.ofString "asked_bits"=s135:=by kernel_rfl
noncomputable def s136:Str:=zS [112,117,116,95,116,111,103,101,116,104,101,114]
theorem a136:Str.ofString "put_together"=s136:=by kernel_rfl
noncomputable def s137:Str:=zS [99,117,116,95,111,117,116]
theorem a137:Str.ofString "cut_out"=s137:=by kernel_rfl
noncomputable def s138:Str:=zS [107,105,110,100]
theorem a138:Str.ofString "kind"=s138:=by kernel_rfl
noncomputable def s139:Str:=zS [115,101,97,109]
theorem a139:Str.ofString "seam"=s139:=by kernel_rfl
noncomputable def s140:Str:=zS [99,117,116,95,104,101,114,101]
theorem a140:Str.ofString "cut_here"=s140:=by kernel_rfl
noncomputable def s141:Str:=zS [119,105,100,101,114]
theorem a141:Str.ofString "wider"=s141:=by kernel_rfl
noncomputable def s142:Str:=zS [109,97,110,121]
theorem a142:Str.ofString "many"=s142:=by kernel_rfl
noncomputable def s143:Str:=zS [119,105,100,101,114,95,115,105,103,110,101,100]
theorem a143:Str.ofString "wider_signed"=s143:=by kernel_rfl
noncomputable def s144:Str:=zS [101,113,117,97,108,95,110,117,109,98,101,114]
theorem a144:Str.ofString "equal_number"=s144:=by kernel_rfl
noncomputable def s145:Str:=zS [111,110,101,95,118,97,108,117,101]
theorem a145:Str.ofString "one_value"=s145:=by kernel_rfl
noncomputable def s146:Str:=zS [98,118,97,100,100]
theorem a146:Str.ofString "bvadd"=s146:=by kernel_rfl
noncomputable def s147:Str:=zS [98,118,120,111,114]
theorem a147:Str.ofString "bvxor"=s147:=by kernel_rfl
noncomputable def s148:Str:=zS [98,97,99,107]
theorem a148:Str.ofString "back"=s148:=by kernel_rfl
noncomputable def s149:Str:=zS [98,118,115,117,98]
theorem a149:Str.ofString "bvsub"=s149:=by kernel_rfl
noncomputable def s150:Str:=zS [116,119,111,95,118,97,108,117,101]
theorem a150:Str.ofString "two_value"=s150:=by kernel_rfl
noncomputable def s151:Str:=zS [101,120,116,114,97,99,116,95,118,97,108,117,101]
theorem a151:Str.ofString "extract_value"=s151:=by kernel_rfl
noncomputable def s152:Str:=zS [98,111,116,104]
theorem a152:Str.ofString "both"=s152:=by kernel_rfl
noncomputable def s153:Str:=zS [112,97,114,116]
theorem a153:Str.ofString "part"=s153:=by kernel_rfl
noncomputable def s154:Str:=zS [119,97,110,116,101,100]
theorem a154:Str.ofString "wanted"=s154:=by kernel_rfl
noncomputable def s155:Str:=zS [98,111,111,108,95,116,101,114,109]
theorem a155:Str.ofString "bool_term"=s155:=by kernel_rfl
noncomputable def s156:Str:=zS [105,115,95,114,105,103,104,116]
theorem a156:Str.ofString "is_right"=s156:=by kernel_rfl
noncomputable def s157:Str:=zS [115,105,103,110,95,101,120,116,101,110,100,101,100]
theorem a157:Str.ofString "sign_extended"=s157:=by kernel_rfl
noncomputable def s158:Str:=zS [98,105,116,95,111,102]
theorem a158:Str.ofString "bit_of"=s158:=by kernel_rfl
noncomputable def s159:Str:=zS [105]
theorem a159:Str.ofString "i"=s159:=by kernel_rfl
noncomputable def s160:Str:=zS [98,105,116,95,119,105,116,104,105,110]
theorem a160:Str.ofString "bit_within"=s160:=by kernel_rfl
noncomputable def s161:Str:=zS [95,95,110,97,109,101,95,95]
theorem a161:Str.ofString "__name__"=s161:=by kernel_rfl
noncomputable def s162:Str:=zS [108,97,119,95,114,103,48,50,50,54,95,48,52]
theorem a162:Str.ofString "law_rg0226_04"=s162:=by kernel_rfl
noncomputable def s163:Str:=zS [99,101,108,108,115]
theorem a163:Str.ofString "cells"=s163:=by kernel_rfl
noncomputable def s164:Str:=zS [97,116]
theorem a164:Str.ofString "at"=s164:=by kernel_rfl
noncomputable def s165:Str:=zS [119,97,121]
theorem a165:Str.ofString "way"=s165:=by kernel_rfl
noncomputable def s166:Str:=zS [102,97,114]
theorem a166:Str.ofString "far"=s166:=by kernel_rfl
noncomputable def s167:Str:=zS [66,97,110,107]
theorem a167:Str.ofString "Bank"=s167:=by kernel_rfl
noncomputable def s168:Str:=zS [115,111,114,116,95,110,97,109,101,115]
theorem a168:Str.ofString "sort_names"=s168:=by kernel_rfl
noncomputable def s169:Str:=zS [66,111,111,108]
theorem a169:Str.ofString "Bool"=s169:=by kernel_rfl
noncomputable def s170:Str:=zS [73,110,116]
theorem a170:Str.ofString "Int"=s170:=by kernel_rfl
noncomputable def s171:Str:=zS [82,101,97,108]
theorem a171:Str.ofString "Real"=s171:=by kernel_rfl
noncomputable def s172:Str:=zS [115,111,114,116,95,119,105,100,116,104,115]
theorem a172:Str.ofString "sort_widths"=s172:=by kernel_rfl
noncomputable def s173:Str:=zS [102,117,110,95,110,97,109,101,115]
theorem a173:Str.ofString "fun_names"=s173:=by kernel_rfl
noncomputable def s174:Str:=zS [102,117,110,95,97,114,103,115]
theorem a174:Str.ofString "fun_args"=s174:=by kernel_rfl
noncomputable def s175:Str:=zS [102,117,110,95,114,101,115,117,108,116,115]
theorem a175:Str.ofString "fun_results"=s175:=by kernel_rfl
noncomputable def s176:Str:=zS [102,114,101,115,104,95,99,111,117,110,116]
theorem a176:Str.ofString "fresh_count"=s176:=by kernel_rfl
noncomputable def s177:Str:=zS [116,101,114,109,95,111,112,115]
theorem a177:Str.ofString "term_ops"=s177:=by kernel_rfl
noncomputable def s178:Str:=zS []
theorem a178:Str.ofString ""=s178:=by kernel_rfl
noncomputable def s179:Str:=zS [116,101,114,109,95,97,114,103,115]
theorem a179:Str.ofString "term_args"=s179:=by kernel_rfl
noncomputable def s180:Str:=zS [116,101,114,109,95,115,111,114,116,115]
theorem a180:Str.ofString "term_sorts"=s180:=by kernel_rfl
noncomputable def s181:Str:=zS [116,101,114,109,95,100,97,116,97,115]
theorem a181:Str.ofString "term_datas"=s181:=by kernel_rfl
noncomputable def s182:Str:=zS [110,117,109,98,101,114,115]
theorem a182:Str.ofString "numbers"=s182:=by kernel_rfl
noncomputable def s183:Str:=zS [116,114,117,101,95,110,117,109,98,101,114]
theorem a183:Str.ofString "true_number"=s183:=by kernel_rfl
noncomputable def s184:Str:=zS [109,97,107,101]
theorem a184:Str.ofString "make"=s184:=by kernel_rfl
noncomputable def s185:Str:=zS [116,114,117,101]
theorem a185:Str.ofString "true"=s185:=by kernel_rfl
noncomputable def s186:Str:=zS [102,97,108,115,101,95,110,117,109,98,101,114]
theorem a186:Str.ofString "false_number"=s186:=by kernel_rfl
noncomputable def s187:Str:=zS [102,97,108,115,101]
theorem a187:Str.ofString "false"=s187:=by kernel_rfl
noncomputable def s188:Str:=zS [115,111,114,116,95,110,97,109,101]
theorem a188:Str.ofString "sort_name"=s188:=by kernel_rfl
noncomputable def s189:Str:=zS [115]
theorem a189:Str.ofString "s"=s189:=by kernel_rfl
noncomputable def s190:Str:=zS [100,101,99,108,97,114,101,95,115,111,114,116]
theorem a190:Str.ofString "declare_sort"=s190:=by kernel_rfl
noncomputable def s191:Str:=zS [110,97,109,101]
theorem a191:Str.ofString "name"=s191:=by kernel_rfl
noncomputable def s192:Str:=zS [119,105,100,116,104,95,111,102]
theorem a192:Str.ofString "width_of"=s192:=by kernel_rfl
noncomputable def s193:Str:=zS [105,115,95,110,117,109,98,101,114,95,115,111,114,116]
theorem a193:Str.ofString "is_number_sort"=s193:=by kernel_rfl
noncomputable def s194:Str:=zS [73,78,84]
theorem a194:Str.ofString "INT"=s194:=by kernel_rfl
noncomputable def s195:Str:=zS [82,69,65,76]
theorem a195:Str.ofString "REAL"=s195:=by kernel_rfl
noncomputable def s196:Str:=zS [105,115,95,102,114,101,101,95,115,111,114,116]
theorem a196:Str.ofString "is_free_sort"=s196:=by kernel_rfl
noncomputable def s197:Str:=zS [100,101,99,108,97,114,101,95,102,117,110]
theorem a197:Str.ofString "declare_fun"=s197:=by kernel_rfl
noncomputable def s198:Str:=zS [97,114,103,95,115,111,114,116,115]
theorem a198:Str.ofString "arg_sorts"=s198:=by kernel_rfl
noncomputable def s199:Str:=zS [116,117,112,108,101]
theorem a199:Str.ofString "tuple"=s199:=by kernel_rfl
noncomputable def s200:Str:=zS [102,114,101,115,104,95,102,117,110]
theorem a200:Str.ofString "fresh_fun"=s200:=by kernel_rfl
noncomputable def s201:Str:=zS [115,116,101,109]
theorem a201:Str.ofString "stem"=s201:=by kernel_rfl
noncomputable def s202:Str:=zS [97,112,112]
theorem a202:Str.ofString "app"=s202:=by kernel_rfl
noncomputable def s203:Str:=zS [102,117,110,95,110,97,109,101]
theorem a203:Str.ofString "fun_name"=s203:=by kernel_rfl
noncomputable def s204:Str:=zS [102]
theorem a204:Str.ofString "f"=s204:=by kernel_rfl
noncomputable def s205:Str:=zS [102,117,110,95,97,114,103,95,115,111,114,116,115]
theorem a205:Str.ofString "fun_arg_sorts"=s205:=by kernel_rfl
noncomputable def s206:Str:=zS [102,117,110,95,114,101,115,117,108,116]
theorem a206:Str.ofString "fun_result"=s206:=by kernel_rfl
noncomputable def s207:Str:=zS [102,117,110,95,99,111,117,110,116]
theorem a207:Str.ofString "fun_count"=s207:=by kernel_rfl
noncomputable def s208:Str:=zS [107,101,121]
theorem a208:Str.ofString "key"=s208:=by kernel_rfl
noncomputable def s209:Str:=zS [103,101,116]
theorem a209:Str.ofString "get"=s209:=by kernel_rfl
noncomputable def s210:Str:=zS [102,105,110,100,95,109,97,100,101]
theorem a210:Str.ofString "find_made"=s210:=by kernel_rfl
noncomputable def s211:Str:=zS [86,65,76,85,69,95,79,80,83]
theorem a211:Str.ofString "VALUE_OPS"=s211:=by kernel_rfl
noncomputable def s212:Str:=zS [119,97,110,116]
theorem a212:Str.ofString "want"=s212:=by kernel_rfl
noncomputable def s213:Str:=zS [119,104,101,114,101]
theorem a213:Str.ofString "where"=s213:=by kernel_rfl
noncomputable def s214:Str:=zS [83,111,114,116,70,97,117,108,116]
theorem a214:Str.ofString "SortFault"=s214:=by kernel_rfl
noncomputable def s215:Str:=zS [58,32]
theorem a215:Str.ofString ": "=s215:=by kernel_rfl
noncomputable def s216:Str:=zS [32,105,115,32,119,97,110,116,101,100,44,32,110,111,116,32]
theorem a216:Str.ofString " is wanted, not "=s216:=by kernel_rfl
noncomputable def s217:Str:=zS [119,97,110,116,95,97,108,108]
theorem a217:Str.ofString "want_all"=s217:=by kernel_rfl
noncomputable def s218:Str:=zS [104,111,108,100,115]
theorem a218:Str.ofString "holds"=s218:=by kernel_rfl
noncomputable def s219:Str:=zS [112,97,114,116,115]
theorem a219:Str.ofString "parts"=s219:=by kernel_rfl
noncomputable def s220:Str:=zS [112,97,114,116,115,95,111,102,95,97,108,108]
theorem a220:Str.ofString "parts_of_all"=s220:=by kernel_rfl
noncomputable def s221:Str:=zS [66,111,111,108,66,97,110,107]
theorem a221:Str.ofString "BoolBank"=s221:=by kernel_rfl
noncomputable def s222:Str:=zS [120,111,114,95,111,102]
theorem a222:Str.ofString "xor_of"=s222:=by kernel_rfl
noncomputable def s223:Str:=zS [105,109,112,108,105,101,115,95,111,102]
theorem a223:Str.ofString "implies_of"=s223:=by kernel_rfl
noncomputable def s224:Str:=zS [61]
theorem a224:Str.ofString "="=s224:=by kernel_rfl
noncomputable def s225:Str:=zS [109,105,110]
theorem a225:Str.ofString "min"=s225:=by kernel_rfl
noncomputable def s226:Str:=zS [109,97,120]
theorem a226:Str.ofString "max"=s226:=by kernel_rfl
noncomputable def s227:Str:=zS [100,105,115,116,105,110,99,116]
theorem a227:Str.ofString "distinct"=s227:=by kernel_rfl
noncomputable def s228:Str:=zS [115,111,114,116,115]
theorem a228:Str.ofString "sorts"=s228:=by kernel_rfl
noncomputable def s229:Str:=zS [32,104,97,115,32]
theorem a229:Str.ofString " has "=s229:=by kernel_rfl
noncomputable def s230:Str:=zS [32,97,114,103,117,109,101,110,116,115,44,32,110,111,116,32]
theorem a230:Str.ofString " arguments, not "=s230:=by kernel_rfl
noncomputable def s231:Str:=zS [122,105,112]
theorem a231:Str.ofString "zip"=s231:=by kernel_rfl
noncomputable def s232:Str:=zS [102,111,108,100,101,100]
theorem a232:Str.ofString "folded"=s232:=by kernel_rfl
noncomputable def s233:Str:=zS [119,105,116,104,95,97,114,103,115]
theorem a233:Str.ofString "with_args"=s233:=by kernel_rfl
noncomputable def s234:Str:=zS [114,101,112,108,97,99,101,100]
theorem a234:Str.ofString "replaced"=s234:=by kernel_rfl
noncomputable def s235:Str:=zS [119,97,110,116,95,115,109,97,108,108]
theorem a235:Str.ofString "want_small"=s235:=by kernel_rfl
noncomputable def s236:Str:=zS [97,98,115]
theorem a236:Str.ofString "abs"=s236:=by kernel_rfl
noncomputable def s237:Str:=zS [77,79,83,84,95,66,73,84,83]
theorem a237:Str.ofString "MOST_BITS"=s237:=by kernel_rfl
noncomputable def s238:Str:=zS [76,105,109,105,116,70,97,117,108,116]
theorem a238:Str.ofString "LimitFault"=s238:=by kernel_rfl
noncomputable def s239:Str:=zS [97,32,110,117,109,98,101,114,32,104,97,115,32,97,116,32,109,111,115,116,32]
theorem a239:Str.ofString "a number has at most "=s239:=by kernel_rfl
noncomputable def s240:Str:=zS [32,98,105,116,115]
theorem a240:Str.ofString " bits"=s240:=by kernel_rfl
noncomputable def s241:Str:=zS [78,117,109,98,101,114,66,97,110,107]
theorem a241:Str.ofString "NumberBank"=s241:=by kernel_rfl
noncomputable def s242:Str:=zS [110,117,109]
theorem a242:Str.ofString "num"=s242:=by kernel_rfl
noncomputable def s243:Str:=zS [97,32,110,117,109,98,101,114,32,105,115,32,111,102,32,73,110,116,32,111,114,32,82,101,97,108]
theorem a243:Str.ofString "a number is of Int or Real"=s243:=by kernel_rfl
noncomputable def s244:Str:=zS [105,115,95,119,104,111,108,101]
theorem a244:Str.ofString "is_whole"=s244:=by kernel_rfl
noncomputable def s245:Str:=zS [97,32,110,117,109,98,101,114,32,111,102,32,73,110,116,32,105,115,32,119,104,111,108,101]
theorem a245:Str.ofString "a number of Int is whole"=s245:=by kernel_rfl
noncomputable def s246:Str:=zS [119,97,110,116,95,110,117,109,98,101,114]
theorem a246:Str.ofString "want_number"=s246:=by kernel_rfl
noncomputable def s247:Str:=zS [58,32,73,110,116,32,111,114,32,82,101,97,108,32,105,115,32,119,97,110,116,101,100,44,32,110,111,116,32]
theorem a247:Str.ofString ": Int or Real is wanted, not "=s247:=by kernel_rfl
noncomputable def s248:Str:=zS [112,108,117,115]
theorem a248:Str.ofString "plus"=s248:=by kernel_rfl
noncomputable def s249:Str:=zS [116,105,109,101,115,95,110,117,109]
theorem a249:Str.ofString "times_num"=s249:=by kernel_rfl
noncomputable def s250:Str:=zS [42]
theorem a250:Str.ofString "*"=s250:=by kernel_rfl
noncomputable def s251:Str:=zS [109,117,108]
theorem a251:Str.ofString "mul"=s251:=by kernel_rfl
noncomputable def s252:Str:=zS [116,105,109,101,115]
theorem a252:Str.ofString "times"=s252:=by kernel_rfl
noncomputable def s253:Str:=zS [97,32,112,114,111,100,117,99,116,32,104,97,115,32,111,110,101,32,110,117,109,98,101,114,32,97,116,32,108,101,97,115,116]
theorem a253:Str.ofString "a product has one number at least"=s253:=by kernel_rfl
noncomputable def s254:Str:=zS [111,118,101,114,95,110,117,109]
theorem a254:Str.ofString "over_num"=s254:=by kernel_rfl
noncomputable def s255:Str:=zS [110,101,103,97,116,105,118,101]
theorem a255:Str.ofString "negative"=s255:=by kernel_rfl
noncomputable def s256:Str:=zS [109,105,110,117,115]
theorem a256:Str.ofString "minus"=s256:=by kernel_rfl
noncomputable def s257:Str:=zS [108,101]
theorem a257:Str.ofString "le"=s257:=by kernel_rfl
noncomputable def s258:Str:=zS [108,116]
theorem a258:Str.ofString "lt"=s258:=by kernel_rfl
noncomputable def s259:Str:=zS [98,118,95,110,117,109,98,101,114,115]
theorem a259:Str.ofString "bv_numbers"=s259:=by kernel_rfl
noncomputable def s260:Str:=zS [97,32,98,105,116,32,118,101,99,116,111,114,32,104,97,115,32,111,110,101,32,98,105,116,32,97,116,32,108,101,97,115,116]
theorem a260:Str.ofString "a bit vector has one bit at least"=s260:=by kernel_rfl
noncomputable def s261:Str:=zS [87,73,68,69,83,84]
theorem a261:Str.ofString "WIDEST"=s261:=by kernel_rfl
noncomputable def s262:Str:=zS [97,32,98,105,116,32,118,101,99,116,111,114,32,104,97,115,32,97,116,32,109,111,115,116,32]
theorem a262:Str.ofString "a bit vector has at most "=s262:=by kernel_rfl
noncomputable def s263:Str:=zS [40,95,32,66,105,116,86,101,99,32]
theorem a263:Str.ofString "(_ BitVec "=s263:=by kernel_rfl
noncomputable def s264:Str:=zS [41]
theorem a264:Str.ofString ")"=s264:=by kernel_rfl
noncomputable def s265:Str:=zS [102,105,110,100,95,98,118,95,115,111,114,116]
theorem a265:Str.ofString "find_bv_sort"=s265:=by kernel_rfl
noncomputable def s266:Str:=zS [119,97,110,116,95,98,105,116,115]
theorem a266:Str.ofString "want_bits"=s266:=by kernel_rfl
noncomputable def s267:Str:=zS [58,32,97,32,98,105,116,32,118,101,99,116,111,114,32,105,115,32,119,97,110,116,101,100,44,32,110,111,116,32]
theorem a267:Str.ofString ": a bit vector is wanted, not "=s267:=by kernel_rfl
noncomputable def s268:Str:=zS [32,105,115,32,110,111,32,111,112,101,114,97,116,105,111,110,32,111,102,32,111,110,101,32,98,105,116,32,118,101,99,116,111,114]
theorem a268:Str.ofString " is no operation of one bit vector"=s268:=by kernel_rfl
noncomputable def s269:Str:=zS [66,86,95,65,83,75]
theorem a269:Str.ofString "BV_ASK"=s269:=by kernel_rfl
noncomputable def s270:Str:=zS [32,105,115,32,110,111,32,111,112,101,114,97,116,105,111,110,32,111,102,32,116,119,111,32,98,105,116,32,118,101,99,116,111,114,115]
theorem a270:Str.ofString " is no operation of two bit vectors"=s270:=by kernel_rfl
noncomputable def s271:Str:=zS [101,120,116,114,97,99,116,58,32,116,104,101,32,112,108,97,99,101,115,32,97,114,101,32,110,111,116,32,119,105,116,104,105,110,32,116,104,101,32,98,105,116,32,118,101,99,116,111,114]
theorem a271:Str.ofString "extract: the places are not within the bit vector"=s271:=by kernel_rfl
noncomputable def s272:Str:=zS [122,101,114,111,95,101,120,116,101,110,100,58,32,97,32,110,117,109,98,101,114,32,105,115,32,119,97,110,116,101,100]
theorem a272:Str.ofString "zero_extend: a number is wanted"=s272:=by kernel_rfl
noncomputable def s273:Str:=zS [115,105,103,110,95,101,120,116,101,110,100,58,32,97,32,110,117,109,98,101,114,32,105,115,32,119,97,110,116,101,100]
theorem a273:Str.ofString "sign_extend: a number is wanted"=s273:=by kernel_rfl
noncomputable def s274:Str:=zS [119,97,110,116,95,112,108,97,99,101]
theorem a274:Str.ofString "want_place"=s274:=by kernel_rfl
noncomputable def s275:Str:=zS [58,32,110,111,32,115,117,99,104,32,112,108,97,99,101]
theorem a275:Str.ofString ": no such place"=s275:=by kernel_rfl
noncomputable def s276:Str:=zS [98,105,116]
theorem a276:Str.ofString "bit"=s276:=by kernel_rfl
noncomputable def s277:Str:=zS [98,105,116,58,32,110,111,32,115,117,99,104,32,112,108,97,99,101]
theorem a277:Str.ofString "bit: no such place"=s277:=by kernel_rfl
noncomputable def s278:Str:=zS [99,97,114,114,121]
theorem a278:Str.ofString "carry"=s278:=by kernel_rfl
noncomputable def s279:Str:=zS [98,101,108,111,119]
theorem a279:Str.ofString "below"=s279:=by kernel_rfl
noncomputable def s280:Str:=zS [109,105,110,105,115,109,116,46,114,101,119,114,105,116,101]
theorem a280:Str.ofString "minismt.rewrite"=s280:=by kernel_rfl
noncomputable def s281:Str:=zS [98,118,97,110,100]
theorem a281:Str.ofString "bvand"=s281:=by kernel_rfl
noncomputable def s282:Str:=zS [98,118,111,114]
theorem a282:Str.ofString "bvor"=s282:=by kernel_rfl
noncomputable def s283:Str:=zS [98,118,109,117,108]
theorem a283:Str.ofString "bvmul"=s283:=by kernel_rfl
noncomputable def s284:Str:=zS [98,118,115,104,108]
theorem a284:Str.ofString "bvshl"=s284:=by kernel_rfl
noncomputable def s285:Str:=zS [98,118,108,115,104,114]
theorem a285:Str.ofString "bvlshr"=s285:=by kernel_rfl
noncomputable def s286:Str:=zS [98,118,117,100,105,118]
theorem a286:Str.ofString "bvudiv"=s286:=by kernel_rfl
noncomputable def s287:Str:=zS [98,118,117,114,101,109]
theorem a287:Str.ofString "bvurem"=s287:=by kernel_rfl
noncomputable def s288:Str:=zS [98,118,117,108,116]
theorem a288:Str.ofString "bvult"=s288:=by kernel_rfl
noncomputable def s289:Str:=zS [98,118,117,108,101]
theorem a289:Str.ofString "bvule"=s289:=by kernel_rfl
noncomputable def s290:Str:=zS [98,118,115,108,116]
theorem a290:Str.ofString "bvslt"=s290:=by kernel_rfl
noncomputable def s291:Str:=zS [98,118,115,108,101]
theorem a291:Str.ofString "bvsle"=s291:=by kernel_rfl
noncomputable def s292:Str:=zS [115,104,105,102,116,101,100,95,118,97,108,117,101]
theorem a292:Str.ofString "shifted_value"=s292:=by kernel_rfl
noncomputable def s293:Str:=zS [109,97,115,107,95,111,102]
theorem a293:Str.ofString "mask_of"=s293:=by kernel_rfl
noncomputable def s294:Str:=zS [100,105,118,105,100,101,100,95,118,97,108,117,101]
theorem a294:Str.ofString "divided_value"=s294:=by kernel_rfl
noncomputable def s295:Str:=zS [114,101,115,116,95,118,97,108,117,101]
theorem a295:Str.ofString "rest_value"=s295:=by kernel_rfl
noncomputable def s296:Str:=zS [77,111,100,101,108,70,97,117,108,116]
theorem a296:Str.ofString "ModelFault"=s296:=by kernel_rfl
noncomputable def s297:Str:=zS [115,105,103,110,101,100,95,111,102]
theorem a297:Str.ofString "signed_of"=s297:=by kernel_rfl
noncomputable def s298:Str:=zS [109,105,110,105,115,109,116,46,116,101,114,109,115]
theorem a298:Str.ofString "minismt.terms"=s298:=by kernel_rfl
noncomputable def s299:Str:=zS [83,109,116,69,114,114,111,114]
theorem a299:Str.ofString "SmtError"=s299:=by kernel_rfl
noncomputable def s300:Str:=zS [109,111,100,101,108,58,32]
theorem a300:Str.ofString "model: "=s300:=by kernel_rfl
noncomputable def s301:Str:=zS [119,104,97,116]
theorem a301:Str.ofString "what"=s301:=by kernel_rfl
noncomputable def s302:Str:=zS [109,105,110,105,115,109,116,46,114,97,116,105,111,115]
theorem a302:Str.ofString "minismt.ratios"=s302:=by kernel_rfl
noncomputable def s303:Str:=zS [103,99,100,95,111,102]
theorem a303:Str.ofString "gcd_of"=s303:=by kernel_rfl
noncomputable def s304:Str:=zS [114,97,116,105,111]
theorem a304:Str.ofString "ratio"=s304:=by kernel_rfl
noncomputable def s305:Str:=zS [116,111,112]
theorem a305:Str.ofString "top"=s305:=by kernel_rfl
noncomputable def s306:Str:=zS [98,111,116,116,111,109]
theorem a306:Str.ofString "bottom"=s306:=by kernel_rfl
noncomputable def s307:Str:=zS [97,32,114,97,116,105,111,32,119,105,116,104,32,48,32,98,101,108,111,119]
theorem a307:Str.ofString "a ratio with 0 below"=s307:=by kernel_rfl
noncomputable def s308:Str:=zS [99,111,109,109,111,110]
theorem a308:Str.ofString "common"=s308:=by kernel_rfl
noncomputable def s309:Str:=zS [107]
theorem a309:Str.ofString "k"=s309:=by kernel_rfl
noncomputable def s310:Str:=zS [109,105,110,105,115,109,116,46,101,114,114,111,114,115]
theorem a310:Str.ofString "minismt.errors"=s310:=by kernel_rfl
noncomputable def s311:Str:=zS [69,120,99,101,112,116,105,111,110]
theorem a311:Str.ofString "Exception"=s311:=by kernel_rfl
noncomputable def s312:Str:=zS [115,111,114,116,115,58,32]
theorem a312:Str.ofString "sorts: "=s312:=by kernel_rfl
noncomputable def s313:Str:=zS [108,105,109,105,116,58,32]
theorem a313:Str.ofString "limit: "=s313:=by kernel_rfl
noncomputable def s314:Str:=zS [47,99,108,97,105,109,47,99,117,116,46,112,121]
theorem a314:Str.ofString "/claim/cut.py"=s314:=by kernel_rfl
noncomputable def s315:Str:=zS [98,117,105,108,116,105,110,115]
noncomputable def s316:Str:=zS [95,95,100,111,99,95,95]
noncomputable def s317:Str:=zS [95,95,112,97,99,107,97,103,101,95,95]
noncomputable def s318:Str:=zS [95,95,108,111,97,100,101,114,95,95]
noncomputable def s319:Str:=zS [95,95,115,112,101,99,95,95]
noncomputable def s320:Str:=zS [95,95,98,117,105,108,100,95,99,108,97,115,115,95,95]
noncomputable def s321:Str:=zS [95,95,105,109,112,111,114,116,95,95]
noncomputable def s322:Str:=zS [97,108,108]
noncomputable def s323:Str:=zS [97,115,99,105,105]
noncomputable def s324:Str:=zS [98,105,110]
noncomputable def s325:Str:=zS [98,114,101,97,107,112,111,105,110,116]
noncomputable def s326:Str:=zS [99,97,108,108,97,98,108,101]
noncomputable def s327:Str:=zS [99,104,114]
noncomputable def s328:Str:=zS [99,111,109,112,105,108,101]
noncomputable def s329:Str:=zS [100,101,108,97,116,116,114]
noncomputable def s330:Str:=zS [100,105,114]
noncomputable def s331:Str:=zS [100,105,118,109,111,100]
noncomputable def s332:Str:=zS [101,118,97,108]
noncomputable def s333:Str:=zS [101,120,101,99]
noncomputable def s334:Str:=zS [102,111,114,109,97,116]
noncomputable def s335:Str:=zS [103,101,116,97,116,116,114]
noncomputable def s336:Str:=zS [103,108,111,98,97,108,115]
noncomputable def s337:Str:=zS [104,97,115,97,116,116,114]
noncomputable def s338:Str:=zS [104,97,115,104]
noncomputable def s339:Str:=zS [104,101,120]
noncomputable def s340:Str:=zS [105,100]
noncomputable def s341:Str:=zS [105,110,112,117,116]
noncomputable def s342:Str:=zS [105,115,105,110,115,116,97,110,99,101]
noncomputable def s343:Str:=zS [105,115,115,117,98,99,108,97,115,115]
noncomputable def s344:Str:=zS [105,116,101,114]
noncomputable def s345:Str:=zS [97,105,116,101,114]
noncomputable def s346:Str:=zS [108,111,99,97,108,115]
noncomputable def s347:Str:=zS [110,101,120,116]
noncomputable def s348:Str:=zS [97,110,101,120,116]
noncomputable def s349:Str:=zS [111,99,116]
noncomputable def s350:Str:=zS [111,114,100]
noncomputable def s351:Str:=zS [112,111,119]
noncomputable def s352:Str:=zS [112,114,105,110,116]
noncomputable def s353:Str:=zS [114,101,112,114]
noncomputable def s354:Str:=zS [114,111,117,110,100]
noncomputable def s355:Str:=zS [115,101,116,97,116,116,114]
noncomputable def s356:Str:=zS [118,97,114,115]
noncomputable def s357:Str:=zS [78,111,110,101]
noncomputable def s358:Str:=zS [69,108,108,105,112,115,105,115]
noncomputable def s359:Str:=zS [78,111,116,73,109,112,108,101,109,101,110,116,101,100]
noncomputable def s360:Str:=zS [70,97,108,115,101]
noncomputable def s361:Str:=zS [84,114,117,101]
noncomputable def s362:Str:=zS [98,111,111,108]
noncomputable def s363:Str:=zS [109,101,109,111,114,121,118,105,101,119]
noncomputable def s364:Str:=zS [98,121,116,101,97,114,114,97,121]
noncomputable def s365:Str:=zS [98,121,116,101,115]
noncomputable def s366:Str:=zS [99,108,97,115,115,109,101,116,104,111,100]
noncomputable def s367:Str:=zS [99,111,109,112,108,101,120]
noncomputable def s368:Str:=zS [100,105,99,116]
noncomputable def s369:Str:=zS [101,110,117,109,101,114,97,116,101]
noncomputable def s370:Str:=zS [102,105,108,116,101,114]
noncomputable def s371:Str:=zS [102,108,111,97,116]
noncomputable def s372:Str:=zS [102,114,111,122,101,110,115,101,116]
noncomputable def s373:Str:=zS [112,114,111,112,101,114,116,121]
noncomputable def s374:Str:=zS [109,97,112]
noncomputable def s375:Str:=zS [111,98,106,101,99,116]
noncomputable def s376:Str:=zS [115,101,116]
noncomputable def s377:Str:=zS [115,108,105,99,101]
noncomputable def s378:Str:=zS [115,116,97,116,105,99,109,101,116,104,111,100]
noncomputable def s379:Str:=zS [115,116,114]
noncomputable def s380:Str:=zS [116,121,112,101]
noncomputable def s381:Str:=zS [95,95,100,101,98,117,103,95,95]
noncomputable def s382:Str:=zS [66,97,115,101,69,120,99,101,112,116,105,111,110]
noncomputable def s383:Str:=zS [66,97,115,101,69,120,99,101,112,116,105,111,110,71,114,111,117,112]
noncomputable def s384:Str:=zS [71,101,110,101,114,97,116,111,114,69,120,105,116]
noncomputable def s385:Str:=zS [75,101,121,98,111,97,114,100,73,110,116,101,114,114,117,112,116]
noncomputable def s386:Str:=zS [83,121,115,116,101,109,69,120,105,116]
noncomputable def s387:Str:=zS [65,114,105,116,104,109,101,116,105,99,69,114,114,111,114]
noncomputable def s388:Str:=zS [65,115,115,101,114,116,105,111,110,69,114,114,111,114]
noncomputable def s389:Str:=zS [65,116,116,114,105,98,117,116,101,69,114,114,111,114]
noncomputable def s390:Str:=zS [66,117,102,102,101,114,69,114,114,111,114]
noncomputable def s391:Str:=zS [69,79,70,69,114,114,111,114]
noncomputable def s392:Str:=zS [73,109,112,111,114,116,69,114,114,111,114]
noncomputable def s393:Str:=zS [76,111,111,107,117,112,69,114,114,111,114]
noncomputable def s394:Str:=zS [77,101,109,111,114,121,69,114,114,111,114]
noncomputable def s395:Str:=zS [78,97,109,101,69,114,114,111,114]
noncomputable def s396:Str:=zS [79,83,69,114,114,111,114]
noncomputable def s397:Str:=zS [82,101,102,101,114,101,110,99,101,69,114,114,111,114]
noncomputable def s398:Str:=zS [82,117,110,116,105,109,101,69,114,114,111,114]
noncomputable def s399:Str:=zS [83,116,111,112,65,115,121,110,99,73,116,101,114,97,116,105,111,110]
noncomputable def s400:Str:=zS [83,116,111,112,73,116,101,114,97,116,105,111,110]
noncomputable def s401:Str:=zS [83,121,110,116,97,120,69,114,114,111,114]
noncomputable def s402:Str:=zS [83,121,115,116,101,109,69,114,114,111,114]
noncomputable def s403:Str:=zS [84,121,112,101,69,114,114,111,114]
noncomputable def s404:Str:=zS [86,97,108,117,101,69,114,114,111,114]
noncomputable def s405:Str:=zS [87,97,114,110,105,110,103]
noncomputable def s406:Str:=zS [70,108,111,97,116,105,110,103,80,111,105,110,116,69,114,114,111,114]
noncomputable def s407:Str:=zS [79,118,101,114,102,108,111,119,69,114,114,111,114]
noncomputable def s408:Str:=zS [90,101,114,111,68,105,118,105,115,105,111,110,69,114,114,111,114]
noncomputable def s409:Str:=zS [66,121,116,101,115,87,97,114,110,105,110,103]
noncomputable def s410:Str:=zS [68,101,112,114,101,99,97,116,105,111,110,87,97,114,110,105,110,103]
noncomputable def s411:Str:=zS [69,110,99,111,100,105,110,103,87,97,114,110,105,110,103]
noncomputable def s412:Str:=zS [70,117,116,117,114,101,87,97,114,110,105,110,103]
noncomputable def s413:Str:=zS [73,109,112,111,114,116,87,97,114,110,105,110,103]
noncomputable def s414:Str:=zS [80,101,110,100,105,110,103,68,101,112,114,101,99,97,116,105,111,110,87,97,114,110,105,110,103]
noncomputable def s415:Str:=zS [82,101,115,111,117,114,99,101,87,97,114,110,105,110,103]
noncomputable def s416:Str:=zS [82,117,110,116,105,109,101,87,97,114,110,105,110,103]
noncomputable def s417:Str:=zS [83,121,110,116,97,120,87,97,114,110,105,110,103]
noncomputable def s418:Str:=zS [85,110,105,99,111,100,101,87,97,114,110,105,110,103]
noncomputable def s419:Str:=zS [85,115,101,114,87,97,114,110,105,110,103]
noncomputable def s420:Str:=zS [66,108,111,99,107,105,110,103,73,79,69,114,114,111,114]
noncomputable def s421:Str:=zS [67,104,105,108,100,80,114,111,99,101,115,115,69,114,114,111,114]
noncomputable def s422:Str:=zS [67,111,110,110,101,99,116,105,111,110,69,114,114,111,114]
noncomputable def s423:Str:=zS [70,105,108,101,69,120,105,115,116,115,69,114,114,111,114]
noncomputable def s424:Str:=zS [70,105,108,101,78,111,116,70,111,117,110,100,69,114,114,111,114]
noncomputable def s425:Str:=zS [73,110,116,101,114,114,117,112,116,101,100,69,114,114,111,114]
noncomputable def s426:Str:=zS [73,115,65,68,105,114,101,99,116,111,114,121,69,114,114,111,114]
noncomputable def s427:Str:=zS [78,111,116,65,68,105,114,101,99,116,111,114,121,69,114,114,111,114]
noncomputable def s428:Str:=zS [80,101,114,109,105,115,115,105,111,110,69,114,114,111,114]
noncomputable def s429:Str:=zS [80,114,111,99,101,115,115,76,111,111,107,117,112,69,114,114,111,114]
noncomputable def s430:Str:=zS [84,105,109,101,111,117,116,69,114,114,111,114]
noncomputable def s431:Str:=zS [73,110,100,101,110,116,97,116,105,111,110,69,114,114,111,114]
noncomputable def s432:Str:=zS [95,73,110,99,111,109,112,108,101,116,101,73,110,112,117,116,69,114,114,111,114]
noncomputable def s433:Str:=zS [73,110,100,101,120,69,114,114,111,114]
noncomputable def s434:Str:=zS [75,101,121,69,114,114,111,114]
noncomputable def s435:Str:=zS [77,111,100,117,108,101,78,111,116,70,111,117,110,100,69,114,114,111,114]
noncomputable def s436:Str:=zS [78,111,116,73,109,112,108,101,109,101,110,116,101,100,69,114,114,111,114]
noncomputable def s437:Str:=zS [80,121,116,104,111,110,70,105,110,97,108,105,122,97,116,105,111,110,69,114,114,111,114]
noncomputable def s438:Str:=zS [82,101,99,117,114,115,105,111,110,69,114,114,111,114]
noncomputable def s439:Str:=zS [85,110,98,111,117,110,100,76,111,99,97,108,69,114,114,111,114]
noncomputable def s440:Str:=zS [85,110,105,99,111,100,101,69,114,114,111,114]
noncomputable def s441:Str:=zS [66,114,111,107,101,110,80,105,112,101,69,114,114,111,114]
noncomputable def s442:Str:=zS [67,111,110,110,101,99,116,105,111,110,65,98,111,114,116,101,100,69,114,114,111,114]
noncomputable def s443:Str:=zS [67,111,110,110,101,99,116,105,111,110,82,101,102,117,115,101,100,69,114,114,111,114]
noncomputable def s444:Str:=zS [67,111,110,110,101,99,116,105,111,110,82,101,115,101,116,69,114,114,111,114]
noncomputable def s445:Str:=zS [84,97,98,69,114,114,111,114]
noncomputable def s446:Str:=zS [85,110,105,99,111,100,101,68,101,99,111,100,101,69,114,114,111,114]
noncomputable def s447:Str:=zS [85,110,105,99,111,100,101,69,110,99,111,100,101,69,114,114,111,114]
noncomputable def s448:Str:=zS [85,110,105,99,111,100,101,84,114,97,110,115,108,97,116,101,69,114,114,111,114]
noncomputable def s449:Str:=zS [69,120,99,101,112,116,105,111,110,71,114,111,117,112]
noncomputable def s450:Str:=zS [69,110,118,105,114,111,110,109,101,110,116,69,114,114,111,114]
noncomputable def s451:Str:=zS [73,79,69,114,114,111,114]
noncomputable def s452:Str:=zS [111,112,101,110]
noncomputable def s453:Str:=zS [113,117,105,116]
noncomputable def s454:Str:=zS [101,120,105,116]
noncomputable def s455:Str:=zS [99,111,112,121,114,105,103,104,116]
noncomputable def s456:Str:=zS [99,114,101,100,105,116,115]
noncomputable def s457:Str:=zS [108,105,99,101,110,115,101]
noncomputable def s458:Str:=zS [104,101,108,112]
noncomputable def s459:Str:=zS [95,95,109,97,105,110,95,95]
noncomputable def s460:Str:=zS [116,121,112,101,46,95,95,115,117,98,99,108,97,115,115,101,115,95,95,46,69,120,99,101,112,116,105,111,110,46,48]
noncomputable def s461:Str:=zS [116,121,112,101,46,95,95,115,117,98,99,108,97,115,115,101,115,95,95,46,69,120,99,101,112,116,105,111,110,46,110]
noncomputable def s462:Str:=zS [95,95,97,110,110,111,116,97,116,105,111,110,115,95,95]
noncomputable def s463:Str:=zS [95,95,98,117,105,108,116,105,110,115,95,95]
noncomputable def s464:Str:=zS [95,95,102,105,108,101,95,95]
noncomputable def s465:Str:=zS [95,95,99,97,99,104,101,100,95,95]
noncomputable def s466:Str:=zS [60,109,111,100,117,108,101,62]
noncomputable def s467:Str:=zS [95,95,109,111,100,117,108,101,95,95]
noncomputable def s468:Str:=zS [95,95,113,117,97,108,110,97,109,101,95,95]
noncomputable def s469:Str:=zS [95,95,102,105,114,115,116,108,105,110,101,110,111,95,95]
noncomputable def s470:Str:=zS [95,95,115,116,97,116,105,99,95,97,116,116,114,105,98,117,116,101,115,95,95]
noncomputable def s471:Str:=zS [95,95,99,108,97,115,115,99,101,108,108,95,95]
noncomputable def s472:Str:=zS [83,109,116,69,114,114,111,114,46,95,95,105,110,105,116,95,95]
noncomputable def s473:Str:=zS [83,109,116,69,114,114,111,114,46,116,111,108,100]
noncomputable def s474:Str:=zS [95,95,119,101,97,107,114,101,102,95,95]
noncomputable def s475:Str:=zS [83,111,114,116,70,97,117,108,116,46,116,111,108,100]
noncomputable def s476:Str:=zS [76,105,109,105,116,70,97,117,108,116,46,116,111,108,100]
noncomputable def s477:Str:=zS [77,111,100,101,108,70,97,117,108,116,46,116,111,108,100]
noncomputable def s478:Str:=zS [66,97,110,107,46,95,95,105,110,105,116,95,95]
noncomputable def s479:Str:=zS [66,97,110,107,46,115,111,114,116,95,110,97,109,101]
noncomputable def s480:Str:=zS [66,97,110,107,46,100,101,99,108,97,114,101,95,115,111,114,116]
noncomputable def s481:Str:=zS [66,97,110,107,46,119,105,100,116,104,95,111,102]
noncomputable def s482:Str:=zS [66,97,110,107,46,105,115,95,110,117,109,98,101,114,95,115,111,114,116]
noncomputable def s483:Str:=zS [66,97,110,107,46,105,115,95,102,114,101,101,95,115,111,114,116]
noncomputable def s484:Str:=zS [66,97,110,107,46,100,101,99,108,97,114,101,95,102,117,110]
noncomputable def s485:Str:=zS [66,97,110,107,46,102,114,101,115,104,95,102,117,110]
noncomputable def s486:Str:=zS [66,97,110,107,46,102,114,101,115,104,95,99,111,110,115,116]
noncomputable def s487:Str:=zS [66,97,110,107,46,102,117,110,95,110,97,109,101]
noncomputable def s488:Str:=zS [66,97,110,107,46,102,117,110,95,97,114,103,95,115,111,114,116,115]
noncomputable def s489:Str:=zS [66,97,110,107,46,102,117,110,95,114,101,115,117,108,116]
noncomputable def s490:Str:=zS [66,97,110,107,46,102,117,110,95,99,111,117,110,116]
noncomputable def s491:Str:=zS [66,97,110,107,46,111,112]
noncomputable def s492:Str:=zS [66,97,110,107,46,97,114,103,115]
noncomputable def s493:Str:=zS [66,97,110,107,46,115,111,114,116]
noncomputable def s494:Str:=zS [66,97,110,107,46,100,97,116,97]
noncomputable def s495:Str:=zS [66,97,110,107,46,119,105,100,116,104]
noncomputable def s496:Str:=zS [66,97,110,107,46,115,105,122,101]
noncomputable def s497:Str:=zS [66,97,110,107,46,109,97,107,101]
noncomputable def s498:Str:=zS [66,97,110,107,46,102,105,110,100,95,109,97,100,101]
noncomputable def s499:Str:=zS [66,97,110,107,46,105,115,95,118,97,108,117,101]
noncomputable def s500:Str:=zS [66,97,110,107,46,119,97,110,116]
noncomputable def s501:Str:=zS [66,97,110,107,46,119,97,110,116,95,97,108,108]
noncomputable def s502:Str:=zS [66,97,110,107,46,116,114,117,101,95,116,101,114,109]
noncomputable def s503:Str:=zS [66,97,110,107,46,102,97,108,115,101,95,116,101,114,109]
noncomputable def s504:Str:=zS [66,97,110,107,46,98,111,111,108,95,116,101,114,109]
noncomputable def s505:Str:=zS [66,97,110,107,46,112,97,114,116,115]
noncomputable def s506:Str:=zS [66,97,110,107,46,112,97,114,116,115,95,111,102,95,97,108,108]
noncomputable def s507:Str:=zS [95,95,100,105,99,116,95,95]
noncomputable def s508:Str:=zS [66,111,111,108,66,97,110,107,46,110,111,116,95,111,102]
noncomputable def s509:Str:=zS [66,111,111,108,66,97,110,107,46,97,110,100,95,111,102]
noncomputable def s510:Str:=zS [66,111,111,108,66,97,110,107,46,111,114,95,111,102]
noncomputable def s511:Str:=zS [66,111,111,108,66,97,110,107,46,120,111,114,95,111,102]
noncomputable def s512:Str:=zS [66,111,111,108,66,97,110,107,46,105,109,112,108,105,101,115,95,111,102]
noncomputable def s513:Str:=zS [66,111,111,108,66,97,110,107,46,105,102,102]
noncomputable def s514:Str:=zS [66,111,111,108,66,97,110,107,46,101,113]
noncomputable def s515:Str:=zS [66,111,111,108,66,97,110,107,46,100,105,115,116,105,110,99,116]
noncomputable def s516:Str:=zS [66,111,111,108,66,97,110,107,46,105,116,101]
noncomputable def s517:Str:=zS [66,111,111,108,66,97,110,107,46,97,112,112]
noncomputable def s518:Str:=zS [66,111,111,108,66,97,110,107,46,102,111,108,100,101,100]
noncomputable def s519:Str:=zS [66,111,111,108,66,97,110,107,46,119,105,116,104,95,97,114,103,115]
noncomputable def s520:Str:=zS [66,111,111,108,66,97,110,107,46,114,101,112,108,97,99,101,100]
noncomputable def s521:Str:=zS [78,117,109,98,101,114,66,97,110,107,46,110,117,109]
noncomputable def s522:Str:=zS [78,117,109,98,101,114,66,97,110,107,46,119,97,110,116,95,110,117,109,98,101,114]
noncomputable def s523:Str:=zS [78,117,109,98,101,114,66,97,110,107,46,112,108,117,115]
noncomputable def s524:Str:=zS [78,117,109,98,101,114,66,97,110,107,46,116,105,109,101,115,95,110,117,109]
noncomputable def s525:Str:=zS [78,117,109,98,101,114,66,97,110,107,46,116,105,109,101,115]
noncomputable def s526:Str:=zS [78,117,109,98,101,114,66,97,110,107,46,111,118,101,114,95,110,117,109]
noncomputable def s527:Str:=zS [78,117,109,98,101,114,66,97,110,107,46,110,101,103,97,116,105,118,101]
noncomputable def s528:Str:=zS [78,117,109,98,101,114,66,97,110,107,46,109,105,110,117,115]
noncomputable def s529:Str:=zS [78,117,109,98,101,114,66,97,110,107,46,108,101]
noncomputable def s530:Str:=zS [78,117,109,98,101,114,66,97,110,107,46,108,116]
noncomputable def s531:Str:=zS [78,117,109,98,101,114,66,97,110,107,46,119,105,116,104,95,97,114,103,115]
noncomputable def s532:Str:=zS [84,101,114,109,66,97,110,107,46,95,95,105,110,105,116,95,95]
noncomputable def s533:Str:=zS [84,101,114,109,66,97,110,107,46,98,118,95,115,111,114,116]
noncomputable def s534:Str:=zS [84,101,114,109,66,97,110,107,46,102,105,110,100,95,98,118,95,115,111,114,116]
noncomputable def s535:Str:=zS [84,101,114,109,66,97,110,107,46,119,97,110,116,95,98,105,116,115]
noncomputable def s536:Str:=zS [84,101,114,109,66,97,110,107,46,98,118,95,110,117,109]
noncomputable def s537:Str:=zS [84,101,114,109,66,97,110,107,46,98,118,95,111,110,101]
noncomputable def s538:Str:=zS [84,101,114,109,66,97,110,107,46,98,118,95,116,119,111]
noncomputable def s539:Str:=zS [84,101,114,109,66,97,110,107,46,99,111,110,99,97,116]
noncomputable def s540:Str:=zS [84,101,114,109,66,97,110,107,46,101,120,116,114,97,99,116]
noncomputable def s541:Str:=zS [84,101,114,109,66,97,110,107,46,122,101,114,111,95,101,120,116,101,110,100]
noncomputable def s542:Str:=zS [84,101,114,109,66,97,110,107,46,115,105,103,110,95,101,120,116,101,110,100]
noncomputable def s543:Str:=zS [84,101,114,109,66,97,110,107,46,119,97,110,116,95,112,108,97,99,101]
noncomputable def s544:Str:=zS [84,101,114,109,66,97,110,107,46,98,105,116]
noncomputable def s545:Str:=zS [84,101,114,109,66,97,110,107,46,99,97,114,114,121]
noncomputable def s546:Str:=zS [84,101,114,109,66,97,110,107,46,98,101,108,111,119]
noncomputable def s547:Str:=zS [66,111,111,108,82,101,119,114,105,116,101,114,46,95,95,105,110,105,116,95,95]
noncomputable def s548:Str:=zS [66,111,111,108,82,101,119,114,105,116,101,114,46,115,105,109,112,108,105,102,121]
noncomputable def s549:Str:=zS [66,111,111,108,82,101,119,114,105,116,101,114,46,109,97,100,101]
noncomputable def s550:Str:=zS [66,111,111,108,82,101,119,114,105,116,101,114,46,102,108,97,116]
noncomputable def s551:Str:=zS [66,111,111,108,82,101,119,114,105,116,101,114,46,116,104,105,110,110,101,100]
noncomputable def s552:Str:=zS [66,111,111,108,82,101,119,114,105,116,101,114,46,106,111,105,110,101,100]
noncomputable def s553:Str:=zS [66,111,111,108,82,101,119,114,105,116,101,114,46,110,101,103,97,116,101,100]
noncomputable def s554:Str:=zS [66,111,111,108,82,101,119,114,105,116,101,114,46,112,97,114,105,116,121]
noncomputable def s555:Str:=zS [66,111,111,108,82,101,119,114,105,116,101,114,46,115,97,109,101]
noncomputable def s556:Str:=zS [66,111,111,108,82,101,119,114,105,116,101,114,46,99,104,111,115,101,110,95,98,111,111,108]
noncomputable def s557:Str:=zS [66,111,111,108,82,101,119,114,105,116,101,114,46,99,104,111,115,101,110]
noncomputable def s558:Str:=zS [66,111,111,108,82,101,119,114,105,116,101,114,46,101,113,117,97,108]
noncomputable def s559:Str:=zS [66,111,111,108,82,101,119,114,105,116,101,114,46,101,113,117,97,108,95,111,116,104,101,114,115]
noncomputable def s560:Str:=zS [66,111,111,108,82,101,119,114,105,116,101,114,46,101,113,117,97,108,95,99,104,111,115,101,110]
noncomputable def s561:Str:=zS [66,111,111,108,82,101,119,114,105,116,101,114,46,97,114,101,95,116,111,111,95,109,97,110,121]
noncomputable def s562:Str:=zS [66,111,111,108,82,101,119,114,105,116,101,114,46,97,112,97,114,116]
noncomputable def s563:Str:=zS [66,105,116,115,82,101,119,114,105,116,101,114,46,109,97,100,101]
noncomputable def s564:Str:=zS [66,105,116,115,82,101,119,114,105,116,101,114,46,101,113,117,97,108,95,111,116,104,101,114,115]
noncomputable def s565:Str:=zS [66,105,116,115,82,101,119,114,105,116,101,114,46,97,114,101,95,116,111,111,95,109,97,110,121]
noncomputable def s566:Str:=zS [66,105,116,115,82,101,119,114,105,116,101,114,46,105,115,95,98,105,116,115]
noncomputable def s567:Str:=zS [66,105,116,115,82,101,119,114,105,116,101,114,46,118,97,108,117,101,95,111,114]
noncomputable def s568:Str:=zS [66,105,116,115,82,101,119,114,105,116,101,114,46,110,117,109,98,101,114]
noncomputable def s569:Str:=zS [66,105,116,115,82,101,119,114,105,116,101,114,46,111,110,101,95,98,105,116,115]
noncomputable def s570:Str:=zS [66,105,116,115,82,101,119,114,105,116,101,114,46,116,119,111,95,98,105,116,115]
noncomputable def s571:Str:=zS [66,105,116,115,82,101,119,114,105,116,101,114,46,109,105,120,101,100,95,98,105,116,115]
noncomputable def s572:Str:=zS [66,105,116,115,82,101,119,114,105,116,101,114,46,105,115,95,116,117,114,110,101,100]
noncomputable def s573:Str:=zS [66,105,116,115,82,101,119,114,105,116,101,114,46,109,105,120,101,100,95,110,117,109,98,101,114]
noncomputable def s574:Str:=zS [66,105,116,115,82,101,119,114,105,116,101,114,46,108,101,115,115,95,98,105,116,115]
noncomputable def s575:Str:=zS [66,105,116,115,82,101,119,114,105,116,101,114,46,115,104,105,102,116,101,100,95,98,105,116,115]
noncomputable def s576:Str:=zS [66,105,116,115,82,101,119,114,105,116,101,114,46,100,105,118,105,100,101,100,95,98,105,116,115]
noncomputable def s577:Str:=zS [66,105,116,115,82,101,119,114,105,116,101,114,46,97,115,107,101,100,95,98,105,116,115]
noncomputable def s578:Str:=zS [66,105,116,115,82,101,119,114,105,116,101,114,46,112,117,116,95,116,111,103,101,116,104,101,114]
noncomputable def s579:Str:=zS [66,105,116,115,82,101,119,114,105,116,101,114,46,99,117,116,95,111,117,116]
noncomputable def s580:Str:=zS [66,105,116,115,82,101,119,114,105,116,101,114,46,99,117,116,95,119,105,116,104,105,110]
noncomputable def s581:Str:=zS [66,105,116,115,82,101,119,114,105,116,101,114,46,99,117,116,95,104,101,114,101]
noncomputable def s582:Str:=zS [66,105,116,115,82,101,119,114,105,116,101,114,46,119,105,100,101,114]
noncomputable def s583:Str:=zS [66,105,116,115,82,101,119,114,105,116,101,114,46,119,105,100,101,114,95,115,105,103,110,101,100]
noncomputable def s584:Str:=zS [66,105,116,115,82,101,119,114,105,116,101,114,46,101,113,117,97,108,95,98,105,116,115]
noncomputable def s585:Str:=zS [66,105,116,115,82,101,119,114,105,116,101,114,46,101,113,117,97,108,95,110,117,109,98,101,114]
noncomputable def s586:Str:=zS [66,105,116,115,82,101,119,114,105,116,101,114,46,98,105,116,95,111,102]
noncomputable def s587:Str:=zS [66,105,116,115,82,101,119,114,105,116,101,114,46,98,105,116,95,119,105,116,104,105,110]

noncomputable def pS:{ q:Program // PySem.Challenge.pw_rg0226_04 = q }:=by
  refine ⟨?q,?h⟩
  case h =>
    dsimp only [PySem.Challenge.pw_rg0226_04,a0,a1,a2,a3,a4,a5,a6,a7,a8,a9,a10,a11,a12,a13,a14,a15,a16,a17,a18,a19,a20,a21,a22,a23,a24,a25,a26,a27,a28,a29,a30,a31,a32,a33,a34,a35,a36,a37,a38,a39,a40,a41,a42,a43,a44,a45,a46,a47,a48,a49,a50,a51,a52,a53,a54,a55,a56,a57,a58,a59,a60,a61,a62,a63,a64,a65,a66,a67,a68,a69,a70,a71,a72,a73,a74,a75,a76,a77,a78,a79,a80,a81,a82,a83,a84,a85,a86,a87,a88,a89,a90,a91,a92,a93,a94,a95,a96,a97,a98,a99,a100,a101,a102,a103,a104,a105,a106,a107,a108,a109,a110,a111,a112,a113,a114,a115,a116,a117,a118,a119,a120,a121,a122,a123,a124,a125,a126,a127,a128,a129,a130,a131,a132,a133,a134,a135,a136,a137,a138,a139,a140,a141,a142,a143,a144,a145,a146,a147,a148,a149,a150,a151,a152,a153,a154,a155,a156,a157,a158,a159,a160,a161,a162,a163,a164,a165,a166,a167,a168,a169,a170,a171,a172,a173,a174,a175,a176,a177,a178,a179,a180,a181,a182,a183,a184,a185,a186,a187,a188,a189,a190,a191,a192,a193,a194,a195,a196,a197,a198,a199,a200,a201,a202,a203,a204,a205,a206,a207,a208,a209,a210,a211,a212,a213,a214,a215,a216,a217,a218,a219,a220,a221,a222,a223,a224,a225,a226,a227,a228,a229,a230,a231,a232,a233,a234,a235,a236,a237,a238,a239,a240,a241,a242,a243,a244,a245,a246,a247,a248,a249,a250,a251,a252,a253,a254,a255,a256,a257,a258,a259,a260,a261,a262,a263,a264,a265,a266,a267,a268,a269,a270,a271,a272,a273,a274,a275,a276,a277,a278,a279,a280,a281,a282,a283,a284,a285,a286,a287,a288,a289,a290,a291,a292,a293,a294,a295,a296,a297,a298,a299,a300,a301,a302,a303,a304,a305,a306,a307,a308,a309,a310,a311,a312,a313,a314]
    exact rfl
noncomputable def pD:Program:=pS.1
theorem pD_eq:PySem.Challenge.pw_rg0226_04 = pD:=pS.2
noncomputable def stm (i:Nat):Stmt:=pD.main.body.getD i (.Pass default)
noncomputable def sub (s:Stmt) (j:Nat):Stmt:=match s with
  | .ClassDef _ _ _ b _ _ _ _ _ _ _ => b.getD j (.Pass default)
  | s => s
noncomputable def fo (s:Stmt) (q:Str) (gl:Addr) (cl:List (Str × Addr)) (dV kV doc pm:Value) (an:Option Addr) (code ct:Value) (bi:Addr):Data:=match s with
  | .FunctionDef name args body _ _ _ scope _ _ _ => .func { name:=name,qualname:=q,params:=args,body:=.stmts body,scope:=scope,globals:=gl,closure:=cl,defaults:=dV,kwdefaults:=kV,doc:=doc,pyModule:=pm,annotations:=an,code:=code,closureTuple:=ct,builtins:=bi }
  | _ => .plain
noncomputable abbrev zy0:Value:=.type PySem.W.SL.s2766695959194262286x5
noncomputable abbrev zy1:Value:=.type PySem.W.SL.s5856160107412720595x4
noncomputable abbrev zy2:Value:=.type PySem.W.SL.s7174869446012820540x8
noncomputable abbrev zy3:Value:=.type PySem.W.SL.s14018661285674007319x4
noncomputable abbrev zy4:Value:=.type PySem.W.SL.s17162191345867700912x4
noncomputable abbrev zy5:Value:=.type PySem.W.SL.s11030030927630378310x26
noncomputable abbrev zy6:Value:=.type PySem.W.SL.s2742458400755230247x6
noncomputable abbrev zy7:Value:=.type PySem.W.SL.s658472552662922059x5
noncomputable abbrev zy8:Value:=.type PySem.W.SL.s4290257624100764138x5
noncomputable abbrev zy9:Value:=.builtin PySem.W.SL.s7097527257260152453x26
noncomputable abbrev zy10:Value:=.builtin PySem.W.SL.s10062305145149207511x16
noncomputable abbrev zy11:Value:=.builtin PySem.W.SL.s4860613602091757760x24
noncomputable abbrev zy12:Value:=.builtin PySem.W.SL.s11443829558043349243x14
noncomputable abbrev zy13:Value:=.type PySem.W.SL.s5946037652744460706x9
noncomputable abbrev zy14:Value:=.type PySem.W.SL.s4278001404047624695x13
noncomputable abbrev zy15:Value:=.type PySem.W.SL.s14755015743595814543x17
noncomputable abbrev zy16:Value:=.builtin PySem.W.SL.s5160863994218179198x17
noncomputable abbrev zy17:Value:=.type PySem.W.SL.s10852414792293593619x7
noncomputable abbrev zy18:Value:=.type PySem.W.SL.s15660640913423913556x4
noncomputable abbrev zy19:Value:=.builtin PySem.W.SL.s10220274742760427390x26
noncomputable abbrev zy20:Value:=.type PySem.W.SL.s6658869562736209489x6
noncomputable abbrev zy21:Value:=.builtin PySem.W.SL.s6511155373996960695x17
noncomputable abbrev zy22:Value:=.builtin PySem.W.SL.s12411053484034534018x21
noncomputable abbrev zc (y:Value) (a:Str) (ta:Nat) (b:Str) (tb:Nat) (c:Str) (tc n1 n2 n3 n4 n5 r1:Nat) (bo:Value) (n6 r2:Nat) (v:Value) (r3 r4 r5 n7 n8:Nat) (d:Str) (td:Nat):Obj:=⟨y,none,(.fields (zA [(zZ a ta),(zZ b tb),(zZ c tc),(zI n1),(zI n2),(zI n3),(zI n4),(zI n5),(zR r1),bo,(zI n6),(zR r2),v,(zR r3),(zR r4),(zR r5),(zI n7),(zI n8),(zZ d td)])),z0⟩
noncomputable abbrev zq (y:Value) (vs:List Value):Obj:=⟨y,none,(.seq (zA vs) 0),z0⟩
noncomputable def o0(P:Params):Obj:=⟨zy3,none,(.dict (zA [⟨zk P s161,zZ s161 1,(zZ s315 160)⟩,⟨zk P s316,zZ s316 2,(.builtin "builtins.__doc__:str#opaque")⟩,⟨zk P s317,zZ s317 3,(.builtin "builtins.__package__:str#opaque")⟩,⟨zk P s318,zZ s318 4,(.builtin "builtins.__loader__:shared#opaque")⟩,⟨zk P s319,zZ s319 5,(.builtin PySem.W.SL.s11665532747177232413x24)⟩,⟨zk P s320,zZ s320 6,(.builtin PySem.W.SL.s15183661809925369436x15)⟩,⟨zk P s321,zZ s321 7,(.builtin PySem.W.SL.s13915890719876406383x10)⟩,⟨zk P s236,zZ s236 8,(.builtin PySem.W.SL.s13459172003223722735x3)⟩,⟨zk P s322,zZ s322 9,(.builtin PySem.W.SL.s10557405761357834076x3)⟩,⟨zk P s88,zZ s88 10,(.builtin PySem.W.SL.s4233737765568776869x3)⟩,⟨zk P s323,zZ s323 11,(.builtin PySem.W.SL.s2508922471967985374x5)⟩,⟨zk P s324,zZ s324 12,(.builtin PySem.W.SL.s15574269061696679450x3)⟩,⟨zk P s325,zZ s325 13,(.builtin PySem.W.SL.s6016482663378992977x10)⟩,⟨zk P s326,zZ s326 14,(.builtin PySem.W.SL.s5596568736180474577x8)⟩,⟨zk P s327,zZ s327 15,(.builtin PySem.W.SL.s2839554839881490554x3)⟩,⟨zk P s328,zZ s328 16,(.builtin PySem.W.SL.s725004073602090463x7)⟩,⟨zk P s329,zZ s329 17,(.builtin PySem.W.SL.s9436932552931045734x7)⟩,⟨zk P s330,zZ s330 18,(.builtin PySem.W.SL.s2754603736356183583x3)⟩,⟨zk P s331,zZ s331 19,(.builtin PySem.W.SL.s15185746759980889043x6)⟩,⟨zk P s332,zZ s332 20,(.builtin PySem.W.SL.s8192189862530294059x4)⟩,⟨zk P s333,zZ s333 21,(.builtin PySem.W.SL.s7038307821325472102x4)⟩,⟨zk P s334,zZ s334 22,(.builtin PySem.W.SL.s5662562618415449548x6)⟩,⟨zk P s335,zZ s335 23,(.builtin PySem.W.SL.s15281542589158584767x7)⟩,⟨zk P s336,zZ s336 24,(.builtin PySem.W.SL.s17651547275483570877x7)⟩,⟨zk P s337,zZ s337 25,(.builtin PySem.W.SL.s4036449017235975746x7)⟩,⟨zk P s338,zZ s338 26,(.builtin PySem.W.SL.s8879979712987360175x4)⟩,⟨zk P s339,zZ s339 27,(.builtin PySem.W.SL.s1801250619170735830x3)⟩,⟨zk P s340,zZ s340 28,(.builtin PySem.W.SL.s17659931425627118568x2)⟩,⟨zk P s341,zZ s341 29,(.builtin PySem.W.SL.s6063217899685152688x5)⟩,⟨zk P s342,zZ s342 30,(.builtin PySem.W.SL.s8008927332132565319x10)⟩,⟨zk P s343,zZ s343 31,(.builtin PySem.W.SL.s3544116645089599534x10)⟩,⟨zk P s344,zZ s344 32,(.builtin PySem.W.SL.s13761710972054866084x4)⟩,⟨zk P s345,zZ s345 33,(.builtin PySem.W.SL.s12896375587409280029x5)⟩,⟨zk P s31,zZ s31 34,(.builtin PySem.W.SL.s13014049009108672802x3)⟩,⟨zk P s346,zZ s346 35,(.builtin PySem.W.SL.s13935586738268321596x6)⟩,⟨zk P s226,zZ s226 36,(.builtin PySem.W.SL.s8200498257699607233x3)⟩,⟨zk P s225,zZ s225 37,(.builtin PySem.W.SL.s14114244577727609259x3)⟩,⟨zk P s347,zZ s347 38,(.builtin PySem.W.SL.s1499430450269397089x4)⟩,⟨zk P s348,zZ s348 39,(.builtin PySem.W.SL.s8755793994789770505x5)⟩,⟨zk P s349,zZ s349 40,(.builtin PySem.W.SL.s15725212667919936108x3)⟩,⟨zk P s350,zZ s350 41,(.builtin PySem.W.SL.s15791221867095933363x3)⟩,⟨zk P s351,zZ s351 42,(.builtin PySem.W.SL.s81309575031448614x3)⟩,⟨zk P s352,zZ s352 43,(.builtin PySem.W.SL.s8069831620301644142x5)⟩,⟨zk P s353,zZ s353 44,(.builtin PySem.W.SL.s10061844253413749634x4)⟩,⟨zk P s354,zZ s354 45,(.builtin PySem.W.SL.s9496514870978017513x5)⟩,⟨zk P s355,zZ s355 46,(.builtin PySem.W.SL.s8899691144933366716x7)⟩,⟨zk P s87,zZ s87 47,(.builtin PySem.W.SL.s15201008993051130160x6)⟩,⟨zk P s14,zZ s14 48,(.builtin PySem.W.SL.s741896355592496720x3)⟩,⟨zk P s356,zZ s356 49,(.builtin PySem.W.SL.s17925004256654032244x4)⟩,⟨zk P s357,zZ s357 50,.none⟩,⟨zk P s358,zZ s358 51,.ellipsis⟩,⟨zk P s359,zZ s359 52,.notImplemented⟩,⟨zk P s360,zZ s360 53,(.bool false)⟩,⟨zk P s361,zZ s361 54,(.bool true)⟩,⟨zk P s362,zZ s362 55,(.type PySem.W.SL.s11695548795398191787x4)⟩,⟨zk P s363,zZ s363 56,(.type PySem.W.SL.s4156966113859768872x10)⟩,⟨zk P s364,zZ s364 57,(.type PySem.W.SL.s9501651726347032510x9)⟩,⟨zk P s365,zZ s365 58,(.type PySem.W.SL.s15722918466584999320x5)⟩,⟨zk P s366,zZ s366 59,(.type PySem.W.SL.s591115383303110208x11)⟩,⟨zk P s367,zZ s367 60,(.type PySem.W.SL.s15721156781594690315x7)⟩,⟨zk P s368,zZ s368 61,zy3⟩,⟨zk P s369,zZ s369 62,(.type PySem.W.SL.s14340494229221121180x9)⟩,⟨zk P s370,zZ s370 63,(.type PySem.W.SL.s13429844117177748173x6)⟩,⟨zk P s371,zZ s371 64,(.type PySem.W.SL.s16463266125957815391x5)⟩,⟨zk P s372,zZ s372 65,(.type PySem.W.SL.s4922535414793169389x9)⟩,⟨zk P s373,zZ s373 66,(.type PySem.W.SL.s8101838861749082086x8)⟩,⟨zk P s40,zZ s40 67,(.type PySem.W.SL.s7066276694103001551x3)⟩,⟨zk P s80,zZ s80 68,(.type PySem.W.SL.s9222952809800978799x4)⟩,⟨zk P s374,zZ s374 69,(.type PySem.W.SL.s462964344163437139x3)⟩,⟨zk P s375,zZ s375 70,zy6⟩,⟨zk P s24,zZ s24 71,(.type PySem.W.SL.s1438033511350832697x5)⟩,⟨zk P s81,zZ s81 72,(.type PySem.W.SL.s14365286008749172514x8)⟩,⟨zk P s376,zZ s376 73,(.type PySem.W.SL.s3642769012341782148x3)⟩,⟨zk P s377,zZ s377 74,(.type PySem.W.SL.s4674234679698826739x5)⟩,⟨zk P s378,zZ s378 75,(.type PySem.W.SL.s16656946322747308186x12)⟩,⟨zk P s379,zZ s379 76,(.type PySem.W.SL.s10796804682411823810x3)⟩,⟨zk P s121,zZ s121 77,zy8⟩,⟨zk P s199,zZ s199 78,zy0⟩,⟨zk P s380,zZ s380 79,zy4⟩,⟨zk P s231,zZ s231 80,(.type PySem.W.SL.s14339709457334898076x3)⟩,⟨zk P s381,zZ s381 81,(.bool true)⟩,⟨zk P s382,zZ s382 82,zy14⟩,⟨zk P s383,zZ s383 83,(.type PySem.W.SL.s6585700554429387442x18)⟩,⟨zk P s311,zZ s311 84,zy13⟩,⟨zk P s384,zZ s384 85,(.type PySem.W.SL.s7410770068591931388x13)⟩,⟨zk P s385,zZ s385 86,(.type PySem.W.SL.s11817881795495490833x17)⟩,⟨zk P s386,zZ s386 87,(.type PySem.W.SL.s15679963881808890155x10)⟩,⟨zk P s387,zZ s387 88,(.type PySem.W.SL.s3871700062485845797x15)⟩,⟨zk P s388,zZ s388 89,(.type PySem.W.SL.s7689518266570723881x14)⟩,⟨zk P s389,zZ s389 90,(.type PySem.W.SL.s9001593270443806431x14)⟩,⟨zk P s390,zZ s390 91,(.type PySem.W.SL.s6882542574934516792x11)⟩,⟨zk P s391,zZ s391 92,(.type PySem.W.SL.s14403400214490484960x8)⟩,⟨zk P s392,zZ s392 93,(.type PySem.W.SL.s14457978657717015782x11)⟩,⟨zk P s393,zZ s393 94,(.type PySem.W.SL.s1753610191782819921x11)⟩,⟨zk P s394,zZ s394 95,(.type PySem.W.SL.s14119380538032626715x11)⟩,⟨zk P s395,zZ s395 96,(.type PySem.W.SL.s11437920000406562045x9)⟩,⟨zk P s396,zZ s396 97,zy17⟩,⟨zk P s397,zZ s397 98,(.type PySem.W.SL.s14816307405966870543x14)⟩,⟨zk P s398,zZ s398 99,(.type PySem.W.SL.s8682627914449686677x12)⟩,⟨zk P s399,zZ s399 100,(.type PySem.W.SL.s4428170145600203450x18)⟩,⟨zk P s400,zZ s400 101,(.type PySem.W.SL.s5991306692159431302x13)⟩,⟨zk P s401,zZ s401 102,(.type PySem.W.SL.s16067994140765818257x11)⟩,⟨zk P s402,zZ s402 103,(.type PySem.W.SL.s2327743974964600596x11)⟩,⟨zk P s403,zZ s403 104,(.type PySem.W.SL.s2804747833354056582x9)⟩,⟨zk P s404,zZ s404 105,(.type PySem.W.SL.s6070975301684473832x10)⟩,⟨zk P s405,zZ s405 106,(.type PySem.W.SL.s14270485950484850486x7)⟩,⟨zk P s406,zZ s406 107,(.type PySem.W.SL.s12041534306414923332x18)⟩,⟨zk P s407,zZ s407 108,(.type PySem.W.SL.s2531307568338490285x13)⟩,⟨zk P s408,zZ s408 109,(.type PySem.W.SL.s631175304937289666x17)⟩,⟨zk P s409,zZ s409 110,(.type PySem.W.SL.s5144983644357021410x12)⟩,⟨zk P s410,zZ s410 111,(.type PySem.W.SL.s18039099521571816885x18)⟩,⟨zk P s411,zZ s411 112,(.type PySem.W.SL.s6011586214260557989x15)⟩,⟨zk P s412,zZ s412 113,(.type PySem.W.SL.s5430567037509283100x13)⟩,⟨zk P s413,zZ s413 114,(.type PySem.W.SL.s8117915138073963741x13)⟩,⟨zk P s414,zZ s414 115,(.type PySem.W.SL.s3423317712779056401x25)⟩,⟨zk P s415,zZ s415 116,(.type PySem.W.SL.s2007317383269046180x15)⟩,⟨zk P s416,zZ s416 117,(.type PySem.W.SL.s17481586968713580700x14)⟩,⟨zk P s417,zZ s417 118,(.type PySem.W.SL.s2450899226349176912x13)⟩,⟨zk P s418,zZ s418 119,(.type PySem.W.SL.s16626165730633575011x14)⟩,⟨zk P s419,zZ s419 120,(.type PySem.W.SL.s14288496050688921416x11)⟩,⟨zk P s420,zZ s420 121,(.type PySem.W.SL.s5735081916595925998x15)⟩,⟨zk P s421,zZ s421 122,(.type PySem.W.SL.s3865607918536308442x17)⟩,⟨zk P s422,zZ s422 123,(.type PySem.W.SL.s13337502604062700212x15)⟩,⟨zk P s423,zZ s423 124,(.type PySem.W.SL.s13114017843053701147x15)⟩,⟨zk P s424,zZ s424 125,(.type PySem.W.SL.s17467278006356818441x17)⟩,⟨zk P s425,zZ s425 126,(.type PySem.W.SL.s17722149559621369488x16)⟩,⟨zk P s426,zZ s426 127,(.type PySem.W.SL.s7855274175708717672x17)⟩,⟨zk P s427,zZ s427 128,(.type PySem.W.SL.s13351283678309829046x18)⟩,⟨zk P s428,zZ s428 129,(.type PySem.W.SL.s6668348653404991179x15)⟩,⟨zk P s429,zZ s429 130,(.type PySem.W.SL.s12913350958174193794x18)⟩,⟨zk P s430,zZ s430 131,(.type PySem.W.SL.s16115879512475548326x12)⟩,⟨zk P s431,zZ s431 132,(.type PySem.W.SL.s15920661018069861047x16)⟩,⟨zk P s432,zZ s432 133,(.type PySem.W.SL.s10779130036587390575x21)⟩,⟨zk P s433,zZ s433 134,(.type PySem.W.SL.s7801419657504700863x10)⟩,⟨zk P s434,zZ s434 135,(.type PySem.W.SL.s1688129525768580628x8)⟩,⟨zk P s435,zZ s435 136,(.type PySem.W.SL.s1031832959479892071x19)⟩,⟨zk P s436,zZ s436 137,(.type PySem.W.SL.s8991790508128307865x19)⟩,⟨zk P s437,zZ s437 138,(.type PySem.W.SL.s14539662485746970245x23)⟩,⟨zk P s438,zZ s438 139,(.type PySem.W.SL.s11643622729373238714x14)⟩,⟨zk P s439,zZ s439 140,(.type PySem.W.SL.s3386828779285465597x17)⟩,⟨zk P s440,zZ s440 141,(.type PySem.W.SL.s13042696260734638735x12)⟩,⟨zk P s441,zZ s441 142,(.type PySem.W.SL.s18239426817015966623x15)⟩,⟨zk P s442,zZ s442 143,(.type PySem.W.SL.s1270395311379034370x22)⟩,⟨zk P s443,zZ s443 144,(.type PySem.W.SL.s10696252587037064777x22)⟩,⟨zk P s444,zZ s444 145,(.type PySem.W.SL.s7852717498200857586x20)⟩,⟨zk P s445,zZ s445 146,(.type PySem.W.SL.s6377248116197321094x8)⟩,⟨zk P s446,zZ s446 147,(.type PySem.W.SL.s3834378056692298002x18)⟩,⟨zk P s447,zZ s447 148,(.type PySem.W.SL.s17586630440231065808x18)⟩,⟨zk P s448,zZ s448 149,(.type PySem.W.SL.s15234114252648025395x21)⟩,⟨zk P s449,zZ s449 150,(.type PySem.W.SL.s8496462677383758984x14)⟩,⟨zk P s450,zZ s450 151,zy17⟩,⟨zk P s451,zZ s451 152,zy17⟩,⟨zk P s452,zZ s452 153,(.builtin PySem.W.SL.s16789243406116112673x4)⟩,⟨zk P s453,zZ s453 154,(.builtin PySem.W.SL.s14400166428656793546x20)⟩,⟨zk P s454,zZ s454 155,(.builtin PySem.W.SL.s5857708277339239366x20)⟩,⟨zk P s455,zZ s455 156,(.builtin "builtins.copyright#opaque")⟩,⟨zk P s456,zZ s456 157,(.builtin "builtins.credits#opaque")⟩,⟨zk P s457,zZ s457 158,(.builtin "builtins.license#opaque")⟩,⟨zk P s458,zZ s458 159,(.builtin PySem.W.SL.s7804999707787243718x20)⟩]) 159),z0⟩
noncomputable def o1(P:Params):Obj:=⟨zy3,none,(.dict (zA [⟨zk P s315,zZ s315 162,(zR 4)⟩,⟨zk P s459,zZ s459 163,(zR 5)⟩]) 2),z0⟩
noncomputable def o2(P:Params):Obj:=⟨.none,none,(.dict (zA [⟨zk P s460,zZ s460 230,(zI 47)⟩,⟨zk P s461,zZ s461 231,(zI 1)⟩]) 2),z0⟩
noncomputable def o3(P:Params):Obj:=⟨zy3,none,(.dict (zA [⟨zk P s161,zZ s161 165,(zZ s162 1600)⟩,⟨zk P s316,zZ s316 166,.none⟩,⟨zk P s317,zZ s317 167,.none⟩,⟨zk P s318,zZ s318 168,zy9⟩,⟨zk P s319,zZ s319 169,.none⟩,⟨zk P s462,zZ s462 170,(zR 6)⟩,⟨zk P s463,zZ s463 171,(zR 4)⟩,⟨zk P s464,zZ s464 173,(zZ s314 172)⟩,⟨zk P s465,zZ s465 174,.none⟩,⟨zk P s72,zZ s72 193,(zR 21)⟩,⟨zk P s299,zZ s299 233,(zR 47)⟩,⟨zk P s214,zZ s214 256,(zR 67)⟩,⟨zk P s238,zZ s238 279,(zR 86)⟩,⟨zk P s296,zZ s296 302,(zR 105)⟩,⟨zk P s303,zZ s303 312,(zR 114)⟩,⟨zk P s304,zZ s304 321,(zR 121)⟩,⟨zk P s251,zZ s251 329,(zR 128)⟩,⟨zk P s244,zZ s244 336,(zR 135)⟩,⟨zk P s293,zZ s293 345,(zR 142)⟩,⟨zk P s297,zZ s297 353,(zR 149)⟩,⟨zk P s145,zZ s145 362,(zR 156)⟩,⟨zk P s294,zZ s294 371,(zR 163)⟩,⟨zk P s295,zZ s295 379,(zR 170)⟩,⟨zk P s292,zZ s292 389,(zR 177)⟩,⟨zk P s150,zZ s150 399,(zR 184)⟩,⟨zk P s151,zZ s151 408,(zR 191)⟩,⟨zk P s157,zZ s157 417,(zR 198)⟩,⟨zk P s108,zZ s108 419,(.int (.ofNat 0) 418)⟩,⟨zk P s194,zZ s194 421,(.int (.ofNat 1) 420)⟩,⟨zk P s195,zZ s195 423,(.int (.ofNat 2) 422)⟩,⟨zk P s261,zZ s261 425,(.int (.ofNat 4096) 424)⟩,⟨zk P s237,zZ s237 429,(.int (.ofNat 65536) 428)⟩,⟨zk P s60,zZ s60 440,(zR 199)⟩,⟨zk P s269,zZ s269 445,(zR 200)⟩,⟨zk P s211,zZ s211 450,(zR 201)⟩,⟨zk P s167,zZ s167 728,(zR 414)⟩,⟨zk P s221,zZ s221 861,(zR 519)⟩,⟨zk P s235,zZ s235 868,(zR 528)⟩,⟨zk P s241,zZ s241 982,(zR 615)⟩,⟨zk P s46,zZ s46 1138,(zR 734)⟩,⟨zk P s62,zZ s62 1142,(.int (.ofNat 50) 1141)⟩,⟨zk P s63,zZ s63 1326,(zR 859)⟩,⟨zk P s47,zZ s47 1599,(zR 1053)⟩,⟨zk P s53,zZ s53 1611,(zR 1062)⟩,⟨zk P s55,zZ s55 1626,(zR 1069)⟩,⟨zk P s0,zZ s0 1638,(zR 1076)⟩,⟨zk P s15,zZ s15 1644,(zR 1081)⟩,⟨zk P s21,zZ s21 1650,(zR 1086)⟩,⟨zk P s26,zZ s26 1656,(zR 1091)⟩,⟨zk P s32,zZ s32 1677,(zR 1098)⟩,⟨zk P s42,zZ s42 1683,(zR 1103)⟩]) 51),z0⟩
noncomputable def o4(P:Params):Obj:=⟨zy20,(some 0),.plain,z0⟩
noncomputable def o5(P:Params):Obj:=⟨zy20,(some 3),.plain,z0⟩
noncomputable def o6(P:Params):Obj:=⟨zy3,none,(.dict (z0) 0),z0⟩
noncomputable def o7(P:Params):Obj:=⟨zy0,none,(.seq (z0) 0),z0⟩
noncomputable def o8(P:Params):Obj:=⟨.none,none,(.fields (z0)),z0⟩
noncomputable def o9(P:Params):Obj:=⟨zy1,none,(.fields (zA [(zZ s466 176),(zZ s466 177),(zZ s314 178),(zI 1),(zI 0),(zI 0),(zI 0),(zI 0),(zR 7),(.bool false),(zI 175),(zR 8),.none,.none,.none,.none,(zI 179),(zI 1),(zZ s314 180)])),z0⟩
noncomputable def o10(P:Params):Obj:=⟨zy7,none,.plain,zA [(some (zR 9)),(some (zR 3)),(some (zR 3)),none,(some (zZ s459 164)),none,(some (zR 0))]⟩
noncomputable def o11(P:Params):Obj:=⟨zy0,none,(.seq (z0) 0),z0⟩
noncomputable def o12(P:Params):Obj:=⟨.none,none,(.fields (zA [(zI 1),(zI 0),(zR 20),(zI 5),(zI 0),(zR 28),(zI 13),(zI 0),(zR 56),(zI 17),(zI 0),(zR 75),(zI 21),(zI 0),(zR 94),(zI 26),(zI 0),(zR 113),(zI 31),(zI 0),(zR 120),(zI 38),(zI 0),(zR 127),(zI 42),(zI 0),(zR 134),(zI 45),(zI 0),(zR 141),(zI 47),(zI 0),(zR 148),(zI 49),(zI 0),(zR 155),(zI 55),(zI 0),(zR 162),(zI 57),(zI 0),(zR 169),(zI 59),(zI 0),(zR 176),(zI 63),(zI 0),(zR 183),(zI 83),(zI 0),(zR 190),(zI 85),(zI 0),(zR 197),(zI 95),(zI 0),(zR 207),(zI 209),(zI 0),(zR 424),(zI 273),(zI 0),(zR 527),(zI 276),(zI 0),(zR 534),(zI 326),(zI 0),(zR 624),(zI 412),(zI 0),(zR 742),(zI 535),(zI 0),(zR 870),(zI 663),(zI 0),(zR 1061),(zI 667),(zI 0),(zR 1068),(zI 679),(zI 0),(zR 1075),(zI 693),(zI 0),(zR 1080),(zI 698),(zI 0),(zR 1085),(zI 706),(zI 0),(zR 1090),(zI 711),(zI 0),(zR 1097),(zI 726),(zI 0),(zR 1102)])),z0⟩
noncomputable def o13(P:Params):Obj:=⟨zy1,none,(.fields (zA [(zZ s466 182),(zZ s466 183),(zZ s314 184),(zI 1),(zI 0),(zI 0),(zI 0),(zI 0),(zR 11),(.bool false),(zI 181),(zR 12),.none,.none,.none,.none,(zI 185),(zI 1),(zZ s314 186)])),z0⟩
noncomputable def o14(P:Params):Obj:=⟨zy7,none,.plain,zA [(some (zR 13)),(some (zR 3)),(some (zR 3)),none,(some (zZ s459 164)),none,(some (zR 0))]⟩
noncomputable def o15(P:Params):Obj:=⟨zy0,none,(.seq (z0) 0),z0⟩
noncomputable def o16(P:Params):Obj:=⟨.none,none,(.fields (z0)),z0⟩
noncomputable def o17(P:Params):Obj:=zq zy0 [(zZ s309 190)]
noncomputable def o18(P:Params):Obj:=⟨zy0,none,(.seq (z0) 0),z0⟩
noncomputable def o19(P:Params):Obj:=⟨.none,none,(fo (stm 0) s72 0 [] .none .none .none .none none .none .none 0),z0⟩
noncomputable def o20(P:Params):Obj:=zc zy1 s72 187 s72 188 s314 189 1 1 0 0 3 15 (.bool true) 181 16 .none 17 18 19 191 1 s314 192
noncomputable def o21(P:Params):Obj:=⟨zy2,none,(fo (stm 0) s72 3 [] .none .none .none (zZ s459 164) none (zR 20) .none 0),z0⟩
noncomputable def o22(P:Params):Obj:=zq zy0 [zy13]
noncomputable def o23(P:Params):Obj:=⟨zy5,none,(.fields (zA [zy10,zy4])),z0⟩
noncomputable def o24(P:Params):Obj:=⟨zy3,none,(.dict (zA [⟨zk P s467,zZ s467 203,(zZ s310 194)⟩,⟨zk P s468,zZ s468 205,(zZ s299 204)⟩,⟨zk P s469,zZ s469 207,(.int (.ofNat 5) 206)⟩,⟨zk P s64,zZ s64 216,(zR 37)⟩,⟨zk P s35,zZ s35 223,(zR 44)⟩,⟨zk P s470,zZ s470 225,(zR 45)⟩,⟨zk P s471,zZ s471 226,(zR 25)⟩]) 7),z0⟩
noncomputable def o25(P:Params):Obj:=⟨zy18,none,(.cell (some (zR 47))),z0⟩
noncomputable def o26(P:Params):Obj:=⟨zy0,none,(.seq (z0) 0),z0⟩
noncomputable def o27(P:Params):Obj:=⟨.none,none,(.fields (zA [(zI 7),(zI 4),(zR 36),(zI 11),(zI 4),(zR 43)])),z0⟩
noncomputable def o28(P:Params):Obj:=⟨zy1,none,(.fields (zA [(zZ s299 198),(zZ s299 199),(zZ s314 200),(zI 5),(zI 0),(zI 0),(zI 0),(zI 0),(zR 26),(.bool false),(zI 181),(zR 27),.none,.none,.none,.none,(zI 201),(zI 5),(zZ s314 202)])),z0⟩
noncomputable def o29(P:Params):Obj:=⟨zy7,none,.plain,zA [(some (zR 28)),(some (zR 3)),(some (zR 24)),none,(some (zZ s310 194)),none,(some (zR 0))]⟩
noncomputable def o30(P:Params):Obj:=zq zy0 [(zR 25)]
noncomputable def o31(P:Params):Obj:=zq zy0 [(zZ s122 211)]
noncomputable def o32(P:Params):Obj:=⟨.none,none,(.fields (z0)),z0⟩
noncomputable def o33(P:Params):Obj:=zq zy0 [(zZ s65 212),(zZ s301 213)]
noncomputable def o34(P:Params):Obj:=⟨zy0,none,(.seq (z0) 0),z0⟩
noncomputable def o35(P:Params):Obj:=⟨.none,none,(fo (sub (stm 2) 0) s472 0 [] .none .none .none .none none .none .none 0),z0⟩
noncomputable def o36(P:Params):Obj:=zc zy1 s64 208 s472 209 s314 210 7 2 0 0 3 31 (.bool true) 181 32 .none 33 34 35 214 7 s314 215
noncomputable def o37(P:Params):Obj:=⟨zy2,none,(fo (sub (stm 2) 0) s472 3 [(s122,25)] .none .none .none (zZ s310 194) none (zR 36) (zR 30) 0),z0⟩
noncomputable def o38(P:Params):Obj:=⟨zy0,none,(.seq (z0) 0),z0⟩
noncomputable def o39(P:Params):Obj:=⟨.none,none,(.fields (z0)),z0⟩
noncomputable def o40(P:Params):Obj:=zq zy0 [(zZ s65 220)]
noncomputable def o41(P:Params):Obj:=⟨zy0,none,(.seq (z0) 0),z0⟩
noncomputable def o42(P:Params):Obj:=⟨.none,none,(fo (sub (stm 2) 1) s473 0 [] .none .none .none .none none .none .none 0),z0⟩
noncomputable def o43(P:Params):Obj:=zc zy1 s35 217 s473 218 s314 219 11 1 0 0 3 38 (.bool true) 181 39 .none 40 41 42 221 11 s314 222
noncomputable def o44(P:Params):Obj:=⟨zy2,none,(fo (sub (stm 2) 1) s473 3 [] .none .none .none (zZ s310 194) none (zR 43) .none 0),z0⟩
noncomputable def o45(P:Params):Obj:=zq zy0 [(zZ s301 224)]
noncomputable def o46(P:Params):Obj:=⟨zy3,none,(.dict (zA [⟨zk P s467,zZ s467 203,(zZ s310 194)⟩,⟨zk P s469,zZ s469 207,(.int (.ofNat 5) 206)⟩,⟨zk P s64,zZ s64 216,(zR 37)⟩,⟨zk P s35,zZ s35 223,(zR 44)⟩,⟨zk P s470,zZ s470 225,(zR 45)⟩,⟨zk P s474,zZ s474 228,(zR 48)⟩,⟨zk P s316,zZ s316 229,.none⟩]) 4),z0⟩
noncomputable def o47(P:Params):Obj:=⟨zy4,none,(.cls ⟨s299,[zy13],[(zR 47),zy13,zy14,zy6],46,s299,true,[],[(zR 67),(zR 86),(zR 105)],false,none,false⟩),zA [(some (zR 22)),none,(some (zZ s299 196)),(some (zZ s299 204)),(some zy16),(some (.bool true))]⟩
noncomputable def o48(P:Params):Obj:=⟨zy15,none,(.fields (zA [(zZ s474 227),(zR 47),zy19,.none])),z0⟩
noncomputable def o49(P:Params):Obj:=⟨zy8,none,(.fields (zA [(zR 47),(zR 47),(zR 47)])),z0⟩
noncomputable def o50(P:Params):Obj:=⟨zy5,none,(.fields (zA [zy11,(zR 47)])),z0⟩
noncomputable def o51(P:Params):Obj:=zq zy0 [(zR 47)]
noncomputable def o52(P:Params):Obj:=⟨zy5,none,(.fields (zA [zy10,zy4])),z0⟩
noncomputable def o53(P:Params):Obj:=⟨zy3,none,(.dict (zA [⟨zk P s467,zZ s467 241,(zZ s310 194)⟩,⟨zk P s468,zZ s468 243,(zZ s214 242)⟩,⟨zk P s469,zZ s469 245,(.int (.ofNat 13) 244)⟩,⟨zk P s35,zZ s35 252,(zR 64)⟩,⟨zk P s470,zZ s470 253,(zR 65)⟩]) 5),z0⟩
noncomputable def o54(P:Params):Obj:=⟨zy0,none,(.seq (z0) 0),z0⟩
noncomputable def o55(P:Params):Obj:=⟨.none,none,(.fields (zA [(zI 15),(zI 4),(zR 63)])),z0⟩
noncomputable def o56(P:Params):Obj:=⟨zy1,none,(.fields (zA [(zZ s214 236),(zZ s214 237),(zZ s314 238),(zI 13),(zI 0),(zI 0),(zI 0),(zI 0),(zR 54),(.bool false),(zI 181),(zR 55),.none,.none,.none,.none,(zI 239),(zI 13),(zZ s314 240)])),z0⟩
noncomputable def o57(P:Params):Obj:=⟨zy7,none,.plain,zA [(some (zR 56)),(some (zR 3)),(some (zR 53)),none,(some (zZ s310 194)),none,(some (zR 0))]⟩
noncomputable def o58(P:Params):Obj:=⟨zy0,none,(.seq (z0) 0),z0⟩
noncomputable def o59(P:Params):Obj:=⟨.none,none,(.fields (z0)),z0⟩
noncomputable def o60(P:Params):Obj:=zq zy0 [(zZ s65 249)]
noncomputable def o61(P:Params):Obj:=⟨zy0,none,(.seq (z0) 0),z0⟩
noncomputable def o62(P:Params):Obj:=⟨.none,none,(fo (sub (stm 3) 0) s475 0 [] .none .none .none .none none .none .none 0),z0⟩
noncomputable def o63(P:Params):Obj:=zc zy1 s35 246 s475 247 s314 248 15 1 0 0 3 58 (.bool true) 181 59 .none 60 61 62 250 15 s314 251
noncomputable def o64(P:Params):Obj:=⟨zy2,none,(fo (sub (stm 3) 0) s475 3 [] .none .none .none (zZ s310 194) none (zR 63) .none 0),z0⟩
noncomputable def o65(P:Params):Obj:=⟨zy0,none,(.seq (z0) 0),z0⟩
noncomputable def o66(P:Params):Obj:=⟨zy3,none,(.dict (zA [⟨zk P s467,zZ s467 241,(zZ s310 194)⟩,⟨zk P s469,zZ s469 245,(.int (.ofNat 13) 244)⟩,⟨zk P s35,zZ s35 252,(zR 64)⟩,⟨zk P s470,zZ s470 253,(zR 65)⟩,⟨zk P s316,zZ s316 254,.none⟩]) 2),z0⟩
noncomputable def o67(P:Params):Obj:=⟨zy4,none,(.cls ⟨s214,[(zR 47)],[(zR 67),(zR 47),zy13,zy14,zy6],66,s214,true,[],[],false,none,false⟩),zA [(some (zR 51)),none,(some (zZ s214 234)),(some (zZ s214 242)),(some zy16),(some (.bool true))]⟩
noncomputable def o68(P:Params):Obj:=⟨zy8,none,(.fields (zA [(zR 67),(zR 67),(zR 67)])),z0⟩
noncomputable def o69(P:Params):Obj:=⟨zy5,none,(.fields (zA [zy11,(zR 67)])),z0⟩
noncomputable def o70(P:Params):Obj:=zq zy0 [(zR 47)]
noncomputable def o71(P:Params):Obj:=⟨zy5,none,(.fields (zA [zy10,zy4])),z0⟩
noncomputable def o72(P:Params):Obj:=⟨zy3,none,(.dict (zA [⟨zk P s467,zZ s467 264,(zZ s310 194)⟩,⟨zk P s468,zZ s468 266,(zZ s238 265)⟩,⟨zk P s469,zZ s469 268,(.int (.ofNat 17) 267)⟩,⟨zk P s35,zZ s35 275,(zR 83)⟩,⟨zk P s470,zZ s470 276,(zR 84)⟩]) 5),z0⟩
noncomputable def o73(P:Params):Obj:=⟨zy0,none,(.seq (z0) 0),z0⟩
noncomputable def o74(P:Params):Obj:=⟨.none,none,(.fields (zA [(zI 19),(zI 4),(zR 82)])),z0⟩
noncomputable def o75(P:Params):Obj:=⟨zy1,none,(.fields (zA [(zZ s238 259),(zZ s238 260),(zZ s314 261),(zI 17),(zI 0),(zI 0),(zI 0),(zI 0),(zR 73),(.bool false),(zI 181),(zR 74),.none,.none,.none,.none,(zI 262),(zI 17),(zZ s314 263)])),z0⟩
noncomputable def o76(P:Params):Obj:=⟨zy7,none,.plain,zA [(some (zR 75)),(some (zR 3)),(some (zR 72)),none,(some (zZ s310 194)),none,(some (zR 0))]⟩
noncomputable def o77(P:Params):Obj:=⟨zy0,none,(.seq (z0) 0),z0⟩
noncomputable def o78(P:Params):Obj:=⟨.none,none,(.fields (z0)),z0⟩
noncomputable def o79(P:Params):Obj:=zq zy0 [(zZ s65 272)]
noncomputable def o80(P:Params):Obj:=⟨zy0,none,(.seq (z0) 0),z0⟩
noncomputable def o81(P:Params):Obj:=⟨.none,none,(fo (sub (stm 4) 0) s476 0 [] .none .none .none .none none .none .none 0),z0⟩
noncomputable def o82(P:Params):Obj:=zc zy1 s35 269 s476 270 s314 271 19 1 0 0 3 77 (.bool true) 181 78 .none 79 80 81 273 19 s314 274
noncomputable def o83(P:Params):Obj:=⟨zy2,none,(fo (sub (stm 4) 0) s476 3 [] .none .none .none (zZ s310 194) none (zR 82) .none 0),z0⟩
noncomputable def o84(P:Params):Obj:=⟨zy0,none,(.seq (z0) 0),z0⟩
noncomputable def o85(P:Params):Obj:=⟨zy3,none,(.dict (zA [⟨zk P s467,zZ s467 264,(zZ s310 194)⟩,⟨zk P s469,zZ s469 268,(.int (.ofNat 17) 267)⟩,⟨zk P s35,zZ s35 275,(zR 83)⟩,⟨zk P s470,zZ s470 276,(zR 84)⟩,⟨zk P s316,zZ s316 277,.none⟩]) 2),z0⟩
noncomputable def o86(P:Params):Obj:=⟨zy4,none,(.cls ⟨s238,[(zR 47)],[(zR 86),(zR 47),zy13,zy14,zy6],85,s238,true,[],[],false,none,false⟩),zA [(some (zR 70)),none,(some (zZ s238 257)),(some (zZ s238 265)),(some zy16),(some (.bool true))]⟩
noncomputable def o87(P:Params):Obj:=⟨zy8,none,(.fields (zA [(zR 86),(zR 86),(zR 86)])),z0⟩
noncomputable def o88(P:Params):Obj:=⟨zy5,none,(.fields (zA [zy11,(zR 86)])),z0⟩
noncomputable def o89(P:Params):Obj:=zq zy0 [(zR 47)]
noncomputable def o90(P:Params):Obj:=⟨zy5,none,(.fields (zA [zy10,zy4])),z0⟩
noncomputable def o91(P:Params):Obj:=⟨zy3,none,(.dict (zA [⟨zk P s467,zZ s467 287,(zZ s310 194)⟩,⟨zk P s468,zZ s468 289,(zZ s296 288)⟩,⟨zk P s469,zZ s469 291,(.int (.ofNat 21) 290)⟩,⟨zk P s35,zZ s35 298,(zR 102)⟩,⟨zk P s470,zZ s470 299,(zR 103)⟩]) 5),z0⟩
noncomputable def o92(P:Params):Obj:=⟨zy0,none,(.seq (z0) 0),z0⟩
noncomputable def o93(P:Params):Obj:=⟨.none,none,(.fields (zA [(zI 23),(zI 4),(zR 101)])),z0⟩
noncomputable def o94(P:Params):Obj:=⟨zy1,none,(.fields (zA [(zZ s296 282),(zZ s296 283),(zZ s314 284),(zI 21),(zI 0),(zI 0),(zI 0),(zI 0),(zR 92),(.bool false),(zI 181),(zR 93),.none,.none,.none,.none,(zI 285),(zI 21),(zZ s314 286)])),z0⟩
noncomputable def o95(P:Params):Obj:=⟨zy7,none,.plain,zA [(some (zR 94)),(some (zR 3)),(some (zR 91)),none,(some (zZ s310 194)),none,(some (zR 0))]⟩
noncomputable def o96(P:Params):Obj:=⟨zy0,none,(.seq (z0) 0),z0⟩
noncomputable def o97(P:Params):Obj:=⟨.none,none,(.fields (z0)),z0⟩
noncomputable def o98(P:Params):Obj:=zq zy0 [(zZ s65 295)]
noncomputable def o99(P:Params):Obj:=⟨zy0,none,(.seq (z0) 0),z0⟩
noncomputable def o100(P:Params):Obj:=⟨.none,none,(fo (sub (stm 5) 0) s477 0 [] .none .none .none .none none .none .none 0),z0⟩
noncomputable def o101(P:Params):Obj:=zc zy1 s35 292 s477 293 s314 294 23 1 0 0 3 96 (.bool true) 181 97 .none 98 99 100 296 23 s314 297
noncomputable def o102(P:Params):Obj:=⟨zy2,none,(fo (sub (stm 5) 0) s477 3 [] .none .none .none (zZ s310 194) none (zR 101) .none 0),z0⟩
noncomputable def o103(P:Params):Obj:=⟨zy0,none,(.seq (z0) 0),z0⟩
noncomputable def o104(P:Params):Obj:=⟨zy3,none,(.dict (zA [⟨zk P s467,zZ s467 287,(zZ s310 194)⟩,⟨zk P s469,zZ s469 291,(.int (.ofNat 21) 290)⟩,⟨zk P s35,zZ s35 298,(zR 102)⟩,⟨zk P s470,zZ s470 299,(zR 103)⟩,⟨zk P s316,zZ s316 300,.none⟩]) 2),z0⟩
noncomputable def o105(P:Params):Obj:=⟨zy4,none,(.cls ⟨s296,[(zR 47)],[(zR 105),(zR 47),zy13,zy14,zy6],104,s296,true,[],[],false,none,false⟩),zA [(some (zR 89)),none,(some (zZ s296 280)),(some (zZ s296 288)),(some zy16),(some (.bool true))]⟩
noncomputable def o106(P:Params):Obj:=⟨zy8,none,(.fields (zA [(zR 105),(zR 105),(zR 105)])),z0⟩
noncomputable def o107(P:Params):Obj:=⟨zy5,none,(.fields (zA [zy11,(zR 105)])),z0⟩
noncomputable def o108(P:Params):Obj:=⟨zy0,none,(.seq (z0) 0),z0⟩
noncomputable def o109(P:Params):Obj:=⟨.none,none,(.fields (z0)),z0⟩
noncomputable def o110(P:Params):Obj:=zq zy0 [(zZ s97 308),(zZ s98 309)]
noncomputable def o111(P:Params):Obj:=⟨zy0,none,(.seq (z0) 0),z0⟩
noncomputable def o112(P:Params):Obj:=⟨.none,none,(fo (stm 7) s303 0 [] .none .none .none .none none .none .none 0),z0⟩
noncomputable def o113(P:Params):Obj:=zc zy1 s303 305 s303 306 s314 307 26 2 0 0 3 108 (.bool true) 181 109 .none 110 111 112 310 26 s314 311
noncomputable def o114(P:Params):Obj:=⟨zy2,none,(fo (stm 7) s303 3 [] .none .none .none (zZ s302 303) none (zR 113) .none 0),z0⟩
noncomputable def o115(P:Params):Obj:=⟨zy0,none,(.seq (z0) 0),z0⟩
noncomputable def o116(P:Params):Obj:=⟨.none,none,(.fields (z0)),z0⟩
noncomputable def o117(P:Params):Obj:=zq zy0 [(zZ s305 316),(zZ s306 317),(zZ s308 318)]
noncomputable def o118(P:Params):Obj:=⟨zy0,none,(.seq (z0) 0),z0⟩
noncomputable def o119(P:Params):Obj:=⟨.none,none,(fo (stm 8) s304 0 [] .none .none .none .none none .none .none 0),z0⟩
noncomputable def o120(P:Params):Obj:=zc zy1 s304 313 s304 314 s314 315 31 2 0 0 3 115 (.bool true) 181 116 .none 117 118 119 319 31 s314 320
noncomputable def o121(P:Params):Obj:=⟨zy2,none,(fo (stm 8) s304 3 [] .none .none .none (zZ s302 303) none (zR 120) .none 0),z0⟩
noncomputable def o122(P:Params):Obj:=⟨zy0,none,(.seq (z0) 0),z0⟩
noncomputable def o123(P:Params):Obj:=⟨.none,none,(.fields (z0)),z0⟩
noncomputable def o124(P:Params):Obj:=zq zy0 [(zZ s97 325),(zZ s98 326)]
noncomputable def o125(P:Params):Obj:=⟨zy0,none,(.seq (z0) 0),z0⟩
noncomputable def o126(P:Params):Obj:=⟨.none,none,(fo (stm 9) s251 0 [] .none .none .none .none none .none .none 0),z0⟩
noncomputable def o127(P:Params):Obj:=zc zy1 s251 322 s251 323 s314 324 38 2 0 0 3 122 (.bool true) 181 123 .none 124 125 126 327 38 s314 328
noncomputable def o128(P:Params):Obj:=⟨zy2,none,(fo (stm 9) s251 3 [] .none .none .none (zZ s302 303) none (zR 127) .none 0),z0⟩
noncomputable def o129(P:Params):Obj:=⟨zy0,none,(.seq (z0) 0),z0⟩
noncomputable def o130(P:Params):Obj:=⟨.none,none,(.fields (z0)),z0⟩
noncomputable def o131(P:Params):Obj:=zq zy0 [(zZ s97 333)]
noncomputable def o132(P:Params):Obj:=⟨zy0,none,(.seq (z0) 0),z0⟩
noncomputable def o133(P:Params):Obj:=⟨.none,none,(fo (stm 10) s244 0 [] .none .none .none .none none .none .none 0),z0⟩
noncomputable def o134(P:Params):Obj:=zc zy1 s244 330 s244 331 s314 332 42 1 0 0 3 129 (.bool true) 181 130 .none 131 132 133 334 42 s314 335
noncomputable def o135(P:Params):Obj:=⟨zy2,none,(fo (stm 10) s244 3 [] .none .none .none (zZ s302 303) none (zR 134) .none 0),z0⟩
noncomputable def o136(P:Params):Obj:=⟨zy0,none,(.seq (z0) 0),z0⟩
noncomputable def o137(P:Params):Obj:=⟨.none,none,(.fields (z0)),z0⟩
noncomputable def o138(P:Params):Obj:=zq zy0 [(zZ s6 342)]
noncomputable def o139(P:Params):Obj:=⟨zy0,none,(.seq (z0) 0),z0⟩
noncomputable def o140(P:Params):Obj:=⟨.none,none,(fo (stm 12) s293 0 [] .none .none .none .none none .none .none 0),z0⟩
noncomputable def o141(P:Params):Obj:=zc zy1 s293 339 s293 340 s314 341 45 1 0 0 3 136 (.bool true) 181 137 .none 138 139 140 343 45 s314 344
noncomputable def o142(P:Params):Obj:=⟨zy2,none,(fo (stm 12) s293 3 [] .none .none .none (zZ s298 337) none (zR 141) .none 0),z0⟩
noncomputable def o143(P:Params):Obj:=⟨zy0,none,(.seq (z0) 0),z0⟩
noncomputable def o144(P:Params):Obj:=⟨.none,none,(.fields (z0)),z0⟩
noncomputable def o145(P:Params):Obj:=zq zy0 [(zZ s49 349),(zZ s6 350)]
noncomputable def o146(P:Params):Obj:=⟨zy0,none,(.seq (z0) 0),z0⟩
noncomputable def o147(P:Params):Obj:=⟨.none,none,(fo (stm 13) s297 0 [] .none .none .none .none none .none .none 0),z0⟩
noncomputable def o148(P:Params):Obj:=zc zy1 s297 346 s297 347 s314 348 47 2 0 0 3 143 (.bool true) 181 144 .none 145 146 147 351 47 s314 352
noncomputable def o149(P:Params):Obj:=⟨zy2,none,(fo (stm 13) s297 3 [] .none .none .none (zZ s298 337) none (zR 148) .none 0),z0⟩
noncomputable def o150(P:Params):Obj:=⟨zy0,none,(.seq (z0) 0),z0⟩
noncomputable def o151(P:Params):Obj:=⟨.none,none,(.fields (z0)),z0⟩
noncomputable def o152(P:Params):Obj:=zq zy0 [(zZ s4 357),(zZ s49 358),(zZ s6 359)]
noncomputable def o153(P:Params):Obj:=⟨zy0,none,(.seq (z0) 0),z0⟩
noncomputable def o154(P:Params):Obj:=⟨.none,none,(fo (stm 14) s145 0 [] .none .none .none .none none .none .none 0),z0⟩
noncomputable def o155(P:Params):Obj:=zc zy1 s145 354 s145 355 s314 356 49 3 0 0 3 150 (.bool true) 181 151 .none 152 153 154 360 49 s314 361
noncomputable def o156(P:Params):Obj:=⟨zy2,none,(fo (stm 14) s145 3 [] .none .none .none (zZ s298 337) none (zR 155) .none 0),z0⟩
noncomputable def o157(P:Params):Obj:=⟨zy0,none,(.seq (z0) 0),z0⟩
noncomputable def o158(P:Params):Obj:=⟨.none,none,(.fields (z0)),z0⟩
noncomputable def o159(P:Params):Obj:=zq zy0 [(zZ s49 366),(zZ s51 367),(zZ s6 368)]
noncomputable def o160(P:Params):Obj:=⟨zy0,none,(.seq (z0) 0),z0⟩
noncomputable def o161(P:Params):Obj:=⟨.none,none,(fo (stm 15) s294 0 [] .none .none .none .none none .none .none 0),z0⟩
noncomputable def o162(P:Params):Obj:=zc zy1 s294 363 s294 364 s314 365 55 3 0 0 3 157 (.bool true) 181 158 .none 159 160 161 369 55 s314 370
noncomputable def o163(P:Params):Obj:=⟨zy2,none,(fo (stm 15) s294 3 [] .none .none .none (zZ s298 337) none (zR 162) .none 0),z0⟩
noncomputable def o164(P:Params):Obj:=⟨zy0,none,(.seq (z0) 0),z0⟩
noncomputable def o165(P:Params):Obj:=⟨.none,none,(.fields (z0)),z0⟩
noncomputable def o166(P:Params):Obj:=zq zy0 [(zZ s49 375),(zZ s51 376)]
noncomputable def o167(P:Params):Obj:=⟨zy0,none,(.seq (z0) 0),z0⟩
noncomputable def o168(P:Params):Obj:=⟨.none,none,(fo (stm 16) s295 0 [] .none .none .none .none none .none .none 0),z0⟩
noncomputable def o169(P:Params):Obj:=zc zy1 s295 372 s295 373 s314 374 57 2 0 0 3 164 (.bool true) 181 165 .none 166 167 168 377 57 s314 378
noncomputable def o170(P:Params):Obj:=⟨zy2,none,(fo (stm 16) s295 3 [] .none .none .none (zZ s298 337) none (zR 169) .none 0),z0⟩
noncomputable def o171(P:Params):Obj:=⟨zy0,none,(.seq (z0) 0),z0⟩
noncomputable def o172(P:Params):Obj:=⟨.none,none,(.fields (z0)),z0⟩
noncomputable def o173(P:Params):Obj:=zq zy0 [(zZ s4 383),(zZ s49 384),(zZ s51 385),(zZ s6 386)]
noncomputable def o174(P:Params):Obj:=⟨zy0,none,(.seq (z0) 0),z0⟩
noncomputable def o175(P:Params):Obj:=⟨.none,none,(fo (stm 17) s292 0 [] .none .none .none .none none .none .none 0),z0⟩
noncomputable def o176(P:Params):Obj:=zc zy1 s292 380 s292 381 s314 382 59 4 0 0 3 171 (.bool true) 181 172 .none 173 174 175 387 59 s314 388
noncomputable def o177(P:Params):Obj:=⟨zy2,none,(fo (stm 17) s292 3 [] .none .none .none (zZ s298 337) none (zR 176) .none 0),z0⟩
noncomputable def o178(P:Params):Obj:=⟨zy0,none,(.seq (z0) 0),z0⟩
noncomputable def o179(P:Params):Obj:=⟨.none,none,(.fields (z0)),z0⟩
noncomputable def o180(P:Params):Obj:=zq zy0 [(zZ s4 393),(zZ s49 394),(zZ s51 395),(zZ s6 396)]
noncomputable def o181(P:Params):Obj:=⟨zy0,none,(.seq (z0) 0),z0⟩
noncomputable def o182(P:Params):Obj:=⟨.none,none,(fo (stm 18) s150 0 [] .none .none .none .none none .none .none 0),z0⟩
noncomputable def o183(P:Params):Obj:=zc zy1 s150 390 s150 391 s314 392 63 4 0 0 3 178 (.bool true) 181 179 .none 180 181 182 397 63 s314 398
noncomputable def o184(P:Params):Obj:=⟨zy2,none,(fo (stm 18) s150 3 [] .none .none .none (zZ s298 337) none (zR 183) .none 0),z0⟩
noncomputable def o185(P:Params):Obj:=⟨zy0,none,(.seq (z0) 0),z0⟩
noncomputable def o186(P:Params):Obj:=⟨.none,none,(.fields (z0)),z0⟩
noncomputable def o187(P:Params):Obj:=zq zy0 [(zZ s49 403),(zZ s28 404),(zZ s29 405)]
noncomputable def o188(P:Params):Obj:=⟨zy0,none,(.seq (z0) 0),z0⟩
noncomputable def o189(P:Params):Obj:=⟨.none,none,(fo (stm 19) s151 0 [] .none .none .none .none none .none .none 0),z0⟩
noncomputable def o190(P:Params):Obj:=zc zy1 s151 400 s151 401 s314 402 83 3 0 0 3 185 (.bool true) 181 186 .none 187 188 189 406 83 s314 407
noncomputable def o191(P:Params):Obj:=⟨zy2,none,(fo (stm 19) s151 3 [] .none .none .none (zZ s298 337) none (zR 190) .none 0),z0⟩
noncomputable def o192(P:Params):Obj:=⟨zy0,none,(.seq (z0) 0),z0⟩
noncomputable def o193(P:Params):Obj:=⟨.none,none,(.fields (z0)),z0⟩
noncomputable def o194(P:Params):Obj:=zq zy0 [(zZ s49 412),(zZ s6 413),(zZ s142 414)]
noncomputable def o195(P:Params):Obj:=⟨zy0,none,(.seq (z0) 0),z0⟩
noncomputable def o196(P:Params):Obj:=⟨.none,none,(fo (stm 20) s157 0 [] .none .none .none .none none .none .none 0),z0⟩
noncomputable def o197(P:Params):Obj:=zc zy1 s157 409 s157 410 s314 411 85 3 0 0 3 192 (.bool true) 181 193 .none 194 195 196 415 85 s314 416
noncomputable def o198(P:Params):Obj:=⟨zy2,none,(fo (stm 20) s157 3 [] .none .none .none (zZ s298 337) none (zR 197) .none 0),z0⟩
noncomputable def o199(P:Params):Obj:=zq zy0 [(zZ s281 430),(zZ s282 431),(zZ s147 432),(zZ s146 433),(zZ s149 434),(zZ s283 435),(zZ s284 436),(zZ s285 437),(zZ s286 438),(zZ s287 439)]
noncomputable def o200(P:Params):Obj:=zq zy0 [(zZ s288 441),(zZ s289 442),(zZ s290 443),(zZ s291 444)]
noncomputable def o201(P:Params):Obj:=zq zy0 [(zZ s185 446),(zZ s187 447),(zZ s242 448),(zZ s7 449)]
noncomputable def o202(P:Params):Obj:=⟨zy0,none,(.seq (z0) 0),z0⟩
noncomputable def o203(P:Params):Obj:=⟨zy5,none,(.fields (zA [zy10,zy4])),z0⟩
noncomputable def o204(P:Params):Obj:=⟨zy3,none,(.dict (zA [⟨zk P s467,zZ s467 458,(zZ s298 337)⟩,⟨zk P s468,zZ s468 460,(zZ s167 459)⟩,⟨zk P s469,zZ s469 462,(.int (.ofNat 95) 461)⟩,⟨zk P s64,zZ s64 469,(zR 215)⟩,⟨zk P s188,zZ s188 477,(zR 222)⟩,⟨zk P s190,zZ s190 485,(zR 229)⟩,⟨zk P s192,zZ s192 493,(zR 236)⟩,⟨zk P s193,zZ s193 501,(zR 243)⟩,⟨zk P s196,zZ s196 509,(zR 250)⟩,⟨zk P s197,zZ s197 519,(zR 257)⟩,⟨zk P s200,zZ s200 529,(zR 264)⟩,⟨zk P s48,zZ s48 538,(zR 271)⟩,⟨zk P s203,zZ s203 546,(zR 278)⟩,⟨zk P s205,zZ s205 554,(zR 285)⟩,⟨zk P s206,zZ s206 562,(zR 292)⟩,⟨zk P s207,zZ s207 569,(zR 299)⟩,⟨zk P s4,zZ s4 577,(zR 306)⟩,⟨zk P s3,zZ s3 585,(zR 313)⟩,⟨zk P s107,zZ s107 593,(zR 320)⟩,⟨zk P s8,zZ s8 601,(zR 327)⟩,⟨zk P s6,zZ s6 609,(zR 334)⟩,⟨zk P s61,zZ s61 616,(zR 341)⟩,⟨zk P s184,zZ s184 629,(zR 348)⟩,⟨zk P s210,zZ s210 640,(zR 355)⟩,⟨zk P s111,zZ s111 648,(zR 362)⟩,⟨zk P s212,zZ s212 658,(zR 369)⟩,⟨zk P s217,zZ s217 669,(zR 376)⟩,⟨zk P s67,zZ s67 676,(zR 383)⟩,⟨zk P s69,zZ s69 683,(zR 390)⟩,⟨zk P s155,zZ s155 691,(zR 397)⟩,⟨zk P s219,zZ s219 699,(zR 404)⟩,⟨zk P s220,zZ s220 707,(zR 411)⟩,⟨zk P s470,zZ s470 721,(zR 412)⟩]) 33),z0⟩
noncomputable def o205(P:Params):Obj:=⟨zy0,none,(.seq (z0) 0),z0⟩
noncomputable def o206(P:Params):Obj:=⟨.none,none,(.fields (zA [(zI 97),(zI 4),(zR 214),(zI 112),(zI 4),(zR 221),(zI 115),(zI 4),(zR 228),(zI 118),(zI 4),(zR 235),(zI 121),(zI 4),(zR 242),(zI 124),(zI 4),(zR 249),(zI 127),(zI 4),(zR 256),(zI 133),(zI 4),(zR 263),(zI 136),(zI 4),(zR 270),(zI 139),(zI 4),(zR 277),(zI 142),(zI 4),(zR 284),(zI 145),(zI 4),(zR 291),(zI 148),(zI 4),(zR 298),(zI 151),(zI 4),(zR 305),(zI 154),(zI 4),(zR 312),(zI 157),(zI 4),(zR 319),(zI 160),(zI 4),(zR 326),(zI 163),(zI 4),(zR 333),(zI 166),(zI 4),(zR 340),(zI 169),(zI 4),(zR 347),(zI 181),(zI 4),(zR 354),(zI 184),(zI 4),(zR 361),(zI 187),(zI 4),(zR 368),(zI 191),(zI 4),(zR 375),(zI 195),(zI 4),(zR 382),(zI 198),(zI 4),(zR 389),(zI 201),(zI 4),(zR 396),(zI 204),(zI 4),(zR 403),(zI 207),(zI 4),(zR 410)])),z0⟩
noncomputable def o207(P:Params):Obj:=⟨zy1,none,(.fields (zA [(zZ s167 453),(zZ s167 454),(zZ s314 455),(zI 95),(zI 0),(zI 0),(zI 0),(zI 0),(zR 205),(.bool false),(zI 181),(zR 206),.none,.none,.none,.none,(zI 456),(zI 95),(zZ s314 457)])),z0⟩
noncomputable def o208(P:Params):Obj:=⟨zy7,none,.plain,zA [(some (zR 207)),(some (zR 3)),(some (zR 204)),none,(some (zZ s298 337)),none,(some (zR 0))]⟩
noncomputable def o209(P:Params):Obj:=⟨zy0,none,(.seq (z0) 0),z0⟩
noncomputable def o210(P:Params):Obj:=⟨.none,none,(.fields (z0)),z0⟩
noncomputable def o211(P:Params):Obj:=zq zy0 [(zZ s65 466)]
noncomputable def o212(P:Params):Obj:=⟨zy0,none,(.seq (z0) 0),z0⟩
noncomputable def o213(P:Params):Obj:=⟨.none,none,(fo (sub (stm 29) 0) s478 0 [] .none .none .none .none none .none .none 0),z0⟩
noncomputable def o214(P:Params):Obj:=zc zy1 s64 463 s478 464 s314 465 97 1 0 0 3 209 (.bool true) 181 210 .none 211 212 213 467 97 s314 468
noncomputable def o215(P:Params):Obj:=⟨zy2,none,(fo (sub (stm 29) 0) s478 3 [] .none .none .none (zZ s298 337) none (zR 214) .none 0),z0⟩
noncomputable def o216(P:Params):Obj:=⟨zy0,none,(.seq (z0) 0),z0⟩
noncomputable def o217(P:Params):Obj:=⟨.none,none,(.fields (z0)),z0⟩
noncomputable def o218(P:Params):Obj:=zq zy0 [(zZ s65 473),(zZ s189 474)]
noncomputable def o219(P:Params):Obj:=⟨zy0,none,(.seq (z0) 0),z0⟩
noncomputable def o220(P:Params):Obj:=⟨.none,none,(fo (sub (stm 29) 1) s479 0 [] .none .none .none .none none .none .none 0),z0⟩
noncomputable def o221(P:Params):Obj:=zc zy1 s188 470 s479 471 s314 472 112 2 0 0 3 216 (.bool true) 181 217 .none 218 219 220 475 112 s314 476
noncomputable def o222(P:Params):Obj:=⟨zy2,none,(fo (sub (stm 29) 1) s479 3 [] .none .none .none (zZ s298 337) none (zR 221) .none 0),z0⟩
noncomputable def o223(P:Params):Obj:=⟨zy0,none,(.seq (z0) 0),z0⟩
noncomputable def o224(P:Params):Obj:=⟨.none,none,(.fields (z0)),z0⟩
noncomputable def o225(P:Params):Obj:=zq zy0 [(zZ s65 481),(zZ s191 482)]
noncomputable def o226(P:Params):Obj:=⟨zy0,none,(.seq (z0) 0),z0⟩
noncomputable def o227(P:Params):Obj:=⟨.none,none,(fo (sub (stm 29) 2) s480 0 [] .none .none .none .none none .none .none 0),z0⟩
noncomputable def o228(P:Params):Obj:=zc zy1 s190 478 s480 479 s314 480 115 2 0 0 3 223 (.bool true) 181 224 .none 225 226 227 483 115 s314 484
noncomputable def o229(P:Params):Obj:=⟨zy2,none,(fo (sub (stm 29) 2) s480 3 [] .none .none .none (zZ s298 337) none (zR 228) .none 0),z0⟩
noncomputable def o230(P:Params):Obj:=⟨zy0,none,(.seq (z0) 0),z0⟩
noncomputable def o231(P:Params):Obj:=⟨.none,none,(.fields (z0)),z0⟩
noncomputable def o232(P:Params):Obj:=zq zy0 [(zZ s65 489),(zZ s189 490)]
noncomputable def o233(P:Params):Obj:=⟨zy0,none,(.seq (z0) 0),z0⟩
noncomputable def o234(P:Params):Obj:=⟨.none,none,(fo (sub (stm 29) 3) s481 0 [] .none .none .none .none none .none .none 0),z0⟩
noncomputable def o235(P:Params):Obj:=zc zy1 s192 486 s481 487 s314 488 118 2 0 0 3 230 (.bool true) 181 231 .none 232 233 234 491 118 s314 492
noncomputable def o236(P:Params):Obj:=⟨zy2,none,(fo (sub (stm 29) 3) s481 3 [] .none .none .none (zZ s298 337) none (zR 235) .none 0),z0⟩
noncomputable def o237(P:Params):Obj:=⟨zy0,none,(.seq (z0) 0),z0⟩
noncomputable def o238(P:Params):Obj:=⟨.none,none,(.fields (z0)),z0⟩
noncomputable def o239(P:Params):Obj:=zq zy0 [(zZ s65 497),(zZ s189 498)]
noncomputable def o240(P:Params):Obj:=⟨zy0,none,(.seq (z0) 0),z0⟩
noncomputable def o241(P:Params):Obj:=⟨.none,none,(fo (sub (stm 29) 4) s482 0 [] .none .none .none .none none .none .none 0),z0⟩
noncomputable def o242(P:Params):Obj:=zc zy1 s193 494 s482 495 s314 496 121 2 0 0 3 237 (.bool true) 181 238 .none 239 240 241 499 121 s314 500
noncomputable def o243(P:Params):Obj:=⟨zy2,none,(fo (sub (stm 29) 4) s482 3 [] .none .none .none (zZ s298 337) none (zR 242) .none 0),z0⟩
noncomputable def o244(P:Params):Obj:=⟨zy0,none,(.seq (z0) 0),z0⟩
noncomputable def o245(P:Params):Obj:=⟨.none,none,(.fields (z0)),z0⟩
noncomputable def o246(P:Params):Obj:=zq zy0 [(zZ s65 505),(zZ s189 506)]
noncomputable def o247(P:Params):Obj:=⟨zy0,none,(.seq (z0) 0),z0⟩
noncomputable def o248(P:Params):Obj:=⟨.none,none,(fo (sub (stm 29) 5) s483 0 [] .none .none .none .none none .none .none 0),z0⟩
noncomputable def o249(P:Params):Obj:=zc zy1 s196 502 s483 503 s314 504 124 2 0 0 3 244 (.bool true) 181 245 .none 246 247 248 507 124 s314 508
noncomputable def o250(P:Params):Obj:=⟨zy2,none,(fo (sub (stm 29) 5) s483 3 [] .none .none .none (zZ s298 337) none (zR 249) .none 0),z0⟩
noncomputable def o251(P:Params):Obj:=⟨zy0,none,(.seq (z0) 0),z0⟩
noncomputable def o252(P:Params):Obj:=⟨.none,none,(.fields (z0)),z0⟩
noncomputable def o253(P:Params):Obj:=zq zy0 [(zZ s65 513),(zZ s191 514),(zZ s198 515),(zZ s101 516)]
noncomputable def o254(P:Params):Obj:=⟨zy0,none,(.seq (z0) 0),z0⟩
noncomputable def o255(P:Params):Obj:=⟨.none,none,(fo (sub (stm 29) 6) s484 0 [] .none .none .none .none none .none .none 0),z0⟩
noncomputable def o256(P:Params):Obj:=zc zy1 s197 510 s484 511 s314 512 127 4 0 0 3 251 (.bool true) 181 252 .none 253 254 255 517 127 s314 518
noncomputable def o257(P:Params):Obj:=⟨zy2,none,(fo (sub (stm 29) 6) s484 3 [] .none .none .none (zZ s298 337) none (zR 256) .none 0),z0⟩
noncomputable def o258(P:Params):Obj:=⟨zy0,none,(.seq (z0) 0),z0⟩
noncomputable def o259(P:Params):Obj:=⟨.none,none,(.fields (z0)),z0⟩
noncomputable def o260(P:Params):Obj:=zq zy0 [(zZ s65 523),(zZ s201 524),(zZ s198 525),(zZ s101 526)]
noncomputable def o261(P:Params):Obj:=⟨zy0,none,(.seq (z0) 0),z0⟩
noncomputable def o262(P:Params):Obj:=⟨.none,none,(fo (sub (stm 29) 7) s485 0 [] .none .none .none .none none .none .none 0),z0⟩
noncomputable def o263(P:Params):Obj:=zc zy1 s200 520 s485 521 s314 522 133 4 0 0 3 258 (.bool true) 181 259 .none 260 261 262 527 133 s314 528
noncomputable def o264(P:Params):Obj:=⟨zy2,none,(fo (sub (stm 29) 7) s485 3 [] .none .none .none (zZ s298 337) none (zR 263) .none 0),z0⟩
noncomputable def o265(P:Params):Obj:=⟨zy0,none,(.seq (z0) 0),z0⟩
noncomputable def o266(P:Params):Obj:=⟨.none,none,(.fields (z0)),z0⟩
noncomputable def o267(P:Params):Obj:=zq zy0 [(zZ s65 533),(zZ s191 534),(zZ s189 535)]
noncomputable def o268(P:Params):Obj:=⟨zy0,none,(.seq (z0) 0),z0⟩
noncomputable def o269(P:Params):Obj:=⟨.none,none,(fo (sub (stm 29) 8) s486 0 [] .none .none .none .none none .none .none 0),z0⟩
noncomputable def o270(P:Params):Obj:=zc zy1 s48 530 s486 531 s314 532 136 3 0 0 3 265 (.bool true) 181 266 .none 267 268 269 536 136 s314 537
noncomputable def o271(P:Params):Obj:=⟨zy2,none,(fo (sub (stm 29) 8) s486 3 [] .none .none .none (zZ s298 337) none (zR 270) .none 0),z0⟩
noncomputable def o272(P:Params):Obj:=⟨zy0,none,(.seq (z0) 0),z0⟩
noncomputable def o273(P:Params):Obj:=⟨.none,none,(.fields (z0)),z0⟩
noncomputable def o274(P:Params):Obj:=zq zy0 [(zZ s65 542),(zZ s204 543)]
noncomputable def o275(P:Params):Obj:=⟨zy0,none,(.seq (z0) 0),z0⟩
noncomputable def o276(P:Params):Obj:=⟨.none,none,(fo (sub (stm 29) 9) s487 0 [] .none .none .none .none none .none .none 0),z0⟩
noncomputable def o277(P:Params):Obj:=zc zy1 s203 539 s487 540 s314 541 139 2 0 0 3 272 (.bool true) 181 273 .none 274 275 276 544 139 s314 545
noncomputable def o278(P:Params):Obj:=⟨zy2,none,(fo (sub (stm 29) 9) s487 3 [] .none .none .none (zZ s298 337) none (zR 277) .none 0),z0⟩
noncomputable def o279(P:Params):Obj:=⟨zy0,none,(.seq (z0) 0),z0⟩
noncomputable def o280(P:Params):Obj:=⟨.none,none,(.fields (z0)),z0⟩
noncomputable def o281(P:Params):Obj:=zq zy0 [(zZ s65 550),(zZ s204 551)]
noncomputable def o282(P:Params):Obj:=⟨zy0,none,(.seq (z0) 0),z0⟩
noncomputable def o283(P:Params):Obj:=⟨.none,none,(fo (sub (stm 29) 10) s488 0 [] .none .none .none .none none .none .none 0),z0⟩
noncomputable def o284(P:Params):Obj:=zc zy1 s205 547 s488 548 s314 549 142 2 0 0 3 279 (.bool true) 181 280 .none 281 282 283 552 142 s314 553
noncomputable def o285(P:Params):Obj:=⟨zy2,none,(fo (sub (stm 29) 10) s488 3 [] .none .none .none (zZ s298 337) none (zR 284) .none 0),z0⟩
noncomputable def o286(P:Params):Obj:=⟨zy0,none,(.seq (z0) 0),z0⟩
noncomputable def o287(P:Params):Obj:=⟨.none,none,(.fields (z0)),z0⟩
noncomputable def o288(P:Params):Obj:=zq zy0 [(zZ s65 558),(zZ s204 559)]
noncomputable def o289(P:Params):Obj:=⟨zy0,none,(.seq (z0) 0),z0⟩
noncomputable def o290(P:Params):Obj:=⟨.none,none,(fo (sub (stm 29) 11) s489 0 [] .none .none .none .none none .none .none 0),z0⟩
noncomputable def o291(P:Params):Obj:=zc zy1 s206 555 s489 556 s314 557 145 2 0 0 3 286 (.bool true) 181 287 .none 288 289 290 560 145 s314 561
noncomputable def o292(P:Params):Obj:=⟨zy2,none,(fo (sub (stm 29) 11) s489 3 [] .none .none .none (zZ s298 337) none (zR 291) .none 0),z0⟩
noncomputable def o293(P:Params):Obj:=⟨zy0,none,(.seq (z0) 0),z0⟩
noncomputable def o294(P:Params):Obj:=⟨.none,none,(.fields (z0)),z0⟩
noncomputable def o295(P:Params):Obj:=zq zy0 [(zZ s65 566)]
noncomputable def o296(P:Params):Obj:=⟨zy0,none,(.seq (z0) 0),z0⟩
noncomputable def o297(P:Params):Obj:=⟨.none,none,(fo (sub (stm 29) 12) s490 0 [] .none .none .none .none none .none .none 0),z0⟩
noncomputable def o298(P:Params):Obj:=zc zy1 s207 563 s490 564 s314 565 148 1 0 0 3 293 (.bool true) 181 294 .none 295 296 297 567 148 s314 568
noncomputable def o299(P:Params):Obj:=⟨zy2,none,(fo (sub (stm 29) 12) s490 3 [] .none .none .none (zZ s298 337) none (zR 298) .none 0),z0⟩
noncomputable def o300(P:Params):Obj:=⟨zy0,none,(.seq (z0) 0),z0⟩
noncomputable def o301(P:Params):Obj:=⟨.none,none,(.fields (z0)),z0⟩
noncomputable def o302(P:Params):Obj:=zq zy0 [(zZ s65 573),(zZ s2 574)]
noncomputable def o303(P:Params):Obj:=⟨zy0,none,(.seq (z0) 0),z0⟩
noncomputable def o304(P:Params):Obj:=⟨.none,none,(fo (sub (stm 29) 13) s491 0 [] .none .none .none .none none .none .none 0),z0⟩
noncomputable def o305(P:Params):Obj:=zc zy1 s4 570 s491 571 s314 572 151 2 0 0 3 300 (.bool true) 181 301 .none 302 303 304 575 151 s314 576
noncomputable def o306(P:Params):Obj:=⟨zy2,none,(fo (sub (stm 29) 13) s491 3 [] .none .none .none (zZ s298 337) none (zR 305) .none 0),z0⟩
noncomputable def o307(P:Params):Obj:=⟨zy0,none,(.seq (z0) 0),z0⟩
noncomputable def o308(P:Params):Obj:=⟨.none,none,(.fields (z0)),z0⟩
noncomputable def o309(P:Params):Obj:=zq zy0 [(zZ s65 581),(zZ s2 582)]
noncomputable def o310(P:Params):Obj:=⟨zy0,none,(.seq (z0) 0),z0⟩
noncomputable def o311(P:Params):Obj:=⟨.none,none,(fo (sub (stm 29) 14) s492 0 [] .none .none .none .none none .none .none 0),z0⟩
noncomputable def o312(P:Params):Obj:=zc zy1 s3 578 s492 579 s314 580 154 2 0 0 3 307 (.bool true) 181 308 .none 309 310 311 583 154 s314 584
noncomputable def o313(P:Params):Obj:=⟨zy2,none,(fo (sub (stm 29) 14) s492 3 [] .none .none .none (zZ s298 337) none (zR 312) .none 0),z0⟩
noncomputable def o314(P:Params):Obj:=⟨zy0,none,(.seq (z0) 0),z0⟩
noncomputable def o315(P:Params):Obj:=⟨.none,none,(.fields (z0)),z0⟩
noncomputable def o316(P:Params):Obj:=zq zy0 [(zZ s65 589),(zZ s2 590)]
noncomputable def o317(P:Params):Obj:=⟨zy0,none,(.seq (z0) 0),z0⟩
noncomputable def o318(P:Params):Obj:=⟨.none,none,(fo (sub (stm 29) 15) s493 0 [] .none .none .none .none none .none .none 0),z0⟩
noncomputable def o319(P:Params):Obj:=zc zy1 s107 586 s493 587 s314 588 157 2 0 0 3 314 (.bool true) 181 315 .none 316 317 318 591 157 s314 592
noncomputable def o320(P:Params):Obj:=⟨zy2,none,(fo (sub (stm 29) 15) s493 3 [] .none .none .none (zZ s298 337) none (zR 319) .none 0),z0⟩
noncomputable def o321(P:Params):Obj:=⟨zy0,none,(.seq (z0) 0),z0⟩
noncomputable def o322(P:Params):Obj:=⟨.none,none,(.fields (z0)),z0⟩
noncomputable def o323(P:Params):Obj:=zq zy0 [(zZ s65 597),(zZ s2 598)]
noncomputable def o324(P:Params):Obj:=⟨zy0,none,(.seq (z0) 0),z0⟩
noncomputable def o325(P:Params):Obj:=⟨.none,none,(fo (sub (stm 29) 16) s494 0 [] .none .none .none .none none .none .none 0),z0⟩
noncomputable def o326(P:Params):Obj:=zc zy1 s8 594 s494 595 s314 596 160 2 0 0 3 321 (.bool true) 181 322 .none 323 324 325 599 160 s314 600
noncomputable def o327(P:Params):Obj:=⟨zy2,none,(fo (sub (stm 29) 16) s494 3 [] .none .none .none (zZ s298 337) none (zR 326) .none 0),z0⟩
noncomputable def o328(P:Params):Obj:=⟨zy0,none,(.seq (z0) 0),z0⟩
noncomputable def o329(P:Params):Obj:=⟨.none,none,(.fields (z0)),z0⟩
noncomputable def o330(P:Params):Obj:=zq zy0 [(zZ s65 605),(zZ s2 606)]
noncomputable def o331(P:Params):Obj:=⟨zy0,none,(.seq (z0) 0),z0⟩
noncomputable def o332(P:Params):Obj:=⟨.none,none,(fo (sub (stm 29) 17) s495 0 [] .none .none .none .none none .none .none 0),z0⟩
noncomputable def o333(P:Params):Obj:=zc zy1 s6 602 s495 603 s314 604 163 2 0 0 3 328 (.bool true) 181 329 .none 330 331 332 607 163 s314 608
noncomputable def o334(P:Params):Obj:=⟨zy2,none,(fo (sub (stm 29) 17) s495 3 [] .none .none .none (zZ s298 337) none (zR 333) .none 0),z0⟩
noncomputable def o335(P:Params):Obj:=⟨zy0,none,(.seq (z0) 0),z0⟩
noncomputable def o336(P:Params):Obj:=⟨.none,none,(.fields (z0)),z0⟩
noncomputable def o337(P:Params):Obj:=zq zy0 [(zZ s65 613)]
noncomputable def o338(P:Params):Obj:=⟨zy0,none,(.seq (z0) 0),z0⟩
noncomputable def o339(P:Params):Obj:=⟨.none,none,(fo (sub (stm 29) 18) s496 0 [] .none .none .none .none none .none .none 0),z0⟩
noncomputable def o340(P:Params):Obj:=zc zy1 s61 610 s496 611 s314 612 166 1 0 0 3 335 (.bool true) 181 336 .none 337 338 339 614 166 s314 615
noncomputable def o341(P:Params):Obj:=⟨zy2,none,(fo (sub (stm 29) 18) s496 3 [] .none .none .none (zZ s298 337) none (zR 340) .none 0),z0⟩
noncomputable def o342(P:Params):Obj:=⟨zy0,none,(.seq (z0) 0),z0⟩
noncomputable def o343(P:Params):Obj:=⟨.none,none,(.fields (z0)),z0⟩
noncomputable def o344(P:Params):Obj:=zq zy0 [(zZ s65 620),(zZ s4 621),(zZ s3 622),(zZ s107 623),(zZ s8 624),(zZ s208 625),(zZ s78 626)]
noncomputable def o345(P:Params):Obj:=⟨zy0,none,(.seq (z0) 0),z0⟩
noncomputable def o346(P:Params):Obj:=⟨.none,none,(fo (sub (stm 29) 19) s497 0 [] .none .none .none .none none .none .none 0),z0⟩
noncomputable def o347(P:Params):Obj:=zc zy1 s184 617 s497 618 s314 619 169 5 0 0 3 342 (.bool true) 181 343 .none 344 345 346 627 169 s314 628
noncomputable def o348(P:Params):Obj:=⟨zy2,none,(fo (sub (stm 29) 19) s497 3 [] .none .none .none (zZ s298 337) none (zR 347) .none 0),z0⟩
noncomputable def o349(P:Params):Obj:=⟨zy0,none,(.seq (z0) 0),z0⟩
noncomputable def o350(P:Params):Obj:=⟨.none,none,(.fields (z0)),z0⟩
noncomputable def o351(P:Params):Obj:=zq zy0 [(zZ s65 633),(zZ s4 634),(zZ s3 635),(zZ s107 636),(zZ s8 637)]
noncomputable def o352(P:Params):Obj:=⟨zy0,none,(.seq (z0) 0),z0⟩
noncomputable def o353(P:Params):Obj:=⟨.none,none,(fo (sub (stm 29) 20) s498 0 [] .none .none .none .none none .none .none 0),z0⟩
noncomputable def o354(P:Params):Obj:=zc zy1 s210 630 s498 631 s314 632 181 5 0 0 3 349 (.bool true) 181 350 .none 351 352 353 638 181 s314 639
noncomputable def o355(P:Params):Obj:=⟨zy2,none,(fo (sub (stm 29) 20) s498 3 [] .none .none .none (zZ s298 337) none (zR 354) .none 0),z0⟩
noncomputable def o356(P:Params):Obj:=⟨zy0,none,(.seq (z0) 0),z0⟩
noncomputable def o357(P:Params):Obj:=⟨.none,none,(.fields (z0)),z0⟩
noncomputable def o358(P:Params):Obj:=zq zy0 [(zZ s65 644),(zZ s2 645)]
noncomputable def o359(P:Params):Obj:=⟨zy0,none,(.seq (z0) 0),z0⟩
noncomputable def o360(P:Params):Obj:=⟨.none,none,(fo (sub (stm 29) 21) s499 0 [] .none .none .none .none none .none .none 0),z0⟩
noncomputable def o361(P:Params):Obj:=zc zy1 s111 641 s499 642 s314 643 184 2 0 0 3 356 (.bool true) 181 357 .none 358 359 360 646 184 s314 647
noncomputable def o362(P:Params):Obj:=⟨zy2,none,(fo (sub (stm 29) 21) s499 3 [] .none .none .none (zZ s298 337) none (zR 361) .none 0),z0⟩
noncomputable def o363(P:Params):Obj:=⟨zy0,none,(.seq (z0) 0),z0⟩
noncomputable def o364(P:Params):Obj:=⟨.none,none,(.fields (z0)),z0⟩
noncomputable def o365(P:Params):Obj:=zq zy0 [(zZ s65 652),(zZ s2 653),(zZ s189 654),(zZ s213 655)]
noncomputable def o366(P:Params):Obj:=⟨zy0,none,(.seq (z0) 0),z0⟩
noncomputable def o367(P:Params):Obj:=⟨.none,none,(fo (sub (stm 29) 22) s500 0 [] .none .none .none .none none .none .none 0),z0⟩
noncomputable def o368(P:Params):Obj:=zc zy1 s212 649 s500 650 s314 651 187 4 0 0 3 363 (.bool true) 181 364 .none 365 366 367 656 187 s314 657
noncomputable def o369(P:Params):Obj:=⟨zy2,none,(fo (sub (stm 29) 22) s500 3 [] .none .none .none (zZ s298 337) none (zR 368) .none 0),z0⟩
noncomputable def o370(P:Params):Obj:=⟨zy0,none,(.seq (z0) 0),z0⟩
noncomputable def o371(P:Params):Obj:=⟨.none,none,(.fields (z0)),z0⟩
noncomputable def o372(P:Params):Obj:=zq zy0 [(zZ s65 662),(zZ s16 663),(zZ s189 664),(zZ s213 665),(zZ s2 666)]
noncomputable def o373(P:Params):Obj:=⟨zy0,none,(.seq (z0) 0),z0⟩
noncomputable def o374(P:Params):Obj:=⟨.none,none,(fo (sub (stm 29) 23) s501 0 [] .none .none .none .none none .none .none 0),z0⟩
noncomputable def o375(P:Params):Obj:=zc zy1 s217 659 s501 660 s314 661 191 4 0 0 3 370 (.bool true) 181 371 .none 372 373 374 667 191 s314 668
noncomputable def o376(P:Params):Obj:=⟨zy2,none,(fo (sub (stm 29) 23) s501 3 [] .none .none .none (zZ s298 337) none (zR 375) .none 0),z0⟩
noncomputable def o377(P:Params):Obj:=⟨zy0,none,(.seq (z0) 0),z0⟩
noncomputable def o378(P:Params):Obj:=⟨.none,none,(.fields (z0)),z0⟩
noncomputable def o379(P:Params):Obj:=zq zy0 [(zZ s65 673)]
noncomputable def o380(P:Params):Obj:=⟨zy0,none,(.seq (z0) 0),z0⟩
noncomputable def o381(P:Params):Obj:=⟨.none,none,(fo (sub (stm 29) 24) s502 0 [] .none .none .none .none none .none .none 0),z0⟩
noncomputable def o382(P:Params):Obj:=zc zy1 s67 670 s502 671 s314 672 195 1 0 0 3 377 (.bool true) 181 378 .none 379 380 381 674 195 s314 675
noncomputable def o383(P:Params):Obj:=⟨zy2,none,(fo (sub (stm 29) 24) s502 3 [] .none .none .none (zZ s298 337) none (zR 382) .none 0),z0⟩
noncomputable def o384(P:Params):Obj:=⟨zy0,none,(.seq (z0) 0),z0⟩
noncomputable def o385(P:Params):Obj:=⟨.none,none,(.fields (z0)),z0⟩
noncomputable def o386(P:Params):Obj:=zq zy0 [(zZ s65 680)]
noncomputable def o387(P:Params):Obj:=⟨zy0,none,(.seq (z0) 0),z0⟩
noncomputable def o388(P:Params):Obj:=⟨.none,none,(fo (sub (stm 29) 25) s503 0 [] .none .none .none .none none .none .none 0),z0⟩
noncomputable def o389(P:Params):Obj:=zc zy1 s69 677 s503 678 s314 679 198 1 0 0 3 384 (.bool true) 181 385 .none 386 387 388 681 198 s314 682
noncomputable def o390(P:Params):Obj:=⟨zy2,none,(fo (sub (stm 29) 25) s503 3 [] .none .none .none (zZ s298 337) none (zR 389) .none 0),z0⟩
noncomputable def o391(P:Params):Obj:=⟨zy0,none,(.seq (z0) 0),z0⟩
noncomputable def o392(P:Params):Obj:=⟨.none,none,(.fields (z0)),z0⟩
noncomputable def o393(P:Params):Obj:=zq zy0 [(zZ s65 687),(zZ s218 688)]
noncomputable def o394(P:Params):Obj:=⟨zy0,none,(.seq (z0) 0),z0⟩
noncomputable def o395(P:Params):Obj:=⟨.none,none,(fo (sub (stm 29) 26) s504 0 [] .none .none .none .none none .none .none 0),z0⟩
noncomputable def o396(P:Params):Obj:=zc zy1 s155 684 s504 685 s314 686 201 2 0 0 3 391 (.bool true) 181 392 .none 393 394 395 689 201 s314 690
noncomputable def o397(P:Params):Obj:=⟨zy2,none,(fo (sub (stm 29) 26) s504 3 [] .none .none .none (zZ s298 337) none (zR 396) .none 0),z0⟩
noncomputable def o398(P:Params):Obj:=⟨zy0,none,(.seq (z0) 0),z0⟩
noncomputable def o399(P:Params):Obj:=⟨.none,none,(.fields (z0)),z0⟩
noncomputable def o400(P:Params):Obj:=zq zy0 [(zZ s65 695),(zZ s2 696)]
noncomputable def o401(P:Params):Obj:=⟨zy0,none,(.seq (z0) 0),z0⟩
noncomputable def o402(P:Params):Obj:=⟨.none,none,(fo (sub (stm 29) 27) s505 0 [] .none .none .none .none none .none .none 0),z0⟩
noncomputable def o403(P:Params):Obj:=zc zy1 s219 692 s505 693 s314 694 204 2 0 0 3 398 (.bool true) 181 399 .none 400 401 402 697 204 s314 698
noncomputable def o404(P:Params):Obj:=⟨zy2,none,(fo (sub (stm 29) 27) s505 3 [] .none .none .none (zZ s298 337) none (zR 403) .none 0),z0⟩
noncomputable def o405(P:Params):Obj:=⟨zy0,none,(.seq (z0) 0),z0⟩
noncomputable def o406(P:Params):Obj:=⟨.none,none,(.fields (z0)),z0⟩
noncomputable def o407(P:Params):Obj:=zq zy0 [(zZ s65 703),(zZ s16 704)]
noncomputable def o408(P:Params):Obj:=⟨zy0,none,(.seq (z0) 0),z0⟩
noncomputable def o409(P:Params):Obj:=⟨.none,none,(fo (sub (stm 29) 28) s506 0 [] .none .none .none .none none .none .none 0),z0⟩
noncomputable def o410(P:Params):Obj:=zc zy1 s220 700 s506 701 s314 702 207 2 0 0 3 405 (.bool true) 181 406 .none 407 408 409 705 207 s314 706
noncomputable def o411(P:Params):Obj:=⟨zy2,none,(fo (sub (stm 29) 28) s506 3 [] .none .none .none (zZ s298 337) none (zR 410) .none 0),z0⟩
noncomputable def o412(P:Params):Obj:=zq zy0 [(zZ s186 708),(zZ s176 709),(zZ s174 710),(zZ s173 711),(zZ s175 712),(zZ s182 713),(zZ s168 714),(zZ s172 715),(zZ s179 716),(zZ s181 717),(zZ s177 718),(zZ s180 719),(zZ s183 720)]
noncomputable def o413(P:Params):Obj:=⟨zy3,none,(.dict (zA [⟨zk P s467,zZ s467 458,(zZ s298 337)⟩,⟨zk P s469,zZ s469 462,(.int (.ofNat 95) 461)⟩,⟨zk P s64,zZ s64 469,(zR 215)⟩,⟨zk P s188,zZ s188 477,(zR 222)⟩,⟨zk P s190,zZ s190 485,(zR 229)⟩,⟨zk P s192,zZ s192 493,(zR 236)⟩,⟨zk P s193,zZ s193 501,(zR 243)⟩,⟨zk P s196,zZ s196 509,(zR 250)⟩,⟨zk P s197,zZ s197 519,(zR 257)⟩,⟨zk P s200,zZ s200 529,(zR 264)⟩,⟨zk P s48,zZ s48 538,(zR 271)⟩,⟨zk P s203,zZ s203 546,(zR 278)⟩,⟨zk P s205,zZ s205 554,(zR 285)⟩,⟨zk P s206,zZ s206 562,(zR 292)⟩,⟨zk P s207,zZ s207 569,(zR 299)⟩,⟨zk P s4,zZ s4 577,(zR 306)⟩,⟨zk P s3,zZ s3 585,(zR 313)⟩,⟨zk P s107,zZ s107 593,(zR 320)⟩,⟨zk P s8,zZ s8 601,(zR 327)⟩,⟨zk P s6,zZ s6 609,(zR 334)⟩,⟨zk P s61,zZ s61 616,(zR 341)⟩,⟨zk P s184,zZ s184 629,(zR 348)⟩,⟨zk P s210,zZ s210 640,(zR 355)⟩,⟨zk P s111,zZ s111 648,(zR 362)⟩,⟨zk P s212,zZ s212 658,(zR 369)⟩,⟨zk P s217,zZ s217 669,(zR 376)⟩,⟨zk P s67,zZ s67 676,(zR 383)⟩,⟨zk P s69,zZ s69 683,(zR 390)⟩,⟨zk P s155,zZ s155 691,(zR 397)⟩,⟨zk P s219,zZ s219 699,(zR 404)⟩,⟨zk P s220,zZ s220 707,(zR 411)⟩,⟨zk P s470,zZ s470 721,(zR 412)⟩,⟨zk P s507,zZ s507 723,(zR 415)⟩,⟨zk P s474,zZ s474 725,(zR 416)⟩,⟨zk P s316,zZ s316 726,.none⟩]) 4),z0⟩
noncomputable def o414(P:Params):Obj:=⟨zy4,none,(.cls ⟨s167,[zy6],[(zR 414),zy6],413,s167,true,[],[(zR 519)],false,none,false⟩),zA [none,none,(some (zZ s167 451)),(some (zZ s167 459)),(some zy12),(some (.bool true))]⟩
noncomputable def o415(P:Params):Obj:=⟨zy15,none,(.fields (zA [(zZ s507 722),(zR 414),zy21,zy22])),z0⟩
noncomputable def o416(P:Params):Obj:=⟨zy15,none,(.fields (zA [(zZ s474 724),(zR 414),zy19,.none])),z0⟩
noncomputable def o417(P:Params):Obj:=⟨zy8,none,(.fields (zA [(zR 414),(zR 414),(zR 414)])),z0⟩
noncomputable def o418(P:Params):Obj:=⟨zy5,none,(.fields (zA [zy11,(zR 414)])),z0⟩
noncomputable def o419(P:Params):Obj:=zq zy0 [(zR 414)]
noncomputable def o420(P:Params):Obj:=⟨zy5,none,(.fields (zA [zy10,zy4])),z0⟩
noncomputable def o421(P:Params):Obj:=⟨zy3,none,(.dict (zA [⟨zk P s467,zZ s467 736,(zZ s298 337)⟩,⟨zk P s468,zZ s468 738,(zZ s221 737)⟩,⟨zk P s469,zZ s469 740,(.int (.ofNat 209) 739)⟩,⟨zk P s83,zZ s83 748,(zR 432)⟩,⟨zk P s92,zZ s92 756,(zR 439)⟩,⟨zk P s93,zZ s93 764,(zR 446)⟩,⟨zk P s222,zZ s222 773,(zR 453)⟩,⟨zk P s223,zZ s223 782,(zR 460)⟩,⟨zk P s102,zZ s102 791,(zR 467)⟩,⟨zk P s115,zZ s115 800,(zR 474)⟩,⟨zk P s227,zZ s227 808,(zR 481)⟩,⟨zk P s105,zZ s105 818,(zR 488)⟩,⟨zk P s202,zZ s202 830,(zR 495)⟩,⟨zk P s232,zZ s232 839,(zR 502)⟩,⟨zk P s233,zZ s233 848,(zR 509)⟩,⟨zk P s234,zZ s234 857,(zR 516)⟩,⟨zk P s470,zZ s470 858,(zR 517)⟩]) 17),z0⟩
noncomputable def o422(P:Params):Obj:=⟨zy0,none,(.seq (z0) 0),z0⟩
noncomputable def o423(P:Params):Obj:=⟨.none,none,(.fields (zA [(zI 211),(zI 4),(zR 431),(zI 221),(zI 4),(zR 438),(zI 227),(zI 4),(zR 445),(zI 233),(zI 4),(zR 452),(zI 236),(zI 4),(zR 459),(zI 239),(zI 4),(zR 466),(zI 243),(zI 4),(zR 473),(zI 249),(zI 4),(zR 480),(zI 252),(zI 4),(zR 487),(zI 257),(zI 4),(zR 494),(zI 265),(zI 4),(zR 501),(zI 268),(zI 4),(zR 508),(zI 271),(zI 4),(zR 515)])),z0⟩
noncomputable def o424(P:Params):Obj:=⟨zy1,none,(.fields (zA [(zZ s221 731),(zZ s221 732),(zZ s314 733),(zI 209),(zI 0),(zI 0),(zI 0),(zI 0),(zR 422),(.bool false),(zI 181),(zR 423),.none,.none,.none,.none,(zI 734),(zI 209),(zZ s314 735)])),z0⟩
noncomputable def o425(P:Params):Obj:=⟨zy7,none,.plain,zA [(some (zR 424)),(some (zR 3)),(some (zR 421)),none,(some (zZ s298 337)),none,(some (zR 0))]⟩
noncomputable def o426(P:Params):Obj:=⟨zy0,none,(.seq (z0) 0),z0⟩
noncomputable def o427(P:Params):Obj:=⟨.none,none,(.fields (z0)),z0⟩
noncomputable def o428(P:Params):Obj:=zq zy0 [(zZ s65 744),(zZ s2 745)]
noncomputable def o429(P:Params):Obj:=⟨zy0,none,(.seq (z0) 0),z0⟩
noncomputable def o430(P:Params):Obj:=⟨.none,none,(fo (sub (stm 30) 0) s508 0 [] .none .none .none .none none .none .none 0),z0⟩
noncomputable def o431(P:Params):Obj:=zc zy1 s83 741 s508 742 s314 743 211 2 0 0 3 426 (.bool true) 181 427 .none 428 429 430 746 211 s314 747
noncomputable def o432(P:Params):Obj:=⟨zy2,none,(fo (sub (stm 30) 0) s508 3 [] .none .none .none (zZ s298 337) none (zR 431) .none 0),z0⟩
noncomputable def o433(P:Params):Obj:=⟨zy0,none,(.seq (z0) 0),z0⟩
noncomputable def o434(P:Params):Obj:=⟨.none,none,(.fields (z0)),z0⟩
noncomputable def o435(P:Params):Obj:=zq zy0 [(zZ s65 752),(zZ s16 753)]
noncomputable def o436(P:Params):Obj:=⟨zy0,none,(.seq (z0) 0),z0⟩
noncomputable def o437(P:Params):Obj:=⟨.none,none,(fo (sub (stm 30) 1) s509 0 [] .none .none .none .none none .none .none 0),z0⟩
noncomputable def o438(P:Params):Obj:=zc zy1 s92 749 s509 750 s314 751 221 2 0 0 3 433 (.bool true) 181 434 .none 435 436 437 754 221 s314 755
noncomputable def o439(P:Params):Obj:=⟨zy2,none,(fo (sub (stm 30) 1) s509 3 [] .none .none .none (zZ s298 337) none (zR 438) .none 0),z0⟩
noncomputable def o440(P:Params):Obj:=⟨zy0,none,(.seq (z0) 0),z0⟩
noncomputable def o441(P:Params):Obj:=⟨.none,none,(.fields (z0)),z0⟩
noncomputable def o442(P:Params):Obj:=zq zy0 [(zZ s65 760),(zZ s16 761)]
noncomputable def o443(P:Params):Obj:=⟨zy0,none,(.seq (z0) 0),z0⟩
noncomputable def o444(P:Params):Obj:=⟨.none,none,(fo (sub (stm 30) 2) s510 0 [] .none .none .none .none none .none .none 0),z0⟩
noncomputable def o445(P:Params):Obj:=zc zy1 s93 757 s510 758 s314 759 227 2 0 0 3 440 (.bool true) 181 441 .none 442 443 444 762 227 s314 763
noncomputable def o446(P:Params):Obj:=⟨zy2,none,(fo (sub (stm 30) 2) s510 3 [] .none .none .none (zZ s298 337) none (zR 445) .none 0),z0⟩
noncomputable def o447(P:Params):Obj:=⟨zy0,none,(.seq (z0) 0),z0⟩
noncomputable def o448(P:Params):Obj:=⟨.none,none,(.fields (z0)),z0⟩
noncomputable def o449(P:Params):Obj:=zq zy0 [(zZ s65 768),(zZ s97 769),(zZ s98 770)]
noncomputable def o450(P:Params):Obj:=⟨zy0,none,(.seq (z0) 0),z0⟩
noncomputable def o451(P:Params):Obj:=⟨.none,none,(fo (sub (stm 30) 3) s511 0 [] .none .none .none .none none .none .none 0),z0⟩
noncomputable def o452(P:Params):Obj:=zc zy1 s222 765 s511 766 s314 767 233 3 0 0 3 447 (.bool true) 181 448 .none 449 450 451 771 233 s314 772
noncomputable def o453(P:Params):Obj:=⟨zy2,none,(fo (sub (stm 30) 3) s511 3 [] .none .none .none (zZ s298 337) none (zR 452) .none 0),z0⟩
noncomputable def o454(P:Params):Obj:=⟨zy0,none,(.seq (z0) 0),z0⟩
noncomputable def o455(P:Params):Obj:=⟨.none,none,(.fields (z0)),z0⟩
noncomputable def o456(P:Params):Obj:=zq zy0 [(zZ s65 777),(zZ s97 778),(zZ s98 779)]
noncomputable def o457(P:Params):Obj:=⟨zy0,none,(.seq (z0) 0),z0⟩
noncomputable def o458(P:Params):Obj:=⟨.none,none,(fo (sub (stm 30) 4) s512 0 [] .none .none .none .none none .none .none 0),z0⟩
noncomputable def o459(P:Params):Obj:=zc zy1 s223 774 s512 775 s314 776 236 3 0 0 3 454 (.bool true) 181 455 .none 456 457 458 780 236 s314 781
noncomputable def o460(P:Params):Obj:=⟨zy2,none,(fo (sub (stm 30) 4) s512 3 [] .none .none .none (zZ s298 337) none (zR 459) .none 0),z0⟩
noncomputable def o461(P:Params):Obj:=⟨zy0,none,(.seq (z0) 0),z0⟩
noncomputable def o462(P:Params):Obj:=⟨.none,none,(.fields (z0)),z0⟩
noncomputable def o463(P:Params):Obj:=zq zy0 [(zZ s65 786),(zZ s97 787),(zZ s98 788)]
noncomputable def o464(P:Params):Obj:=⟨zy0,none,(.seq (z0) 0),z0⟩
noncomputable def o465(P:Params):Obj:=⟨.none,none,(fo (sub (stm 30) 5) s513 0 [] .none .none .none .none none .none .none 0),z0⟩
noncomputable def o466(P:Params):Obj:=zc zy1 s102 783 s513 784 s314 785 239 3 0 0 3 461 (.bool true) 181 462 .none 463 464 465 789 239 s314 790
noncomputable def o467(P:Params):Obj:=⟨zy2,none,(fo (sub (stm 30) 5) s513 3 [] .none .none .none (zZ s298 337) none (zR 466) .none 0),z0⟩
noncomputable def o468(P:Params):Obj:=⟨zy0,none,(.seq (z0) 0),z0⟩
noncomputable def o469(P:Params):Obj:=⟨.none,none,(.fields (z0)),z0⟩
noncomputable def o470(P:Params):Obj:=zq zy0 [(zZ s65 795),(zZ s97 796),(zZ s98 797)]
noncomputable def o471(P:Params):Obj:=⟨zy0,none,(.seq (z0) 0),z0⟩
noncomputable def o472(P:Params):Obj:=⟨.none,none,(fo (sub (stm 30) 6) s514 0 [] .none .none .none .none none .none .none 0),z0⟩
noncomputable def o473(P:Params):Obj:=zc zy1 s115 792 s514 793 s314 794 243 3 0 0 3 468 (.bool true) 181 469 .none 470 471 472 798 243 s314 799
noncomputable def o474(P:Params):Obj:=⟨zy2,none,(fo (sub (stm 30) 6) s514 3 [] .none .none .none (zZ s298 337) none (zR 473) .none 0),z0⟩
noncomputable def o475(P:Params):Obj:=⟨zy0,none,(.seq (z0) 0),z0⟩
noncomputable def o476(P:Params):Obj:=⟨.none,none,(.fields (z0)),z0⟩
noncomputable def o477(P:Params):Obj:=zq zy0 [(zZ s65 804),(zZ s16 805)]
noncomputable def o478(P:Params):Obj:=⟨zy0,none,(.seq (z0) 0),z0⟩
noncomputable def o479(P:Params):Obj:=⟨.none,none,(fo (sub (stm 30) 7) s515 0 [] .none .none .none .none none .none .none 0),z0⟩
noncomputable def o480(P:Params):Obj:=zc zy1 s227 801 s515 802 s314 803 249 2 0 0 3 475 (.bool true) 181 476 .none 477 478 479 806 249 s314 807
noncomputable def o481(P:Params):Obj:=⟨zy2,none,(fo (sub (stm 30) 7) s515 3 [] .none .none .none (zZ s298 337) none (zR 480) .none 0),z0⟩
noncomputable def o482(P:Params):Obj:=⟨zy0,none,(.seq (z0) 0),z0⟩
noncomputable def o483(P:Params):Obj:=⟨.none,none,(.fields (z0)),z0⟩
noncomputable def o484(P:Params):Obj:=zq zy0 [(zZ s65 812),(zZ s104 813),(zZ s97 814),(zZ s98 815)]
noncomputable def o485(P:Params):Obj:=⟨zy0,none,(.seq (z0) 0),z0⟩
noncomputable def o486(P:Params):Obj:=⟨.none,none,(fo (sub (stm 30) 8) s516 0 [] .none .none .none .none none .none .none 0),z0⟩
noncomputable def o487(P:Params):Obj:=zc zy1 s105 809 s516 810 s314 811 252 4 0 0 3 482 (.bool true) 181 483 .none 484 485 486 816 252 s314 817
noncomputable def o488(P:Params):Obj:=⟨zy2,none,(fo (sub (stm 30) 8) s516 3 [] .none .none .none (zZ s298 337) none (zR 487) .none 0),z0⟩
noncomputable def o489(P:Params):Obj:=⟨zy0,none,(.seq (z0) 0),z0⟩
noncomputable def o490(P:Params):Obj:=⟨.none,none,(.fields (z0)),z0⟩
noncomputable def o491(P:Params):Obj:=zq zy0 [(zZ s65 822),(zZ s204 823),(zZ s16 824),(zZ s228 825),(zZ s2 826),(zZ s189 827)]
noncomputable def o492(P:Params):Obj:=⟨zy0,none,(.seq (z0) 0),z0⟩
noncomputable def o493(P:Params):Obj:=⟨.none,none,(fo (sub (stm 30) 9) s517 0 [] .none .none .none .none none .none .none 0),z0⟩
noncomputable def o494(P:Params):Obj:=zc zy1 s202 819 s517 820 s314 821 257 3 0 0 3 489 (.bool true) 181 490 .none 491 492 493 828 257 s314 829
noncomputable def o495(P:Params):Obj:=⟨zy2,none,(fo (sub (stm 30) 9) s517 3 [] .none .none .none (zZ s298 337) none (zR 494) .none 0),z0⟩
noncomputable def o496(P:Params):Obj:=⟨zy0,none,(.seq (z0) 0),z0⟩
noncomputable def o497(P:Params):Obj:=⟨.none,none,(.fields (z0)),z0⟩
noncomputable def o498(P:Params):Obj:=zq zy0 [(zZ s65 834),(zZ s2 835),(zZ s3 836)]
noncomputable def o499(P:Params):Obj:=⟨zy0,none,(.seq (z0) 0),z0⟩
noncomputable def o500(P:Params):Obj:=⟨.none,none,(fo (sub (stm 30) 10) s518 0 [] .none .none .none .none none .none .none 0),z0⟩
noncomputable def o501(P:Params):Obj:=zc zy1 s232 831 s518 832 s314 833 265 3 0 0 3 496 (.bool true) 181 497 .none 498 499 500 837 265 s314 838
noncomputable def o502(P:Params):Obj:=⟨zy2,none,(fo (sub (stm 30) 10) s518 3 [] .none .none .none (zZ s298 337) none (zR 501) .none 0),z0⟩
noncomputable def o503(P:Params):Obj:=⟨zy0,none,(.seq (z0) 0),z0⟩
noncomputable def o504(P:Params):Obj:=⟨.none,none,(.fields (z0)),z0⟩
noncomputable def o505(P:Params):Obj:=zq zy0 [(zZ s65 843),(zZ s2 844),(zZ s3 845)]
noncomputable def o506(P:Params):Obj:=⟨zy0,none,(.seq (z0) 0),z0⟩
noncomputable def o507(P:Params):Obj:=⟨.none,none,(fo (sub (stm 30) 11) s519 0 [] .none .none .none .none none .none .none 0),z0⟩
noncomputable def o508(P:Params):Obj:=zc zy1 s233 840 s519 841 s314 842 268 3 0 0 3 503 (.bool true) 181 504 .none 505 506 507 846 268 s314 847
noncomputable def o509(P:Params):Obj:=⟨zy2,none,(fo (sub (stm 30) 11) s519 3 [] .none .none .none (zZ s298 337) none (zR 508) .none 0),z0⟩
noncomputable def o510(P:Params):Obj:=⟨zy0,none,(.seq (z0) 0),z0⟩
noncomputable def o511(P:Params):Obj:=⟨.none,none,(.fields (z0)),z0⟩
noncomputable def o512(P:Params):Obj:=zq zy0 [(zZ s65 852),(zZ s2 853),(zZ s17 854)]
noncomputable def o513(P:Params):Obj:=⟨zy0,none,(.seq (z0) 0),z0⟩
noncomputable def o514(P:Params):Obj:=⟨.none,none,(fo (sub (stm 30) 12) s520 0 [] .none .none .none .none none .none .none 0),z0⟩
noncomputable def o515(P:Params):Obj:=zc zy1 s234 849 s520 850 s314 851 271 3 0 0 3 510 (.bool true) 181 511 .none 512 513 514 855 271 s314 856
noncomputable def o516(P:Params):Obj:=⟨zy2,none,(fo (sub (stm 30) 12) s520 3 [] .none .none .none (zZ s298 337) none (zR 515) .none 0),z0⟩
noncomputable def o517(P:Params):Obj:=⟨zy0,none,(.seq (z0) 0),z0⟩
noncomputable def o518(P:Params):Obj:=⟨zy3,none,(.dict (zA [⟨zk P s467,zZ s467 736,(zZ s298 337)⟩,⟨zk P s469,zZ s469 740,(.int (.ofNat 209) 739)⟩,⟨zk P s83,zZ s83 748,(zR 432)⟩,⟨zk P s92,zZ s92 756,(zR 439)⟩,⟨zk P s93,zZ s93 764,(zR 446)⟩,⟨zk P s222,zZ s222 773,(zR 453)⟩,⟨zk P s223,zZ s223 782,(zR 460)⟩,⟨zk P s102,zZ s102 791,(zR 467)⟩,⟨zk P s115,zZ s115 800,(zR 474)⟩,⟨zk P s227,zZ s227 808,(zR 481)⟩,⟨zk P s105,zZ s105 818,(zR 488)⟩,⟨zk P s202,zZ s202 830,(zR 495)⟩,⟨zk P s232,zZ s232 839,(zR 502)⟩,⟨zk P s233,zZ s233 848,(zR 509)⟩,⟨zk P s234,zZ s234 857,(zR 516)⟩,⟨zk P s470,zZ s470 858,(zR 517)⟩,⟨zk P s316,zZ s316 859,.none⟩]) 2),z0⟩
noncomputable def o519(P:Params):Obj:=⟨zy4,none,(.cls ⟨s221,[(zR 414)],[(zR 519),(zR 414),zy6],518,s221,true,[],[(zR 615)],false,none,false⟩),zA [(some (zR 419)),none,(some (zZ s221 729)),(some (zZ s221 737)),(some zy12),(some (.bool true))]⟩
noncomputable def o520(P:Params):Obj:=⟨zy8,none,(.fields (zA [(zR 519),(zR 519),(zR 519)])),z0⟩
noncomputable def o521(P:Params):Obj:=⟨zy5,none,(.fields (zA [zy11,(zR 519)])),z0⟩
noncomputable def o522(P:Params):Obj:=⟨zy0,none,(.seq (z0) 0),z0⟩
noncomputable def o523(P:Params):Obj:=⟨.none,none,(.fields (z0)),z0⟩
noncomputable def o524(P:Params):Obj:=zq zy0 [(zZ s112 865)]
noncomputable def o525(P:Params):Obj:=⟨zy0,none,(.seq (z0) 0),z0⟩
noncomputable def o526(P:Params):Obj:=⟨.none,none,(fo (stm 31) s235 0 [] .none .none .none .none none .none .none 0),z0⟩
noncomputable def o527(P:Params):Obj:=zc zy1 s235 862 s235 863 s314 864 273 1 0 0 3 522 (.bool true) 181 523 .none 524 525 526 866 273 s314 867
noncomputable def o528(P:Params):Obj:=⟨zy2,none,(fo (stm 31) s235 3 [] .none .none .none (zZ s298 337) none (zR 527) .none 0),z0⟩
noncomputable def o529(P:Params):Obj:=zq zy0 [(zR 519)]
noncomputable def o530(P:Params):Obj:=⟨zy5,none,(.fields (zA [zy10,zy4])),z0⟩
noncomputable def o531(P:Params):Obj:=⟨zy3,none,(.dict (zA [⟨zk P s467,zZ s467 876,(zZ s298 337)⟩,⟨zk P s468,zZ s468 878,(zZ s241 877)⟩,⟨zk P s469,zZ s469 880,(.int (.ofNat 276) 879)⟩,⟨zk P s242,zZ s242 889,(zR 542)⟩,⟨zk P s246,zZ s246 898,(zR 549)⟩,⟨zk P s248,zZ s248 906,(zR 556)⟩,⟨zk P s249,zZ s249 916,(zR 563)⟩,⟨zk P s252,zZ s252 925,(zR 570)⟩,⟨zk P s254,zZ s254 934,(zR 577)⟩,⟨zk P s255,zZ s255 942,(zR 584)⟩,⟨zk P s256,zZ s256 951,(zR 591)⟩,⟨zk P s257,zZ s257 960,(zR 598)⟩,⟨zk P s258,zZ s258 969,(zR 605)⟩,⟨zk P s233,zZ s233 978,(zR 612)⟩,⟨zk P s470,zZ s470 979,(zR 613)⟩]) 15),z0⟩
noncomputable def o532(P:Params):Obj:=⟨zy0,none,(.seq (z0) 0),z0⟩
noncomputable def o533(P:Params):Obj:=⟨.none,none,(.fields (zA [(zI 278),(zI 4),(zR 541),(zI 286),(zI 4),(zR 548),(zI 290),(zI 4),(zR 555),(zI 293),(zI 4),(zR 562),(zI 300),(zI 4),(zR 569),(zI 309),(zI 4),(zR 576),(zI 312),(zI 4),(zR 583),(zI 315),(zI 4),(zR 590),(zI 318),(zI 4),(zR 597),(zI 321),(zI 4),(zR 604),(zI 324),(zI 4),(zR 611)])),z0⟩
noncomputable def o534(P:Params):Obj:=⟨zy1,none,(.fields (zA [(zZ s241 871),(zZ s241 872),(zZ s314 873),(zI 276),(zI 0),(zI 0),(zI 0),(zI 0),(zR 532),(.bool false),(zI 181),(zR 533),.none,.none,.none,.none,(zI 874),(zI 276),(zZ s314 875)])),z0⟩
noncomputable def o535(P:Params):Obj:=⟨zy7,none,.plain,zA [(some (zR 534)),(some (zR 3)),(some (zR 531)),none,(some (zZ s298 337)),none,(some (zR 0))]⟩
noncomputable def o536(P:Params):Obj:=⟨zy0,none,(.seq (z0) 0),z0⟩
noncomputable def o537(P:Params):Obj:=⟨.none,none,(.fields (z0)),z0⟩
noncomputable def o538(P:Params):Obj:=zq zy0 [(zZ s65 884),(zZ s112 885),(zZ s189 886)]
noncomputable def o539(P:Params):Obj:=⟨zy0,none,(.seq (z0) 0),z0⟩
noncomputable def o540(P:Params):Obj:=⟨.none,none,(fo (sub (stm 32) 0) s521 0 [] .none .none .none .none none .none .none 0),z0⟩
noncomputable def o541(P:Params):Obj:=zc zy1 s242 881 s521 882 s314 883 278 3 0 0 3 536 (.bool true) 181 537 .none 538 539 540 887 278 s314 888
noncomputable def o542(P:Params):Obj:=⟨zy2,none,(fo (sub (stm 32) 0) s521 3 [] .none .none .none (zZ s298 337) none (zR 541) .none 0),z0⟩
noncomputable def o543(P:Params):Obj:=⟨zy0,none,(.seq (z0) 0),z0⟩
noncomputable def o544(P:Params):Obj:=⟨.none,none,(.fields (z0)),z0⟩
noncomputable def o545(P:Params):Obj:=zq zy0 [(zZ s65 893),(zZ s2 894),(zZ s213 895)]
noncomputable def o546(P:Params):Obj:=⟨zy0,none,(.seq (z0) 0),z0⟩
noncomputable def o547(P:Params):Obj:=⟨.none,none,(fo (sub (stm 32) 1) s522 0 [] .none .none .none .none none .none .none 0),z0⟩
noncomputable def o548(P:Params):Obj:=zc zy1 s246 890 s522 891 s314 892 286 3 0 0 3 543 (.bool true) 181 544 .none 545 546 547 896 286 s314 897
noncomputable def o549(P:Params):Obj:=⟨zy2,none,(fo (sub (stm 32) 1) s522 3 [] .none .none .none (zZ s298 337) none (zR 548) .none 0),z0⟩
noncomputable def o550(P:Params):Obj:=⟨zy0,none,(.seq (z0) 0),z0⟩
noncomputable def o551(P:Params):Obj:=⟨.none,none,(.fields (z0)),z0⟩
noncomputable def o552(P:Params):Obj:=zq zy0 [(zZ s65 902),(zZ s16 903)]
noncomputable def o553(P:Params):Obj:=⟨zy0,none,(.seq (z0) 0),z0⟩
noncomputable def o554(P:Params):Obj:=⟨.none,none,(fo (sub (stm 32) 2) s523 0 [] .none .none .none .none none .none .none 0),z0⟩
noncomputable def o555(P:Params):Obj:=zc zy1 s248 899 s523 900 s314 901 290 2 0 0 3 550 (.bool true) 181 551 .none 552 553 554 904 290 s314 905
noncomputable def o556(P:Params):Obj:=⟨zy2,none,(fo (sub (stm 32) 2) s523 3 [] .none .none .none (zZ s298 337) none (zR 555) .none 0),z0⟩
noncomputable def o557(P:Params):Obj:=⟨zy0,none,(.seq (z0) 0),z0⟩
noncomputable def o558(P:Params):Obj:=⟨.none,none,(.fields (z0)),z0⟩
noncomputable def o559(P:Params):Obj:=zq zy0 [(zZ s65 910),(zZ s112 911),(zZ s2 912),(zZ s189 913)]
noncomputable def o560(P:Params):Obj:=⟨zy0,none,(.seq (z0) 0),z0⟩
noncomputable def o561(P:Params):Obj:=⟨.none,none,(fo (sub (stm 32) 3) s524 0 [] .none .none .none .none none .none .none 0),z0⟩
noncomputable def o562(P:Params):Obj:=zc zy1 s249 907 s524 908 s314 909 293 3 0 0 3 557 (.bool true) 181 558 .none 559 560 561 914 293 s314 915
noncomputable def o563(P:Params):Obj:=⟨zy2,none,(fo (sub (stm 32) 3) s524 3 [] .none .none .none (zZ s298 337) none (zR 562) .none 0),z0⟩
noncomputable def o564(P:Params):Obj:=⟨zy0,none,(.seq (z0) 0),z0⟩
noncomputable def o565(P:Params):Obj:=⟨.none,none,(.fields (z0)),z0⟩
noncomputable def o566(P:Params):Obj:=zq zy0 [(zZ s65 920),(zZ s97 921),(zZ s98 922)]
noncomputable def o567(P:Params):Obj:=⟨zy0,none,(.seq (z0) 0),z0⟩
noncomputable def o568(P:Params):Obj:=⟨.none,none,(fo (sub (stm 32) 4) s525 0 [] .none .none .none .none none .none .none 0),z0⟩
noncomputable def o569(P:Params):Obj:=zc zy1 s252 917 s525 918 s314 919 300 3 0 0 3 564 (.bool true) 181 565 .none 566 567 568 923 300 s314 924
noncomputable def o570(P:Params):Obj:=⟨zy2,none,(fo (sub (stm 32) 4) s525 3 [] .none .none .none (zZ s298 337) none (zR 569) .none 0),z0⟩
noncomputable def o571(P:Params):Obj:=⟨zy0,none,(.seq (z0) 0),z0⟩
noncomputable def o572(P:Params):Obj:=⟨.none,none,(.fields (z0)),z0⟩
noncomputable def o573(P:Params):Obj:=zq zy0 [(zZ s65 929),(zZ s2 930),(zZ s112 931)]
noncomputable def o574(P:Params):Obj:=⟨zy0,none,(.seq (z0) 0),z0⟩
noncomputable def o575(P:Params):Obj:=⟨.none,none,(fo (sub (stm 32) 5) s526 0 [] .none .none .none .none none .none .none 0),z0⟩
noncomputable def o576(P:Params):Obj:=zc zy1 s254 926 s526 927 s314 928 309 3 0 0 3 571 (.bool true) 181 572 .none 573 574 575 932 309 s314 933
noncomputable def o577(P:Params):Obj:=⟨zy2,none,(fo (sub (stm 32) 5) s526 3 [] .none .none .none (zZ s298 337) none (zR 576) .none 0),z0⟩
noncomputable def o578(P:Params):Obj:=⟨zy0,none,(.seq (z0) 0),z0⟩
noncomputable def o579(P:Params):Obj:=⟨.none,none,(.fields (z0)),z0⟩
noncomputable def o580(P:Params):Obj:=zq zy0 [(zZ s65 938),(zZ s2 939)]
noncomputable def o581(P:Params):Obj:=⟨zy0,none,(.seq (z0) 0),z0⟩
noncomputable def o582(P:Params):Obj:=⟨.none,none,(fo (sub (stm 32) 6) s527 0 [] .none .none .none .none none .none .none 0),z0⟩
noncomputable def o583(P:Params):Obj:=zc zy1 s255 935 s527 936 s314 937 312 2 0 0 3 578 (.bool true) 181 579 .none 580 581 582 940 312 s314 941
noncomputable def o584(P:Params):Obj:=⟨zy2,none,(fo (sub (stm 32) 6) s527 3 [] .none .none .none (zZ s298 337) none (zR 583) .none 0),z0⟩
noncomputable def o585(P:Params):Obj:=⟨zy0,none,(.seq (z0) 0),z0⟩
noncomputable def o586(P:Params):Obj:=⟨.none,none,(.fields (z0)),z0⟩
noncomputable def o587(P:Params):Obj:=zq zy0 [(zZ s65 946),(zZ s97 947),(zZ s98 948)]
noncomputable def o588(P:Params):Obj:=⟨zy0,none,(.seq (z0) 0),z0⟩
noncomputable def o589(P:Params):Obj:=⟨.none,none,(fo (sub (stm 32) 7) s528 0 [] .none .none .none .none none .none .none 0),z0⟩
noncomputable def o590(P:Params):Obj:=zc zy1 s256 943 s528 944 s314 945 315 3 0 0 3 585 (.bool true) 181 586 .none 587 588 589 949 315 s314 950
noncomputable def o591(P:Params):Obj:=⟨zy2,none,(fo (sub (stm 32) 7) s528 3 [] .none .none .none (zZ s298 337) none (zR 590) .none 0),z0⟩
noncomputable def o592(P:Params):Obj:=⟨zy0,none,(.seq (z0) 0),z0⟩
noncomputable def o593(P:Params):Obj:=⟨.none,none,(.fields (z0)),z0⟩
noncomputable def o594(P:Params):Obj:=zq zy0 [(zZ s65 955),(zZ s97 956),(zZ s98 957)]
noncomputable def o595(P:Params):Obj:=⟨zy0,none,(.seq (z0) 0),z0⟩
noncomputable def o596(P:Params):Obj:=⟨.none,none,(fo (sub (stm 32) 8) s529 0 [] .none .none .none .none none .none .none 0),z0⟩
noncomputable def o597(P:Params):Obj:=zc zy1 s257 952 s529 953 s314 954 318 3 0 0 3 592 (.bool true) 181 593 .none 594 595 596 958 318 s314 959
noncomputable def o598(P:Params):Obj:=⟨zy2,none,(fo (sub (stm 32) 8) s529 3 [] .none .none .none (zZ s298 337) none (zR 597) .none 0),z0⟩
noncomputable def o599(P:Params):Obj:=⟨zy0,none,(.seq (z0) 0),z0⟩
noncomputable def o600(P:Params):Obj:=⟨.none,none,(.fields (z0)),z0⟩
noncomputable def o601(P:Params):Obj:=zq zy0 [(zZ s65 964),(zZ s97 965),(zZ s98 966)]
noncomputable def o602(P:Params):Obj:=⟨zy0,none,(.seq (z0) 0),z0⟩
noncomputable def o603(P:Params):Obj:=⟨.none,none,(fo (sub (stm 32) 9) s530 0 [] .none .none .none .none none .none .none 0),z0⟩
noncomputable def o604(P:Params):Obj:=zc zy1 s258 961 s530 962 s314 963 321 3 0 0 3 599 (.bool true) 181 600 .none 601 602 603 967 321 s314 968
noncomputable def o605(P:Params):Obj:=⟨zy2,none,(fo (sub (stm 32) 9) s530 3 [] .none .none .none (zZ s298 337) none (zR 604) .none 0),z0⟩
noncomputable def o606(P:Params):Obj:=⟨zy0,none,(.seq (z0) 0),z0⟩
noncomputable def o607(P:Params):Obj:=⟨.none,none,(.fields (z0)),z0⟩
noncomputable def o608(P:Params):Obj:=zq zy0 [(zZ s65 973),(zZ s2 974),(zZ s3 975)]
noncomputable def o609(P:Params):Obj:=⟨zy0,none,(.seq (z0) 0),z0⟩
noncomputable def o610(P:Params):Obj:=⟨.none,none,(fo (sub (stm 32) 10) s531 0 [] .none .none .none .none none .none .none 0),z0⟩
noncomputable def o611(P:Params):Obj:=zc zy1 s233 970 s531 971 s314 972 324 3 0 0 3 606 (.bool true) 181 607 .none 608 609 610 976 324 s314 977
noncomputable def o612(P:Params):Obj:=⟨zy2,none,(fo (sub (stm 32) 10) s531 3 [] .none .none .none (zZ s298 337) none (zR 611) .none 0),z0⟩
noncomputable def o613(P:Params):Obj:=⟨zy0,none,(.seq (z0) 0),z0⟩
noncomputable def o614(P:Params):Obj:=⟨zy3,none,(.dict (zA [⟨zk P s467,zZ s467 876,(zZ s298 337)⟩,⟨zk P s469,zZ s469 880,(.int (.ofNat 276) 879)⟩,⟨zk P s242,zZ s242 889,(zR 542)⟩,⟨zk P s246,zZ s246 898,(zR 549)⟩,⟨zk P s248,zZ s248 906,(zR 556)⟩,⟨zk P s249,zZ s249 916,(zR 563)⟩,⟨zk P s252,zZ s252 925,(zR 570)⟩,⟨zk P s254,zZ s254 934,(zR 577)⟩,⟨zk P s255,zZ s255 942,(zR 584)⟩,⟨zk P s256,zZ s256 951,(zR 591)⟩,⟨zk P s257,zZ s257 960,(zR 598)⟩,⟨zk P s258,zZ s258 969,(zR 605)⟩,⟨zk P s233,zZ s233 978,(zR 612)⟩,⟨zk P s470,zZ s470 979,(zR 613)⟩,⟨zk P s316,zZ s316 980,.none⟩]) 2),z0⟩
noncomputable def o615(P:Params):Obj:=⟨zy4,none,(.cls ⟨s241,[(zR 519)],[(zR 615),(zR 519),(zR 414),zy6],614,s241,true,[],[(zR 734)],false,none,false⟩),zA [(some (zR 529)),none,(some (zZ s241 869)),(some (zZ s241 877)),(some zy12),(some (.bool true))]⟩
noncomputable def o616(P:Params):Obj:=⟨zy8,none,(.fields (zA [(zR 615),(zR 615),(zR 615)])),z0⟩
noncomputable def o617(P:Params):Obj:=⟨zy5,none,(.fields (zA [zy11,(zR 615)])),z0⟩
noncomputable def o618(P:Params):Obj:=zq zy0 [(zR 615)]
noncomputable def o619(P:Params):Obj:=⟨zy5,none,(.fields (zA [zy10,zy4])),z0⟩
noncomputable def o620(P:Params):Obj:=⟨zy3,none,(.dict (zA [⟨zk P s467,zZ s467 990,(zZ s298 337)⟩,⟨zk P s468,zZ s468 992,(zZ s46 991)⟩,⟨zk P s469,zZ s469 994,(.int (.ofNat 326) 993)⟩,⟨zk P s64,zZ s64 1002,(zR 633)⟩,⟨zk P s50,zZ s50 1010,(zR 640)⟩,⟨zk P s265,zZ s265 1018,(zR 647)⟩,⟨zk P s266,zZ s266 1027,(zR 654)⟩,⟨zk P s52,zZ s52 1037,(zR 661)⟩,⟨zk P s57,zZ s57 1046,(zR 668)⟩,⟨zk P s59,zZ s59 1056,(zR 675)⟩,⟨zk P s9,zZ s9 1065,(zR 682)⟩,⟨zk P s10,zZ s10 1075,(zR 689)⟩,⟨zk P s25,zZ s25 1084,(zR 696)⟩,⟨zk P s11,zZ s11 1093,(zR 703)⟩,⟨zk P s274,zZ s274 1103,(zR 710)⟩,⟨zk P s276,zZ s276 1112,(zR 717)⟩,⟨zk P s278,zZ s278 1122,(zR 724)⟩,⟨zk P s279,zZ s279 1132,(zR 731)⟩,⟨zk P s470,zZ s470 1134,(zR 732)⟩,⟨zk P s471,zZ s471 1135,(zR 621)⟩]) 20),z0⟩
noncomputable def o621(P:Params):Obj:=⟨zy18,none,(.cell (some (zR 734))),z0⟩
noncomputable def o622(P:Params):Obj:=⟨zy0,none,(.seq (z0) 0),z0⟩
noncomputable def o623(P:Params):Obj:=⟨.none,none,(.fields (zA [(zI 328),(zI 4),(zR 632),(zI 332),(zI 4),(zR 639),(zI 343),(zI 4),(zR 646),(zI 346),(zI 4),(zR 653),(zI 350),(zI 4),(zR 660),(zI 354),(zI 4),(zR 667),(zI 360),(zI 4),(zR 674),(zI 369),(zI 4),(zR 681),(zI 374),(zI 4),(zR 688),(zI 380),(zI 4),(zR 695),(zI 386),(zI 4),(zR 702),(zI 392),(zI 4),(zR 709),(zI 396),(zI 4),(zR 716),(zI 402),(zI 4),(zR 723),(zI 405),(zI 4),(zR 730)])),z0⟩
noncomputable def o624(P:Params):Obj:=⟨zy1,none,(.fields (zA [(zZ s46 985),(zZ s46 986),(zZ s314 987),(zI 326),(zI 0),(zI 0),(zI 0),(zI 0),(zR 622),(.bool false),(zI 181),(zR 623),.none,.none,.none,.none,(zI 988),(zI 326),(zZ s314 989)])),z0⟩
noncomputable def o625(P:Params):Obj:=⟨zy7,none,.plain,zA [(some (zR 624)),(some (zR 3)),(some (zR 620)),none,(some (zZ s298 337)),none,(some (zR 0))]⟩
noncomputable def o626(P:Params):Obj:=zq zy0 [(zR 621)]
noncomputable def o627(P:Params):Obj:=zq zy0 [(zZ s122 998)]
noncomputable def o628(P:Params):Obj:=⟨.none,none,(.fields (z0)),z0⟩
noncomputable def o629(P:Params):Obj:=zq zy0 [(zZ s65 999)]
noncomputable def o630(P:Params):Obj:=⟨zy0,none,(.seq (z0) 0),z0⟩
noncomputable def o631(P:Params):Obj:=⟨.none,none,(fo (sub (stm 33) 0) s532 0 [] .none .none .none .none none .none .none 0),z0⟩
noncomputable def o632(P:Params):Obj:=zc zy1 s64 995 s532 996 s314 997 328 1 0 0 3 627 (.bool true) 181 628 .none 629 630 631 1000 328 s314 1001
noncomputable def o633(P:Params):Obj:=⟨zy2,none,(fo (sub (stm 33) 0) s532 3 [(s122,621)] .none .none .none (zZ s298 337) none (zR 632) (zR 626) 0),z0⟩
noncomputable def o634(P:Params):Obj:=⟨zy0,none,(.seq (z0) 0),z0⟩
noncomputable def o635(P:Params):Obj:=⟨.none,none,(.fields (z0)),z0⟩
noncomputable def o636(P:Params):Obj:=zq zy0 [(zZ s65 1006),(zZ s6 1007)]
noncomputable def o637(P:Params):Obj:=⟨zy0,none,(.seq (z0) 0),z0⟩
noncomputable def o638(P:Params):Obj:=⟨.none,none,(fo (sub (stm 33) 1) s533 0 [] .none .none .none .none none .none .none 0),z0⟩
noncomputable def o639(P:Params):Obj:=zc zy1 s50 1003 s533 1004 s314 1005 332 2 0 0 3 634 (.bool true) 181 635 .none 636 637 638 1008 332 s314 1009
noncomputable def o640(P:Params):Obj:=⟨zy2,none,(fo (sub (stm 33) 1) s533 3 [] .none .none .none (zZ s298 337) none (zR 639) .none 0),z0⟩
noncomputable def o641(P:Params):Obj:=⟨zy0,none,(.seq (z0) 0),z0⟩
noncomputable def o642(P:Params):Obj:=⟨.none,none,(.fields (z0)),z0⟩
noncomputable def o643(P:Params):Obj:=zq zy0 [(zZ s65 1014),(zZ s6 1015)]
noncomputable def o644(P:Params):Obj:=⟨zy0,none,(.seq (z0) 0),z0⟩
noncomputable def o645(P:Params):Obj:=⟨.none,none,(fo (sub (stm 33) 2) s534 0 [] .none .none .none .none none .none .none 0),z0⟩
noncomputable def o646(P:Params):Obj:=zc zy1 s265 1011 s534 1012 s314 1013 343 2 0 0 3 641 (.bool true) 181 642 .none 643 644 645 1016 343 s314 1017
noncomputable def o647(P:Params):Obj:=⟨zy2,none,(fo (sub (stm 33) 2) s534 3 [] .none .none .none (zZ s298 337) none (zR 646) .none 0),z0⟩
noncomputable def o648(P:Params):Obj:=⟨zy0,none,(.seq (z0) 0),z0⟩
noncomputable def o649(P:Params):Obj:=⟨.none,none,(.fields (z0)),z0⟩
noncomputable def o650(P:Params):Obj:=zq zy0 [(zZ s65 1022),(zZ s2 1023),(zZ s213 1024)]
noncomputable def o651(P:Params):Obj:=⟨zy0,none,(.seq (z0) 0),z0⟩
noncomputable def o652(P:Params):Obj:=⟨.none,none,(fo (sub (stm 33) 3) s535 0 [] .none .none .none .none none .none .none 0),z0⟩
noncomputable def o653(P:Params):Obj:=zc zy1 s266 1019 s535 1020 s314 1021 346 3 0 0 3 648 (.bool true) 181 649 .none 650 651 652 1025 346 s314 1026
noncomputable def o654(P:Params):Obj:=⟨zy2,none,(fo (sub (stm 33) 3) s535 3 [] .none .none .none (zZ s298 337) none (zR 653) .none 0),z0⟩
noncomputable def o655(P:Params):Obj:=⟨zy0,none,(.seq (z0) 0),z0⟩
noncomputable def o656(P:Params):Obj:=⟨.none,none,(.fields (z0)),z0⟩
noncomputable def o657(P:Params):Obj:=zq zy0 [(zZ s65 1031),(zZ s112 1032),(zZ s6 1033),(zZ s189 1034)]
noncomputable def o658(P:Params):Obj:=⟨zy0,none,(.seq (z0) 0),z0⟩
noncomputable def o659(P:Params):Obj:=⟨.none,none,(fo (sub (stm 33) 4) s536 0 [] .none .none .none .none none .none .none 0),z0⟩
noncomputable def o660(P:Params):Obj:=zc zy1 s52 1028 s536 1029 s314 1030 350 3 0 0 3 655 (.bool true) 181 656 .none 657 658 659 1035 350 s314 1036
noncomputable def o661(P:Params):Obj:=⟨zy2,none,(fo (sub (stm 33) 4) s536 3 [] .none .none .none (zZ s298 337) none (zR 660) .none 0),z0⟩
noncomputable def o662(P:Params):Obj:=⟨zy0,none,(.seq (z0) 0),z0⟩
noncomputable def o663(P:Params):Obj:=⟨.none,none,(.fields (z0)),z0⟩
noncomputable def o664(P:Params):Obj:=zq zy0 [(zZ s65 1041),(zZ s4 1042),(zZ s2 1043)]
noncomputable def o665(P:Params):Obj:=⟨zy0,none,(.seq (z0) 0),z0⟩
noncomputable def o666(P:Params):Obj:=⟨.none,none,(fo (sub (stm 33) 5) s537 0 [] .none .none .none .none none .none .none 0),z0⟩
noncomputable def o667(P:Params):Obj:=zc zy1 s57 1038 s537 1039 s314 1040 354 3 0 0 3 662 (.bool true) 181 663 .none 664 665 666 1044 354 s314 1045
noncomputable def o668(P:Params):Obj:=⟨zy2,none,(fo (sub (stm 33) 5) s537 3 [] .none .none .none (zZ s298 337) none (zR 667) .none 0),z0⟩
noncomputable def o669(P:Params):Obj:=⟨zy0,none,(.seq (z0) 0),z0⟩
noncomputable def o670(P:Params):Obj:=⟨.none,none,(.fields (z0)),z0⟩
noncomputable def o671(P:Params):Obj:=zq zy0 [(zZ s65 1050),(zZ s4 1051),(zZ s97 1052),(zZ s98 1053)]
noncomputable def o672(P:Params):Obj:=⟨zy0,none,(.seq (z0) 0),z0⟩
noncomputable def o673(P:Params):Obj:=⟨.none,none,(fo (sub (stm 33) 6) s538 0 [] .none .none .none .none none .none .none 0),z0⟩
noncomputable def o674(P:Params):Obj:=zc zy1 s59 1047 s538 1048 s314 1049 360 4 0 0 3 669 (.bool true) 181 670 .none 671 672 673 1054 360 s314 1055
noncomputable def o675(P:Params):Obj:=⟨zy2,none,(fo (sub (stm 33) 6) s538 3 [] .none .none .none (zZ s298 337) none (zR 674) .none 0),z0⟩
noncomputable def o676(P:Params):Obj:=⟨zy0,none,(.seq (z0) 0),z0⟩
noncomputable def o677(P:Params):Obj:=⟨.none,none,(.fields (z0)),z0⟩
noncomputable def o678(P:Params):Obj:=zq zy0 [(zZ s65 1060),(zZ s97 1061),(zZ s98 1062)]
noncomputable def o679(P:Params):Obj:=⟨zy0,none,(.seq (z0) 0),z0⟩
noncomputable def o680(P:Params):Obj:=⟨.none,none,(fo (sub (stm 33) 7) s539 0 [] .none .none .none .none none .none .none 0),z0⟩
noncomputable def o681(P:Params):Obj:=zc zy1 s9 1057 s539 1058 s314 1059 369 3 0 0 3 676 (.bool true) 181 677 .none 678 679 680 1063 369 s314 1064
noncomputable def o682(P:Params):Obj:=⟨zy2,none,(fo (sub (stm 33) 7) s539 3 [] .none .none .none (zZ s298 337) none (zR 681) .none 0),z0⟩
noncomputable def o683(P:Params):Obj:=⟨zy0,none,(.seq (z0) 0),z0⟩
noncomputable def o684(P:Params):Obj:=⟨.none,none,(.fields (z0)),z0⟩
noncomputable def o685(P:Params):Obj:=zq zy0 [(zZ s65 1069),(zZ s28 1070),(zZ s29 1071),(zZ s2 1072)]
noncomputable def o686(P:Params):Obj:=⟨zy0,none,(.seq (z0) 0),z0⟩
noncomputable def o687(P:Params):Obj:=⟨.none,none,(fo (sub (stm 33) 8) s540 0 [] .none .none .none .none none .none .none 0),z0⟩
noncomputable def o688(P:Params):Obj:=zc zy1 s10 1066 s540 1067 s314 1068 374 4 0 0 3 683 (.bool true) 181 684 .none 685 686 687 1073 374 s314 1074
noncomputable def o689(P:Params):Obj:=⟨zy2,none,(fo (sub (stm 33) 8) s540 3 [] .none .none .none (zZ s298 337) none (zR 688) .none 0),z0⟩
noncomputable def o690(P:Params):Obj:=⟨zy0,none,(.seq (z0) 0),z0⟩
noncomputable def o691(P:Params):Obj:=⟨.none,none,(.fields (z0)),z0⟩
noncomputable def o692(P:Params):Obj:=zq zy0 [(zZ s65 1079),(zZ s142 1080),(zZ s2 1081)]
noncomputable def o693(P:Params):Obj:=⟨zy0,none,(.seq (z0) 0),z0⟩
noncomputable def o694(P:Params):Obj:=⟨.none,none,(fo (sub (stm 33) 9) s541 0 [] .none .none .none .none none .none .none 0),z0⟩
noncomputable def o695(P:Params):Obj:=zc zy1 s25 1076 s541 1077 s314 1078 380 3 0 0 3 690 (.bool true) 181 691 .none 692 693 694 1082 380 s314 1083
noncomputable def o696(P:Params):Obj:=⟨zy2,none,(fo (sub (stm 33) 9) s541 3 [] .none .none .none (zZ s298 337) none (zR 695) .none 0),z0⟩
noncomputable def o697(P:Params):Obj:=⟨zy0,none,(.seq (z0) 0),z0⟩
noncomputable def o698(P:Params):Obj:=⟨.none,none,(.fields (z0)),z0⟩
noncomputable def o699(P:Params):Obj:=zq zy0 [(zZ s65 1088),(zZ s142 1089),(zZ s2 1090)]
noncomputable def o700(P:Params):Obj:=⟨zy0,none,(.seq (z0) 0),z0⟩
noncomputable def o701(P:Params):Obj:=⟨.none,none,(fo (sub (stm 33) 10) s542 0 [] .none .none .none .none none .none .none 0),z0⟩
noncomputable def o702(P:Params):Obj:=zc zy1 s11 1085 s542 1086 s314 1087 386 3 0 0 3 697 (.bool true) 181 698 .none 699 700 701 1091 386 s314 1092
noncomputable def o703(P:Params):Obj:=⟨zy2,none,(fo (sub (stm 33) 10) s542 3 [] .none .none .none (zZ s298 337) none (zR 702) .none 0),z0⟩
noncomputable def o704(P:Params):Obj:=⟨zy0,none,(.seq (z0) 0),z0⟩
noncomputable def o705(P:Params):Obj:=⟨.none,none,(.fields (z0)),z0⟩
noncomputable def o706(P:Params):Obj:=zq zy0 [(zZ s65 1097),(zZ s159 1098),(zZ s2 1099),(zZ s213 1100)]
noncomputable def o707(P:Params):Obj:=⟨zy0,none,(.seq (z0) 0),z0⟩
noncomputable def o708(P:Params):Obj:=⟨.none,none,(fo (sub (stm 33) 11) s543 0 [] .none .none .none .none none .none .none 0),z0⟩
noncomputable def o709(P:Params):Obj:=zc zy1 s274 1094 s543 1095 s314 1096 392 4 0 0 3 704 (.bool true) 181 705 .none 706 707 708 1101 392 s314 1102
noncomputable def o710(P:Params):Obj:=⟨zy2,none,(fo (sub (stm 33) 11) s543 3 [] .none .none .none (zZ s298 337) none (zR 709) .none 0),z0⟩
noncomputable def o711(P:Params):Obj:=⟨zy0,none,(.seq (z0) 0),z0⟩
noncomputable def o712(P:Params):Obj:=⟨.none,none,(.fields (z0)),z0⟩
noncomputable def o713(P:Params):Obj:=zq zy0 [(zZ s65 1107),(zZ s159 1108),(zZ s2 1109)]
noncomputable def o714(P:Params):Obj:=⟨zy0,none,(.seq (z0) 0),z0⟩
noncomputable def o715(P:Params):Obj:=⟨.none,none,(fo (sub (stm 33) 12) s544 0 [] .none .none .none .none none .none .none 0),z0⟩
noncomputable def o716(P:Params):Obj:=zc zy1 s276 1104 s544 1105 s314 1106 396 3 0 0 3 711 (.bool true) 181 712 .none 713 714 715 1110 396 s314 1111
noncomputable def o717(P:Params):Obj:=⟨zy2,none,(fo (sub (stm 33) 12) s544 3 [] .none .none .none (zZ s298 337) none (zR 716) .none 0),z0⟩
noncomputable def o718(P:Params):Obj:=⟨zy0,none,(.seq (z0) 0),z0⟩
noncomputable def o719(P:Params):Obj:=⟨.none,none,(.fields (z0)),z0⟩
noncomputable def o720(P:Params):Obj:=zq zy0 [(zZ s65 1116),(zZ s159 1117),(zZ s97 1118),(zZ s98 1119)]
noncomputable def o721(P:Params):Obj:=⟨zy0,none,(.seq (z0) 0),z0⟩
noncomputable def o722(P:Params):Obj:=⟨.none,none,(fo (sub (stm 33) 13) s545 0 [] .none .none .none .none none .none .none 0),z0⟩
noncomputable def o723(P:Params):Obj:=zc zy1 s278 1113 s545 1114 s314 1115 402 4 0 0 3 718 (.bool true) 181 719 .none 720 721 722 1120 402 s314 1121
noncomputable def o724(P:Params):Obj:=⟨zy2,none,(fo (sub (stm 33) 13) s545 3 [] .none .none .none (zZ s298 337) none (zR 723) .none 0),z0⟩
noncomputable def o725(P:Params):Obj:=⟨zy0,none,(.seq (z0) 0),z0⟩
noncomputable def o726(P:Params):Obj:=⟨.none,none,(.fields (z0)),z0⟩
noncomputable def o727(P:Params):Obj:=zq zy0 [(zZ s65 1126),(zZ s159 1127),(zZ s97 1128),(zZ s98 1129)]
noncomputable def o728(P:Params):Obj:=⟨zy0,none,(.seq (z0) 0),z0⟩
noncomputable def o729(P:Params):Obj:=⟨.none,none,(fo (sub (stm 33) 14) s546 0 [] .none .none .none .none none .none .none 0),z0⟩
noncomputable def o730(P:Params):Obj:=zc zy1 s279 1123 s546 1124 s314 1125 405 4 0 0 3 725 (.bool true) 181 726 .none 727 728 729 1130 405 s314 1131
noncomputable def o731(P:Params):Obj:=⟨zy2,none,(fo (sub (stm 33) 14) s546 3 [] .none .none .none (zZ s298 337) none (zR 730) .none 0),z0⟩
noncomputable def o732(P:Params):Obj:=zq zy0 [(zZ s259 1133)]
noncomputable def o733(P:Params):Obj:=⟨zy3,none,(.dict (zA [⟨zk P s467,zZ s467 990,(zZ s298 337)⟩,⟨zk P s469,zZ s469 994,(.int (.ofNat 326) 993)⟩,⟨zk P s64,zZ s64 1002,(zR 633)⟩,⟨zk P s50,zZ s50 1010,(zR 640)⟩,⟨zk P s265,zZ s265 1018,(zR 647)⟩,⟨zk P s266,zZ s266 1027,(zR 654)⟩,⟨zk P s52,zZ s52 1037,(zR 661)⟩,⟨zk P s57,zZ s57 1046,(zR 668)⟩,⟨zk P s59,zZ s59 1056,(zR 675)⟩,⟨zk P s9,zZ s9 1065,(zR 682)⟩,⟨zk P s10,zZ s10 1075,(zR 689)⟩,⟨zk P s25,zZ s25 1084,(zR 696)⟩,⟨zk P s11,zZ s11 1093,(zR 703)⟩,⟨zk P s274,zZ s274 1103,(zR 710)⟩,⟨zk P s276,zZ s276 1112,(zR 717)⟩,⟨zk P s278,zZ s278 1122,(zR 724)⟩,⟨zk P s279,zZ s279 1132,(zR 731)⟩,⟨zk P s470,zZ s470 1134,(zR 732)⟩,⟨zk P s316,zZ s316 1136,.none⟩]) 3),z0⟩
noncomputable def o734(P:Params):Obj:=⟨zy4,none,(.cls ⟨s46,[(zR 615)],[(zR 734),(zR 615),(zR 519),(zR 414),zy6],733,s46,true,[],[],false,none,false⟩),zA [(some (zR 618)),none,(some (zZ s46 983)),(some (zZ s46 991)),(some zy12),(some (.bool true))]⟩
noncomputable def o735(P:Params):Obj:=⟨zy8,none,(.fields (zA [(zR 734),(zR 734),(zR 734)])),z0⟩
noncomputable def o736(P:Params):Obj:=⟨zy5,none,(.fields (zA [zy11,(zR 734)])),z0⟩
noncomputable def o737(P:Params):Obj:=⟨zy0,none,(.seq (z0) 0),z0⟩
noncomputable def o738(P:Params):Obj:=⟨zy5,none,(.fields (zA [zy10,zy4])),z0⟩
noncomputable def o739(P:Params):Obj:=⟨zy3,none,(.dict (zA [⟨zk P s467,zZ s467 1150,(zZ s280 1139)⟩,⟨zk P s468,zZ s468 1152,(zZ s63 1151)⟩,⟨zk P s469,zZ s469 1154,(.int (.ofNat 412) 1153)⟩,⟨zk P s64,zZ s64 1162,(zR 750)⟩,⟨zk P s71,zZ s71 1170,(zR 757)⟩,⟨zk P s73,zZ s73 1179,(zR 764)⟩,⟨zk P s74,zZ s74 1193,(zR 771)⟩,⟨zk P s85,zZ s85 1199,(zR 776)⟩,⟨zk P s90,zZ s90 1212,(zR 783)⟩,⟨zk P s94,zZ s94 1220,(zR 790)⟩,⟨zk P s95,zZ s95 1228,(zR 797)⟩,⟨zk P s96,zZ s96 1239,(zR 804)⟩,⟨zk P s103,zZ s103 1249,(zR 811)⟩,⟨zk P s106,zZ s106 1259,(zR 818)⟩,⟨zk P s109,zZ s109 1272,(zR 826)⟩,⟨zk P s114,zZ s114 1283,(zR 834)⟩,⟨zk P s113,zZ s113 1297,(zR 842)⟩,⟨zk P s118,zZ s118 1305,(zR 849)⟩,⟨zk P s119,zZ s119 1314,(zR 856)⟩,⟨zk P s470,zZ s470 1319,(zR 857)⟩]) 20),z0⟩
noncomputable def o740(P:Params):Obj:=⟨zy0,none,(.seq (z0) 0),z0⟩
noncomputable def o741(P:Params):Obj:=⟨.none,none,(.fields (zA [(zI 414),(zI 4),(zR 749),(zI 420),(zI 4),(zR 756),(zI 423),(zI 4),(zR 763),(zI 426),(zI 4),(zR 770),(zI 441),(zI 4),(zR 775),(zI 453),(zI 4),(zR 782),(zI 463),(zI 4),(zR 789),(zI 466),(zI 4),(zR 796),(zI 469),(zI 4),(zR 803),(zI 483),(zI 4),(zR 810),(zI 496),(zI 4),(zR 817),(zI 509),(zI 4),(zR 825),(zI 521),(zI 4),(zR 833),(zI 524),(zI 4),(zR 841),(zI 530),(zI 4),(zR 848),(zI 533),(zI 4),(zR 855)])),z0⟩
noncomputable def o742(P:Params):Obj:=⟨zy1,none,(.fields (zA [(zZ s63 1145),(zZ s63 1146),(zZ s314 1147),(zI 412),(zI 0),(zI 0),(zI 0),(zI 0),(zR 740),(.bool false),(zI 181),(zR 741),.none,.none,.none,.none,(zI 1148),(zI 412),(zZ s314 1149)])),z0⟩
noncomputable def o743(P:Params):Obj:=⟨zy7,none,.plain,zA [(some (zR 742)),(some (zR 3)),(some (zR 739)),none,(some (zZ s280 1139)),none,(some (zR 0))]⟩
noncomputable def o744(P:Params):Obj:=⟨zy0,none,(.seq (z0) 0),z0⟩
noncomputable def o745(P:Params):Obj:=⟨.none,none,(.fields (z0)),z0⟩
noncomputable def o746(P:Params):Obj:=zq zy0 [(zZ s65 1158),(zZ s1 1159)]
noncomputable def o747(P:Params):Obj:=⟨zy0,none,(.seq (z0) 0),z0⟩
noncomputable def o748(P:Params):Obj:=⟨.none,none,(fo (sub (stm 36) 0) s547 0 [] .none .none .none .none none .none .none 0),z0⟩
noncomputable def o749(P:Params):Obj:=zc zy1 s64 1155 s547 1156 s314 1157 414 2 0 0 3 744 (.bool true) 181 745 .none 746 747 748 1160 414 s314 1161
noncomputable def o750(P:Params):Obj:=⟨zy2,none,(fo (sub (stm 36) 0) s547 3 [] .none .none .none (zZ s280 1139) none (zR 749) .none 0),z0⟩
noncomputable def o751(P:Params):Obj:=⟨zy0,none,(.seq (z0) 0),z0⟩
noncomputable def o752(P:Params):Obj:=⟨.none,none,(.fields (z0)),z0⟩
noncomputable def o753(P:Params):Obj:=zq zy0 [(zZ s65 1166),(zZ s2 1167)]
noncomputable def o754(P:Params):Obj:=⟨zy0,none,(.seq (z0) 0),z0⟩
noncomputable def o755(P:Params):Obj:=⟨.none,none,(fo (sub (stm 36) 1) s548 0 [] .none .none .none .none none .none .none 0),z0⟩
noncomputable def o756(P:Params):Obj:=zc zy1 s71 1163 s548 1164 s314 1165 420 2 0 0 3 751 (.bool true) 181 752 .none 753 754 755 1168 420 s314 1169
noncomputable def o757(P:Params):Obj:=⟨zy2,none,(fo (sub (stm 36) 1) s548 3 [] .none .none .none (zZ s280 1139) none (zR 756) .none 0),z0⟩
noncomputable def o758(P:Params):Obj:=⟨zy0,none,(.seq (z0) 0),z0⟩
noncomputable def o759(P:Params):Obj:=⟨.none,none,(.fields (z0)),z0⟩
noncomputable def o760(P:Params):Obj:=zq zy0 [(zZ s65 1174),(zZ s2 1175),(zZ s3 1176)]
noncomputable def o761(P:Params):Obj:=⟨zy0,none,(.seq (z0) 0),z0⟩
noncomputable def o762(P:Params):Obj:=⟨.none,none,(fo (sub (stm 36) 2) s549 0 [] .none .none .none .none none .none .none 0),z0⟩
noncomputable def o763(P:Params):Obj:=zc zy1 s73 1171 s549 1172 s314 1173 423 3 0 0 3 758 (.bool true) 181 759 .none 760 761 762 1177 423 s314 1178
noncomputable def o764(P:Params):Obj:=⟨zy2,none,(fo (sub (stm 36) 2) s549 3 [] .none .none .none (zZ s280 1139) none (zR 763) .none 0),z0⟩
noncomputable def o765(P:Params):Obj:=⟨zy0,none,(.seq (z0) 0),z0⟩
noncomputable def o766(P:Params):Obj:=⟨.none,none,(.fields (z0)),z0⟩
noncomputable def o767(P:Params):Obj:=zq zy0 [(zZ s65 1183),(zZ s4 1184),(zZ s16 1185),(zZ s75 1186),(zZ s76 1187),(zZ s78 1188),(zZ s79 1189),(zZ s2 1190)]
noncomputable def o768(P:Params):Obj:=⟨zy0,none,(.seq (z0) 0),z0⟩
noncomputable def o769(P:Params):Obj:=⟨.none,none,(fo (sub (stm 36) 3) s550 0 [] .none .none .none .none none .none .none 0),z0⟩
noncomputable def o770(P:Params):Obj:=zc zy1 s74 1180 s550 1181 s314 1182 426 3 0 0 3 765 (.bool true) 181 766 .none 767 768 769 1191 426 s314 1192
noncomputable def o771(P:Params):Obj:=⟨zy2,none,(fo (sub (stm 36) 3) s550 3 [] .none .none .none (zZ s280 1139) none (zR 770) .none 0),z0⟩
noncomputable def o772(P:Params):Obj:=⟨zy0,none,(.seq (z0) 0),z0⟩
noncomputable def o773(P:Params):Obj:=⟨.none,none,(.fields (z0)),z0⟩
noncomputable def o774(P:Params):Obj:=⟨.none,none,(fo (sub (stm 36) 4) s551 0 [] .none .none .none .none none .none .none 0),z0⟩
noncomputable def o775(P:Params):Obj:=⟨zy1,none,(.fields (zA [(zZ s85 1194),(zZ s551 1195),(zZ s314 1196),(zI 441),(zI 3),(zI 0),(zI 0),(zI 3),(zR 772),(.bool true),(zI 181),(zR 773),.none,.none,.none,(zR 774),(zI 1197),(zI 441),(zZ s314 1198)])),z0⟩
noncomputable def o776(P:Params):Obj:=⟨zy2,none,(fo (sub (stm 36) 4) s551 3 [] .none .none .none (zZ s280 1139) none (zR 775) .none 0),z0⟩
noncomputable def o777(P:Params):Obj:=⟨zy0,none,(.seq (z0) 0),z0⟩
noncomputable def o778(P:Params):Obj:=⟨.none,none,(.fields (z0)),z0⟩
noncomputable def o779(P:Params):Obj:=zq zy0 [(zZ s65 1203),(zZ s4 1204),(zZ s16 1205),(zZ s76 1206),(zZ s41 1207),(zZ s78 1208),(zZ s86 1209)]
noncomputable def o780(P:Params):Obj:=⟨zy0,none,(.seq (z0) 0),z0⟩
noncomputable def o781(P:Params):Obj:=⟨.none,none,(fo (sub (stm 36) 5) s552 0 [] .none .none .none .none none .none .none 0),z0⟩
noncomputable def o782(P:Params):Obj:=zc zy1 s90 1200 s552 1201 s314 1202 453 3 0 0 3 777 (.bool true) 181 778 .none 779 780 781 1210 453 s314 1211
noncomputable def o783(P:Params):Obj:=⟨zy2,none,(fo (sub (stm 36) 5) s552 3 [] .none .none .none (zZ s280 1139) none (zR 782) .none 0),z0⟩
noncomputable def o784(P:Params):Obj:=⟨zy0,none,(.seq (z0) 0),z0⟩
noncomputable def o785(P:Params):Obj:=⟨.none,none,(.fields (z0)),z0⟩
noncomputable def o786(P:Params):Obj:=zq zy0 [(zZ s65 1216),(zZ s2 1217)]
noncomputable def o787(P:Params):Obj:=⟨zy0,none,(.seq (z0) 0),z0⟩
noncomputable def o788(P:Params):Obj:=⟨.none,none,(fo (sub (stm 36) 6) s553 0 [] .none .none .none .none none .none .none 0),z0⟩
noncomputable def o789(P:Params):Obj:=zc zy1 s94 1213 s553 1214 s314 1215 463 2 0 0 3 784 (.bool true) 181 785 .none 786 787 788 1218 463 s314 1219
noncomputable def o790(P:Params):Obj:=⟨zy2,none,(fo (sub (stm 36) 6) s553 3 [] .none .none .none (zZ s280 1139) none (zR 789) .none 0),z0⟩
noncomputable def o791(P:Params):Obj:=⟨zy0,none,(.seq (z0) 0),z0⟩
noncomputable def o792(P:Params):Obj:=⟨.none,none,(.fields (z0)),z0⟩
noncomputable def o793(P:Params):Obj:=zq zy0 [(zZ s65 1224),(zZ s16 1225)]
noncomputable def o794(P:Params):Obj:=⟨zy0,none,(.seq (z0) 0),z0⟩
noncomputable def o795(P:Params):Obj:=⟨.none,none,(fo (sub (stm 36) 7) s554 0 [] .none .none .none .none none .none .none 0),z0⟩
noncomputable def o796(P:Params):Obj:=zc zy1 s95 1221 s554 1222 s314 1223 466 2 0 0 3 791 (.bool true) 181 792 .none 793 794 795 1226 466 s314 1227
noncomputable def o797(P:Params):Obj:=⟨zy2,none,(fo (sub (stm 36) 7) s554 3 [] .none .none .none (zZ s280 1139) none (zR 796) .none 0),z0⟩
noncomputable def o798(P:Params):Obj:=⟨zy0,none,(.seq (z0) 0),z0⟩
noncomputable def o799(P:Params):Obj:=⟨.none,none,(.fields (z0)),z0⟩
noncomputable def o800(P:Params):Obj:=zq zy0 [(zZ s65 1232),(zZ s97 1233),(zZ s98 1234),(zZ s99 1235),(zZ s101 1236)]
noncomputable def o801(P:Params):Obj:=⟨zy0,none,(.seq (z0) 0),z0⟩
noncomputable def o802(P:Params):Obj:=⟨.none,none,(fo (sub (stm 36) 8) s555 0 [] .none .none .none .none none .none .none 0),z0⟩
noncomputable def o803(P:Params):Obj:=zc zy1 s96 1229 s555 1230 s314 1231 469 3 0 0 3 798 (.bool true) 181 799 .none 800 801 802 1237 469 s314 1238
noncomputable def o804(P:Params):Obj:=⟨zy2,none,(fo (sub (stm 36) 8) s555 3 [] .none .none .none (zZ s280 1139) none (zR 803) .none 0),z0⟩
noncomputable def o805(P:Params):Obj:=⟨zy0,none,(.seq (z0) 0),z0⟩
noncomputable def o806(P:Params):Obj:=⟨.none,none,(.fields (z0)),z0⟩
noncomputable def o807(P:Params):Obj:=zq zy0 [(zZ s65 1243),(zZ s104 1244),(zZ s97 1245),(zZ s98 1246)]
noncomputable def o808(P:Params):Obj:=⟨zy0,none,(.seq (z0) 0),z0⟩
noncomputable def o809(P:Params):Obj:=⟨.none,none,(fo (sub (stm 36) 9) s556 0 [] .none .none .none .none none .none .none 0),z0⟩
noncomputable def o810(P:Params):Obj:=zc zy1 s103 1240 s556 1241 s314 1242 483 4 0 0 3 805 (.bool true) 181 806 .none 807 808 809 1247 483 s314 1248
noncomputable def o811(P:Params):Obj:=⟨zy2,none,(fo (sub (stm 36) 9) s556 3 [] .none .none .none (zZ s280 1139) none (zR 810) .none 0),z0⟩
noncomputable def o812(P:Params):Obj:=⟨zy0,none,(.seq (z0) 0),z0⟩
noncomputable def o813(P:Params):Obj:=⟨.none,none,(.fields (z0)),z0⟩
noncomputable def o814(P:Params):Obj:=zq zy0 [(zZ s65 1253),(zZ s104 1254),(zZ s97 1255),(zZ s98 1256)]
noncomputable def o815(P:Params):Obj:=⟨zy0,none,(.seq (z0) 0),z0⟩
noncomputable def o816(P:Params):Obj:=⟨.none,none,(fo (sub (stm 36) 10) s557 0 [] .none .none .none .none none .none .none 0),z0⟩
noncomputable def o817(P:Params):Obj:=zc zy1 s106 1250 s557 1251 s314 1252 496 4 0 0 3 812 (.bool true) 181 813 .none 814 815 816 1257 496 s314 1258
noncomputable def o818(P:Params):Obj:=⟨zy2,none,(fo (sub (stm 36) 10) s557 3 [] .none .none .none (zZ s280 1139) none (zR 817) .none 0),z0⟩
noncomputable def o819(P:Params):Obj:=zq zy0 [(.int (.ofNat 0) 1260)]
noncomputable def o820(P:Params):Obj:=⟨zy0,none,(.seq (z0) 0),z0⟩
noncomputable def o821(P:Params):Obj:=⟨.none,none,(.fields (z0)),z0⟩
noncomputable def o822(P:Params):Obj:=zq zy0 [(zZ s65 1264),(zZ s97 1265),(zZ s98 1266),(zZ s110 1267),(zZ s112 1268),(zZ s41 1269)]
noncomputable def o823(P:Params):Obj:=⟨zy0,none,(.seq (z0) 0),z0⟩
noncomputable def o824(P:Params):Obj:=⟨.none,none,(fo (sub (stm 36) 11) s558 0 [] .none .none .none .none none .none .none 0),z0⟩
noncomputable def o825(P:Params):Obj:=zc zy1 s109 1261 s558 1262 s314 1263 509 4 0 0 3 820 (.bool true) 181 821 .none 822 823 824 1270 509 s314 1271
noncomputable def o826(P:Params):Obj:=⟨zy2,none,(fo (sub (stm 36) 11) s558 3 [] (zR 819) .none .none (zZ s280 1139) none (zR 825) .none 0),z0⟩
noncomputable def o827(P:Params):Obj:=zq zy0 [(.int (.ofNat 0) 1273)]
noncomputable def o828(P:Params):Obj:=⟨zy0,none,(.seq (z0) 0),z0⟩
noncomputable def o829(P:Params):Obj:=⟨.none,none,(.fields (z0)),z0⟩
noncomputable def o830(P:Params):Obj:=zq zy0 [(zZ s65 1277),(zZ s97 1278),(zZ s98 1279),(zZ s110 1280)]
noncomputable def o831(P:Params):Obj:=⟨zy0,none,(.seq (z0) 0),z0⟩
noncomputable def o832(P:Params):Obj:=⟨.none,none,(fo (sub (stm 36) 12) s559 0 [] .none .none .none .none none .none .none 0),z0⟩
noncomputable def o833(P:Params):Obj:=zc zy1 s114 1274 s559 1275 s314 1276 521 4 0 0 3 828 (.bool true) 181 829 .none 830 831 832 1281 521 s314 1282
noncomputable def o834(P:Params):Obj:=⟨zy2,none,(fo (sub (stm 36) 12) s559 3 [] (zR 827) .none .none (zZ s280 1139) none (zR 833) .none 0),z0⟩
noncomputable def o835(P:Params):Obj:=zq zy0 [(.int (.ofNat 0) 1284)]
noncomputable def o836(P:Params):Obj:=⟨zy0,none,(.seq (z0) 0),z0⟩
noncomputable def o837(P:Params):Obj:=⟨.none,none,(.fields (z0)),z0⟩
noncomputable def o838(P:Params):Obj:=zq zy0 [(zZ s65 1288),(zZ s112 1289),(zZ s98 1290),(zZ s110 1291),(zZ s104 1292),(zZ s116 1293),(zZ s117 1294)]
noncomputable def o839(P:Params):Obj:=⟨zy0,none,(.seq (z0) 0),z0⟩
noncomputable def o840(P:Params):Obj:=⟨.none,none,(fo (sub (stm 36) 13) s560 0 [] .none .none .none .none none .none .none 0),z0⟩
noncomputable def o841(P:Params):Obj:=zc zy1 s113 1285 s560 1286 s314 1287 524 4 0 0 3 836 (.bool true) 181 837 .none 838 839 840 1295 524 s314 1296
noncomputable def o842(P:Params):Obj:=⟨zy2,none,(fo (sub (stm 36) 13) s560 3 [] (zR 835) .none .none (zZ s280 1139) none (zR 841) .none 0),z0⟩
noncomputable def o843(P:Params):Obj:=⟨zy0,none,(.seq (z0) 0),z0⟩
noncomputable def o844(P:Params):Obj:=⟨.none,none,(.fields (z0)),z0⟩
noncomputable def o845(P:Params):Obj:=zq zy0 [(zZ s65 1301),(zZ s3 1302)]
noncomputable def o846(P:Params):Obj:=⟨zy0,none,(.seq (z0) 0),z0⟩
noncomputable def o847(P:Params):Obj:=⟨.none,none,(fo (sub (stm 36) 14) s561 0 [] .none .none .none .none none .none .none 0),z0⟩
noncomputable def o848(P:Params):Obj:=zc zy1 s118 1298 s561 1299 s314 1300 530 2 0 0 3 843 (.bool true) 181 844 .none 845 846 847 1303 530 s314 1304
noncomputable def o849(P:Params):Obj:=⟨zy2,none,(fo (sub (stm 36) 14) s561 3 [] .none .none .none (zZ s280 1139) none (zR 848) .none 0),z0⟩
noncomputable def o850(P:Params):Obj:=⟨zy0,none,(.seq (z0) 0),z0⟩
noncomputable def o851(P:Params):Obj:=⟨.none,none,(.fields (z0)),z0⟩
noncomputable def o852(P:Params):Obj:=zq zy0 [(zZ s65 1309),(zZ s2 1310),(zZ s3 1311)]
noncomputable def o853(P:Params):Obj:=⟨zy0,none,(.seq (z0) 0),z0⟩
noncomputable def o854(P:Params):Obj:=⟨.none,none,(fo (sub (stm 36) 15) s562 0 [] .none .none .none .none none .none .none 0),z0⟩
noncomputable def o855(P:Params):Obj:=zc zy1 s119 1306 s562 1307 s314 1308 533 3 0 0 3 850 (.bool true) 181 851 .none 852 853 854 1312 533 s314 1313
noncomputable def o856(P:Params):Obj:=⟨zy2,none,(fo (sub (stm 36) 15) s562 3 [] .none .none .none (zZ s280 1139) none (zR 855) .none 0),z0⟩
noncomputable def o857(P:Params):Obj:=zq zy0 [(zZ s1 1315),(zZ s70 1316),(zZ s68 1317),(zZ s66 1318)]
noncomputable def o858(P:Params):Obj:=⟨zy3,none,(.dict (zA [⟨zk P s467,zZ s467 1150,(zZ s280 1139)⟩,⟨zk P s469,zZ s469 1154,(.int (.ofNat 412) 1153)⟩,⟨zk P s64,zZ s64 1162,(zR 750)⟩,⟨zk P s71,zZ s71 1170,(zR 757)⟩,⟨zk P s73,zZ s73 1179,(zR 764)⟩,⟨zk P s74,zZ s74 1193,(zR 771)⟩,⟨zk P s85,zZ s85 1199,(zR 776)⟩,⟨zk P s90,zZ s90 1212,(zR 783)⟩,⟨zk P s94,zZ s94 1220,(zR 790)⟩,⟨zk P s95,zZ s95 1228,(zR 797)⟩,⟨zk P s96,zZ s96 1239,(zR 804)⟩,⟨zk P s103,zZ s103 1249,(zR 811)⟩,⟨zk P s106,zZ s106 1259,(zR 818)⟩,⟨zk P s109,zZ s109 1272,(zR 826)⟩,⟨zk P s114,zZ s114 1283,(zR 834)⟩,⟨zk P s113,zZ s113 1297,(zR 842)⟩,⟨zk P s118,zZ s118 1305,(zR 849)⟩,⟨zk P s119,zZ s119 1314,(zR 856)⟩,⟨zk P s470,zZ s470 1319,(zR 857)⟩,⟨zk P s507,zZ s507 1321,(zR 860)⟩,⟨zk P s474,zZ s474 1323,(zR 861)⟩,⟨zk P s316,zZ s316 1324,.none⟩]) 4),z0⟩
noncomputable def o859(P:Params):Obj:=⟨zy4,none,(.cls ⟨s63,[zy6],[(zR 859),zy6],858,s63,true,[],[(zR 1053)],false,none,false⟩),zA [none,none,(some (zZ s63 1143)),(some (zZ s63 1151)),(some zy12),(some (.bool true))]⟩
noncomputable def o860(P:Params):Obj:=⟨zy15,none,(.fields (zA [(zZ s507 1320),(zR 859),zy21,zy22])),z0⟩
noncomputable def o861(P:Params):Obj:=⟨zy15,none,(.fields (zA [(zZ s474 1322),(zR 859),zy19,.none])),z0⟩
noncomputable def o862(P:Params):Obj:=⟨zy8,none,(.fields (zA [(zR 859),(zR 859),(zR 859)])),z0⟩
noncomputable def o863(P:Params):Obj:=⟨zy5,none,(.fields (zA [zy11,(zR 859)])),z0⟩
noncomputable def o864(P:Params):Obj:=zq zy0 [(zR 859)]
noncomputable def o865(P:Params):Obj:=⟨zy5,none,(.fields (zA [zy10,zy4])),z0⟩
noncomputable def o866(P:Params):Obj:=⟨zy3,none,(.dict (zA [⟨zk P s467,zZ s467 1334,(zZ s280 1139)⟩,⟨zk P s468,zZ s468 1336,(zZ s47 1335)⟩,⟨zk P s469,zZ s469 1338,(.int (.ofNat 535) 1337)⟩,⟨zk P s73,zZ s73 1347,(zR 878)⟩,⟨zk P s114,zZ s114 1359,(zR 887)⟩,⟨zk P s118,zZ s118 1367,(zR 894)⟩,⟨zk P s123,zZ s123 1375,(zR 901)⟩,⟨zk P s124,zZ s124 1384,(zR 908)⟩,⟨zk P s125,zZ s125 1393,(zR 915)⟩,⟨zk P s127,zZ s127 1402,(zR 922)⟩,⟨zk P s128,zZ s128 1412,(zR 929)⟩,⟨zk P s129,zZ s129 1422,(zR 936)⟩,⟨zk P s130,zZ s130 1432,(zR 943)⟩,⟨zk P s131,zZ s131 1442,(zR 950)⟩,⟨zk P s132,zZ s132 1451,(zR 957)⟩,⟨zk P s133,zZ s133 1461,(zR 964)⟩,⟨zk P s134,zZ s134 1471,(zR 971)⟩,⟨zk P s135,zZ s135 1481,(zR 978)⟩,⟨zk P s136,zZ s136 1490,(zR 985)⟩,⟨zk P s137,zZ s137 1500,(zR 992)⟩,⟨zk P s38,zZ s38 1513,(zR 999)⟩,⟨zk P s140,zZ s140 1523,(zR 1006)⟩,⟨zk P s141,zZ s141 1532,(zR 1013)⟩,⟨zk P s143,zZ s143 1541,(zR 1020)⟩,⟨zk P s120,zZ s120 1552,(zR 1028)⟩,⟨zk P s144,zZ s144 1576,(zR 1036)⟩,⟨zk P s158,zZ s158 1585,(zR 1043)⟩,⟨zk P s160,zZ s160 1594,(zR 1050)⟩,⟨zk P s470,zZ s470 1595,(zR 1051)⟩,⟨zk P s471,zZ s471 1596,(zR 867)⟩]) 30),z0⟩
noncomputable def o867(P:Params):Obj:=⟨zy18,none,(.cell (some (zR 1053))),z0⟩
noncomputable def o868(P:Params):Obj:=⟨zy0,none,(.seq (z0) 0),z0⟩
noncomputable def o869(P:Params):Obj:=⟨.none,none,(.fields (zA [(zI 537),(zI 4),(zR 877),(zI 540),(zI 4),(zR 886),(zI 543),(zI 4),(zR 893),(zI 546),(zI 4),(zR 900),(zI 549),(zI 4),(zR 907),(zI 552),(zI 4),(zR 914),(zI 555),(zI 4),(zR 921),(zI 558),(zI 4),(zR 928),(zI 561),(zI 4),(zR 935),(zI 564),(zI 4),(zR 942),(zI 569),(zI 4),(zR 949),(zI 572),(zI 4),(zR 956),(zI 575),(zI 4),(zR 963),(zI 578),(zI 4),(zR 970),(zI 581),(zI 4),(zR 977),(zI 584),(zI 4),(zR 984),(zI 587),(zI 4),(zR 991),(zI 590),(zI 4),(zR 998),(zI 608),(zI 4),(zR 1005),(zI 611),(zI 4),(zR 1012),(zI 614),(zI 4),(zR 1019),(zI 617),(zI 4),(zR 1027),(zI 628),(zI 4),(zR 1035),(zI 657),(zI 4),(zR 1042),(zI 660),(zI 4),(zR 1049)])),z0⟩
noncomputable def o870(P:Params):Obj:=⟨zy1,none,(.fields (zA [(zZ s47 1329),(zZ s47 1330),(zZ s314 1331),(zI 535),(zI 0),(zI 0),(zI 0),(zI 0),(zR 868),(.bool false),(zI 181),(zR 869),.none,.none,.none,.none,(zI 1332),(zI 535),(zZ s314 1333)])),z0⟩
noncomputable def o871(P:Params):Obj:=⟨zy7,none,.plain,zA [(some (zR 870)),(some (zR 3)),(some (zR 866)),none,(some (zZ s280 1139)),none,(some (zR 0))]⟩
noncomputable def o872(P:Params):Obj:=⟨zy0,none,(.seq (z0) 0),z0⟩
noncomputable def o873(P:Params):Obj:=⟨.none,none,(.fields (z0)),z0⟩
noncomputable def o874(P:Params):Obj:=zq zy0 [(zZ s65 1342),(zZ s2 1343),(zZ s3 1344)]
noncomputable def o875(P:Params):Obj:=⟨zy0,none,(.seq (z0) 0),z0⟩
noncomputable def o876(P:Params):Obj:=⟨.none,none,(fo (sub (stm 37) 0) s563 0 [] .none .none .none .none none .none .none 0),z0⟩
noncomputable def o877(P:Params):Obj:=zc zy1 s73 1339 s563 1340 s314 1341 537 3 0 0 3 872 (.bool true) 181 873 .none 874 875 876 1345 537 s314 1346
noncomputable def o878(P:Params):Obj:=⟨zy2,none,(fo (sub (stm 37) 0) s563 3 [] .none .none .none (zZ s280 1139) none (zR 877) .none 0),z0⟩
noncomputable def o879(P:Params):Obj:=zq zy0 [(.int (.ofNat 0) 1348)]
noncomputable def o880(P:Params):Obj:=zq zy0 [(zR 867)]
noncomputable def o881(P:Params):Obj:=zq zy0 [(zZ s122 1352)]
noncomputable def o882(P:Params):Obj:=⟨.none,none,(.fields (z0)),z0⟩
noncomputable def o883(P:Params):Obj:=zq zy0 [(zZ s65 1353),(zZ s97 1354),(zZ s98 1355),(zZ s110 1356)]
noncomputable def o884(P:Params):Obj:=⟨zy0,none,(.seq (z0) 0),z0⟩
noncomputable def o885(P:Params):Obj:=⟨.none,none,(fo (sub (stm 37) 1) s564 0 [] .none .none .none .none none .none .none 0),z0⟩
noncomputable def o886(P:Params):Obj:=zc zy1 s114 1349 s564 1350 s314 1351 540 4 0 0 3 881 (.bool true) 181 882 .none 883 884 885 1357 540 s314 1358
noncomputable def o887(P:Params):Obj:=⟨zy2,none,(fo (sub (stm 37) 1) s564 3 [(s122,867)] (zR 879) .none .none (zZ s280 1139) none (zR 886) (zR 880) 0),z0⟩
noncomputable def o888(P:Params):Obj:=⟨zy0,none,(.seq (z0) 0),z0⟩
noncomputable def o889(P:Params):Obj:=⟨.none,none,(.fields (z0)),z0⟩
noncomputable def o890(P:Params):Obj:=zq zy0 [(zZ s65 1363),(zZ s3 1364)]
noncomputable def o891(P:Params):Obj:=⟨zy0,none,(.seq (z0) 0),z0⟩
noncomputable def o892(P:Params):Obj:=⟨.none,none,(fo (sub (stm 37) 2) s565 0 [] .none .none .none .none none .none .none 0),z0⟩
noncomputable def o893(P:Params):Obj:=zc zy1 s118 1360 s565 1361 s314 1362 543 2 0 0 3 888 (.bool true) 181 889 .none 890 891 892 1365 543 s314 1366
noncomputable def o894(P:Params):Obj:=⟨zy2,none,(fo (sub (stm 37) 2) s565 3 [] .none .none .none (zZ s280 1139) none (zR 893) .none 0),z0⟩
noncomputable def o895(P:Params):Obj:=⟨zy0,none,(.seq (z0) 0),z0⟩
noncomputable def o896(P:Params):Obj:=⟨.none,none,(.fields (z0)),z0⟩
noncomputable def o897(P:Params):Obj:=zq zy0 [(zZ s65 1371),(zZ s2 1372)]
noncomputable def o898(P:Params):Obj:=⟨zy0,none,(.seq (z0) 0),z0⟩
noncomputable def o899(P:Params):Obj:=⟨.none,none,(fo (sub (stm 37) 3) s566 0 [] .none .none .none .none none .none .none 0),z0⟩
noncomputable def o900(P:Params):Obj:=zc zy1 s123 1368 s566 1369 s314 1370 546 2 0 0 3 895 (.bool true) 181 896 .none 897 898 899 1373 546 s314 1374
noncomputable def o901(P:Params):Obj:=⟨zy2,none,(fo (sub (stm 37) 3) s566 3 [] .none .none .none (zZ s280 1139) none (zR 900) .none 0),z0⟩
noncomputable def o902(P:Params):Obj:=⟨zy0,none,(.seq (z0) 0),z0⟩
noncomputable def o903(P:Params):Obj:=⟨.none,none,(.fields (z0)),z0⟩
noncomputable def o904(P:Params):Obj:=zq zy0 [(zZ s65 1379),(zZ s2 1380),(zZ s41 1381)]
noncomputable def o905(P:Params):Obj:=⟨zy0,none,(.seq (z0) 0),z0⟩
noncomputable def o906(P:Params):Obj:=⟨.none,none,(fo (sub (stm 37) 4) s567 0 [] .none .none .none .none none .none .none 0),z0⟩
noncomputable def o907(P:Params):Obj:=zc zy1 s124 1376 s567 1377 s314 1378 549 3 0 0 3 902 (.bool true) 181 903 .none 904 905 906 1382 549 s314 1383
noncomputable def o908(P:Params):Obj:=⟨zy2,none,(fo (sub (stm 37) 4) s567 3 [] .none .none .none (zZ s280 1139) none (zR 907) .none 0),z0⟩
noncomputable def o909(P:Params):Obj:=⟨zy0,none,(.seq (z0) 0),z0⟩
noncomputable def o910(P:Params):Obj:=⟨.none,none,(.fields (z0)),z0⟩
noncomputable def o911(P:Params):Obj:=zq zy0 [(zZ s65 1388),(zZ s112 1389),(zZ s126 1390)]
noncomputable def o912(P:Params):Obj:=⟨zy0,none,(.seq (z0) 0),z0⟩
noncomputable def o913(P:Params):Obj:=⟨.none,none,(fo (sub (stm 37) 5) s568 0 [] .none .none .none .none none .none .none 0),z0⟩
noncomputable def o914(P:Params):Obj:=zc zy1 s125 1385 s568 1386 s314 1387 552 3 0 0 3 909 (.bool true) 181 910 .none 911 912 913 1391 552 s314 1392
noncomputable def o915(P:Params):Obj:=⟨zy2,none,(fo (sub (stm 37) 5) s568 3 [] .none .none .none (zZ s280 1139) none (zR 914) .none 0),z0⟩
noncomputable def o916(P:Params):Obj:=⟨zy0,none,(.seq (z0) 0),z0⟩
noncomputable def o917(P:Params):Obj:=⟨.none,none,(.fields (z0)),z0⟩
noncomputable def o918(P:Params):Obj:=zq zy0 [(zZ s65 1397),(zZ s4 1398),(zZ s97 1399)]
noncomputable def o919(P:Params):Obj:=⟨zy0,none,(.seq (z0) 0),z0⟩
noncomputable def o920(P:Params):Obj:=⟨.none,none,(fo (sub (stm 37) 6) s569 0 [] .none .none .none .none none .none .none 0),z0⟩
noncomputable def o921(P:Params):Obj:=zc zy1 s127 1394 s569 1395 s314 1396 555 3 0 0 3 916 (.bool true) 181 917 .none 918 919 920 1400 555 s314 1401
noncomputable def o922(P:Params):Obj:=⟨zy2,none,(fo (sub (stm 37) 6) s569 3 [] .none .none .none (zZ s280 1139) none (zR 921) .none 0),z0⟩
noncomputable def o923(P:Params):Obj:=⟨zy0,none,(.seq (z0) 0),z0⟩
noncomputable def o924(P:Params):Obj:=⟨.none,none,(.fields (z0)),z0⟩
noncomputable def o925(P:Params):Obj:=zq zy0 [(zZ s65 1406),(zZ s4 1407),(zZ s97 1408),(zZ s98 1409)]
noncomputable def o926(P:Params):Obj:=⟨zy0,none,(.seq (z0) 0),z0⟩
noncomputable def o927(P:Params):Obj:=⟨.none,none,(fo (sub (stm 37) 7) s570 0 [] .none .none .none .none none .none .none 0),z0⟩
noncomputable def o928(P:Params):Obj:=zc zy1 s128 1403 s570 1404 s314 1405 558 4 0 0 3 923 (.bool true) 181 924 .none 925 926 927 1410 558 s314 1411
noncomputable def o929(P:Params):Obj:=⟨zy2,none,(fo (sub (stm 37) 7) s570 3 [] .none .none .none (zZ s280 1139) none (zR 928) .none 0),z0⟩
noncomputable def o930(P:Params):Obj:=⟨zy0,none,(.seq (z0) 0),z0⟩
noncomputable def o931(P:Params):Obj:=⟨.none,none,(.fields (z0)),z0⟩
noncomputable def o932(P:Params):Obj:=zq zy0 [(zZ s65 1416),(zZ s4 1417),(zZ s97 1418),(zZ s98 1419)]
noncomputable def o933(P:Params):Obj:=⟨zy0,none,(.seq (z0) 0),z0⟩
noncomputable def o934(P:Params):Obj:=⟨.none,none,(fo (sub (stm 37) 8) s571 0 [] .none .none .none .none none .none .none 0),z0⟩
noncomputable def o935(P:Params):Obj:=zc zy1 s129 1413 s571 1414 s314 1415 561 4 0 0 3 930 (.bool true) 181 931 .none 932 933 934 1420 561 s314 1421
noncomputable def o936(P:Params):Obj:=⟨zy2,none,(fo (sub (stm 37) 8) s571 3 [] .none .none .none (zZ s280 1139) none (zR 935) .none 0),z0⟩
noncomputable def o937(P:Params):Obj:=⟨zy0,none,(.seq (z0) 0),z0⟩
noncomputable def o938(P:Params):Obj:=⟨.none,none,(.fields (z0)),z0⟩
noncomputable def o939(P:Params):Obj:=zq zy0 [(zZ s65 1426),(zZ s4 1427),(zZ s97 1428),(zZ s98 1429)]
noncomputable def o940(P:Params):Obj:=⟨zy0,none,(.seq (z0) 0),z0⟩
noncomputable def o941(P:Params):Obj:=⟨.none,none,(fo (sub (stm 37) 9) s572 0 [] .none .none .none .none none .none .none 0),z0⟩
noncomputable def o942(P:Params):Obj:=zc zy1 s130 1423 s572 1424 s314 1425 564 4 0 0 3 937 (.bool true) 181 938 .none 939 940 941 1430 564 s314 1431
noncomputable def o943(P:Params):Obj:=⟨zy2,none,(fo (sub (stm 37) 9) s572 3 [] .none .none .none (zZ s280 1139) none (zR 942) .none 0),z0⟩
noncomputable def o944(P:Params):Obj:=⟨zy0,none,(.seq (z0) 0),z0⟩
noncomputable def o945(P:Params):Obj:=⟨.none,none,(.fields (z0)),z0⟩
noncomputable def o946(P:Params):Obj:=zq zy0 [(zZ s65 1436),(zZ s4 1437),(zZ s112 1438),(zZ s98 1439)]
noncomputable def o947(P:Params):Obj:=⟨zy0,none,(.seq (z0) 0),z0⟩
noncomputable def o948(P:Params):Obj:=⟨.none,none,(fo (sub (stm 37) 10) s573 0 [] .none .none .none .none none .none .none 0),z0⟩
noncomputable def o949(P:Params):Obj:=zc zy1 s131 1433 s573 1434 s314 1435 569 4 0 0 3 944 (.bool true) 181 945 .none 946 947 948 1440 569 s314 1441
noncomputable def o950(P:Params):Obj:=⟨zy2,none,(fo (sub (stm 37) 10) s573 3 [] .none .none .none (zZ s280 1139) none (zR 949) .none 0),z0⟩
noncomputable def o951(P:Params):Obj:=⟨zy0,none,(.seq (z0) 0),z0⟩
noncomputable def o952(P:Params):Obj:=⟨.none,none,(.fields (z0)),z0⟩
noncomputable def o953(P:Params):Obj:=zq zy0 [(zZ s65 1446),(zZ s97 1447),(zZ s98 1448)]
noncomputable def o954(P:Params):Obj:=⟨zy0,none,(.seq (z0) 0),z0⟩
noncomputable def o955(P:Params):Obj:=⟨.none,none,(fo (sub (stm 37) 11) s574 0 [] .none .none .none .none none .none .none 0),z0⟩
noncomputable def o956(P:Params):Obj:=zc zy1 s132 1443 s574 1444 s314 1445 572 3 0 0 3 951 (.bool true) 181 952 .none 953 954 955 1449 572 s314 1450
noncomputable def o957(P:Params):Obj:=⟨zy2,none,(fo (sub (stm 37) 11) s574 3 [] .none .none .none (zZ s280 1139) none (zR 956) .none 0),z0⟩
noncomputable def o958(P:Params):Obj:=⟨zy0,none,(.seq (z0) 0),z0⟩
noncomputable def o959(P:Params):Obj:=⟨.none,none,(.fields (z0)),z0⟩
noncomputable def o960(P:Params):Obj:=zq zy0 [(zZ s65 1455),(zZ s4 1456),(zZ s97 1457),(zZ s98 1458)]
noncomputable def o961(P:Params):Obj:=⟨zy0,none,(.seq (z0) 0),z0⟩
noncomputable def o962(P:Params):Obj:=⟨.none,none,(fo (sub (stm 37) 12) s575 0 [] .none .none .none .none none .none .none 0),z0⟩
noncomputable def o963(P:Params):Obj:=zc zy1 s133 1452 s575 1453 s314 1454 575 4 0 0 3 958 (.bool true) 181 959 .none 960 961 962 1459 575 s314 1460
noncomputable def o964(P:Params):Obj:=⟨zy2,none,(fo (sub (stm 37) 12) s575 3 [] .none .none .none (zZ s280 1139) none (zR 963) .none 0),z0⟩
noncomputable def o965(P:Params):Obj:=⟨zy0,none,(.seq (z0) 0),z0⟩
noncomputable def o966(P:Params):Obj:=⟨.none,none,(.fields (z0)),z0⟩
noncomputable def o967(P:Params):Obj:=zq zy0 [(zZ s65 1465),(zZ s4 1466),(zZ s97 1467),(zZ s98 1468)]
noncomputable def o968(P:Params):Obj:=⟨zy0,none,(.seq (z0) 0),z0⟩
noncomputable def o969(P:Params):Obj:=⟨.none,none,(fo (sub (stm 37) 13) s576 0 [] .none .none .none .none none .none .none 0),z0⟩
noncomputable def o970(P:Params):Obj:=zc zy1 s134 1462 s576 1463 s314 1464 578 4 0 0 3 965 (.bool true) 181 966 .none 967 968 969 1469 578 s314 1470
noncomputable def o971(P:Params):Obj:=⟨zy2,none,(fo (sub (stm 37) 13) s576 3 [] .none .none .none (zZ s280 1139) none (zR 970) .none 0),z0⟩
noncomputable def o972(P:Params):Obj:=⟨zy0,none,(.seq (z0) 0),z0⟩
noncomputable def o973(P:Params):Obj:=⟨.none,none,(.fields (z0)),z0⟩
noncomputable def o974(P:Params):Obj:=zq zy0 [(zZ s65 1475),(zZ s4 1476),(zZ s97 1477),(zZ s98 1478)]
noncomputable def o975(P:Params):Obj:=⟨zy0,none,(.seq (z0) 0),z0⟩
noncomputable def o976(P:Params):Obj:=⟨.none,none,(fo (sub (stm 37) 14) s577 0 [] .none .none .none .none none .none .none 0),z0⟩
noncomputable def o977(P:Params):Obj:=zc zy1 s135 1472 s577 1473 s314 1474 581 4 0 0 3 972 (.bool true) 181 973 .none 974 975 976 1479 581 s314 1480
noncomputable def o978(P:Params):Obj:=⟨zy2,none,(fo (sub (stm 37) 14) s577 3 [] .none .none .none (zZ s280 1139) none (zR 977) .none 0),z0⟩
noncomputable def o979(P:Params):Obj:=⟨zy0,none,(.seq (z0) 0),z0⟩
noncomputable def o980(P:Params):Obj:=⟨.none,none,(.fields (z0)),z0⟩
noncomputable def o981(P:Params):Obj:=zq zy0 [(zZ s65 1485),(zZ s97 1486),(zZ s98 1487)]
noncomputable def o982(P:Params):Obj:=⟨zy0,none,(.seq (z0) 0),z0⟩
noncomputable def o983(P:Params):Obj:=⟨.none,none,(fo (sub (stm 37) 15) s578 0 [] .none .none .none .none none .none .none 0),z0⟩
noncomputable def o984(P:Params):Obj:=zc zy1 s136 1482 s578 1483 s314 1484 584 3 0 0 3 979 (.bool true) 181 980 .none 981 982 983 1488 584 s314 1489
noncomputable def o985(P:Params):Obj:=⟨zy2,none,(fo (sub (stm 37) 15) s578 3 [] .none .none .none (zZ s280 1139) none (zR 984) .none 0),z0⟩
noncomputable def o986(P:Params):Obj:=⟨zy0,none,(.seq (z0) 0),z0⟩
noncomputable def o987(P:Params):Obj:=⟨.none,none,(.fields (z0)),z0⟩
noncomputable def o988(P:Params):Obj:=zq zy0 [(zZ s65 1494),(zZ s28 1495),(zZ s29 1496),(zZ s97 1497)]
noncomputable def o989(P:Params):Obj:=⟨zy0,none,(.seq (z0) 0),z0⟩
noncomputable def o990(P:Params):Obj:=⟨.none,none,(fo (sub (stm 37) 16) s579 0 [] .none .none .none .none none .none .none 0),z0⟩
noncomputable def o991(P:Params):Obj:=zc zy1 s137 1491 s579 1492 s314 1493 587 4 0 0 3 986 (.bool true) 181 987 .none 988 989 990 1498 587 s314 1499
noncomputable def o992(P:Params):Obj:=⟨zy2,none,(fo (sub (stm 37) 16) s579 3 [] .none .none .none (zZ s280 1139) none (zR 991) .none 0),z0⟩
noncomputable def o993(P:Params):Obj:=⟨zy0,none,(.seq (z0) 0),z0⟩
noncomputable def o994(P:Params):Obj:=⟨.none,none,(.fields (z0)),z0⟩
noncomputable def o995(P:Params):Obj:=zq zy0 [(zZ s65 1504),(zZ s28 1505),(zZ s29 1506),(zZ s97 1507),(zZ s138 1508),(zZ s3 1509),(zZ s139 1510)]
noncomputable def o996(P:Params):Obj:=⟨zy0,none,(.seq (z0) 0),z0⟩
noncomputable def o997(P:Params):Obj:=⟨.none,none,(fo (sub (stm 37) 17) s580 0 [] .none .none .none .none none .none .none 0),z0⟩
noncomputable def o998(P:Params):Obj:=zc zy1 s38 1501 s580 1502 s314 1503 590 4 0 0 3 993 (.bool true) 181 994 .none 995 996 997 1511 590 s314 1512
noncomputable def o999(P:Params):Obj:=⟨zy2,none,(fo (sub (stm 37) 17) s580 3 [] .none .none .none (zZ s280 1139) none (zR 998) .none 0),z0⟩
noncomputable def o1000(P:Params):Obj:=⟨zy0,none,(.seq (z0) 0),z0⟩
noncomputable def o1001(P:Params):Obj:=⟨.none,none,(.fields (z0)),z0⟩
noncomputable def o1002(P:Params):Obj:=zq zy0 [(zZ s65 1517),(zZ s28 1518),(zZ s29 1519),(zZ s97 1520)]
noncomputable def o1003(P:Params):Obj:=⟨zy0,none,(.seq (z0) 0),z0⟩
noncomputable def o1004(P:Params):Obj:=⟨.none,none,(fo (sub (stm 37) 18) s581 0 [] .none .none .none .none none .none .none 0),z0⟩
noncomputable def o1005(P:Params):Obj:=zc zy1 s140 1514 s581 1515 s314 1516 608 4 0 0 3 1000 (.bool true) 181 1001 .none 1002 1003 1004 1521 608 s314 1522
noncomputable def o1006(P:Params):Obj:=⟨zy2,none,(fo (sub (stm 37) 18) s581 3 [] .none .none .none (zZ s280 1139) none (zR 1005) .none 0),z0⟩
noncomputable def o1007(P:Params):Obj:=⟨zy0,none,(.seq (z0) 0),z0⟩
noncomputable def o1008(P:Params):Obj:=⟨.none,none,(.fields (z0)),z0⟩
noncomputable def o1009(P:Params):Obj:=zq zy0 [(zZ s65 1527),(zZ s142 1528),(zZ s97 1529)]
noncomputable def o1010(P:Params):Obj:=⟨zy0,none,(.seq (z0) 0),z0⟩
noncomputable def o1011(P:Params):Obj:=⟨.none,none,(fo (sub (stm 37) 19) s582 0 [] .none .none .none .none none .none .none 0),z0⟩
noncomputable def o1012(P:Params):Obj:=zc zy1 s141 1524 s582 1525 s314 1526 611 3 0 0 3 1007 (.bool true) 181 1008 .none 1009 1010 1011 1530 611 s314 1531
noncomputable def o1013(P:Params):Obj:=⟨zy2,none,(fo (sub (stm 37) 19) s582 3 [] .none .none .none (zZ s280 1139) none (zR 1012) .none 0),z0⟩
noncomputable def o1014(P:Params):Obj:=⟨zy0,none,(.seq (z0) 0),z0⟩
noncomputable def o1015(P:Params):Obj:=⟨.none,none,(.fields (z0)),z0⟩
noncomputable def o1016(P:Params):Obj:=zq zy0 [(zZ s65 1536),(zZ s142 1537),(zZ s97 1538)]
noncomputable def o1017(P:Params):Obj:=⟨zy0,none,(.seq (z0) 0),z0⟩
noncomputable def o1018(P:Params):Obj:=⟨.none,none,(fo (sub (stm 37) 20) s583 0 [] .none .none .none .none none .none .none 0),z0⟩
noncomputable def o1019(P:Params):Obj:=zc zy1 s143 1533 s583 1534 s314 1535 614 3 0 0 3 1014 (.bool true) 181 1015 .none 1016 1017 1018 1539 614 s314 1540
noncomputable def o1020(P:Params):Obj:=⟨zy2,none,(fo (sub (stm 37) 20) s583 3 [] .none .none .none (zZ s280 1139) none (zR 1019) .none 0),z0⟩
noncomputable def o1021(P:Params):Obj:=zq zy0 [(.int (.ofNat 0) 1542)]
noncomputable def o1022(P:Params):Obj:=⟨zy0,none,(.seq (z0) 0),z0⟩
noncomputable def o1023(P:Params):Obj:=⟨.none,none,(.fields (z0)),z0⟩
noncomputable def o1024(P:Params):Obj:=zq zy0 [(zZ s65 1546),(zZ s97 1547),(zZ s98 1548),(zZ s110 1549)]
noncomputable def o1025(P:Params):Obj:=⟨zy0,none,(.seq (z0) 0),z0⟩
noncomputable def o1026(P:Params):Obj:=⟨.none,none,(fo (sub (stm 37) 21) s584 0 [] .none .none .none .none none .none .none 0),z0⟩
noncomputable def o1027(P:Params):Obj:=zc zy1 s120 1543 s584 1544 s314 1545 617 4 0 0 3 1022 (.bool true) 181 1023 .none 1024 1025 1026 1550 617 s314 1551
noncomputable def o1028(P:Params):Obj:=⟨zy2,none,(fo (sub (stm 37) 21) s584 3 [] (zR 1021) .none .none (zZ s280 1139) none (zR 1027) .none 0),z0⟩
noncomputable def o1029(P:Params):Obj:=zq zy0 [(.int (.ofNat 0) 1553)]
noncomputable def o1030(P:Params):Obj:=⟨zy0,none,(.seq (z0) 0),z0⟩
noncomputable def o1031(P:Params):Obj:=⟨.none,none,(.fields (z0)),z0⟩
noncomputable def o1032(P:Params):Obj:=zq zy0 [(zZ s65 1557),(zZ s112 1558),(zZ s98 1559),(zZ s110 1560),(zZ s138 1561),(zZ s3 1562),(zZ s6 1563),(zZ s148 1564),(zZ s139 1565),(zZ s28 1566),(zZ s29 1567),(zZ s152 1568),(zZ s153 1569),(zZ s154 1570),(zZ s70 1571),(zZ s12 1572),(zZ s156 1573)]
noncomputable def o1033(P:Params):Obj:=⟨zy0,none,(.seq (z0) 0),z0⟩
noncomputable def o1034(P:Params):Obj:=⟨.none,none,(fo (sub (stm 37) 22) s585 0 [] .none .none .none .none none .none .none 0),z0⟩
noncomputable def o1035(P:Params):Obj:=zc zy1 s144 1554 s585 1555 s314 1556 628 4 0 0 3 1030 (.bool true) 181 1031 .none 1032 1033 1034 1574 628 s314 1575
noncomputable def o1036(P:Params):Obj:=⟨zy2,none,(fo (sub (stm 37) 22) s585 3 [] (zR 1029) .none .none (zZ s280 1139) none (zR 1035) .none 0),z0⟩
noncomputable def o1037(P:Params):Obj:=⟨zy0,none,(.seq (z0) 0),z0⟩
noncomputable def o1038(P:Params):Obj:=⟨.none,none,(.fields (z0)),z0⟩
noncomputable def o1039(P:Params):Obj:=zq zy0 [(zZ s65 1580),(zZ s159 1581),(zZ s97 1582)]
noncomputable def o1040(P:Params):Obj:=⟨zy0,none,(.seq (z0) 0),z0⟩
noncomputable def o1041(P:Params):Obj:=⟨.none,none,(fo (sub (stm 37) 23) s586 0 [] .none .none .none .none none .none .none 0),z0⟩
noncomputable def o1042(P:Params):Obj:=zc zy1 s158 1577 s586 1578 s314 1579 657 3 0 0 3 1037 (.bool true) 181 1038 .none 1039 1040 1041 1583 657 s314 1584
noncomputable def o1043(P:Params):Obj:=⟨zy2,none,(fo (sub (stm 37) 23) s586 3 [] .none .none .none (zZ s280 1139) none (zR 1042) .none 0),z0⟩
noncomputable def o1044(P:Params):Obj:=⟨zy0,none,(.seq (z0) 0),z0⟩
noncomputable def o1045(P:Params):Obj:=⟨.none,none,(.fields (z0)),z0⟩
noncomputable def o1046(P:Params):Obj:=zq zy0 [(zZ s65 1589),(zZ s159 1590),(zZ s97 1591)]
noncomputable def o1047(P:Params):Obj:=⟨zy0,none,(.seq (z0) 0),z0⟩
noncomputable def o1048(P:Params):Obj:=⟨.none,none,(fo (sub (stm 37) 24) s587 0 [] .none .none .none .none none .none .none 0),z0⟩
noncomputable def o1049(P:Params):Obj:=zc zy1 s160 1586 s587 1587 s314 1588 660 3 0 0 3 1044 (.bool true) 181 1045 .none 1046 1047 1048 1592 660 s314 1593
noncomputable def o1050(P:Params):Obj:=⟨zy2,none,(fo (sub (stm 37) 24) s587 3 [] .none .none .none (zZ s280 1139) none (zR 1049) .none 0),z0⟩
noncomputable def o1051(P:Params):Obj:=⟨zy0,none,(.seq (z0) 0),z0⟩
noncomputable def o1052(P:Params):Obj:=⟨zy3,none,(.dict (zA [⟨zk P s467,zZ s467 1334,(zZ s280 1139)⟩,⟨zk P s469,zZ s469 1338,(.int (.ofNat 535) 1337)⟩,⟨zk P s73,zZ s73 1347,(zR 878)⟩,⟨zk P s114,zZ s114 1359,(zR 887)⟩,⟨zk P s118,zZ s118 1367,(zR 894)⟩,⟨zk P s123,zZ s123 1375,(zR 901)⟩,⟨zk P s124,zZ s124 1384,(zR 908)⟩,⟨zk P s125,zZ s125 1393,(zR 915)⟩,⟨zk P s127,zZ s127 1402,(zR 922)⟩,⟨zk P s128,zZ s128 1412,(zR 929)⟩,⟨zk P s129,zZ s129 1422,(zR 936)⟩,⟨zk P s130,zZ s130 1432,(zR 943)⟩,⟨zk P s131,zZ s131 1442,(zR 950)⟩,⟨zk P s132,zZ s132 1451,(zR 957)⟩,⟨zk P s133,zZ s133 1461,(zR 964)⟩,⟨zk P s134,zZ s134 1471,(zR 971)⟩,⟨zk P s135,zZ s135 1481,(zR 978)⟩,⟨zk P s136,zZ s136 1490,(zR 985)⟩,⟨zk P s137,zZ s137 1500,(zR 992)⟩,⟨zk P s38,zZ s38 1513,(zR 999)⟩,⟨zk P s140,zZ s140 1523,(zR 1006)⟩,⟨zk P s141,zZ s141 1532,(zR 1013)⟩,⟨zk P s143,zZ s143 1541,(zR 1020)⟩,⟨zk P s120,zZ s120 1552,(zR 1028)⟩,⟨zk P s144,zZ s144 1576,(zR 1036)⟩,⟨zk P s158,zZ s158 1585,(zR 1043)⟩,⟨zk P s160,zZ s160 1594,(zR 1050)⟩,⟨zk P s470,zZ s470 1595,(zR 1051)⟩,⟨zk P s316,zZ s316 1597,.none⟩]) 3),z0⟩
noncomputable def o1053(P:Params):Obj:=⟨zy4,none,(.cls ⟨s47,[(zR 859)],[(zR 1053),(zR 859),zy6],1052,s47,true,[],[],false,none,false⟩),zA [(some (zR 864)),none,(some (zZ s47 1327)),(some (zZ s47 1335)),(some zy12),(some (.bool true))]⟩
noncomputable def o1054(P:Params):Obj:=⟨zy8,none,(.fields (zA [(zR 1053),(zR 1053),(zR 1053)])),z0⟩
noncomputable def o1055(P:Params):Obj:=⟨zy5,none,(.fields (zA [zy11,(zR 1053)])),z0⟩
noncomputable def o1056(P:Params):Obj:=⟨zy0,none,(.seq (z0) 0),z0⟩
noncomputable def o1057(P:Params):Obj:=⟨.none,none,(.fields (z0)),z0⟩
noncomputable def o1058(P:Params):Obj:=zq zy0 [(zZ s44 1605),(zZ s142 1606),(zZ s163 1607),(zZ s164 1608)]
noncomputable def o1059(P:Params):Obj:=⟨zy0,none,(.seq (z0) 0),z0⟩
noncomputable def o1060(P:Params):Obj:=⟨.none,none,(fo (stm 39) s53 0 [] .none .none .none .none none .none .none 0),z0⟩
noncomputable def o1061(P:Params):Obj:=zc zy1 s53 1602 s53 1603 s314 1604 663 2 0 0 3 1056 (.bool true) 181 1057 .none 1058 1059 1060 1609 663 s314 1610
noncomputable def o1062(P:Params):Obj:=⟨zy2,none,(fo (stm 39) s53 3 [] .none .none .none (zZ s162 1600) none (zR 1061) .none 0),z0⟩
noncomputable def o1063(P:Params):Obj:=⟨zy0,none,(.seq (z0) 0),z0⟩
noncomputable def o1064(P:Params):Obj:=⟨.none,none,(.fields (z0)),z0⟩
noncomputable def o1065(P:Params):Obj:=zq zy0 [(zZ s44 1615),(zZ s1 1616),(zZ s16 1617),(zZ s165 1618),(zZ s18 1619),(zZ s41 1620),(zZ s6 1621),(zZ s29 1622),(zZ s166 1623)]
noncomputable def o1066(P:Params):Obj:=⟨zy0,none,(.seq (z0) 0),z0⟩
noncomputable def o1067(P:Params):Obj:=⟨.none,none,(fo (stm 40) s55 0 [] .none .none .none .none none .none .none 0),z0⟩
noncomputable def o1068(P:Params):Obj:=zc zy1 s55 1612 s55 1613 s314 1614 667 3 0 0 3 1063 (.bool true) 181 1064 .none 1065 1066 1067 1624 667 s314 1625
noncomputable def o1069(P:Params):Obj:=⟨zy2,none,(fo (stm 40) s55 3 [] .none .none .none (zZ s162 1600) none (zR 1068) .none 0),z0⟩
noncomputable def o1070(P:Params):Obj:=⟨zy0,none,(.seq (z0) 0),z0⟩
noncomputable def o1071(P:Params):Obj:=⟨.none,none,(.fields (z0)),z0⟩
noncomputable def o1072(P:Params):Obj:=zq zy0 [(zZ s1 1630),(zZ s2 1631),(zZ s3 1632),(zZ s4 1633),(zZ s5 1634),(zZ s12 1635)]
noncomputable def o1073(P:Params):Obj:=⟨zy0,none,(.seq (z0) 0),z0⟩
noncomputable def o1074(P:Params):Obj:=⟨.none,none,(fo (stm 41) s0 0 [] .none .none .none .none none .none .none 0),z0⟩
noncomputable def o1075(P:Params):Obj:=zc zy1 s0 1627 s0 1628 s314 1629 679 3 0 0 3 1070 (.bool true) 181 1071 .none 1072 1073 1074 1636 679 s314 1637
noncomputable def o1076(P:Params):Obj:=⟨zy2,none,(fo (stm 41) s0 3 [] .none .none .none (zZ s162 1600) none (zR 1075) .none 0),z0⟩
noncomputable def o1077(P:Params):Obj:=⟨zy0,none,(.seq (z0) 0),z0⟩
noncomputable def o1078(P:Params):Obj:=⟨.none,none,(.fields (z0)),z0⟩
noncomputable def o1079(P:Params):Obj:=⟨.none,none,(fo (stm 42) s15 0 [] .none .none .none .none none .none .none 0),z0⟩
noncomputable def o1080(P:Params):Obj:=⟨zy1,none,(.fields (zA [(zZ s15 1639),(zZ s15 1640),(zZ s314 1641),(zI 693),(zI 3),(zI 0),(zI 0),(zI 3),(zR 1077),(.bool true),(zI 181),(zR 1078),.none,.none,.none,(zR 1079),(zI 1642),(zI 693),(zZ s314 1643)])),z0⟩
noncomputable def o1081(P:Params):Obj:=⟨zy2,none,(fo (stm 42) s15 3 [] .none .none .none (zZ s162 1600) none (zR 1080) .none 0),z0⟩
noncomputable def o1082(P:Params):Obj:=⟨zy0,none,(.seq (z0) 0),z0⟩
noncomputable def o1083(P:Params):Obj:=⟨.none,none,(.fields (z0)),z0⟩
noncomputable def o1084(P:Params):Obj:=⟨.none,none,(fo (stm 43) s21 0 [] .none .none .none .none none .none .none 0),z0⟩
noncomputable def o1085(P:Params):Obj:=⟨zy1,none,(.fields (zA [(zZ s21 1645),(zZ s21 1646),(zZ s314 1647),(zI 698),(zI 2),(zI 0),(zI 0),(zI 3),(zR 1082),(.bool true),(zI 181),(zR 1083),.none,.none,.none,(zR 1084),(zI 1648),(zI 698),(zZ s314 1649)])),z0⟩
noncomputable def o1086(P:Params):Obj:=⟨zy2,none,(fo (stm 43) s21 3 [] .none .none .none (zZ s162 1600) none (zR 1085) .none 0),z0⟩
noncomputable def o1087(P:Params):Obj:=⟨zy0,none,(.seq (z0) 0),z0⟩
noncomputable def o1088(P:Params):Obj:=⟨.none,none,(.fields (z0)),z0⟩
noncomputable def o1089(P:Params):Obj:=⟨.none,none,(fo (stm 44) s26 0 [] .none .none .none .none none .none .none 0),z0⟩
noncomputable def o1090(P:Params):Obj:=⟨zy1,none,(.fields (zA [(zZ s26 1651),(zZ s26 1652),(zZ s314 1653),(zI 706),(zI 5),(zI 0),(zI 0),(zI 3),(zR 1087),(.bool true),(zI 181),(zR 1088),.none,.none,.none,(zR 1089),(zI 1654),(zI 706),(zZ s314 1655)])),z0⟩
noncomputable def o1091(P:Params):Obj:=⟨zy2,none,(fo (stm 44) s26 3 [] .none .none .none (zZ s162 1600) none (zR 1090) .none 0),z0⟩
noncomputable def o1092(P:Params):Obj:=⟨zy0,none,(.seq (z0) 0),z0⟩
noncomputable def o1093(P:Params):Obj:=⟨.none,none,(.fields (z0)),z0⟩
noncomputable def o1094(P:Params):Obj:=zq zy0 [(zZ s1 1660),(zZ s33 1661),(zZ s34 1662),(zZ s27 1663),(zZ s28 1664),(zZ s29 1665),(zZ s2 1666),(zZ s35 1667),(zZ s36 1668),(zZ s37 1669),(zZ s39 1670),(zZ s5 1671),(zZ s17 1672),(zZ s18 1673),(zZ s41 1674)]
noncomputable def o1095(P:Params):Obj:=⟨zy0,none,(.seq (z0) 0),z0⟩
noncomputable def o1096(P:Params):Obj:=⟨.none,none,(fo (stm 45) s32 0 [] .none .none .none .none none .none .none 0),z0⟩
noncomputable def o1097(P:Params):Obj:=zc zy1 s32 1657 s32 1658 s314 1659 711 7 0 0 3 1092 (.bool true) 181 1093 .none 1094 1095 1096 1675 711 s314 1676
noncomputable def o1098(P:Params):Obj:=⟨zy2,none,(fo (stm 45) s32 3 [] .none .none .none (zZ s162 1600) none (zR 1097) .none 0),z0⟩
noncomputable def o1099(P:Params):Obj:=⟨zy0,none,(.seq (z0) 0),z0⟩
noncomputable def o1100(P:Params):Obj:=⟨.none,none,(.fields (z0)),z0⟩
noncomputable def o1101(P:Params):Obj:=⟨.none,none,(fo (stm 46) s42 0 [] .none .none .none .none none .none .none 0),z0⟩
noncomputable def o1102(P:Params):Obj:=⟨zy1,none,(.fields (zA [(zZ s42 1678),(zZ s42 1679),(zZ s314 1680),(zI 726),(zI 1),(zI 0),(zI 0),(zI 3),(zR 1099),(.bool true),(zI 181),(zR 1100),.none,.none,.none,(zR 1101),(zI 1681),(zI 726),(zZ s314 1682)])),z0⟩
noncomputable def o1103(P:Params):Obj:=⟨zy2,none,(fo (stm 46) s42 3 [] .none .none .none (zZ s162 1600) none (zR 1102) .none 0),z0⟩
noncomputable def o2_0(P:Params):Obj:=⟨.none,none,(.dict (z0) 0),z0⟩
noncomputable def o3_0(P:Params):Obj:=⟨zy3,none,(.dict (zA [⟨zk P s161,zZ s161 165,(zZ s459 164)⟩,⟨zk P s316,zZ s316 166,.none⟩,⟨zk P s317,zZ s317 167,.none⟩,⟨zk P s318,zZ s318 168,zy9⟩,⟨zk P s319,zZ s319 169,.none⟩,⟨zk P s462,zZ s462 170,(zR 6)⟩,⟨zk P s463,zZ s463 171,(zR 4)⟩,⟨zk P s464,zZ s464 173,(zZ s314 172)⟩,⟨zk P s465,zZ s465 174,.none⟩]) 9),z0⟩
noncomputable def o12_0(P:Params):Obj:=⟨.none,none,(.fields (z0)),z0⟩
noncomputable def o3_1(P:Params):Obj:=⟨zy3,none,(.dict (zA [⟨zk P s161,zZ s161 165,(zZ s302 303)⟩,⟨zk P s316,zZ s316 166,.none⟩,⟨zk P s317,zZ s317 167,.none⟩,⟨zk P s318,zZ s318 168,zy9⟩,⟨zk P s319,zZ s319 169,.none⟩,⟨zk P s462,zZ s462 170,(zR 6)⟩,⟨zk P s463,zZ s463 171,(zR 4)⟩,⟨zk P s464,zZ s464 173,(zZ s314 172)⟩,⟨zk P s465,zZ s465 174,.none⟩,⟨zk P s72,zZ s72 193,(zR 21)⟩,⟨zk P s299,zZ s299 233,(zR 47)⟩,⟨zk P s214,zZ s214 256,(zR 67)⟩,⟨zk P s238,zZ s238 279,(zR 86)⟩,⟨zk P s296,zZ s296 302,(zR 105)⟩,⟨zk P s303,zZ s303 312,(zR 114)⟩,⟨zk P s304,zZ s304 321,(zR 121)⟩,⟨zk P s251,zZ s251 329,(zR 128)⟩]) 17),z0⟩
noncomputable def o12_1(P:Params):Obj:=⟨.none,none,(.fields (zA [(zI 1),(zI 0),(zR 20),(zI 5),(zI 0),(zR 28),(zI 13),(zI 0),(zR 56),(zI 17),(zI 0),(zR 75),(zI 21),(zI 0),(zR 94),(zI 26),(zI 0),(zR 113),(zI 31),(zI 0),(zR 120),(zI 38),(zI 0),(zR 127)])),z0⟩
noncomputable def o3_2(P:Params):Obj:=⟨zy3,none,(.dict (zA [⟨zk P s161,zZ s161 165,(zZ s298 337)⟩,⟨zk P s316,zZ s316 166,.none⟩,⟨zk P s317,zZ s317 167,.none⟩,⟨zk P s318,zZ s318 168,zy9⟩,⟨zk P s319,zZ s319 169,.none⟩,⟨zk P s462,zZ s462 170,(zR 6)⟩,⟨zk P s463,zZ s463 171,(zR 4)⟩,⟨zk P s464,zZ s464 173,(zZ s314 172)⟩,⟨zk P s465,zZ s465 174,.none⟩,⟨zk P s72,zZ s72 193,(zR 21)⟩,⟨zk P s299,zZ s299 233,(zR 47)⟩,⟨zk P s214,zZ s214 256,(zR 67)⟩,⟨zk P s238,zZ s238 279,(zR 86)⟩,⟨zk P s296,zZ s296 302,(zR 105)⟩,⟨zk P s303,zZ s303 312,(zR 114)⟩,⟨zk P s304,zZ s304 321,(zR 121)⟩,⟨zk P s251,zZ s251 329,(zR 128)⟩,⟨zk P s244,zZ s244 336,(zR 135)⟩,⟨zk P s293,zZ s293 345,(zR 142)⟩,⟨zk P s297,zZ s297 353,(zR 149)⟩,⟨zk P s145,zZ s145 362,(zR 156)⟩,⟨zk P s294,zZ s294 371,(zR 163)⟩,⟨zk P s295,zZ s295 379,(zR 170)⟩,⟨zk P s292,zZ s292 389,(zR 177)⟩,⟨zk P s150,zZ s150 399,(zR 184)⟩,⟨zk P s151,zZ s151 408,(zR 191)⟩,⟨zk P s157,zZ s157 417,(zR 198)⟩,⟨zk P s108,zZ s108 419,(.int (.ofNat 0) 418)⟩,⟨zk P s194,zZ s194 421,(.int (.ofNat 1) 420)⟩,⟨zk P s195,zZ s195 423,(.int (.ofNat 2) 422)⟩,⟨zk P s261,zZ s261 425,(.int (.ofNat 4096) 424)⟩,⟨zk P s237,zZ s237 429,(.int (.ofNat 65536) 428)⟩,⟨zk P s60,zZ s60 440,(zR 199)⟩,⟨zk P s269,zZ s269 445,(zR 200)⟩,⟨zk P s211,zZ s211 450,(zR 201)⟩]) 35),z0⟩
noncomputable def o12_2(P:Params):Obj:=⟨.none,none,(.fields (zA [(zI 1),(zI 0),(zR 20),(zI 5),(zI 0),(zR 28),(zI 13),(zI 0),(zR 56),(zI 17),(zI 0),(zR 75),(zI 21),(zI 0),(zR 94),(zI 26),(zI 0),(zR 113),(zI 31),(zI 0),(zR 120),(zI 38),(zI 0),(zR 127),(zI 42),(zI 0),(zR 134),(zI 45),(zI 0),(zR 141),(zI 47),(zI 0),(zR 148),(zI 49),(zI 0),(zR 155),(zI 55),(zI 0),(zR 162),(zI 57),(zI 0),(zR 169),(zI 59),(zI 0),(zR 176),(zI 63),(zI 0),(zR 183),(zI 83),(zI 0),(zR 190),(zI 85),(zI 0),(zR 197)])),z0⟩
noncomputable def o3_3(P:Params):Obj:=⟨zy3,none,(.dict (zA [⟨zk P s161,zZ s161 165,(zZ s298 337)⟩,⟨zk P s316,zZ s316 166,.none⟩,⟨zk P s317,zZ s317 167,.none⟩,⟨zk P s318,zZ s318 168,zy9⟩,⟨zk P s319,zZ s319 169,.none⟩,⟨zk P s462,zZ s462 170,(zR 6)⟩,⟨zk P s463,zZ s463 171,(zR 4)⟩,⟨zk P s464,zZ s464 173,(zZ s314 172)⟩,⟨zk P s465,zZ s465 174,.none⟩,⟨zk P s72,zZ s72 193,(zR 21)⟩,⟨zk P s299,zZ s299 233,(zR 47)⟩,⟨zk P s214,zZ s214 256,(zR 67)⟩,⟨zk P s238,zZ s238 279,(zR 86)⟩,⟨zk P s296,zZ s296 302,(zR 105)⟩,⟨zk P s303,zZ s303 312,(zR 114)⟩,⟨zk P s304,zZ s304 321,(zR 121)⟩,⟨zk P s251,zZ s251 329,(zR 128)⟩,⟨zk P s244,zZ s244 336,(zR 135)⟩,⟨zk P s293,zZ s293 345,(zR 142)⟩,⟨zk P s297,zZ s297 353,(zR 149)⟩,⟨zk P s145,zZ s145 362,(zR 156)⟩,⟨zk P s294,zZ s294 371,(zR 163)⟩,⟨zk P s295,zZ s295 379,(zR 170)⟩,⟨zk P s292,zZ s292 389,(zR 177)⟩,⟨zk P s150,zZ s150 399,(zR 184)⟩,⟨zk P s151,zZ s151 408,(zR 191)⟩,⟨zk P s157,zZ s157 417,(zR 198)⟩,⟨zk P s108,zZ s108 419,(.int (.ofNat 0) 418)⟩,⟨zk P s194,zZ s194 421,(.int (.ofNat 1) 420)⟩,⟨zk P s195,zZ s195 423,(.int (.ofNat 2) 422)⟩,⟨zk P s261,zZ s261 425,(.int (.ofNat 4096) 424)⟩,⟨zk P s237,zZ s237 429,(.int (.ofNat 65536) 428)⟩,⟨zk P s60,zZ s60 440,(zR 199)⟩,⟨zk P s269,zZ s269 445,(zR 200)⟩,⟨zk P s211,zZ s211 450,(zR 201)⟩,⟨zk P s167,zZ s167 728,(zR 414)⟩]) 36),z0⟩
noncomputable def o12_3(P:Params):Obj:=⟨.none,none,(.fields (zA [(zI 1),(zI 0),(zR 20),(zI 5),(zI 0),(zR 28),(zI 13),(zI 0),(zR 56),(zI 17),(zI 0),(zR 75),(zI 21),(zI 0),(zR 94),(zI 26),(zI 0),(zR 113),(zI 31),(zI 0),(zR 120),(zI 38),(zI 0),(zR 127),(zI 42),(zI 0),(zR 134),(zI 45),(zI 0),(zR 141),(zI 47),(zI 0),(zR 148),(zI 49),(zI 0),(zR 155),(zI 55),(zI 0),(zR 162),(zI 57),(zI 0),(zR 169),(zI 59),(zI 0),(zR 176),(zI 63),(zI 0),(zR 183),(zI 83),(zI 0),(zR 190),(zI 85),(zI 0),(zR 197),(zI 95),(zI 0),(zR 207)])),z0⟩
noncomputable def o414_3(P:Params):Obj:=⟨zy4,none,(.cls ⟨s167,[zy6],[(zR 414),zy6],413,s167,true,[],[],false,none,false⟩),zA [none,none,(some (zZ s167 451)),(some (zZ s167 459)),(some zy12),(some (.bool true))]⟩
noncomputable def o3_4(P:Params):Obj:=⟨zy3,none,(.dict (zA [⟨zk P s161,zZ s161 165,(zZ s298 337)⟩,⟨zk P s316,zZ s316 166,.none⟩,⟨zk P s317,zZ s317 167,.none⟩,⟨zk P s318,zZ s318 168,zy9⟩,⟨zk P s319,zZ s319 169,.none⟩,⟨zk P s462,zZ s462 170,(zR 6)⟩,⟨zk P s463,zZ s463 171,(zR 4)⟩,⟨zk P s464,zZ s464 173,(zZ s314 172)⟩,⟨zk P s465,zZ s465 174,.none⟩,⟨zk P s72,zZ s72 193,(zR 21)⟩,⟨zk P s299,zZ s299 233,(zR 47)⟩,⟨zk P s214,zZ s214 256,(zR 67)⟩,⟨zk P s238,zZ s238 279,(zR 86)⟩,⟨zk P s296,zZ s296 302,(zR 105)⟩,⟨zk P s303,zZ s303 312,(zR 114)⟩,⟨zk P s304,zZ s304 321,(zR 121)⟩,⟨zk P s251,zZ s251 329,(zR 128)⟩,⟨zk P s244,zZ s244 336,(zR 135)⟩,⟨zk P s293,zZ s293 345,(zR 142)⟩,⟨zk P s297,zZ s297 353,(zR 149)⟩,⟨zk P s145,zZ s145 362,(zR 156)⟩,⟨zk P s294,zZ s294 371,(zR 163)⟩,⟨zk P s295,zZ s295 379,(zR 170)⟩,⟨zk P s292,zZ s292 389,(zR 177)⟩,⟨zk P s150,zZ s150 399,(zR 184)⟩,⟨zk P s151,zZ s151 408,(zR 191)⟩,⟨zk P s157,zZ s157 417,(zR 198)⟩,⟨zk P s108,zZ s108 419,(.int (.ofNat 0) 418)⟩,⟨zk P s194,zZ s194 421,(.int (.ofNat 1) 420)⟩,⟨zk P s195,zZ s195 423,(.int (.ofNat 2) 422)⟩,⟨zk P s261,zZ s261 425,(.int (.ofNat 4096) 424)⟩,⟨zk P s237,zZ s237 429,(.int (.ofNat 65536) 428)⟩,⟨zk P s60,zZ s60 440,(zR 199)⟩,⟨zk P s269,zZ s269 445,(zR 200)⟩,⟨zk P s211,zZ s211 450,(zR 201)⟩,⟨zk P s167,zZ s167 728,(zR 414)⟩,⟨zk P s221,zZ s221 861,(zR 519)⟩,⟨zk P s235,zZ s235 868,(zR 528)⟩]) 38),z0⟩
noncomputable def o12_4(P:Params):Obj:=⟨.none,none,(.fields (zA [(zI 1),(zI 0),(zR 20),(zI 5),(zI 0),(zR 28),(zI 13),(zI 0),(zR 56),(zI 17),(zI 0),(zR 75),(zI 21),(zI 0),(zR 94),(zI 26),(zI 0),(zR 113),(zI 31),(zI 0),(zR 120),(zI 38),(zI 0),(zR 127),(zI 42),(zI 0),(zR 134),(zI 45),(zI 0),(zR 141),(zI 47),(zI 0),(zR 148),(zI 49),(zI 0),(zR 155),(zI 55),(zI 0),(zR 162),(zI 57),(zI 0),(zR 169),(zI 59),(zI 0),(zR 176),(zI 63),(zI 0),(zR 183),(zI 83),(zI 0),(zR 190),(zI 85),(zI 0),(zR 197),(zI 95),(zI 0),(zR 207),(zI 209),(zI 0),(zR 424),(zI 273),(zI 0),(zR 527)])),z0⟩
noncomputable def o519_4(P:Params):Obj:=⟨zy4,none,(.cls ⟨s221,[(zR 414)],[(zR 519),(zR 414),zy6],518,s221,true,[],[],false,none,false⟩),zA [(some (zR 419)),none,(some (zZ s221 729)),(some (zZ s221 737)),(some zy12),(some (.bool true))]⟩
noncomputable def o3_5(P:Params):Obj:=⟨zy3,none,(.dict (zA [⟨zk P s161,zZ s161 165,(zZ s298 337)⟩,⟨zk P s316,zZ s316 166,.none⟩,⟨zk P s317,zZ s317 167,.none⟩,⟨zk P s318,zZ s318 168,zy9⟩,⟨zk P s319,zZ s319 169,.none⟩,⟨zk P s462,zZ s462 170,(zR 6)⟩,⟨zk P s463,zZ s463 171,(zR 4)⟩,⟨zk P s464,zZ s464 173,(zZ s314 172)⟩,⟨zk P s465,zZ s465 174,.none⟩,⟨zk P s72,zZ s72 193,(zR 21)⟩,⟨zk P s299,zZ s299 233,(zR 47)⟩,⟨zk P s214,zZ s214 256,(zR 67)⟩,⟨zk P s238,zZ s238 279,(zR 86)⟩,⟨zk P s296,zZ s296 302,(zR 105)⟩,⟨zk P s303,zZ s303 312,(zR 114)⟩,⟨zk P s304,zZ s304 321,(zR 121)⟩,⟨zk P s251,zZ s251 329,(zR 128)⟩,⟨zk P s244,zZ s244 336,(zR 135)⟩,⟨zk P s293,zZ s293 345,(zR 142)⟩,⟨zk P s297,zZ s297 353,(zR 149)⟩,⟨zk P s145,zZ s145 362,(zR 156)⟩,⟨zk P s294,zZ s294 371,(zR 163)⟩,⟨zk P s295,zZ s295 379,(zR 170)⟩,⟨zk P s292,zZ s292 389,(zR 177)⟩,⟨zk P s150,zZ s150 399,(zR 184)⟩,⟨zk P s151,zZ s151 408,(zR 191)⟩,⟨zk P s157,zZ s157 417,(zR 198)⟩,⟨zk P s108,zZ s108 419,(.int (.ofNat 0) 418)⟩,⟨zk P s194,zZ s194 421,(.int (.ofNat 1) 420)⟩,⟨zk P s195,zZ s195 423,(.int (.ofNat 2) 422)⟩,⟨zk P s261,zZ s261 425,(.int (.ofNat 4096) 424)⟩,⟨zk P s237,zZ s237 429,(.int (.ofNat 65536) 428)⟩,⟨zk P s60,zZ s60 440,(zR 199)⟩,⟨zk P s269,zZ s269 445,(zR 200)⟩,⟨zk P s211,zZ s211 450,(zR 201)⟩,⟨zk P s167,zZ s167 728,(zR 414)⟩,⟨zk P s221,zZ s221 861,(zR 519)⟩,⟨zk P s235,zZ s235 868,(zR 528)⟩,⟨zk P s241,zZ s241 982,(zR 615)⟩]) 39),z0⟩
noncomputable def o12_5(P:Params):Obj:=⟨.none,none,(.fields (zA [(zI 1),(zI 0),(zR 20),(zI 5),(zI 0),(zR 28),(zI 13),(zI 0),(zR 56),(zI 17),(zI 0),(zR 75),(zI 21),(zI 0),(zR 94),(zI 26),(zI 0),(zR 113),(zI 31),(zI 0),(zR 120),(zI 38),(zI 0),(zR 127),(zI 42),(zI 0),(zR 134),(zI 45),(zI 0),(zR 141),(zI 47),(zI 0),(zR 148),(zI 49),(zI 0),(zR 155),(zI 55),(zI 0),(zR 162),(zI 57),(zI 0),(zR 169),(zI 59),(zI 0),(zR 176),(zI 63),(zI 0),(zR 183),(zI 83),(zI 0),(zR 190),(zI 85),(zI 0),(zR 197),(zI 95),(zI 0),(zR 207),(zI 209),(zI 0),(zR 424),(zI 273),(zI 0),(zR 527),(zI 276),(zI 0),(zR 534)])),z0⟩
noncomputable def o615_5(P:Params):Obj:=⟨zy4,none,(.cls ⟨s241,[(zR 519)],[(zR 615),(zR 519),(zR 414),zy6],614,s241,true,[],[],false,none,false⟩),zA [(some (zR 529)),none,(some (zZ s241 869)),(some (zZ s241 877)),(some zy12),(some (.bool true))]⟩
noncomputable def o3_6(P:Params):Obj:=⟨zy3,none,(.dict (zA [⟨zk P s161,zZ s161 165,(zZ s280 1139)⟩,⟨zk P s316,zZ s316 166,.none⟩,⟨zk P s317,zZ s317 167,.none⟩,⟨zk P s318,zZ s318 168,zy9⟩,⟨zk P s319,zZ s319 169,.none⟩,⟨zk P s462,zZ s462 170,(zR 6)⟩,⟨zk P s463,zZ s463 171,(zR 4)⟩,⟨zk P s464,zZ s464 173,(zZ s314 172)⟩,⟨zk P s465,zZ s465 174,.none⟩,⟨zk P s72,zZ s72 193,(zR 21)⟩,⟨zk P s299,zZ s299 233,(zR 47)⟩,⟨zk P s214,zZ s214 256,(zR 67)⟩,⟨zk P s238,zZ s238 279,(zR 86)⟩,⟨zk P s296,zZ s296 302,(zR 105)⟩,⟨zk P s303,zZ s303 312,(zR 114)⟩,⟨zk P s304,zZ s304 321,(zR 121)⟩,⟨zk P s251,zZ s251 329,(zR 128)⟩,⟨zk P s244,zZ s244 336,(zR 135)⟩,⟨zk P s293,zZ s293 345,(zR 142)⟩,⟨zk P s297,zZ s297 353,(zR 149)⟩,⟨zk P s145,zZ s145 362,(zR 156)⟩,⟨zk P s294,zZ s294 371,(zR 163)⟩,⟨zk P s295,zZ s295 379,(zR 170)⟩,⟨zk P s292,zZ s292 389,(zR 177)⟩,⟨zk P s150,zZ s150 399,(zR 184)⟩,⟨zk P s151,zZ s151 408,(zR 191)⟩,⟨zk P s157,zZ s157 417,(zR 198)⟩,⟨zk P s108,zZ s108 419,(.int (.ofNat 0) 418)⟩,⟨zk P s194,zZ s194 421,(.int (.ofNat 1) 420)⟩,⟨zk P s195,zZ s195 423,(.int (.ofNat 2) 422)⟩,⟨zk P s261,zZ s261 425,(.int (.ofNat 4096) 424)⟩,⟨zk P s237,zZ s237 429,(.int (.ofNat 65536) 428)⟩,⟨zk P s60,zZ s60 440,(zR 199)⟩,⟨zk P s269,zZ s269 445,(zR 200)⟩,⟨zk P s211,zZ s211 450,(zR 201)⟩,⟨zk P s167,zZ s167 728,(zR 414)⟩,⟨zk P s221,zZ s221 861,(zR 519)⟩,⟨zk P s235,zZ s235 868,(zR 528)⟩,⟨zk P s241,zZ s241 982,(zR 615)⟩,⟨zk P s46,zZ s46 1138,(zR 734)⟩,⟨zk P s62,zZ s62 1142,(.int (.ofNat 50) 1141)⟩]) 41),z0⟩
noncomputable def o12_6(P:Params):Obj:=⟨.none,none,(.fields (zA [(zI 1),(zI 0),(zR 20),(zI 5),(zI 0),(zR 28),(zI 13),(zI 0),(zR 56),(zI 17),(zI 0),(zR 75),(zI 21),(zI 0),(zR 94),(zI 26),(zI 0),(zR 113),(zI 31),(zI 0),(zR 120),(zI 38),(zI 0),(zR 127),(zI 42),(zI 0),(zR 134),(zI 45),(zI 0),(zR 141),(zI 47),(zI 0),(zR 148),(zI 49),(zI 0),(zR 155),(zI 55),(zI 0),(zR 162),(zI 57),(zI 0),(zR 169),(zI 59),(zI 0),(zR 176),(zI 63),(zI 0),(zR 183),(zI 83),(zI 0),(zR 190),(zI 85),(zI 0),(zR 197),(zI 95),(zI 0),(zR 207),(zI 209),(zI 0),(zR 424),(zI 273),(zI 0),(zR 527),(zI 276),(zI 0),(zR 534),(zI 326),(zI 0),(zR 624)])),z0⟩
noncomputable def o3_7(P:Params):Obj:=⟨zy3,none,(.dict (zA [⟨zk P s161,zZ s161 165,(zZ s280 1139)⟩,⟨zk P s316,zZ s316 166,.none⟩,⟨zk P s317,zZ s317 167,.none⟩,⟨zk P s318,zZ s318 168,zy9⟩,⟨zk P s319,zZ s319 169,.none⟩,⟨zk P s462,zZ s462 170,(zR 6)⟩,⟨zk P s463,zZ s463 171,(zR 4)⟩,⟨zk P s464,zZ s464 173,(zZ s314 172)⟩,⟨zk P s465,zZ s465 174,.none⟩,⟨zk P s72,zZ s72 193,(zR 21)⟩,⟨zk P s299,zZ s299 233,(zR 47)⟩,⟨zk P s214,zZ s214 256,(zR 67)⟩,⟨zk P s238,zZ s238 279,(zR 86)⟩,⟨zk P s296,zZ s296 302,(zR 105)⟩,⟨zk P s303,zZ s303 312,(zR 114)⟩,⟨zk P s304,zZ s304 321,(zR 121)⟩,⟨zk P s251,zZ s251 329,(zR 128)⟩,⟨zk P s244,zZ s244 336,(zR 135)⟩,⟨zk P s293,zZ s293 345,(zR 142)⟩,⟨zk P s297,zZ s297 353,(zR 149)⟩,⟨zk P s145,zZ s145 362,(zR 156)⟩,⟨zk P s294,zZ s294 371,(zR 163)⟩,⟨zk P s295,zZ s295 379,(zR 170)⟩,⟨zk P s292,zZ s292 389,(zR 177)⟩,⟨zk P s150,zZ s150 399,(zR 184)⟩,⟨zk P s151,zZ s151 408,(zR 191)⟩,⟨zk P s157,zZ s157 417,(zR 198)⟩,⟨zk P s108,zZ s108 419,(.int (.ofNat 0) 418)⟩,⟨zk P s194,zZ s194 421,(.int (.ofNat 1) 420)⟩,⟨zk P s195,zZ s195 423,(.int (.ofNat 2) 422)⟩,⟨zk P s261,zZ s261 425,(.int (.ofNat 4096) 424)⟩,⟨zk P s237,zZ s237 429,(.int (.ofNat 65536) 428)⟩,⟨zk P s60,zZ s60 440,(zR 199)⟩,⟨zk P s269,zZ s269 445,(zR 200)⟩,⟨zk P s211,zZ s211 450,(zR 201)⟩,⟨zk P s167,zZ s167 728,(zR 414)⟩,⟨zk P s221,zZ s221 861,(zR 519)⟩,⟨zk P s235,zZ s235 868,(zR 528)⟩,⟨zk P s241,zZ s241 982,(zR 615)⟩,⟨zk P s46,zZ s46 1138,(zR 734)⟩,⟨zk P s62,zZ s62 1142,(.int (.ofNat 50) 1141)⟩,⟨zk P s63,zZ s63 1326,(zR 859)⟩]) 42),z0⟩
noncomputable def o12_7(P:Params):Obj:=⟨.none,none,(.fields (zA [(zI 1),(zI 0),(zR 20),(zI 5),(zI 0),(zR 28),(zI 13),(zI 0),(zR 56),(zI 17),(zI 0),(zR 75),(zI 21),(zI 0),(zR 94),(zI 26),(zI 0),(zR 113),(zI 31),(zI 0),(zR 120),(zI 38),(zI 0),(zR 127),(zI 42),(zI 0),(zR 134),(zI 45),(zI 0),(zR 141),(zI 47),(zI 0),(zR 148),(zI 49),(zI 0),(zR 155),(zI 55),(zI 0),(zR 162),(zI 57),(zI 0),(zR 169),(zI 59),(zI 0),(zR 176),(zI 63),(zI 0),(zR 183),(zI 83),(zI 0),(zR 190),(zI 85),(zI 0),(zR 197),(zI 95),(zI 0),(zR 207),(zI 209),(zI 0),(zR 424),(zI 273),(zI 0),(zR 527),(zI 276),(zI 0),(zR 534),(zI 326),(zI 0),(zR 624),(zI 412),(zI 0),(zR 742)])),z0⟩
noncomputable def o859_7(P:Params):Obj:=⟨zy4,none,(.cls ⟨s63,[zy6],[(zR 859),zy6],858,s63,true,[],[],false,none,false⟩),zA [none,none,(some (zZ s63 1143)),(some (zZ s63 1151)),(some zy12),(some (.bool true))]⟩
noncomputable def o3_8(P:Params):Obj:=⟨zy3,none,(.dict (zA [⟨zk P s161,zZ s161 165,(zZ s162 1600)⟩,⟨zk P s316,zZ s316 166,.none⟩,⟨zk P s317,zZ s317 167,.none⟩,⟨zk P s318,zZ s318 168,zy9⟩,⟨zk P s319,zZ s319 169,.none⟩,⟨zk P s462,zZ s462 170,(zR 6)⟩,⟨zk P s463,zZ s463 171,(zR 4)⟩,⟨zk P s464,zZ s464 173,(zZ s314 172)⟩,⟨zk P s465,zZ s465 174,.none⟩,⟨zk P s72,zZ s72 193,(zR 21)⟩,⟨zk P s299,zZ s299 233,(zR 47)⟩,⟨zk P s214,zZ s214 256,(zR 67)⟩,⟨zk P s238,zZ s238 279,(zR 86)⟩,⟨zk P s296,zZ s296 302,(zR 105)⟩,⟨zk P s303,zZ s303 312,(zR 114)⟩,⟨zk P s304,zZ s304 321,(zR 121)⟩,⟨zk P s251,zZ s251 329,(zR 128)⟩,⟨zk P s244,zZ s244 336,(zR 135)⟩,⟨zk P s293,zZ s293 345,(zR 142)⟩,⟨zk P s297,zZ s297 353,(zR 149)⟩,⟨zk P s145,zZ s145 362,(zR 156)⟩,⟨zk P s294,zZ s294 371,(zR 163)⟩,⟨zk P s295,zZ s295 379,(zR 170)⟩,⟨zk P s292,zZ s292 389,(zR 177)⟩,⟨zk P s150,zZ s150 399,(zR 184)⟩,⟨zk P s151,zZ s151 408,(zR 191)⟩,⟨zk P s157,zZ s157 417,(zR 198)⟩,⟨zk P s108,zZ s108 419,(.int (.ofNat 0) 418)⟩,⟨zk P s194,zZ s194 421,(.int (.ofNat 1) 420)⟩,⟨zk P s195,zZ s195 423,(.int (.ofNat 2) 422)⟩,⟨zk P s261,zZ s261 425,(.int (.ofNat 4096) 424)⟩,⟨zk P s237,zZ s237 429,(.int (.ofNat 65536) 428)⟩,⟨zk P s60,zZ s60 440,(zR 199)⟩,⟨zk P s269,zZ s269 445,(zR 200)⟩,⟨zk P s211,zZ s211 450,(zR 201)⟩,⟨zk P s167,zZ s167 728,(zR 414)⟩,⟨zk P s221,zZ s221 861,(zR 519)⟩,⟨zk P s235,zZ s235 868,(zR 528)⟩,⟨zk P s241,zZ s241 982,(zR 615)⟩,⟨zk P s46,zZ s46 1138,(zR 734)⟩,⟨zk P s62,zZ s62 1142,(.int (.ofNat 50) 1141)⟩,⟨zk P s63,zZ s63 1326,(zR 859)⟩,⟨zk P s47,zZ s47 1599,(zR 1053)⟩,⟨zk P s53,zZ s53 1611,(zR 1062)⟩]) 44),z0⟩
noncomputable def o12_8(P:Params):Obj:=⟨.none,none,(.fields (zA [(zI 1),(zI 0),(zR 20),(zI 5),(zI 0),(zR 28),(zI 13),(zI 0),(zR 56),(zI 17),(zI 0),(zR 75),(zI 21),(zI 0),(zR 94),(zI 26),(zI 0),(zR 113),(zI 31),(zI 0),(zR 120),(zI 38),(zI 0),(zR 127),(zI 42),(zI 0),(zR 134),(zI 45),(zI 0),(zR 141),(zI 47),(zI 0),(zR 148),(zI 49),(zI 0),(zR 155),(zI 55),(zI 0),(zR 162),(zI 57),(zI 0),(zR 169),(zI 59),(zI 0),(zR 176),(zI 63),(zI 0),(zR 183),(zI 83),(zI 0),(zR 190),(zI 85),(zI 0),(zR 197),(zI 95),(zI 0),(zR 207),(zI 209),(zI 0),(zR 424),(zI 273),(zI 0),(zR 527),(zI 276),(zI 0),(zR 534),(zI 326),(zI 0),(zR 624),(zI 412),(zI 0),(zR 742),(zI 535),(zI 0),(zR 870),(zI 663),(zI 0),(zR 1061)])),z0⟩
noncomputable def TF (P:Params):BT:=(.node (o0 P) (.node (o1 P) (.node (o3 P) (.node (o7 P) (.node (o15 P) (.node (o31 P) (.node (o63 P) (.node (o127 P) (.node (o255 P) (.node (o511 P) (.node (o1023 P) .nil .nil) .nil) (.node (o767 P) .nil .nil)) (.node (o383 P) (.node (o639 P) .nil .nil) (.node (o895 P) .nil .nil))) (.node (o191 P) (.node (o319 P) (.node (o575 P) (.node (o1087 P) .nil .nil) .nil) (.node (o831 P) .nil .nil)) (.node (o447 P) (.node (o703 P) .nil .nil) (.node (o959 P) .nil .nil)))) (.node (o95 P) (.node (o159 P) (.node (o287 P) (.node (o543 P) (.node (o1055 P) .nil .nil) .nil) (.node (o799 P) .nil .nil)) (.node (o415 P) (.node (o671 P) .nil .nil) (.node (o927 P) .nil .nil))) (.node (o223 P) (.node (o351 P) (.node (o607 P) .nil .nil) (.node (o863 P) .nil .nil)) (.node (o479 P) (.node (o735 P) .nil .nil) (.node (o991 P) .nil .nil))))) (.node (o47 P) (.node (o79 P) (.node (o143 P) (.node (o271 P) (.node (o527 P) (.node (o1039 P) .nil .nil) .nil) (.node (o783 P) .nil .nil)) (.node (o399 P) (.node (o655 P) .nil .nil) (.node (o911 P) .nil .nil))) (.node (o207 P) (.node (o335 P) (.node (o591 P) (.node (o1103 P) .nil .nil) .nil) (.node (o847 P) .nil .nil)) (.node (o463 P) (.node (o719 P) .nil .nil) (.node (o975 P) .nil .nil)))) (.node (o111 P) (.node (o175 P) (.node (o303 P) (.node (o559 P) (.node (o1071 P) .nil .nil) .nil) (.node (o815 P) .nil .nil)) (.node (o431 P) (.node (o687 P) .nil .nil) (.node (o943 P) .nil .nil))) (.node (o239 P) (.node (o367 P) (.node (o623 P) .nil .nil) (.node (o879 P) .nil .nil)) (.node (o495 P) (.node (o751 P) .nil .nil) (.node (o1007 P) .nil .nil)))))) (.node (o23 P) (.node (o39 P) (.node (o71 P) (.node (o135 P) (.node (o263 P) (.node (o519 P) (.node (o1031 P) .nil .nil) .nil) (.node (o775 P) .nil .nil)) (.node (o391 P) (.node (o647 P) .nil .nil) (.node (o903 P) .nil .nil))) (.node (o199 P) (.node (o327 P) (.node (o583 P) (.node (o1095 P) .nil .nil) .nil) (.node (o839 P) .nil .nil)) (.node (o455 P) (.node (o711 P) .nil .nil) (.node (o967 P) .nil .nil)))) (.node (o103 P) (.node (o167 P) (.node (o295 P) (.node (o551 P) (.node (o1063 P) .nil .nil) .nil) (.node (o807 P) .nil .nil)) (.node (o423 P) (.node (o679 P) .nil .nil) (.node (o935 P) .nil .nil))) (.node (o231 P) (.node (o359 P) (.node (o615 P) .nil .nil) (.node (o871 P) .nil .nil)) (.node (o487 P) (.node (o743 P) .nil .nil) (.node (o999 P) .nil .nil))))) (.node (o55 P) (.node (o87 P) (.node (o151 P) (.node (o279 P) (.node (o535 P) (.node (o1047 P) .nil .nil) .nil) (.node (o791 P) .nil .nil)) (.node (o407 P) (.node (o663 P) .nil .nil) (.node (o919 P) .nil .nil))) (.node (o215 P) (.node (o343 P) (.node (o599 P) .nil .nil) (.node (o855 P) .nil .nil)) (.node (o471 P) (.node (o727 P) .nil .nil) (.node (o983 P) .nil .nil)))) (.node (o119 P) (.node (o183 P) (.node (o311 P) (.node (o567 P) (.node (o1079 P) .nil .nil) .nil) (.node (o823 P) .nil .nil)) (.node (o439 P) (.node (o695 P) .nil .nil) (.node (o951 P) .nil .nil))) (.node (o247 P) (.node (o375 P) (.node (o631 P) .nil .nil) (.node (o887 P) .nil .nil)) (.node (o503 P) (.node (o759 P) .nil .nil) (.node (o1015 P) .nil .nil))))))) (.node (o11 P) (.node (o19 P) (.node (o35 P) (.node (o67 P) (.node (o131 P) (.node (o259 P) (.node (o515 P) (.node (o1027 P) .nil .nil) .nil) (.node (o771 P) .nil .nil)) (.node (o387 P) (.node (o643 P) .nil .nil) (.node (o899 P) .nil .nil))) (.node (o195 P) (.node (o323 P) (.node (o579 P) (.node (o1091 P) .nil .nil) .nil) (.node (o835 P) .nil .nil)) (.node (o451 P) (.node (o707 P) .nil .nil) (.node (o963 P) .nil .nil)))) (.node (o99 P) (.node (o163 P) (.node (o291 P) (.node (o547 P) (.node (o1059 P) .nil .nil) .nil) (.node (o803 P) .nil .nil)) (.node (o419 P) (.node (o675 P) .nil .nil) (.node (o931 P) .nil .nil))) (.node (o227 P) (.node (o355 P) (.node (o611 P) .nil .nil) (.node (o867 P) .nil .nil)) (.node (o483 P) (.node (o739 P) .nil .nil) (.node (o995 P) .nil .nil))))) (.node (o51 P) (.node (o83 P) (.node (o147 P) (.node (o275 P) (.node (o531 P) (.node (o1043 P) .nil .nil) .nil) (.node (o787 P) .nil .nil)) (.node (o403 P) (.node (o659 P) .nil .nil) (.node (o915 P) .nil .nil))) (.node (o211 P) (.node (o339 P) (.node (o595 P) .nil .nil) (.node (o851 P) .nil .nil)) (.node (o467 P) (.node (o723 P) .nil .nil) (.node (o979 P) .nil .nil)))) (.node (o115 P) (.node (o179 P) (.node (o307 P) (.node (o563 P) (.node (o1075 P) .nil .nil) .nil) (.node (o819 P) .nil .nil)) (.node (o435 P) (.node (o691 P) .nil .nil) (.node (o947 P) .nil .nil))) (.node (o243 P) (.node (o371 P) (.node (o627 P) .nil .nil) (.node (o883 P) .nil .nil)) (.node (o499 P) (.node (o755 P) .nil .nil) (.node (o1011 P) .nil .nil)))))) (.node (o27 P) (.node (o43 P) (.node (o75 P) (.node (o139 P) (.node (o267 P) (.node (o523 P) (.node (o1035 P) .nil .nil) .nil) (.node (o779 P) .nil .nil)) (.node (o395 P) (.node (o651 P) .nil .nil) (.node (o907 P) .nil .nil))) (.node (o203 P) (.node (o331 P) (.node (o587 P) (.node (o1099 P) .nil .nil) .nil) (.node (o843 P) .nil .nil)) (.node (o459 P) (.node (o715 P) .nil .nil) (.node (o971 P) .nil .nil)))) (.node (o107 P) (.node (o171 P) (.node (o299 P) (.node (o555 P) (.node (o1067 P) .nil .nil) .nil) (.node (o811 P) .nil .nil)) (.node (o427 P) (.node (o683 P) .nil .nil) (.node (o939 P) .nil .nil))) (.node (o235 P) (.node (o363 P) (.node (o619 P) .nil .nil) (.node (o875 P) .nil .nil)) (.node (o491 P) (.node (o747 P) .nil .nil) (.node (o1003 P) .nil .nil))))) (.node (o59 P) (.node (o91 P) (.node (o155 P) (.node (o283 P) (.node (o539 P) (.node (o1051 P) .nil .nil) .nil) (.node (o795 P) .nil .nil)) (.node (o411 P) (.node (o667 P) .nil .nil) (.node (o923 P) .nil .nil))) (.node (o219 P) (.node (o347 P) (.node (o603 P) .nil .nil) (.node (o859 P) .nil .nil)) (.node (o475 P) (.node (o731 P) .nil .nil) (.node (o987 P) .nil .nil)))) (.node (o123 P) (.node (o187 P) (.node (o315 P) (.node (o571 P) (.node (o1083 P) .nil .nil) .nil) (.node (o827 P) .nil .nil)) (.node (o443 P) (.node (o699 P) .nil .nil) (.node (o955 P) .nil .nil))) (.node (o251 P) (.node (o379 P) (.node (o635 P) .nil .nil) (.node (o891 P) .nil .nil)) (.node (o507 P) (.node (o763 P) .nil .nil) (.node (o1019 P) .nil .nil)))))))) (.node (o5 P) (.node (o9 P) (.node (o17 P) (.node (o33 P) (.node (o65 P) (.node (o129 P) (.node (o257 P) (.node (o513 P) (.node (o1025 P) .nil .nil) .nil) (.node (o769 P) .nil .nil)) (.node (o385 P) (.node (o641 P) .nil .nil) (.node (o897 P) .nil .nil))) (.node (o193 P) (.node (o321 P) (.node (o577 P) (.node (o1089 P) .nil .nil) .nil) (.node (o833 P) .nil .nil)) (.node (o449 P) (.node (o705 P) .nil .nil) (.node (o961 P) .nil .nil)))) (.node (o97 P) (.node (o161 P) (.node (o289 P) (.node (o545 P) (.node (o1057 P) .nil .nil) .nil) (.node (o801 P) .nil .nil)) (.node (o417 P) (.node (o673 P) .nil .nil) (.node (o929 P) .nil .nil))) (.node (o225 P) (.node (o353 P) (.node (o609 P) .nil .nil) (.node (o865 P) .nil .nil)) (.node (o481 P) (.node (o737 P) .nil .nil) (.node (o993 P) .nil .nil))))) (.node (o49 P) (.node (o81 P) (.node (o145 P) (.node (o273 P) (.node (o529 P) (.node (o1041 P) .nil .nil) .nil) (.node (o785 P) .nil .nil)) (.node (o401 P) (.node (o657 P) .nil .nil) (.node (o913 P) .nil .nil))) (.node (o209 P) (.node (o337 P) (.node (o593 P) .nil .nil) (.node (o849 P) .nil .nil)) (.node (o465 P) (.node (o721 P) .nil .nil) (.node (o977 P) .nil .nil)))) (.node (o113 P) (.node (o177 P) (.node (o305 P) (.node (o561 P) (.node (o1073 P) .nil .nil) .nil) (.node (o817 P) .nil .nil)) (.node (o433 P) (.node (o689 P) .nil .nil) (.node (o945 P) .nil .nil))) (.node (o241 P) (.node (o369 P) (.node (o625 P) .nil .nil) (.node (o881 P) .nil .nil)) (.node (o497 P) (.node (o753 P) .nil .nil) (.node (o1009 P) .nil .nil)))))) (.node (o25 P) (.node (o41 P) (.node (o73 P) (.node (o137 P) (.node (o265 P) (.node (o521 P) (.node (o1033 P) .nil .nil) .nil) (.node (o777 P) .nil .nil)) (.node (o393 P) (.node (o649 P) .nil .nil) (.node (o905 P) .nil .nil))) (.node (o201 P) (.node (o329 P) (.node (o585 P) (.node (o1097 P) .nil .nil) .nil) (.node (o841 P) .nil .nil)) (.node (o457 P) (.node (o713 P) .nil .nil) (.node (o969 P) .nil .nil)))) (.node (o105 P) (.node (o169 P) (.node (o297 P) (.node (o553 P) (.node (o1065 P) .nil .nil) .nil) (.node (o809 P) .nil .nil)) (.node (o425 P) (.node (o681 P) .nil .nil) (.node (o937 P) .nil .nil))) (.node (o233 P) (.node (o361 P) (.node (o617 P) .nil .nil) (.node (o873 P) .nil .nil)) (.node (o489 P) (.node (o745 P) .nil .nil) (.node (o1001 P) .nil .nil))))) (.node (o57 P) (.node (o89 P) (.node (o153 P) (.node (o281 P) (.node (o537 P) (.node (o1049 P) .nil .nil) .nil) (.node (o793 P) .nil .nil)) (.node (o409 P) (.node (o665 P) .nil .nil) (.node (o921 P) .nil .nil))) (.node (o217 P) (.node (o345 P) (.node (o601 P) .nil .nil) (.node (o857 P) .nil .nil)) (.node (o473 P) (.node (o729 P) .nil .nil) (.node (o985 P) .nil .nil)))) (.node (o121 P) (.node (o185 P) (.node (o313 P) (.node (o569 P) (.node (o1081 P) .nil .nil) .nil) (.node (o825 P) .nil .nil)) (.node (o441 P) (.node (o697 P) .nil .nil) (.node (o953 P) .nil .nil))) (.node (o249 P) (.node (o377 P) (.node (o633 P) .nil .nil) (.node (o889 P) .nil .nil)) (.node (o505 P) (.node (o761 P) .nil .nil) (.node (o1017 P) .nil .nil))))))) (.node (o13 P) (.node (o21 P) (.node (o37 P) (.node (o69 P) (.node (o133 P) (.node (o261 P) (.node (o517 P) (.node (o1029 P) .nil .nil) .nil) (.node (o773 P) .nil .nil)) (.node (o389 P) (.node (o645 P) .nil .nil) (.node (o901 P) .nil .nil))) (.node (o197 P) (.node (o325 P) (.node (o581 P) (.node (o1093 P) .nil .nil) .nil) (.node (o837 P) .nil .nil)) (.node (o453 P) (.node (o709 P) .nil .nil) (.node (o965 P) .nil .nil)))) (.node (o101 P) (.node (o165 P) (.node (o293 P) (.node (o549 P) (.node (o1061 P) .nil .nil) .nil) (.node (o805 P) .nil .nil)) (.node (o421 P) (.node (o677 P) .nil .nil) (.node (o933 P) .nil .nil))) (.node (o229 P) (.node (o357 P) (.node (o613 P) .nil .nil) (.node (o869 P) .nil .nil)) (.node (o485 P) (.node (o741 P) .nil .nil) (.node (o997 P) .nil .nil))))) (.node (o53 P) (.node (o85 P) (.node (o149 P) (.node (o277 P) (.node (o533 P) (.node (o1045 P) .nil .nil) .nil) (.node (o789 P) .nil .nil)) (.node (o405 P) (.node (o661 P) .nil .nil) (.node (o917 P) .nil .nil))) (.node (o213 P) (.node (o341 P) (.node (o597 P) .nil .nil) (.node (o853 P) .nil .nil)) (.node (o469 P) (.node (o725 P) .nil .nil) (.node (o981 P) .nil .nil)))) (.node (o117 P) (.node (o181 P) (.node (o309 P) (.node (o565 P) (.node (o1077 P) .nil .nil) .nil) (.node (o821 P) .nil .nil)) (.node (o437 P) (.node (o693 P) .nil .nil) (.node (o949 P) .nil .nil))) (.node (o245 P) (.node (o373 P) (.node (o629 P) .nil .nil) (.node (o885 P) .nil .nil)) (.node (o501 P) (.node (o757 P) .nil .nil) (.node (o1013 P) .nil .nil)))))) (.node (o29 P) (.node (o45 P) (.node (o77 P) (.node (o141 P) (.node (o269 P) (.node (o525 P) (.node (o1037 P) .nil .nil) .nil) (.node (o781 P) .nil .nil)) (.node (o397 P) (.node (o653 P) .nil .nil) (.node (o909 P) .nil .nil))) (.node (o205 P) (.node (o333 P) (.node (o589 P) (.node (o1101 P) .nil .nil) .nil) (.node (o845 P) .nil .nil)) (.node (o461 P) (.node (o717 P) .nil .nil) (.node (o973 P) .nil .nil)))) (.node (o109 P) (.node (o173 P) (.node (o301 P) (.node (o557 P) (.node (o1069 P) .nil .nil) .nil) (.node (o813 P) .nil .nil)) (.node (o429 P) (.node (o685 P) .nil .nil) (.node (o941 P) .nil .nil))) (.node (o237 P) (.node (o365 P) (.node (o621 P) .nil .nil) (.node (o877 P) .nil .nil)) (.node (o493 P) (.node (o749 P) .nil .nil) (.node (o1005 P) .nil .nil))))) (.node (o61 P) (.node (o93 P) (.node (o157 P) (.node (o285 P) (.node (o541 P) (.node (o1053 P) .nil .nil) .nil) (.node (o797 P) .nil .nil)) (.node (o413 P) (.node (o669 P) .nil .nil) (.node (o925 P) .nil .nil))) (.node (o221 P) (.node (o349 P) (.node (o605 P) .nil .nil) (.node (o861 P) .nil .nil)) (.node (o477 P) (.node (o733 P) .nil .nil) (.node (o989 P) .nil .nil)))) (.node (o125 P) (.node (o189 P) (.node (o317 P) (.node (o573 P) (.node (o1085 P) .nil .nil) .nil) (.node (o829 P) .nil .nil)) (.node (o445 P) (.node (o701 P) .nil .nil) (.node (o957 P) .nil .nil))) (.node (o253 P) (.node (o381 P) (.node (o637 P) .nil .nil) (.node (o893 P) .nil .nil)) (.node (o509 P) (.node (o765 P) .nil .nil) (.node (o1021 P) .nil .nil))))))))) (.node (o2 P) (.node (o4 P) (.node (o8 P) (.node (o16 P) (.node (o32 P) (.node (o64 P) (.node (o128 P) (.node (o256 P) (.node (o512 P) (.node (o1024 P) .nil .nil) .nil) (.node (o768 P) .nil .nil)) (.node (o384 P) (.node (o640 P) .nil .nil) (.node (o896 P) .nil .nil))) (.node (o192 P) (.node (o320 P) (.node (o576 P) (.node (o1088 P) .nil .nil) .nil) (.node (o832 P) .nil .nil)) (.node (o448 P) (.node (o704 P) .nil .nil) (.node (o960 P) .nil .nil)))) (.node (o96 P) (.node (o160 P) (.node (o288 P) (.node (o544 P) (.node (o1056 P) .nil .nil) .nil) (.node (o800 P) .nil .nil)) (.node (o416 P) (.node (o672 P) .nil .nil) (.node (o928 P) .nil .nil))) (.node (o224 P) (.node (o352 P) (.node (o608 P) .nil .nil) (.node (o864 P) .nil .nil)) (.node (o480 P) (.node (o736 P) .nil .nil) (.node (o992 P) .nil .nil))))) (.node (o48 P) (.node (o80 P) (.node (o144 P) (.node (o272 P) (.node (o528 P) (.node (o1040 P) .nil .nil) .nil) (.node (o784 P) .nil .nil)) (.node (o400 P) (.node (o656 P) .nil .nil) (.node (o912 P) .nil .nil))) (.node (o208 P) (.node (o336 P) (.node (o592 P) .nil .nil) (.node (o848 P) .nil .nil)) (.node (o464 P) (.node (o720 P) .nil .nil) (.node (o976 P) .nil .nil)))) (.node (o112 P) (.node (o176 P) (.node (o304 P) (.node (o560 P) (.node (o1072 P) .nil .nil) .nil) (.node (o816 P) .nil .nil)) (.node (o432 P) (.node (o688 P) .nil .nil) (.node (o944 P) .nil .nil))) (.node (o240 P) (.node (o368 P) (.node (o624 P) .nil .nil) (.node (o880 P) .nil .nil)) (.node (o496 P) (.node (o752 P) .nil .nil) (.node (o1008 P) .nil .nil)))))) (.node (o24 P) (.node (o40 P) (.node (o72 P) (.node (o136 P) (.node (o264 P) (.node (o520 P) (.node (o1032 P) .nil .nil) .nil) (.node (o776 P) .nil .nil)) (.node (o392 P) (.node (o648 P) .nil .nil) (.node (o904 P) .nil .nil))) (.node (o200 P) (.node (o328 P) (.node (o584 P) (.node (o1096 P) .nil .nil) .nil) (.node (o840 P) .nil .nil)) (.node (o456 P) (.node (o712 P) .nil .nil) (.node (o968 P) .nil .nil)))) (.node (o104 P) (.node (o168 P) (.node (o296 P) (.node (o552 P) (.node (o1064 P) .nil .nil) .nil) (.node (o808 P) .nil .nil)) (.node (o424 P) (.node (o680 P) .nil .nil) (.node (o936 P) .nil .nil))) (.node (o232 P) (.node (o360 P) (.node (o616 P) .nil .nil) (.node (o872 P) .nil .nil)) (.node (o488 P) (.node (o744 P) .nil .nil) (.node (o1000 P) .nil .nil))))) (.node (o56 P) (.node (o88 P) (.node (o152 P) (.node (o280 P) (.node (o536 P) (.node (o1048 P) .nil .nil) .nil) (.node (o792 P) .nil .nil)) (.node (o408 P) (.node (o664 P) .nil .nil) (.node (o920 P) .nil .nil))) (.node (o216 P) (.node (o344 P) (.node (o600 P) .nil .nil) (.node (o856 P) .nil .nil)) (.node (o472 P) (.node (o728 P) .nil .nil) (.node (o984 P) .nil .nil)))) (.node (o120 P) (.node (o184 P) (.node (o312 P) (.node (o568 P) (.node (o1080 P) .nil .nil) .nil) (.node (o824 P) .nil .nil)) (.node (o440 P) (.node (o696 P) .nil .nil) (.node (o952 P) .nil .nil))) (.node (o248 P) (.node (o376 P) (.node (o632 P) .nil .nil) (.node (o888 P) .nil .nil)) (.node (o504 P) (.node (o760 P) .nil .nil) (.node (o1016 P) .nil .nil))))))) (.node (o12 P) (.node (o20 P) (.node (o36 P) (.node (o68 P) (.node (o132 P) (.node (o260 P) (.node (o516 P) (.node (o1028 P) .nil .nil) .nil) (.node (o772 P) .nil .nil)) (.node (o388 P) (.node (o644 P) .nil .nil) (.node (o900 P) .nil .nil))) (.node (o196 P) (.node (o324 P) (.node (o580 P) (.node (o1092 P) .nil .nil) .nil) (.node (o836 P) .nil .nil)) (.node (o452 P) (.node (o708 P) .nil .nil) (.node (o964 P) .nil .nil)))) (.node (o100 P) (.node (o164 P) (.node (o292 P) (.node (o548 P) (.node (o1060 P) .nil .nil) .nil) (.node (o804 P) .nil .nil)) (.node (o420 P) (.node (o676 P) .nil .nil) (.node (o932 P) .nil .nil))) (.node (o228 P) (.node (o356 P) (.node (o612 P) .nil .nil) (.node (o868 P) .nil .nil)) (.node (o484 P) (.node (o740 P) .nil .nil) (.node (o996 P) .nil .nil))))) (.node (o52 P) (.node (o84 P) (.node (o148 P) (.node (o276 P) (.node (o532 P) (.node (o1044 P) .nil .nil) .nil) (.node (o788 P) .nil .nil)) (.node (o404 P) (.node (o660 P) .nil .nil) (.node (o916 P) .nil .nil))) (.node (o212 P) (.node (o340 P) (.node (o596 P) .nil .nil) (.node (o852 P) .nil .nil)) (.node (o468 P) (.node (o724 P) .nil .nil) (.node (o980 P) .nil .nil)))) (.node (o116 P) (.node (o180 P) (.node (o308 P) (.node (o564 P) (.node (o1076 P) .nil .nil) .nil) (.node (o820 P) .nil .nil)) (.node (o436 P) (.node (o692 P) .nil .nil) (.node (o948 P) .nil .nil))) (.node (o244 P) (.node (o372 P) (.node (o628 P) .nil .nil) (.node (o884 P) .nil .nil)) (.node (o500 P) (.node (o756 P) .nil .nil) (.node (o1012 P) .nil .nil)))))) (.node (o28 P) (.node (o44 P) (.node (o76 P) (.node (o140 P) (.node (o268 P) (.node (o524 P) (.node (o1036 P) .nil .nil) .nil) (.node (o780 P) .nil .nil)) (.node (o396 P) (.node (o652 P) .nil .nil) (.node (o908 P) .nil .nil))) (.node (o204 P) (.node (o332 P) (.node (o588 P) (.node (o1100 P) .nil .nil) .nil) (.node (o844 P) .nil .nil)) (.node (o460 P) (.node (o716 P) .nil .nil) (.node (o972 P) .nil .nil)))) (.node (o108 P) (.node (o172 P) (.node (o300 P) (.node (o556 P) (.node (o1068 P) .nil .nil) .nil) (.node (o812 P) .nil .nil)) (.node (o428 P) (.node (o684 P) .nil .nil) (.node (o940 P) .nil .nil))) (.node (o236 P) (.node (o364 P) (.node (o620 P) .nil .nil) (.node (o876 P) .nil .nil)) (.node (o492 P) (.node (o748 P) .nil .nil) (.node (o1004 P) .nil .nil))))) (.node (o60 P) (.node (o92 P) (.node (o156 P) (.node (o284 P) (.node (o540 P) (.node (o1052 P) .nil .nil) .nil) (.node (o796 P) .nil .nil)) (.node (o412 P) (.node (o668 P) .nil .nil) (.node (o924 P) .nil .nil))) (.node (o220 P) (.node (o348 P) (.node (o604 P) .nil .nil) (.node (o860 P) .nil .nil)) (.node (o476 P) (.node (o732 P) .nil .nil) (.node (o988 P) .nil .nil)))) (.node (o124 P) (.node (o188 P) (.node (o316 P) (.node (o572 P) (.node (o1084 P) .nil .nil) .nil) (.node (o828 P) .nil .nil)) (.node (o444 P) (.node (o700 P) .nil .nil) (.node (o956 P) .nil .nil))) (.node (o252 P) (.node (o380 P) (.node (o636 P) .nil .nil) (.node (o892 P) .nil .nil)) (.node (o508 P) (.node (o764 P) .nil .nil) (.node (o1020 P) .nil .nil)))))))) (.node (o6 P) (.node (o10 P) (.node (o18 P) (.node (o34 P) (.node (o66 P) (.node (o130 P) (.node (o258 P) (.node (o514 P) (.node (o1026 P) .nil .nil) .nil) (.node (o770 P) .nil .nil)) (.node (o386 P) (.node (o642 P) .nil .nil) (.node (o898 P) .nil .nil))) (.node (o194 P) (.node (o322 P) (.node (o578 P) (.node (o1090 P) .nil .nil) .nil) (.node (o834 P) .nil .nil)) (.node (o450 P) (.node (o706 P) .nil .nil) (.node (o962 P) .nil .nil)))) (.node (o98 P) (.node (o162 P) (.node (o290 P) (.node (o546 P) (.node (o1058 P) .nil .nil) .nil) (.node (o802 P) .nil .nil)) (.node (o418 P) (.node (o674 P) .nil .nil) (.node (o930 P) .nil .nil))) (.node (o226 P) (.node (o354 P) (.node (o610 P) .nil .nil) (.node (o866 P) .nil .nil)) (.node (o482 P) (.node (o738 P) .nil .nil) (.node (o994 P) .nil .nil))))) (.node (o50 P) (.node (o82 P) (.node (o146 P) (.node (o274 P) (.node (o530 P) (.node (o1042 P) .nil .nil) .nil) (.node (o786 P) .nil .nil)) (.node (o402 P) (.node (o658 P) .nil .nil) (.node (o914 P) .nil .nil))) (.node (o210 P) (.node (o338 P) (.node (o594 P) .nil .nil) (.node (o850 P) .nil .nil)) (.node (o466 P) (.node (o722 P) .nil .nil) (.node (o978 P) .nil .nil)))) (.node (o114 P) (.node (o178 P) (.node (o306 P) (.node (o562 P) (.node (o1074 P) .nil .nil) .nil) (.node (o818 P) .nil .nil)) (.node (o434 P) (.node (o690 P) .nil .nil) (.node (o946 P) .nil .nil))) (.node (o242 P) (.node (o370 P) (.node (o626 P) .nil .nil) (.node (o882 P) .nil .nil)) (.node (o498 P) (.node (o754 P) .nil .nil) (.node (o1010 P) .nil .nil)))))) (.node (o26 P) (.node (o42 P) (.node (o74 P) (.node (o138 P) (.node (o266 P) (.node (o522 P) (.node (o1034 P) .nil .nil) .nil) (.node (o778 P) .nil .nil)) (.node (o394 P) (.node (o650 P) .nil .nil) (.node (o906 P) .nil .nil))) (.node (o202 P) (.node (o330 P) (.node (o586 P) (.node (o1098 P) .nil .nil) .nil) (.node (o842 P) .nil .nil)) (.node (o458 P) (.node (o714 P) .nil .nil) (.node (o970 P) .nil .nil)))) (.node (o106 P) (.node (o170 P) (.node (o298 P) (.node (o554 P) (.node (o1066 P) .nil .nil) .nil) (.node (o810 P) .nil .nil)) (.node (o426 P) (.node (o682 P) .nil .nil) (.node (o938 P) .nil .nil))) (.node (o234 P) (.node (o362 P) (.node (o618 P) .nil .nil) (.node (o874 P) .nil .nil)) (.node (o490 P) (.node (o746 P) .nil .nil) (.node (o1002 P) .nil .nil))))) (.node (o58 P) (.node (o90 P) (.node (o154 P) (.node (o282 P) (.node (o538 P) (.node (o1050 P) .nil .nil) .nil) (.node (o794 P) .nil .nil)) (.node (o410 P) (.node (o666 P) .nil .nil) (.node (o922 P) .nil .nil))) (.node (o218 P) (.node (o346 P) (.node (o602 P) .nil .nil) (.node (o858 P) .nil .nil)) (.node (o474 P) (.node (o730 P) .nil .nil) (.node (o986 P) .nil .nil)))) (.node (o122 P) (.node (o186 P) (.node (o314 P) (.node (o570 P) (.node (o1082 P) .nil .nil) .nil) (.node (o826 P) .nil .nil)) (.node (o442 P) (.node (o698 P) .nil .nil) (.node (o954 P) .nil .nil))) (.node (o250 P) (.node (o378 P) (.node (o634 P) .nil .nil) (.node (o890 P) .nil .nil)) (.node (o506 P) (.node (o762 P) .nil .nil) (.node (o1018 P) .nil .nil))))))) (.node (o14 P) (.node (o22 P) (.node (o38 P) (.node (o70 P) (.node (o134 P) (.node (o262 P) (.node (o518 P) (.node (o1030 P) .nil .nil) .nil) (.node (o774 P) .nil .nil)) (.node (o390 P) (.node (o646 P) .nil .nil) (.node (o902 P) .nil .nil))) (.node (o198 P) (.node (o326 P) (.node (o582 P) (.node (o1094 P) .nil .nil) .nil) (.node (o838 P) .nil .nil)) (.node (o454 P) (.node (o710 P) .nil .nil) (.node (o966 P) .nil .nil)))) (.node (o102 P) (.node (o166 P) (.node (o294 P) (.node (o550 P) (.node (o1062 P) .nil .nil) .nil) (.node (o806 P) .nil .nil)) (.node (o422 P) (.node (o678 P) .nil .nil) (.node (o934 P) .nil .nil))) (.node (o230 P) (.node (o358 P) (.node (o614 P) .nil .nil) (.node (o870 P) .nil .nil)) (.node (o486 P) (.node (o742 P) .nil .nil) (.node (o998 P) .nil .nil))))) (.node (o54 P) (.node (o86 P) (.node (o150 P) (.node (o278 P) (.node (o534 P) (.node (o1046 P) .nil .nil) .nil) (.node (o790 P) .nil .nil)) (.node (o406 P) (.node (o662 P) .nil .nil) (.node (o918 P) .nil .nil))) (.node (o214 P) (.node (o342 P) (.node (o598 P) .nil .nil) (.node (o854 P) .nil .nil)) (.node (o470 P) (.node (o726 P) .nil .nil) (.node (o982 P) .nil .nil)))) (.node (o118 P) (.node (o182 P) (.node (o310 P) (.node (o566 P) (.node (o1078 P) .nil .nil) .nil) (.node (o822 P) .nil .nil)) (.node (o438 P) (.node (o694 P) .nil .nil) (.node (o950 P) .nil .nil))) (.node (o246 P) (.node (o374 P) (.node (o630 P) .nil .nil) (.node (o886 P) .nil .nil)) (.node (o502 P) (.node (o758 P) .nil .nil) (.node (o1014 P) .nil .nil)))))) (.node (o30 P) (.node (o46 P) (.node (o78 P) (.node (o142 P) (.node (o270 P) (.node (o526 P) (.node (o1038 P) .nil .nil) .nil) (.node (o782 P) .nil .nil)) (.node (o398 P) (.node (o654 P) .nil .nil) (.node (o910 P) .nil .nil))) (.node (o206 P) (.node (o334 P) (.node (o590 P) (.node (o1102 P) .nil .nil) .nil) (.node (o846 P) .nil .nil)) (.node (o462 P) (.node (o718 P) .nil .nil) (.node (o974 P) .nil .nil)))) (.node (o110 P) (.node (o174 P) (.node (o302 P) (.node (o558 P) (.node (o1070 P) .nil .nil) .nil) (.node (o814 P) .nil .nil)) (.node (o430 P) (.node (o686 P) .nil .nil) (.node (o942 P) .nil .nil))) (.node (o238 P) (.node (o366 P) (.node (o622 P) .nil .nil) (.node (o878 P) .nil .nil)) (.node (o494 P) (.node (o750 P) .nil .nil) (.node (o1006 P) .nil .nil))))) (.node (o62 P) (.node (o94 P) (.node (o158 P) (.node (o286 P) (.node (o542 P) (.node (o1054 P) .nil .nil) .nil) (.node (o798 P) .nil .nil)) (.node (o414 P) (.node (o670 P) .nil .nil) (.node (o926 P) .nil .nil))) (.node (o222 P) (.node (o350 P) (.node (o606 P) .nil .nil) (.node (o862 P) .nil .nil)) (.node (o478 P) (.node (o734 P) .nil .nil) (.node (o990 P) .nil .nil)))) (.node (o126 P) (.node (o190 P) (.node (o318 P) (.node (o574 P) (.node (o1086 P) .nil .nil) .nil) (.node (o830 P) .nil .nil)) (.node (o446 P) (.node (o702 P) .nil .nil) (.node (o958 P) .nil .nil))) (.node (o254 P) (.node (o382 P) (.node (o638 P) .nil .nil) (.node (o894 P) .nil .nil)) (.node (o510 P) (.node (o766 P) .nil .nil) (.node (o1022 P) .nil .nil))))))))))
noncomputable def prune (n:Nat):BT → Nat → Nat → BT
  | .nil,_,_ => .nil
  | .node v l r,a,b => match Nat.blt b n with
    | true => .node v (prune n l (Nat.mul a (nat_lit 2)) (Nat.add a b)) (prune n r (Nat.mul a (nat_lit 2)) (Nat.add (Nat.mul a (nat_lit 2)) b))
    | false => .nil
noncomputable def life:Life:={}
noncomputable def T0 (P:Params):BT:=BT.set (BT.set (BT.set (prune (nat_lit 15) (TF P) (nat_lit 1) (nat_lit 0)) (nat_lit 2) (fun _ => o2_0 P)) (nat_lit 3) (fun _ => o3_0 P)) (nat_lit 12) (fun _ => o12_0 P)
noncomputable def S0 (w:World) (os:OsState):SharedT:=⟨T0 w.params,nat_lit 15,life,Array.mk [],boot_drawn,nat_lit 187,os⟩
noncomputable def T1 (P:Params):BT:=BT.set (BT.set (prune (nat_lit 129) (TF P) (nat_lit 1) (nat_lit 0)) (nat_lit 3) (fun _ => o3_1 P)) (nat_lit 12) (fun _ => o12_1 P)
noncomputable def S1 (w:World) (os:OsState):SharedT:=⟨T1 w.params,nat_lit 129,life,Array.mk [],boot_drawn,nat_lit 330,os⟩
noncomputable def T2 (P:Params):BT:=BT.set (BT.set (prune (nat_lit 202) (TF P) (nat_lit 1) (nat_lit 0)) (nat_lit 3) (fun _ => o3_2 P)) (nat_lit 12) (fun _ => o12_2 P)
noncomputable def S2 (w:World) (os:OsState):SharedT:=⟨T2 w.params,nat_lit 202,life,Array.mk [],boot_drawn,nat_lit 451,os⟩
noncomputable def T3 (P:Params):BT:=BT.set (BT.set (BT.set (prune (nat_lit 419) (TF P) (nat_lit 1) (nat_lit 0)) (nat_lit 3) (fun _ => o3_3 P)) (nat_lit 12) (fun _ => o12_3 P)) (nat_lit 414) (fun _ => o414_3 P)
noncomputable def S3 (w:World) (os:OsState):SharedT:=⟨T3 w.params,nat_lit 419,life,Array.mk [],boot_drawn,nat_lit 729,os⟩
noncomputable def T4 (P:Params):BT:=BT.set (BT.set (BT.set (prune (nat_lit 529) (TF P) (nat_lit 1) (nat_lit 0)) (nat_lit 3) (fun _ => o3_4 P)) (nat_lit 12) (fun _ => o12_4 P)) (nat_lit 519) (fun _ => o519_4 P)
noncomputable def S4 (w:World) (os:OsState):SharedT:=⟨T4 w.params,nat_lit 529,life,Array.mk [],boot_drawn,nat_lit 869,os⟩
noncomputable def T5 (P:Params):BT:=BT.set (BT.set (BT.set (prune (nat_lit 618) (TF P) (nat_lit 1) (nat_lit 0)) (nat_lit 3) (fun _ => o3_5 P)) (nat_lit 12) (fun _ => o12_5 P)) (nat_lit 615) (fun _ => o615_5 P)
noncomputable def S5 (w:World) (os:OsState):SharedT:=⟨T5 w.params,nat_lit 618,life,Array.mk [],boot_drawn,nat_lit 983,os⟩
noncomputable def T6 (P:Params):BT:=BT.set (BT.set (prune (nat_lit 737) (TF P) (nat_lit 1) (nat_lit 0)) (nat_lit 3) (fun _ => o3_6 P)) (nat_lit 12) (fun _ => o12_6 P)
noncomputable def S6 (w:World) (os:OsState):SharedT:=⟨T6 w.params,nat_lit 737,life,Array.mk [],boot_drawn,nat_lit 1143,os⟩
noncomputable def T7 (P:Params):BT:=BT.set (BT.set (BT.set (prune (nat_lit 864) (TF P) (nat_lit 1) (nat_lit 0)) (nat_lit 3) (fun _ => o3_7 P)) (nat_lit 12) (fun _ => o12_7 P)) (nat_lit 859) (fun _ => o859_7 P)
noncomputable def S7 (w:World) (os:OsState):SharedT:=⟨T7 w.params,nat_lit 864,life,Array.mk [],boot_drawn,nat_lit 1327,os⟩
noncomputable def T8 (P:Params):BT:=BT.set (BT.set (prune (nat_lit 1063) (TF P) (nat_lit 1) (nat_lit 0)) (nat_lit 3) (fun _ => o3_8 P)) (nat_lit 12) (fun _ => o12_8 P)
noncomputable def S8 (w:World) (os:OsState):SharedT:=⟨T8 w.params,nat_lit 1063,life,Array.mk [],boot_drawn,nat_lit 1612,os⟩
noncomputable def T9 (P:Params):BT:=TF P
noncomputable def S9 (w:World) (os:OsState):SharedT:=⟨T9 w.params,nat_lit 1104,life,Array.mk [],boot_drawn,nat_lit 1684,os⟩
noncomputable def LA (P:Params):List Obj:=[o0 P,o1 P,o2_0 P,o3_0 P,o4 P,o5 P,o6 P,o7 P,o8 P,o9 P,o10 P,o11 P,o12_0 P,o13 P,o14 P]
noncomputable def LF (P:Params):List Obj:=[o0 P,o1 P,o2 P,o3 P,o4 P,o5 P,o6 P,o7 P,o8 P,o9 P,o10 P,o11 P,o12 P,o13 P,o14 P,o15 P,o16 P,o17 P,o18 P,o19 P,o20 P,o21 P,o22 P,o23 P,o24 P,o25 P,o26 P,o27 P,o28 P,o29 P,o30 P,o31 P,o32 P,o33 P,o34 P,o35 P,o36 P,o37 P,o38 P,o39 P,o40 P,o41 P,o42 P,o43 P,o44 P,o45 P,o46 P,o47 P,o48 P,o49 P,o50 P,o51 P,o52 P,o53 P,o54 P,o55 P,o56 P,o57 P,o58 P,o59 P,o60 P,o61 P,o62 P,o63 P,o64 P,o65 P,o66 P,o67 P,o68 P,o69 P,o70 P,o71 P,o72 P,o73 P,o74 P,o75 P,o76 P,o77 P,o78 P,o79 P,o80 P,o81 P,o82 P,o83 P,o84 P,o85 P,o86 P,o87 P,o88 P,o89 P,o90 P,o91 P,o92 P,o93 P,o94 P,o95 P,o96 P,o97 P,o98 P,o99 P,o100 P,o101 P,o102 P,o103 P,o104 P,o105 P,o106 P,o107 P,o108 P,o109 P,o110 P,o111 P,o112 P,o113 P,o114 P,o115 P,o116 P,o117 P,o118 P,o119 P,o120 P,o121 P,o122 P,o123 P,o124 P,o125 P,o126 P,o127 P,o128 P,o129 P,o130 P,o131 P,o132 P,o133 P,o134 P,o135 P,o136 P,o137 P,o138 P,o139 P,o140 P,o141 P,o142 P,o143 P,o144 P,o145 P,o146 P,o147 P,o148 P,o149 P,o150 P,o151 P,o152 P,o153 P,o154 P,o155 P,o156 P,o157 P,o158 P,o159 P,o160 P,o161 P,o162 P,o163 P,o164 P,o165 P,o166 P,o167 P,o168 P,o169 P,o170 P,o171 P,o172 P,o173 P,o174 P,o175 P,o176 P,o177 P,o178 P,o179 P,o180 P,o181 P,o182 P,o183 P,o184 P,o185 P,o186 P,o187 P,o188 P,o189 P,o190 P,o191 P,o192 P,o193 P,o194 P,o195 P,o196 P,o197 P,o198 P,o199 P,o200 P,o201 P,o202 P,o203 P,o204 P,o205 P,o206 P,o207 P,o208 P,o209 P,o210 P,o211 P,o212 P,o213 P,o214 P,o215 P,o216 P,o217 P,o218 P,o219 P,o220 P,o221 P,o222 P,o223 P,o224 P,o225 P,o226 P,o227 P,o228 P,o229 P,o230 P,o231 P,o232 P,o233 P,o234 P,o235 P,o236 P,o237 P,o238 P,o239 P,o240 P,o241 P,o242 P,o243 P,o244 P,o245 P,o246 P,o247 P,o248 P,o249 P,o250 P,o251 P,o252 P,o253 P,o254 P,o255 P,o256 P,o257 P,o258 P,o259 P,o260 P,o261 P,o262 P,o263 P,o264 P,o265 P,o266 P,o267 P,o268 P,o269 P,o270 P,o271 P,o272 P,o273 P,o274 P,o275 P,o276 P,o277 P,o278 P,o279 P,o280 P,o281 P,o282 P,o283 P,o284 P,o285 P,o286 P,o287 P,o288 P,o289 P,o290 P,o291 P,o292 P,o293 P,o294 P,o295 P,o296 P,o297 P,o298 P,o299 P,o300 P,o301 P,o302 P,o303 P,o304 P,o305 P,o306 P,o307 P,o308 P,o309 P,o310 P,o311 P,o312 P,o313 P,o314 P,o315 P,o316 P,o317 P,o318 P,o319 P,o320 P,o321 P,o322 P,o323 P,o324 P,o325 P,o326 P,o327 P,o328 P,o329 P,o330 P,o331 P,o332 P,o333 P,o334 P,o335 P,o336 P,o337 P,o338 P,o339 P,o340 P,o341 P,o342 P,o343 P,o344 P,o345 P,o346 P,o347 P,o348 P,o349 P,o350 P,o351 P,o352 P,o353 P,o354 P,o355 P,o356 P,o357 P,o358 P,o359 P,o360 P,o361 P,o362 P,o363 P,o364 P,o365 P,o366 P,o367 P,o368 P,o369 P,o370 P,o371 P,o372 P,o373 P,o374 P,o375 P,o376 P,o377 P,o378 P,o379 P,o380 P,o381 P,o382 P,o383 P,o384 P,o385 P,o386 P,o387 P,o388 P,o389 P,o390 P,o391 P,o392 P,o393 P,o394 P,o395 P,o396 P,o397 P,o398 P,o399 P,o400 P,o401 P,o402 P,o403 P,o404 P,o405 P,o406 P,o407 P,o408 P,o409 P,o410 P,o411 P,o412 P,o413 P,o414 P,o415 P,o416 P,o417 P,o418 P,o419 P,o420 P,o421 P,o422 P,o423 P,o424 P,o425 P,o426 P,o427 P,o428 P,o429 P,o430 P,o431 P,o432 P,o433 P,o434 P,o435 P,o436 P,o437 P,o438 P,o439 P,o440 P,o441 P,o442 P,o443 P,o444 P,o445 P,o446 P,o447 P,o448 P,o449 P,o450 P,o451 P,o452 P,o453 P,o454 P,o455 P,o456 P,o457 P,o458 P,o459 P,o460 P,o461 P,o462 P,o463 P,o464 P,o465 P,o466 P,o467 P,o468 P,o469 P,o470 P,o471 P,o472 P,o473 P,o474 P,o475 P,o476 P,o477 P,o478 P,o479 P,o480 P,o481 P,o482 P,o483 P,o484 P,o485 P,o486 P,o487 P,o488 P,o489 P,o490 P,o491 P,o492 P,o493 P,o494 P,o495 P,o496 P,o497 P,o498 P,o499 P,o500 P,o501 P,o502 P,o503 P,o504 P,o505 P,o506 P,o507 P,o508 P,o509 P,o510 P,o511 P,o512 P,o513 P,o514 P,o515 P,o516 P,o517 P,o518 P,o519 P,o520 P,o521 P,o522 P,o523 P,o524 P,o525 P,o526 P,o527 P,o528 P,o529 P,o530 P,o531 P,o532 P,o533 P,o534 P,o535 P,o536 P,o537 P,o538 P,o539 P,o540 P,o541 P,o542 P,o543 P,o544 P,o545 P,o546 P,o547 P,o548 P,o549 P,o550 P,o551 P,o552 P,o553 P,o554 P,o555 P,o556 P,o557 P,o558 P,o559 P,o560 P,o561 P,o562 P,o563 P,o564 P,o565 P,o566 P,o567 P,o568 P,o569 P,o570 P,o571 P,o572 P,o573 P,o574 P,o575 P,o576 P,o577 P,o578 P,o579 P,o580 P,o581 P,o582 P,o583 P,o584 P,o585 P,o586 P,o587 P,o588 P,o589 P,o590 P,o591 P,o592 P,o593 P,o594 P,o595 P,o596 P,o597 P,o598 P,o599 P,o600 P,o601 P,o602 P,o603 P,o604 P,o605 P,o606 P,o607 P,o608 P,o609 P,o610 P,o611 P,o612 P,o613 P,o614 P,o615 P,o616 P,o617 P,o618 P,o619 P,o620 P,o621 P,o622 P,o623 P,o624 P,o625 P,o626 P,o627 P,o628 P,o629 P,o630 P,o631 P,o632 P,o633 P,o634 P,o635 P,o636 P,o637 P,o638 P,o639 P,o640 P,o641 P,o642 P,o643 P,o644 P,o645 P,o646 P,o647 P,o648 P,o649 P,o650 P,o651 P,o652 P,o653 P,o654 P,o655 P,o656 P,o657 P,o658 P,o659 P,o660 P,o661 P,o662 P,o663 P,o664 P,o665 P,o666 P,o667 P,o668 P,o669 P,o670 P,o671 P,o672 P,o673 P,o674 P,o675 P,o676 P,o677 P,o678 P,o679 P,o680 P,o681 P,o682 P,o683 P,o684 P,o685 P,o686 P,o687 P,o688 P,o689 P,o690 P,o691 P,o692 P,o693 P,o694 P,o695 P,o696 P,o697 P,o698 P,o699 P,o700 P,o701 P,o702 P,o703 P,o704 P,o705 P,o706 P,o707 P,o708 P,o709 P,o710 P,o711 P,o712 P,o713 P,o714 P,o715 P,o716 P,o717 P,o718 P,o719 P,o720 P,o721 P,o722 P,o723 P,o724 P,o725 P,o726 P,o727 P,o728 P,o729 P,o730 P,o731 P,o732 P,o733 P,o734 P,o735 P,o736 P,o737 P,o738 P,o739 P,o740 P,o741 P,o742 P,o743 P,o744 P,o745 P,o746 P,o747 P,o748 P,o749 P,o750 P,o751 P,o752 P,o753 P,o754 P,o755 P,o756 P,o757 P,o758 P,o759 P,o760 P,o761 P,o762 P,o763 P,o764 P,o765 P,o766 P,o767 P,o768 P,o769 P,o770 P,o771 P,o772 P,o773 P,o774 P,o775 P,o776 P,o777 P,o778 P,o779 P,o780 P,o781 P,o782 P,o783 P,o784 P,o785 P,o786 P,o787 P,o788 P,o789 P,o790 P,o791 P,o792 P,o793 P,o794 P,o795 P,o796 P,o797 P,o798 P,o799 P,o800 P,o801 P,o802 P,o803 P,o804 P,o805 P,o806 P,o807 P,o808 P,o809 P,o810 P,o811 P,o812 P,o813 P,o814 P,o815 P,o816 P,o817 P,o818 P,o819 P,o820 P,o821 P,o822 P,o823 P,o824 P,o825 P,o826 P,o827 P,o828 P,o829 P,o830 P,o831 P,o832 P,o833 P,o834 P,o835 P,o836 P,o837 P,o838 P,o839 P,o840 P,o841 P,o842 P,o843 P,o844 P,o845 P,o846 P,o847 P,o848 P,o849 P,o850 P,o851 P,o852 P,o853 P,o854 P,o855 P,o856 P,o857 P,o858 P,o859 P,o860 P,o861 P,o862 P,o863 P,o864 P,o865 P,o866 P,o867 P,o868 P,o869 P,o870 P,o871 P,o872 P,o873 P,o874 P,o875 P,o876 P,o877 P,o878 P,o879 P,o880 P,o881 P,o882 P,o883 P,o884 P,o885 P,o886 P,o887 P,o888 P,o889 P,o890 P,o891 P,o892 P,o893 P,o894 P,o895 P,o896 P,o897 P,o898 P,o899 P,o900 P,o901 P,o902 P,o903 P,o904 P,o905 P,o906 P,o907 P,o908 P,o909 P,o910 P,o911 P,o912 P,o913 P,o914 P,o915 P,o916 P,o917 P,o918 P,o919 P,o920 P,o921 P,o922 P,o923 P,o924 P,o925 P,o926 P,o927 P,o928 P,o929 P,o930 P,o931 P,o932 P,o933 P,o934 P,o935 P,o936 P,o937 P,o938 P,o939 P,o940 P,o941 P,o942 P,o943 P,o944 P,o945 P,o946 P,o947 P,o948 P,o949 P,o950 P,o951 P,o952 P,o953 P,o954 P,o955 P,o956 P,o957 P,o958 P,o959 P,o960 P,o961 P,o962 P,o963 P,o964 P,o965 P,o966 P,o967 P,o968 P,o969 P,o970 P,o971 P,o972 P,o973 P,o974 P,o975 P,o976 P,o977 P,o978 P,o979 P,o980 P,o981 P,o982 P,o983 P,o984 P,o985 P,o986 P,o987 P,o988 P,o989 P,o990 P,o991 P,o992 P,o993 P,o994 P,o995 P,o996 P,o997 P,o998 P,o999 P,o1000 P,o1001 P,o1002 P,o1003 P,o1004 P,o1005 P,o1006 P,o1007 P,o1008 P,o1009 P,o1010 P,o1011 P,o1012 P,o1013 P,o1014 P,o1015 P,o1016 P,o1017 P,o1018 P,o1019 P,o1020 P,o1021 P,o1022 P,o1023 P,o1024 P,o1025 P,o1026 P,o1027 P,o1028 P,o1029 P,o1030 P,o1031 P,o1032 P,o1033 P,o1034 P,o1035 P,o1036 P,o1037 P,o1038 P,o1039 P,o1040 P,o1041 P,o1042 P,o1043 P,o1044 P,o1045 P,o1046 P,o1047 P,o1048 P,o1049 P,o1050 P,o1051 P,o1052 P,o1053 P,o1054 P,o1055 P,o1056 P,o1057 P,o1058 P,o1059 P,o1060 P,o1061 P,o1062 P,o1063 P,o1064 P,o1065 P,o1066 P,o1067 P,o1068 P,o1069 P,o1070 P,o1071 P,o1072 P,o1073 P,o1074 P,o1075 P,o1076 P,o1077 P,o1078 P,o1079 P,o1080 P,o1081 P,o1082 P,o1083 P,o1084 P,o1085 P,o1086 P,o1087 P,o1088 P,o1089 P,o1090 P,o1091 P,o1092 P,o1093 P,o1094 P,o1095 P,o1096 P,o1097 P,o1098 P,o1099 P,o1100 P,o1101 P,o1102 P,o1103 P]
noncomputable def HA (P:Params):Heap:=Heap.mk (Array.mk (LA P)) life
noncomputable def HF (P:Params):Heap:=Heap.mk (Array.mk (LF P)) life
noncomputable def bE:List Stmt:=behindTheImports pD
noncomputable def env:Env:={ scope:=pD.main.scope,locals:=mainNs,globals:=mainNs,cells:=[],code:=.ref (nat_lit 13),frame:=some (nat_lit 14) }
noncomputable def cE:Code:=.body bE env
def ann:Option Value:=some (.ref (nat_lit 6))
noncomputable def q0:Pos:=(⟨nat_lit 0,nat_lit 0,nat_lit 0,nat_lit 0⟩:Pos)
noncomputable def q0_:Pos:=(⟨nat_lit 0,nat_lit 0,nat_lit 0,nat_lit 0⟩:Pos)
noncomputable def q1_:Pos:=(⟨nat_lit 38,nat_lit 0,nat_lit 41,nat_lit 42⟩:Pos)
noncomputable def sts1:List Stmt:=(bE.drop 0).take 10
noncomputable def q2_:Pos:=(⟨nat_lit 94,nat_lit 0,nat_lit 94,nat_lit 9⟩:Pos)
noncomputable def sts2:List Stmt:=(bE.drop 10).take 19
noncomputable def q3_:Pos:=(⟨nat_lit 95,nat_lit 0,nat_lit 208,nat_lit 17⟩:Pos)
noncomputable def sts3:List Stmt:=(bE.drop 29).take 1
noncomputable def q4_:Pos:=(⟨nat_lit 273,nat_lit 0,nat_lit 275,nat_lit 66⟩:Pos)
noncomputable def sts4:List Stmt:=(bE.drop 30).take 2
noncomputable def q5_:Pos:=(⟨nat_lit 276,nat_lit 0,nat_lit 325,nat_lit 17⟩:Pos)
noncomputable def sts5:List Stmt:=(bE.drop 32).take 1
noncomputable def q6_:Pos:=(⟨nat_lit 411,nat_lit 0,nat_lit 411,nat_lit 7⟩:Pos)
noncomputable def sts6:List Stmt:=(bE.drop 33).take 3
noncomputable def q7_:Pos:=(⟨nat_lit 412,nat_lit 0,nat_lit 534,nat_lit 17⟩:Pos)
noncomputable def sts7:List Stmt:=(bE.drop 36).take 1
noncomputable def q8_:Pos:=(⟨nat_lit 663,nat_lit 0,nat_lit 666,nat_lit 85⟩:Pos)
noncomputable def sts8:List Stmt:=(bE.drop 37).take 3
noncomputable def q9_:Pos:=(⟨nat_lit 726,nat_lit 0,nat_lit 746,nat_lit 30⟩:Pos)
noncomputable def sts9:List Stmt:=(bE.drop 40).take 7
theorem body_eq:bE = sts1 ++ (sts2 ++ (sts3 ++ (sts4 ++ (sts5 ++ (sts6 ++ (sts7 ++ (sts8 ++ (sts9 ++ ([]:List Stmt))))))))):=by kernel_rfl
theorem pre_t:∀ (w:World) (os:OsState),PySem.W.Fast.tw15667345088766844465 PySem.W.Fast.tw14364793385576792824 pD w (nat_lit 11) ann (nat_lit 12) ⟨boot_heap w.params,Array.mk [],boot_drawn,boot_toks,os⟩ (topStub pD) = some (⟨HA w.params,Array.mk [],boot_drawn,nat_lit 187,os⟩,⟨PySem.W.Fast.tw11892475500146522536 PySem.W.Fast.tw14364793385576792824 cE,cE,q0,[topFrame q0]⟩):=by intro w os; kernel_rfl
theorem block_t:∀ (w:World) (os:OsState),PySem.W.Fast.tw14374325043358763698 PySem.W.Fast.tw14364793385576792824 pD w (nat_lit 11) ann (nat_lit 1) (nat_lit 1) ⟨HA w.params,Array.mk [],boot_drawn,nat_lit 187,os⟩ (blockOf bE env cE q0 [topFrame q0]) = some (Flow.next,(S0 w os).abs,cE,q0_):=by intro w os; kernel_rfl
theorem pc1_t:∀ (w:World) (os:OsState),PySem.W.Fast.tw10110043849684766642 PySem.W.Fast.tw14364793385576792824 pD w (nat_lit 11) ann (nat_lit 1) (nat_lit 1143) (S0 w os) (piecesOf sts1 env cE q0_ [topFrame q0]) = some (Flow.next,S1 w os,cE,q1_):=by intro w os; kernel_rfl
theorem pc2_t:∀ (w:World) (os:OsState),PySem.W.Fast.tw10110043849684766642 PySem.W.Fast.tw14364793385576792824 pD w (nat_lit 11) ann (nat_lit 1) (nat_lit 415) (S1 w os) (piecesOf sts2 env cE q1_ [topFrame q0]) = some (Flow.next,S2 w os,cE,q2_):=by intro w os; kernel_rfl
theorem pc3_t:∀ (w:World) (os:OsState),PySem.W.Fast.tw10110043849684766642 PySem.W.Fast.tw14364793385576792824 pD w (nat_lit 11) ann (nat_lit 1) (nat_lit 1144) (S2 w os) (piecesOf sts3 env cE q2_ [topFrame q0]) = some (Flow.next,S3 w os,cE,q3_):=by intro w os; kernel_rfl
theorem pc4_t:∀ (w:World) (os:OsState),PySem.W.Fast.tw10110043849684766642 PySem.W.Fast.tw14364793385576792824 pD w (nat_lit 11) ann (nat_lit 1) (nat_lit 671) (S3 w os) (piecesOf sts4 env cE q3_ [topFrame q0]) = some (Flow.next,S4 w os,cE,q4_):=by intro w os; kernel_rfl
theorem pc5_t:∀ (w:World) (os:OsState),PySem.W.Fast.tw10110043849684766642 PySem.W.Fast.tw14364793385576792824 pD w (nat_lit 11) ann (nat_lit 1) (nat_lit 589) (S4 w os) (piecesOf sts5 env cE q4_ [topFrame q0]) = some (Flow.next,S5 w os,cE,q5_):=by intro w os; kernel_rfl
theorem pc6_t:∀ (w:World) (os:OsState),PySem.W.Fast.tw10110043849684766642 PySem.W.Fast.tw14364793385576792824 pD w (nat_lit 11) ann (nat_lit 1) (nat_lit 773) (S5 w os) (piecesOf sts6 env cE q5_ [topFrame q0]) = some (Flow.next,S6 w os,cE,q6_):=by intro w os; kernel_rfl
theorem pc7_t:∀ (w:World) (os:OsState),PySem.W.Fast.tw10110043849684766642 PySem.W.Fast.tw14364793385576792824 pD w (nat_lit 11) ann (nat_lit 1) (nat_lit 739) (S6 w os) (piecesOf sts7 env cE q6_ [topFrame q0]) = some (Flow.next,S7 w os,cE,q7_):=by intro w os; kernel_rfl
theorem pc8_t:∀ (w:World) (os:OsState),PySem.W.Fast.tw10110043849684766642 PySem.W.Fast.tw14364793385576792824 pD w (nat_lit 11) ann (nat_lit 1) (nat_lit 1128) (S7 w os) (piecesOf sts8 env cE q7_ [topFrame q0]) = some (Flow.next,S8 w os,cE,q8_):=by intro w os; kernel_rfl
theorem pc9_t:∀ (w:World) (os:OsState),PySem.W.Fast.tw10110043849684766642 PySem.W.Fast.tw14364793385576792824 pD w (nat_lit 11) ann (nat_lit 1) (nat_lit 219) (S8 w os) (piecesOf sts9 env cE q8_ [topFrame q0]) = some (Flow.next,S9 w os,cE,q9_):=by intro w os; kernel_rfl
theorem fin_t:∀ (w:World) (os:OsState),PySem.W.Fast.tw14082659384304107361 PySem.W.Fast.tw14364793385576792824 pD w (nat_lit 11) ann (nat_lit 2) (S9 w os).abs ⟨doneF .next,cE,q9_,[topFrame q0]⟩ = some ⟨HF w.params,Array.mk [],boot_drawn,nat_lit 1684,os⟩:=by intro w os; kernel_rfl
theorem pre_o (w:World) (os:OsState):topGo treeTable pD w (nat_lit 11) ann (nat_lit 12) ⟨boot_heap w.params,Array.mk [],boot_drawn,boot_toks,os⟩ (topStub pD) = some (⟨HA w.params,Array.mk [],boot_drawn,nat_lit 187,os⟩,⟨denote treeTable (.body bE env),cE,q0,[topFrame q0]⟩):=by
  rw [PySem.W.Fast.te15667345088766844465,PySem.W.Fast.te14364793385576792824,PySem.W.Fast.te11892475500146522536]; exact pre_t w os
theorem block_o (w:World) (os:OsState):segRun treeTable pD w (nat_lit 11) ann (nat_lit 1) (nat_lit 1) ⟨HA w.params,Array.mk [],boot_drawn,nat_lit 187,os⟩ (blockOf bE env cE q0 [topFrame q0]) = some (Flow.next,(S0 w os).abs,cE,q0_):=by
  rw [PySem.W.Fast.te14374325043358763698,PySem.W.Fast.te14364793385576792824]; exact block_t w os
theorem fin_o (w:World) (os:OsState):topRun treeTable pD w (nat_lit 11) ann (nat_lit 2) (S9 w os).abs ⟨doneF .next,cE,q9_,[topFrame q0]⟩ = some ⟨HF w.params,Array.mk [],boot_drawn,nat_lit 1684,os⟩:=by
  rw [PySem.W.Fast.te14082659384304107361,PySem.W.Fast.te14364793385576792824]; exact fin_t w os
theorem pc1_o (w:World) (os:OsState):segRun treeTable pD w (nat_lit 11) ann 1 (nat_lit 1143) (S0 w os).abs (piecesOf sts1 env cE q0_ [topFrame q0]) = some (Flow.next,(S1 w os).abs,cE,q1_):=by
  refine segRun_of ?_
  rw [PySem.W.Fast.te10110043849684766642,PySem.W.Fast.te14364793385576792824]; exact pc1_t w os
theorem pc2_o (w:World) (os:OsState):segRun treeTable pD w (nat_lit 11) ann 1 (nat_lit 415) (S1 w os).abs (piecesOf sts2 env cE q1_ [topFrame q0]) = some (Flow.next,(S2 w os).abs,cE,q2_):=by
  refine segRun_of ?_
  rw [PySem.W.Fast.te10110043849684766642,PySem.W.Fast.te14364793385576792824]; exact pc2_t w os
theorem pc3_o (w:World) (os:OsState):segRun treeTable pD w (nat_lit 11) ann 1 (nat_lit 1144) (S2 w os).abs (piecesOf sts3 env cE q2_ [topFrame q0]) = some (Flow.next,(S3 w os).abs,cE,q3_):=by
  refine segRun_of ?_
  rw [PySem.W.Fast.te10110043849684766642,PySem.W.Fast.te14364793385576792824]; exact pc3_t w os
theorem pc4_o (w:World) (os:OsState):segRun treeTable pD w (nat_lit 11) ann 1 (nat_lit 671) (S3 w os).abs (piecesOf sts4 env cE q3_ [topFrame q0]) = some (Flow.next,(S4 w os).abs,cE,q4_):=by
  refine segRun_of ?_
  rw [PySem.W.Fast.te10110043849684766642,PySem.W.Fast.te14364793385576792824]; exact pc4_t w os
theorem pc5_o (w:World) (os:OsState):segRun treeTable pD w (nat_lit 11) ann 1 (nat_lit 589) (S4 w os).abs (piecesOf sts5 env cE q4_ [topFrame q0]) = some (Flow.next,(S5 w os).abs,cE,q5_):=by
  refine segRun_of ?_
  rw [PySem.W.Fast.te10110043849684766642,PySem.W.Fast.te14364793385576792824]; exact pc5_t w os
theorem pc6_o (w:World) (os:OsState):segRun treeTable pD w (nat_lit 11) ann 1 (nat_lit 773) (S5 w os).abs (piecesOf sts6 env cE q5_ [topFrame q0]) = some (Flow.next,(S6 w os).abs,cE,q6_):=by
  refine segRun_of ?_
  rw [PySem.W.Fast.te10110043849684766642,PySem.W.Fast.te14364793385576792824]; exact pc6_t w os
theorem pc7_o (w:World) (os:OsState):segRun treeTable pD w (nat_lit 11) ann 1 (nat_lit 739) (S6 w os).abs (piecesOf sts7 env cE q6_ [topFrame q0]) = some (Flow.next,(S7 w os).abs,cE,q7_):=by
  refine segRun_of ?_
  rw [PySem.W.Fast.te10110043849684766642,PySem.W.Fast.te14364793385576792824]; exact pc7_t w os
theorem pc8_o (w:World) (os:OsState):segRun treeTable pD w (nat_lit 11) ann 1 (nat_lit 1128) (S7 w os).abs (piecesOf sts8 env cE q7_ [topFrame q0]) = some (Flow.next,(S8 w os).abs,cE,q8_):=by
  refine segRun_of ?_
  rw [PySem.W.Fast.te10110043849684766642,PySem.W.Fast.te14364793385576792824]; exact pc8_t w os
theorem pc9_o (w:World) (os:OsState):segRun treeTable pD w (nat_lit 11) ann 1 (nat_lit 219) (S8 w os).abs (piecesOf sts9 env cE q8_ [topFrame q0]) = some (Flow.next,(S9 w os).abs,cE,q9_):=by
  refine segRun_of ?_
  rw [PySem.W.Fast.te10110043849684766642,PySem.W.Fast.te14364793385576792824]; exact pc9_t w os
theorem rest_o (w:World) (os:OsState):topRun treeTable pD w (nat_lit 11) ann ((nat_lit 1143 + (nat_lit 415 + (nat_lit 1144 + (nat_lit 671 + (nat_lit 589 + (nat_lit 773 + (nat_lit 739 + (nat_lit 1128 + (nat_lit 219 + nat_lit 2)))))))))) (S0 w os).abs (restOf bE env cE q0_ [topFrame q0]) = some ⟨HF w.params,Array.mk [],boot_drawn,nat_lit 1684,os⟩:=by
  rw [body_eq]
  exact (piece_app (pc1_o w os) (piece_app (pc2_o w os) (piece_app (pc3_o w os) (piece_app (pc4_o w os) (piece_app (pc5_o w os) (piece_app (pc6_o w os) (piece_app (pc7_o w os) (piece_app (pc8_o w os) (piece_app (pc9_o w os) (piece_nil (fin_o w os)))))))))))
theorem run_o (w:World) (os:OsState):topRun treeTable pD w (nat_lit 11) ann (nat_lit 12 + (nat_lit 1 + (nat_lit 1143 + (nat_lit 415 + (nat_lit 1144 + (nat_lit 671 + (nat_lit 589 + (nat_lit 773 + (nat_lit 739 + (nat_lit 1128 + (nat_lit 219 + nat_lit 2))))))))))) ⟨boot_heap w.params,Array.mk [],boot_drawn,boot_toks,os⟩ (topStub pD) = some ⟨HF w.params,Array.mk [],boot_drawn,nat_lit 1684,os⟩:=
  go_top (pre_o w os) (piece_block (block_o w os) (rest_o w os))
theorem open_o:∀ w:World,(fencedOpening treeTable pD w (nat_lit 13750)).map (fun s => (s.heap,s.gens,s.drawn,s.toks)) = some (boot_heap w.params,Array.mk [],boot_drawn,boot_toks):=
  boot_open (by kernel_rfl) (by kernel_rfl) (by intro s; kernel_rfl)
theorem size_o:∀ w:World,((boot_heap w.params).isNs mainGlobals && (Array.mk ([]:List GenState)).size == 0,(boot_heap w.params).objs.size,(boot_heap w.params).nsMap mainGlobals "__annotations__") = (true,nat_lit 11,ann):=by intro w; kernel_rfl
noncomputable def rD:OpenLaw:={ prog:=pD,name:=s42,about:=[s47,s38],foot:=8,most:=some 63,bound:=none,writes:=false }
theorem rD_eq:PySem.Challenge.rw_rg0226_04 = rD:=by
  unfold PySem.Challenge.rw_rg0226_04 rD
  rw [pD_eq,a42,a47,a38]
theorem wyAnd {a b:Bool} (ha:a = true) (hb:b = true):Bool.and a b = true:=by subst ha; exact hb
theorem wy0:PySem.W.Fast.tw13343964577679436407 pD pD.main.body (zS [118,97,114,115]) = false:=by kernel_rfl
theorem wy1:PySem.W.Fast.tw13343964577679436407 pD pD.main.body (zS [100,105,114]) = false:=by kernel_rfl
theorem wy2:PySem.W.Fast.tw13343964577679436407 pD pD.main.body (zS [108,111,99,97,108,115]) = false:=by kernel_rfl
theorem wyFil {f:Str → Bool} {a b c:Str} (ha:f a = false) (hb:f b = false) (hc:f c = false):R.filterR f [a,b,c] = []:=by
  have h:∀ (x:Str) (l:List Str),f x = false → R.filterR f (x :: l) = R.filterR f l:=fun x l h => by
    show @Bool.rec (fun _ => List Str) (R.filterR f l) (x :: R.filterR f l) (f x) = _
    rw [h]
  rw [h _ _ ha,h _ _ hb,h _ _ hc]; rfl
theorem wy4:PySem.W.Fast.tw8326940854005059898 { strict:=false,foot:=none,bare:=[] } pD.main.body = true:=by kernel_rfl
theorem wy5:(R.allR (PySem.W.Fast.tw5923862056798008813 pD.main.body) (PySem.W.Fast.tw3471404346716756564 (α:=Str) PySem.W.Fast.tw17691160309236699985)) = true:=by kernel_rfl
theorem wy6:PySem.W.Fast.tw8326940854005059898 { strict:=!(R.allR (PySem.W.Fast.tw5923862056798008813 pD.main.body) (PySem.W.Fast.tw3471404346716756564 (α:=Str) PySem.W.Fast.tw17691160309236699985)),foot:=none,bare:=R.filterR (PySem.W.Fast.tw13343964577679436407 pD pD.main.body) [zS [118,97,114,115],zS [100,105,114],zS [108,111,99,97,108,115]] } pD.main.body = true:=by
  rw [wyFil wy0 wy1 wy2,wy5]; exact wy4
theorem wy7:PySem.W.Fast.tw8377067652309620493 pD = true:=by kernel_rfl
theorem wy8:PySem.W.Fast.tw17119622794617984870 pD pD.main.body (fun _ n => PySem.W.Fast.tw17868728402115742887 n) = true:=by kernel_rfl
theorem wy9:PySem.W.Fast.tw12908688711261696721 pD = true:=by
  delta PySem.W.Fast.tw12908688711261696721
  exact wyAnd (wyAnd (wyAnd (wyAnd (wyAnd (by kernel_rfl) (by kernel_rfl)) wy7) (by kernel_rfl)) wy6) wy8
theorem wy10:PySem.W.Fast.tw2436336058641802641 (PySem.W.Fast.tw2368527892694137696 rD) = true:=by
  delta PySem.W.Fast.tw2436336058641802641
  iterate 13 refine wyAnd ?_ (by kernel_rfl)
  exact wy9
theorem wy11:PySem.W.Fast.tw17960256430627541270 (PySem.W.Fast.tw2368527892694137696 rD) = true:=by
  delta PySem.W.Fast.tw17960256430627541270
  exact wyAnd (wyAnd wy10 (by kernel_rfl)) (by kernel_rfl)
theorem said_t:PySem.W.Fast.tw9446332074065402090 rD = true:=by
  delta PySem.W.Fast.tw9446332074065402090
  iterate 18 refine wyAnd ?_ (by kernel_rfl)
  exact wy11
theorem said:PySem.Challenge.rw_rg0226_04.wellSaid = true:=by
  rw [rD_eq,PySem.W.Fast.te9446332074065402090]; exact said_t
noncomputable def vw (p:Program):Program:={ p with main:={ p.main with body:=[p.main.body.getD 46 (.Pass default)] } }
noncomputable def loose:List Str:=[s72,s299,s214,s238,s296,s303,s304,s251,s244,s293,s297,s145,s294,s295,s292,s150,s151,s157,s108,s194,s195,s261,s237,s60,s269,s211,s167,s221,s235,s241,s46,s62,s63,s47,s53,s55,s0,s15,s21,s26,s32]
theorem look1:∀ (w:World) (os:OsState),(staticsOk (PySem.W.Fast.tw5923862056798008813 pD.main.body) (boot_heap w.params) (HF w.params) && namesBound pD (HF w.params) && gensDone ⟨HF w.params,Array.mk [],boot_drawn,nat_lit 1684,os⟩ && laidKept (boot_heap w.params) (HF w.params)) = true:=by intro w os; kernel_rfl
theorem look2:∀ (w:World) (os:OsState),PySem.W.Fast.tw4187177175401517315 (vw pD) loose (PySem.W.Fast.tw5923862056798008813 pD.main.body) (fun s => xlAt (vw pD) [] s && recOk [] s) true ⟨HF w.params,Array.mk [],boot_drawn,nat_lit 1684,os⟩ = openGood (vw pD) loose:=by intro w os; kernel_rfl
noncomputable def stmP (i:Nat):Stmt:=PySem.Challenge.pw_rg0226_04.main.body.getD i (.Pass default)
noncomputable def subP (s:Stmt) (j:Nat):Stmt:=match s with
  | .ClassDef _ _ _ b _ _ _ _ _ _ _ => b.getD j (.Pass default)
  | s => s
noncomputable def k2 (P:Params):Obj:=⟨.none,none,(.dict (Array.mk [⟨(PyData.keyHash P (Str.ofString "type.__subclasses__.Exception.0")),(.str (Str.ofString "type.__subclasses__.Exception.0") 230),(.int (.ofNat 47) 0)⟩,⟨(PyData.keyHash P (Str.ofString "type.__subclasses__.Exception.n")),(.str (Str.ofString "type.__subclasses__.Exception.n") 231),(.int (.ofNat 1) 0)⟩]) 2),Array.mk []⟩
noncomputable def k3 (P:Params):Obj:=⟨(.type "dict"),none,(.dict (Array.mk [⟨(PyData.keyHash P (Str.ofString "__name__")),(.str (Str.ofString "__name__") 165),(.str (Str.ofString "law_rg0226_04") 1600)⟩,⟨(PyData.keyHash P (Str.ofString "__doc__")),(.str (Str.ofString "__doc__") 166),.none⟩,⟨(PyData.keyHash P (Str.ofString "__package__")),(.str (Str.ofString "__package__") 167),.none⟩,⟨(PyData.keyHash P (Str.ofString "__loader__")),(.str (Str.ofString "__loader__") 168),(.builtin "__main__.__loader__#opaque")⟩,⟨(PyData.keyHash P (Str.ofString "__spec__")),(.str (Str.ofString "__spec__") 169),.none⟩,⟨(PyData.keyHash P (Str.ofString "__annotations__")),(.str (Str.ofString "__annotations__") 170),(.ref 6)⟩,⟨(PyData.keyHash P (Str.ofString "__builtins__")),(.str (Str.ofString "__builtins__") 171),(.ref 4)⟩,⟨(PyData.keyHash P (Str.ofString "__file__")),(.str (Str.ofString "__file__") 173),(.str (Str.ofString "/claim/cut.py") 172)⟩,⟨(PyData.keyHash P (Str.ofString "__cached__")),(.str (Str.ofString "__cached__") 174),.none⟩,⟨(PyData.keyHash P (Str.ofString "_wall")),(.str (Str.ofString "_wall") 193),(.ref 21)⟩,⟨(PyData.keyHash P (Str.ofString "SmtError")),(.str (Str.ofString "SmtError") 233),(.ref 47)⟩,⟨(PyData.keyHash P (Str.ofString "SortFault")),(.str (Str.ofString "SortFault") 256),(.ref 67)⟩,⟨(PyData.keyHash P (Str.ofString "LimitFault")),(.str (Str.ofString "LimitFault") 279),(.ref 86)⟩,⟨(PyData.keyHash P (Str.ofString "ModelFault")),(.str (Str.ofString "ModelFault") 302),(.ref 105)⟩,⟨(PyData.keyHash P (Str.ofString "gcd_of")),(.str (Str.ofString "gcd_of") 312),(.ref 114)⟩,⟨(PyData.keyHash P (Str.ofString "ratio")),(.str (Str.ofString "ratio") 321),(.ref 121)⟩,⟨(PyData.keyHash P (Str.ofString "mul")),(.str (Str.ofString "mul") 329),(.ref 128)⟩,⟨(PyData.keyHash P (Str.ofString "is_whole")),(.str (Str.ofString "is_whole") 336),(.ref 135)⟩,⟨(PyData.keyHash P (Str.ofString "mask_of")),(.str (Str.ofString "mask_of") 345),(.ref 142)⟩,⟨(PyData.keyHash P (Str.ofString "signed_of")),(.str (Str.ofString "signed_of") 353),(.ref 149)⟩,⟨(PyData.keyHash P (Str.ofString "one_value")),(.str (Str.ofString "one_value") 362),(.ref 156)⟩,⟨(PyData.keyHash P (Str.ofString "divided_value")),(.str (Str.ofString "divided_value") 371),(.ref 163)⟩,⟨(PyData.keyHash P (Str.ofString "rest_value")),(.str (Str.ofString "rest_value") 379),(.ref 170)⟩,⟨(PyData.keyHash P (Str.ofString "shifted_value")),(.str (Str.ofString "shifted_value") 389),(.ref 177)⟩,⟨(PyData.keyHash P (Str.ofString "two_value")),(.str (Str.ofString "two_value") 399),(.ref 184)⟩,⟨(PyData.keyHash P (Str.ofString "extract_value")),(.str (Str.ofString "extract_value") 408),(.ref 191)⟩,⟨(PyData.keyHash P (Str.ofString "sign_extended")),(.str (Str.ofString "sign_extended") 417),(.ref 198)⟩,⟨(PyData.keyHash P (Str.ofString "BOOL")),(.str (Str.ofString "BOOL") 419),(.int (.ofNat 0) 418)⟩,⟨(PyData.keyHash P (Str.ofString "INT")),(.str (Str.ofString "INT") 421),(.int (.ofNat 1) 420)⟩,⟨(PyData.keyHash P (Str.ofString "REAL")),(.str (Str.ofString "REAL") 423),(.int (.ofNat 2) 422)⟩,⟨(PyData.keyHash P (Str.ofString "WIDEST")),(.str (Str.ofString "WIDEST") 425),(.int (.ofNat 4096) 424)⟩,⟨(PyData.keyHash P (Str.ofString "MOST_BITS")),(.str (Str.ofString "MOST_BITS") 429),(.int (.ofNat 65536) 428)⟩,⟨(PyData.keyHash P (Str.ofString "BV_SAME")),(.str (Str.ofString "BV_SAME") 440),(.ref 199)⟩,⟨(PyData.keyHash P (Str.ofString "BV_ASK")),(.str (Str.ofString "BV_ASK") 445),(.ref 200)⟩,⟨(PyData.keyHash P (Str.ofString "VALUE_OPS")),(.str (Str.ofString "VALUE_OPS") 450),(.ref 201)⟩,⟨(PyData.keyHash P (Str.ofString "Bank")),(.str (Str.ofString "Bank") 728),(.ref 414)⟩,⟨(PyData.keyHash P (Str.ofString "BoolBank")),(.str (Str.ofString "BoolBank") 861),(.ref 519)⟩,⟨(PyData.keyHash P (Str.ofString "want_small")),(.str (Str.ofString "want_small") 868),(.ref 528)⟩,⟨(PyData.keyHash P (Str.ofString "NumberBank")),(.str (Str.ofString "NumberBank") 982),(.ref 615)⟩,⟨(PyData.keyHash P (Str.ofString "TermBank")),(.str (Str.ofString "TermBank") 1138),(.ref 734)⟩,⟨(PyData.keyHash P (Str.ofString "DEEPEST")),(.str (Str.ofString "DEEPEST") 1142),(.int (.ofNat 50) 1141)⟩,⟨(PyData.keyHash P (Str.ofString "BoolRewriter")),(.str (Str.ofString "BoolRewriter") 1326),(.ref 859)⟩,⟨(PyData.keyHash P (Str.ofString "BitsRewriter")),(.str (Str.ofString "BitsRewriter") 1599),(.ref 1053)⟩,⟨(PyData.keyHash P (Str.ofString "_law_ladle")),(.str (Str.ofString "_law_ladle") 1611),(.ref 1062)⟩,⟨(PyData.keyHash P (Str.ofString "_law_term")),(.str (Str.ofString "_law_term") 1626),(.ref 1069)⟩,⟨(PyData.keyHash P (Str.ofString "_law_number")),(.str (Str.ofString "_law_number") 1638),(.ref 1076)⟩,⟨(PyData.keyHash P (Str.ofString "_law_numbers")),(.str (Str.ofString "_law_numbers") 1644),(.ref 1081)⟩,⟨(PyData.keyHash P (Str.ofString "_law_labels")),(.str (Str.ofString "_law_labels") 1650),(.ref 1086)⟩,⟨(PyData.keyHash P (Str.ofString "_law_due")),(.str (Str.ofString "_law_due") 1656),(.ref 1091)⟩,⟨(PyData.keyHash P (Str.ofString "_law_is_cut_right")),(.str (Str.ofString "_law_is_cut_right") 1677),(.ref 1098)⟩,⟨(PyData.keyHash P (Str.ofString "law")),(.str (Str.ofString "law") 1683),(.ref 1103)⟩]) 51),Array.mk []⟩
noncomputable def k199 (P:Params):Obj:=⟨(.type "tuple"),none,(.seq (Array.mk [(.str (Str.ofString "bvand") 430),(.str (Str.ofString "bvor") 431),(.str (Str.ofString "bvxor") 432),(.str (Str.ofString "bvadd") 433),(.str (Str.ofString "bvsub") 434),(.str (Str.ofString "bvmul") 435),(.str (Str.ofString "bvshl") 436),(.str (Str.ofString "bvlshr") 437),(.str (Str.ofString "bvudiv") 438),(.str (Str.ofString "bvurem") 439)]) 0),Array.mk []⟩
noncomputable def k200 (P:Params):Obj:=⟨(.type "tuple"),none,(.seq (Array.mk [(.str (Str.ofString "bvult") 441),(.str (Str.ofString "bvule") 442),(.str (Str.ofString "bvslt") 443),(.str (Str.ofString "bvsle") 444)]) 0),Array.mk []⟩
noncomputable def k201 (P:Params):Obj:=⟨(.type "tuple"),none,(.seq (Array.mk [(.str (Str.ofString "true") 446),(.str (Str.ofString "false") 447),(.str (Str.ofString "num") 448),(.str (Str.ofString "bvnum") 449)]) 0),Array.mk []⟩
noncomputable def k214 (P:Params):Obj:=⟨(.type "code"),none,(.fields (Array.mk [(.str (Str.ofString "__init__") 463),(.str (Str.ofString "Bank.__init__") 464),(.str (Str.ofString "/claim/cut.py") 465),(.int (.ofNat 97) 0),(.int (.ofNat 1) 0),(.int (.ofNat 0) 0),(.int (.ofNat 0) 0),(.int (.ofNat 3) 0),(.ref 209),(.bool true),(.int (.ofNat 181) 0),(.ref 210),.none,(.ref 211),(.ref 212),(.ref 213),(.int (.ofNat 467) 0),(.int (.ofNat 97) 0),(.str (Str.ofString "/claim/cut.py") 468)])),Array.mk []⟩
noncomputable def k215 (P:Params):Obj:=⟨(.type "function"),none,(fo (subP (stmP 29) 0) (Str.ofString "Bank.__init__") 3 [] .none .none .none (.str (Str.ofString "minismt.terms") 337) none (.ref 214) .none 0),Array.mk []⟩
noncomputable def k256 (P:Params):Obj:=⟨(.type "code"),none,(.fields (Array.mk [(.str (Str.ofString "declare_fun") 510),(.str (Str.ofString "Bank.declare_fun") 511),(.str (Str.ofString "/claim/cut.py") 512),(.int (.ofNat 127) 0),(.int (.ofNat 4) 0),(.int (.ofNat 0) 0),(.int (.ofNat 0) 0),(.int (.ofNat 3) 0),(.ref 251),(.bool true),(.int (.ofNat 181) 0),(.ref 252),.none,(.ref 253),(.ref 254),(.ref 255),(.int (.ofNat 517) 0),(.int (.ofNat 127) 0),(.str (Str.ofString "/claim/cut.py") 518)])),Array.mk []⟩
noncomputable def k257 (P:Params):Obj:=⟨(.type "function"),none,(fo (subP (stmP 29) 6) (Str.ofString "Bank.declare_fun") 3 [] .none .none .none (.str (Str.ofString "minismt.terms") 337) none (.ref 256) .none 0),Array.mk []⟩
noncomputable def k270 (P:Params):Obj:=⟨(.type "code"),none,(.fields (Array.mk [(.str (Str.ofString "fresh_const") 530),(.str (Str.ofString "Bank.fresh_const") 531),(.str (Str.ofString "/claim/cut.py") 532),(.int (.ofNat 136) 0),(.int (.ofNat 3) 0),(.int (.ofNat 0) 0),(.int (.ofNat 0) 0),(.int (.ofNat 3) 0),(.ref 265),(.bool true),(.int (.ofNat 181) 0),(.ref 266),.none,(.ref 267),(.ref 268),(.ref 269),(.int (.ofNat 536) 0),(.int (.ofNat 136) 0),(.str (Str.ofString "/claim/cut.py") 537)])),Array.mk []⟩
noncomputable def k271 (P:Params):Obj:=⟨(.type "function"),none,(fo (subP (stmP 29) 8) (Str.ofString "Bank.fresh_const") 3 [] .none .none .none (.str (Str.ofString "minismt.terms") 337) none (.ref 270) .none 0),Array.mk []⟩
noncomputable def k305 (P:Params):Obj:=⟨(.type "code"),none,(.fields (Array.mk [(.str (Str.ofString "op") 570),(.str (Str.ofString "Bank.op") 571),(.str (Str.ofString "/claim/cut.py") 572),(.int (.ofNat 151) 0),(.int (.ofNat 2) 0),(.int (.ofNat 0) 0),(.int (.ofNat 0) 0),(.int (.ofNat 3) 0),(.ref 300),(.bool true),(.int (.ofNat 181) 0),(.ref 301),.none,(.ref 302),(.ref 303),(.ref 304),(.int (.ofNat 575) 0),(.int (.ofNat 151) 0),(.str (Str.ofString "/claim/cut.py") 576)])),Array.mk []⟩
noncomputable def k306 (P:Params):Obj:=⟨(.type "function"),none,(fo (subP (stmP 29) 13) (Str.ofString "Bank.op") 3 [] .none .none .none (.str (Str.ofString "minismt.terms") 337) none (.ref 305) .none 0),Array.mk []⟩
noncomputable def k312 (P:Params):Obj:=⟨(.type "code"),none,(.fields (Array.mk [(.str (Str.ofString "args") 578),(.str (Str.ofString "Bank.args") 579),(.str (Str.ofString "/claim/cut.py") 580),(.int (.ofNat 154) 0),(.int (.ofNat 2) 0),(.int (.ofNat 0) 0),(.int (.ofNat 0) 0),(.int (.ofNat 3) 0),(.ref 307),(.bool true),(.int (.ofNat 181) 0),(.ref 308),.none,(.ref 309),(.ref 310),(.ref 311),(.int (.ofNat 583) 0),(.int (.ofNat 154) 0),(.str (Str.ofString "/claim/cut.py") 584)])),Array.mk []⟩
noncomputable def k313 (P:Params):Obj:=⟨(.type "function"),none,(fo (subP (stmP 29) 14) (Str.ofString "Bank.args") 3 [] .none .none .none (.str (Str.ofString "minismt.terms") 337) none (.ref 312) .none 0),Array.mk []⟩
noncomputable def k319 (P:Params):Obj:=⟨(.type "code"),none,(.fields (Array.mk [(.str (Str.ofString "sort") 586),(.str (Str.ofString "Bank.sort") 587),(.str (Str.ofString "/claim/cut.py") 588),(.int (.ofNat 157) 0),(.int (.ofNat 2) 0),(.int (.ofNat 0) 0),(.int (.ofNat 0) 0),(.int (.ofNat 3) 0),(.ref 314),(.bool true),(.int (.ofNat 181) 0),(.ref 315),.none,(.ref 316),(.ref 317),(.ref 318),(.int (.ofNat 591) 0),(.int (.ofNat 157) 0),(.str (Str.ofString "/claim/cut.py") 592)])),Array.mk []⟩
noncomputable def k320 (P:Params):Obj:=⟨(.type "function"),none,(fo (subP (stmP 29) 15) (Str.ofString "Bank.sort") 3 [] .none .none .none (.str (Str.ofString "minismt.terms") 337) none (.ref 319) .none 0),Array.mk []⟩
noncomputable def k326 (P:Params):Obj:=⟨(.type "code"),none,(.fields (Array.mk [(.str (Str.ofString "data") 594),(.str (Str.ofString "Bank.data") 595),(.str (Str.ofString "/claim/cut.py") 596),(.int (.ofNat 160) 0),(.int (.ofNat 2) 0),(.int (.ofNat 0) 0),(.int (.ofNat 0) 0),(.int (.ofNat 3) 0),(.ref 321),(.bool true),(.int (.ofNat 181) 0),(.ref 322),.none,(.ref 323),(.ref 324),(.ref 325),(.int (.ofNat 599) 0),(.int (.ofNat 160) 0),(.str (Str.ofString "/claim/cut.py") 600)])),Array.mk []⟩
noncomputable def k327 (P:Params):Obj:=⟨(.type "function"),none,(fo (subP (stmP 29) 16) (Str.ofString "Bank.data") 3 [] .none .none .none (.str (Str.ofString "minismt.terms") 337) none (.ref 326) .none 0),Array.mk []⟩
noncomputable def k333 (P:Params):Obj:=⟨(.type "code"),none,(.fields (Array.mk [(.str (Str.ofString "width") 602),(.str (Str.ofString "Bank.width") 603),(.str (Str.ofString "/claim/cut.py") 604),(.int (.ofNat 163) 0),(.int (.ofNat 2) 0),(.int (.ofNat 0) 0),(.int (.ofNat 0) 0),(.int (.ofNat 3) 0),(.ref 328),(.bool true),(.int (.ofNat 181) 0),(.ref 329),.none,(.ref 330),(.ref 331),(.ref 332),(.int (.ofNat 607) 0),(.int (.ofNat 163) 0),(.str (Str.ofString "/claim/cut.py") 608)])),Array.mk []⟩
noncomputable def k334 (P:Params):Obj:=⟨(.type "function"),none,(fo (subP (stmP 29) 17) (Str.ofString "Bank.width") 3 [] .none .none .none (.str (Str.ofString "minismt.terms") 337) none (.ref 333) .none 0),Array.mk []⟩
noncomputable def k340 (P:Params):Obj:=⟨(.type "code"),none,(.fields (Array.mk [(.str (Str.ofString "size") 610),(.str (Str.ofString "Bank.size") 611),(.str (Str.ofString "/claim/cut.py") 612),(.int (.ofNat 166) 0),(.int (.ofNat 1) 0),(.int (.ofNat 0) 0),(.int (.ofNat 0) 0),(.int (.ofNat 3) 0),(.ref 335),(.bool true),(.int (.ofNat 181) 0),(.ref 336),.none,(.ref 337),(.ref 338),(.ref 339),(.int (.ofNat 614) 0),(.int (.ofNat 166) 0),(.str (Str.ofString "/claim/cut.py") 615)])),Array.mk []⟩
noncomputable def k341 (P:Params):Obj:=⟨(.type "function"),none,(fo (subP (stmP 29) 18) (Str.ofString "Bank.size") 3 [] .none .none .none (.str (Str.ofString "minismt.terms") 337) none (.ref 340) .none 0),Array.mk []⟩
noncomputable def k347 (P:Params):Obj:=⟨(.type "code"),none,(.fields (Array.mk [(.str (Str.ofString "make") 617),(.str (Str.ofString "Bank.make") 618),(.str (Str.ofString "/claim/cut.py") 619),(.int (.ofNat 169) 0),(.int (.ofNat 5) 0),(.int (.ofNat 0) 0),(.int (.ofNat 0) 0),(.int (.ofNat 3) 0),(.ref 342),(.bool true),(.int (.ofNat 181) 0),(.ref 343),.none,(.ref 344),(.ref 345),(.ref 346),(.int (.ofNat 627) 0),(.int (.ofNat 169) 0),(.str (Str.ofString "/claim/cut.py") 628)])),Array.mk []⟩
noncomputable def k348 (P:Params):Obj:=⟨(.type "function"),none,(fo (subP (stmP 29) 19) (Str.ofString "Bank.make") 3 [] .none .none .none (.str (Str.ofString "minismt.terms") 337) none (.ref 347) .none 0),Array.mk []⟩
noncomputable def k368 (P:Params):Obj:=⟨(.type "code"),none,(.fields (Array.mk [(.str (Str.ofString "want") 649),(.str (Str.ofString "Bank.want") 650),(.str (Str.ofString "/claim/cut.py") 651),(.int (.ofNat 187) 0),(.int (.ofNat 4) 0),(.int (.ofNat 0) 0),(.int (.ofNat 0) 0),(.int (.ofNat 3) 0),(.ref 363),(.bool true),(.int (.ofNat 181) 0),(.ref 364),.none,(.ref 365),(.ref 366),(.ref 367),(.int (.ofNat 656) 0),(.int (.ofNat 187) 0),(.str (Str.ofString "/claim/cut.py") 657)])),Array.mk []⟩
noncomputable def k369 (P:Params):Obj:=⟨(.type "function"),none,(fo (subP (stmP 29) 22) (Str.ofString "Bank.want") 3 [] .none .none .none (.str (Str.ofString "minismt.terms") 337) none (.ref 368) .none 0),Array.mk []⟩
noncomputable def k382 (P:Params):Obj:=⟨(.type "code"),none,(.fields (Array.mk [(.str (Str.ofString "true_term") 670),(.str (Str.ofString "Bank.true_term") 671),(.str (Str.ofString "/claim/cut.py") 672),(.int (.ofNat 195) 0),(.int (.ofNat 1) 0),(.int (.ofNat 0) 0),(.int (.ofNat 0) 0),(.int (.ofNat 3) 0),(.ref 377),(.bool true),(.int (.ofNat 181) 0),(.ref 378),.none,(.ref 379),(.ref 380),(.ref 381),(.int (.ofNat 674) 0),(.int (.ofNat 195) 0),(.str (Str.ofString "/claim/cut.py") 675)])),Array.mk []⟩
noncomputable def k383 (P:Params):Obj:=⟨(.type "function"),none,(fo (subP (stmP 29) 24) (Str.ofString "Bank.true_term") 3 [] .none .none .none (.str (Str.ofString "minismt.terms") 337) none (.ref 382) .none 0),Array.mk []⟩
noncomputable def k389 (P:Params):Obj:=⟨(.type "code"),none,(.fields (Array.mk [(.str (Str.ofString "false_term") 677),(.str (Str.ofString "Bank.false_term") 678),(.str (Str.ofString "/claim/cut.py") 679),(.int (.ofNat 198) 0),(.int (.ofNat 1) 0),(.int (.ofNat 0) 0),(.int (.ofNat 0) 0),(.int (.ofNat 3) 0),(.ref 384),(.bool true),(.int (.ofNat 181) 0),(.ref 385),.none,(.ref 386),(.ref 387),(.ref 388),(.int (.ofNat 681) 0),(.int (.ofNat 198) 0),(.str (Str.ofString "/claim/cut.py") 682)])),Array.mk []⟩
noncomputable def k390 (P:Params):Obj:=⟨(.type "function"),none,(fo (subP (stmP 29) 25) (Str.ofString "Bank.false_term") 3 [] .none .none .none (.str (Str.ofString "minismt.terms") 337) none (.ref 389) .none 0),Array.mk []⟩
noncomputable def k413 (P:Params):Obj:=⟨(.type "dict"),none,(.dict (Array.mk [⟨(PyData.keyHash P (Str.ofString "__module__")),(.str (Str.ofString "__module__") 458),(.str (Str.ofString "minismt.terms") 337)⟩,⟨(PyData.keyHash P (Str.ofString "__firstlineno__")),(.str (Str.ofString "__firstlineno__") 462),(.int (.ofNat 95) 461)⟩,⟨(PyData.keyHash P (Str.ofString "__init__")),(.str (Str.ofString "__init__") 469),(.ref 215)⟩,⟨(PyData.keyHash P (Str.ofString "sort_name")),(.str (Str.ofString "sort_name") 477),(.ref 222)⟩,⟨(PyData.keyHash P (Str.ofString "declare_sort")),(.str (Str.ofString "declare_sort") 485),(.ref 229)⟩,⟨(PyData.keyHash P (Str.ofString "width_of")),(.str (Str.ofString "width_of") 493),(.ref 236)⟩,⟨(PyData.keyHash P (Str.ofString "is_number_sort")),(.str (Str.ofString "is_number_sort") 501),(.ref 243)⟩,⟨(PyData.keyHash P (Str.ofString "is_free_sort")),(.str (Str.ofString "is_free_sort") 509),(.ref 250)⟩,⟨(PyData.keyHash P (Str.ofString "declare_fun")),(.str (Str.ofString "declare_fun") 519),(.ref 257)⟩,⟨(PyData.keyHash P (Str.ofString "fresh_fun")),(.str (Str.ofString "fresh_fun") 529),(.ref 264)⟩,⟨(PyData.keyHash P (Str.ofString "fresh_const")),(.str (Str.ofString "fresh_const") 538),(.ref 271)⟩,⟨(PyData.keyHash P (Str.ofString "fun_name")),(.str (Str.ofString "fun_name") 546),(.ref 278)⟩,⟨(PyData.keyHash P (Str.ofString "fun_arg_sorts")),(.str (Str.ofString "fun_arg_sorts") 554),(.ref 285)⟩,⟨(PyData.keyHash P (Str.ofString "fun_result")),(.str (Str.ofString "fun_result") 562),(.ref 292)⟩,⟨(PyData.keyHash P (Str.ofString "fun_count")),(.str (Str.ofString "fun_count") 569),(.ref 299)⟩,⟨(PyData.keyHash P (Str.ofString "op")),(.str (Str.ofString "op") 577),(.ref 306)⟩,⟨(PyData.keyHash P (Str.ofString "args")),(.str (Str.ofString "args") 585),(.ref 313)⟩,⟨(PyData.keyHash P (Str.ofString "sort")),(.str (Str.ofString "sort") 593),(.ref 320)⟩,⟨(PyData.keyHash P (Str.ofString "data")),(.str (Str.ofString "data") 601),(.ref 327)⟩,⟨(PyData.keyHash P (Str.ofString "width")),(.str (Str.ofString "width") 609),(.ref 334)⟩,⟨(PyData.keyHash P (Str.ofString "size")),(.str (Str.ofString "size") 616),(.ref 341)⟩,⟨(PyData.keyHash P (Str.ofString "make")),(.str (Str.ofString "make") 629),(.ref 348)⟩,⟨(PyData.keyHash P (Str.ofString "find_made")),(.str (Str.ofString "find_made") 640),(.ref 355)⟩,⟨(PyData.keyHash P (Str.ofString "is_value")),(.str (Str.ofString "is_value") 648),(.ref 362)⟩,⟨(PyData.keyHash P (Str.ofString "want")),(.str (Str.ofString "want") 658),(.ref 369)⟩,⟨(PyData.keyHash P (Str.ofString "want_all")),(.str (Str.ofString "want_all") 669),(.ref 376)⟩,⟨(PyData.keyHash P (Str.ofString "true_term")),(.str (Str.ofString "true_term") 676),(.ref 383)⟩,⟨(PyData.keyHash P (Str.ofString "false_term")),(.str (Str.ofString "false_term") 683),(.ref 390)⟩,⟨(PyData.keyHash P (Str.ofString "bool_term")),(.str (Str.ofString "bool_term") 691),(.ref 397)⟩,⟨(PyData.keyHash P (Str.ofString "parts")),(.str (Str.ofString "parts") 699),(.ref 404)⟩,⟨(PyData.keyHash P (Str.ofString "parts_of_all")),(.str (Str.ofString "parts_of_all") 707),(.ref 411)⟩,⟨(PyData.keyHash P (Str.ofString "__static_attributes__")),(.str (Str.ofString "__static_attributes__") 721),(.ref 412)⟩,⟨(PyData.keyHash P (Str.ofString "__dict__")),(.str (Str.ofString "__dict__") 723),(.ref 415)⟩,⟨(PyData.keyHash P (Str.ofString "__weakref__")),(.str (Str.ofString "__weakref__") 725),(.ref 416)⟩,⟨(PyData.keyHash P (Str.ofString "__doc__")),(.str (Str.ofString "__doc__") 726),.none⟩]) 4),Array.mk []⟩
noncomputable def k414 (P:Params):Obj:=⟨(.type "type"),none,(.cls ⟨(Str.ofString "Bank"),[(.type "object")],[(.ref 414),(.type "object")],413,(Str.ofString "Bank"),true,[],[(.ref 519)],false,none,false⟩),Array.mk [none,none,(some (.str (Str.ofString "Bank") 451)),(some (.str (Str.ofString "Bank") 459)),(some (.builtin "object.__new__")),(some (.bool true))]⟩
noncomputable def k518 (P:Params):Obj:=⟨(.type "dict"),none,(.dict (Array.mk [⟨(PyData.keyHash P (Str.ofString "__module__")),(.str (Str.ofString "__module__") 736),(.str (Str.ofString "minismt.terms") 337)⟩,⟨(PyData.keyHash P (Str.ofString "__firstlineno__")),(.str (Str.ofString "__firstlineno__") 740),(.int (.ofNat 209) 739)⟩,⟨(PyData.keyHash P (Str.ofString "not_of")),(.str (Str.ofString "not_of") 748),(.ref 432)⟩,⟨(PyData.keyHash P (Str.ofString "and_of")),(.str (Str.ofString "and_of") 756),(.ref 439)⟩,⟨(PyData.keyHash P (Str.ofString "or_of")),(.str (Str.ofString "or_of") 764),(.ref 446)⟩,⟨(PyData.keyHash P (Str.ofString "xor_of")),(.str (Str.ofString "xor_of") 773),(.ref 453)⟩,⟨(PyData.keyHash P (Str.ofString "implies_of")),(.str (Str.ofString "implies_of") 782),(.ref 460)⟩,⟨(PyData.keyHash P (Str.ofString "iff")),(.str (Str.ofString "iff") 791),(.ref 467)⟩,⟨(PyData.keyHash P (Str.ofString "eq")),(.str (Str.ofString "eq") 800),(.ref 474)⟩,⟨(PyData.keyHash P (Str.ofString "distinct")),(.str (Str.ofString "distinct") 808),(.ref 481)⟩,⟨(PyData.keyHash P (Str.ofString "ite")),(.str (Str.ofString "ite") 818),(.ref 488)⟩,⟨(PyData.keyHash P (Str.ofString "app")),(.str (Str.ofString "app") 830),(.ref 495)⟩,⟨(PyData.keyHash P (Str.ofString "folded")),(.str (Str.ofString "folded") 839),(.ref 502)⟩,⟨(PyData.keyHash P (Str.ofString "with_args")),(.str (Str.ofString "with_args") 848),(.ref 509)⟩,⟨(PyData.keyHash P (Str.ofString "replaced")),(.str (Str.ofString "replaced") 857),(.ref 516)⟩,⟨(PyData.keyHash P (Str.ofString "__static_attributes__")),(.str (Str.ofString "__static_attributes__") 858),(.ref 517)⟩,⟨(PyData.keyHash P (Str.ofString "__doc__")),(.str (Str.ofString "__doc__") 859),.none⟩]) 2),Array.mk []⟩
noncomputable def k519 (P:Params):Obj:=⟨(.type "type"),none,(.cls ⟨(Str.ofString "BoolBank"),[(.ref 414)],[(.ref 519),(.ref 414),(.type "object")],518,(Str.ofString "BoolBank"),true,[],[(.ref 615)],false,none,false⟩),Array.mk [(some (.ref 419)),none,(some (.str (Str.ofString "BoolBank") 729)),(some (.str (Str.ofString "BoolBank") 737)),(some (.builtin "object.__new__")),(some (.bool true))]⟩
noncomputable def k614 (P:Params):Obj:=⟨(.type "dict"),none,(.dict (Array.mk [⟨(PyData.keyHash P (Str.ofString "__module__")),(.str (Str.ofString "__module__") 876),(.str (Str.ofString "minismt.terms") 337)⟩,⟨(PyData.keyHash P (Str.ofString "__firstlineno__")),(.str (Str.ofString "__firstlineno__") 880),(.int (.ofNat 276) 879)⟩,⟨(PyData.keyHash P (Str.ofString "num")),(.str (Str.ofString "num") 889),(.ref 542)⟩,⟨(PyData.keyHash P (Str.ofString "want_number")),(.str (Str.ofString "want_number") 898),(.ref 549)⟩,⟨(PyData.keyHash P (Str.ofString "plus")),(.str (Str.ofString "plus") 906),(.ref 556)⟩,⟨(PyData.keyHash P (Str.ofString "times_num")),(.str (Str.ofString "times_num") 916),(.ref 563)⟩,⟨(PyData.keyHash P (Str.ofString "times")),(.str (Str.ofString "times") 925),(.ref 570)⟩,⟨(PyData.keyHash P (Str.ofString "over_num")),(.str (Str.ofString "over_num") 934),(.ref 577)⟩,⟨(PyData.keyHash P (Str.ofString "negative")),(.str (Str.ofString "negative") 942),(.ref 584)⟩,⟨(PyData.keyHash P (Str.ofString "minus")),(.str (Str.ofString "minus") 951),(.ref 591)⟩,⟨(PyData.keyHash P (Str.ofString "le")),(.str (Str.ofString "le") 960),(.ref 598)⟩,⟨(PyData.keyHash P (Str.ofString "lt")),(.str (Str.ofString "lt") 969),(.ref 605)⟩,⟨(PyData.keyHash P (Str.ofString "with_args")),(.str (Str.ofString "with_args") 978),(.ref 612)⟩,⟨(PyData.keyHash P (Str.ofString "__static_attributes__")),(.str (Str.ofString "__static_attributes__") 979),(.ref 613)⟩,⟨(PyData.keyHash P (Str.ofString "__doc__")),(.str (Str.ofString "__doc__") 980),.none⟩]) 2),Array.mk []⟩
noncomputable def k615 (P:Params):Obj:=⟨(.type "type"),none,(.cls ⟨(Str.ofString "NumberBank"),[(.ref 519)],[(.ref 615),(.ref 519),(.ref 414),(.type "object")],614,(Str.ofString "NumberBank"),true,[],[(.ref 734)],false,none,false⟩),Array.mk [(some (.ref 529)),none,(some (.str (Str.ofString "NumberBank") 869)),(some (.str (Str.ofString "NumberBank") 877)),(some (.builtin "object.__new__")),(some (.bool true))]⟩
noncomputable def k621 (P:Params):Obj:=⟨(.type "cell"),none,(.cell (some (.ref 734))),Array.mk []⟩
noncomputable def k626 (P:Params):Obj:=⟨(.type "tuple"),none,(.seq (Array.mk [(.ref 621)]) 0),Array.mk []⟩
noncomputable def k632 (P:Params):Obj:=⟨(.type "code"),none,(.fields (Array.mk [(.str (Str.ofString "__init__") 995),(.str (Str.ofString "TermBank.__init__") 996),(.str (Str.ofString "/claim/cut.py") 997),(.int (.ofNat 328) 0),(.int (.ofNat 1) 0),(.int (.ofNat 0) 0),(.int (.ofNat 0) 0),(.int (.ofNat 3) 0),(.ref 627),(.bool true),(.int (.ofNat 181) 0),(.ref 628),.none,(.ref 629),(.ref 630),(.ref 631),(.int (.ofNat 1000) 0),(.int (.ofNat 328) 0),(.str (Str.ofString "/claim/cut.py") 1001)])),Array.mk []⟩
noncomputable def k633 (P:Params):Obj:=⟨(.type "function"),none,(fo (subP (stmP 33) 0) (Str.ofString "TermBank.__init__") 3 [((Str.ofString "__class__"),621)] .none .none .none (.str (Str.ofString "minismt.terms") 337) none (.ref 632) (.ref 626) 0),Array.mk []⟩
noncomputable def k639 (P:Params):Obj:=⟨(.type "code"),none,(.fields (Array.mk [(.str (Str.ofString "bv_sort") 1003),(.str (Str.ofString "TermBank.bv_sort") 1004),(.str (Str.ofString "/claim/cut.py") 1005),(.int (.ofNat 332) 0),(.int (.ofNat 2) 0),(.int (.ofNat 0) 0),(.int (.ofNat 0) 0),(.int (.ofNat 3) 0),(.ref 634),(.bool true),(.int (.ofNat 181) 0),(.ref 635),.none,(.ref 636),(.ref 637),(.ref 638),(.int (.ofNat 1008) 0),(.int (.ofNat 332) 0),(.str (Str.ofString "/claim/cut.py") 1009)])),Array.mk []⟩
noncomputable def k640 (P:Params):Obj:=⟨(.type "function"),none,(fo (subP (stmP 33) 1) (Str.ofString "TermBank.bv_sort") 3 [] .none .none .none (.str (Str.ofString "minismt.terms") 337) none (.ref 639) .none 0),Array.mk []⟩
noncomputable def k653 (P:Params):Obj:=⟨(.type "code"),none,(.fields (Array.mk [(.str (Str.ofString "want_bits") 1019),(.str (Str.ofString "TermBank.want_bits") 1020),(.str (Str.ofString "/claim/cut.py") 1021),(.int (.ofNat 346) 0),(.int (.ofNat 3) 0),(.int (.ofNat 0) 0),(.int (.ofNat 0) 0),(.int (.ofNat 3) 0),(.ref 648),(.bool true),(.int (.ofNat 181) 0),(.ref 649),.none,(.ref 650),(.ref 651),(.ref 652),(.int (.ofNat 1025) 0),(.int (.ofNat 346) 0),(.str (Str.ofString "/claim/cut.py") 1026)])),Array.mk []⟩
noncomputable def k654 (P:Params):Obj:=⟨(.type "function"),none,(fo (subP (stmP 33) 3) (Str.ofString "TermBank.want_bits") 3 [] .none .none .none (.str (Str.ofString "minismt.terms") 337) none (.ref 653) .none 0),Array.mk []⟩
noncomputable def k660 (P:Params):Obj:=⟨(.type "code"),none,(.fields (Array.mk [(.str (Str.ofString "bv_num") 1028),(.str (Str.ofString "TermBank.bv_num") 1029),(.str (Str.ofString "/claim/cut.py") 1030),(.int (.ofNat 350) 0),(.int (.ofNat 3) 0),(.int (.ofNat 0) 0),(.int (.ofNat 0) 0),(.int (.ofNat 3) 0),(.ref 655),(.bool true),(.int (.ofNat 181) 0),(.ref 656),.none,(.ref 657),(.ref 658),(.ref 659),(.int (.ofNat 1035) 0),(.int (.ofNat 350) 0),(.str (Str.ofString "/claim/cut.py") 1036)])),Array.mk []⟩
noncomputable def k661 (P:Params):Obj:=⟨(.type "function"),none,(fo (subP (stmP 33) 4) (Str.ofString "TermBank.bv_num") 3 [] .none .none .none (.str (Str.ofString "minismt.terms") 337) none (.ref 660) .none 0),Array.mk []⟩
noncomputable def k667 (P:Params):Obj:=⟨(.type "code"),none,(.fields (Array.mk [(.str (Str.ofString "bv_one") 1038),(.str (Str.ofString "TermBank.bv_one") 1039),(.str (Str.ofString "/claim/cut.py") 1040),(.int (.ofNat 354) 0),(.int (.ofNat 3) 0),(.int (.ofNat 0) 0),(.int (.ofNat 0) 0),(.int (.ofNat 3) 0),(.ref 662),(.bool true),(.int (.ofNat 181) 0),(.ref 663),.none,(.ref 664),(.ref 665),(.ref 666),(.int (.ofNat 1044) 0),(.int (.ofNat 354) 0),(.str (Str.ofString "/claim/cut.py") 1045)])),Array.mk []⟩
noncomputable def k668 (P:Params):Obj:=⟨(.type "function"),none,(fo (subP (stmP 33) 5) (Str.ofString "TermBank.bv_one") 3 [] .none .none .none (.str (Str.ofString "minismt.terms") 337) none (.ref 667) .none 0),Array.mk []⟩
noncomputable def k674 (P:Params):Obj:=⟨(.type "code"),none,(.fields (Array.mk [(.str (Str.ofString "bv_two") 1047),(.str (Str.ofString "TermBank.bv_two") 1048),(.str (Str.ofString "/claim/cut.py") 1049),(.int (.ofNat 360) 0),(.int (.ofNat 4) 0),(.int (.ofNat 0) 0),(.int (.ofNat 0) 0),(.int (.ofNat 3) 0),(.ref 669),(.bool true),(.int (.ofNat 181) 0),(.ref 670),.none,(.ref 671),(.ref 672),(.ref 673),(.int (.ofNat 1054) 0),(.int (.ofNat 360) 0),(.str (Str.ofString "/claim/cut.py") 1055)])),Array.mk []⟩
noncomputable def k675 (P:Params):Obj:=⟨(.type "function"),none,(fo (subP (stmP 33) 6) (Str.ofString "TermBank.bv_two") 3 [] .none .none .none (.str (Str.ofString "minismt.terms") 337) none (.ref 674) .none 0),Array.mk []⟩
noncomputable def k681 (P:Params):Obj:=⟨(.type "code"),none,(.fields (Array.mk [(.str (Str.ofString "concat") 1057),(.str (Str.ofString "TermBank.concat") 1058),(.str (Str.ofString "/claim/cut.py") 1059),(.int (.ofNat 369) 0),(.int (.ofNat 3) 0),(.int (.ofNat 0) 0),(.int (.ofNat 0) 0),(.int (.ofNat 3) 0),(.ref 676),(.bool true),(.int (.ofNat 181) 0),(.ref 677),.none,(.ref 678),(.ref 679),(.ref 680),(.int (.ofNat 1063) 0),(.int (.ofNat 369) 0),(.str (Str.ofString "/claim/cut.py") 1064)])),Array.mk []⟩
noncomputable def k682 (P:Params):Obj:=⟨(.type "function"),none,(fo (subP (stmP 33) 7) (Str.ofString "TermBank.concat") 3 [] .none .none .none (.str (Str.ofString "minismt.terms") 337) none (.ref 681) .none 0),Array.mk []⟩
noncomputable def k688 (P:Params):Obj:=⟨(.type "code"),none,(.fields (Array.mk [(.str (Str.ofString "extract") 1066),(.str (Str.ofString "TermBank.extract") 1067),(.str (Str.ofString "/claim/cut.py") 1068),(.int (.ofNat 374) 0),(.int (.ofNat 4) 0),(.int (.ofNat 0) 0),(.int (.ofNat 0) 0),(.int (.ofNat 3) 0),(.ref 683),(.bool true),(.int (.ofNat 181) 0),(.ref 684),.none,(.ref 685),(.ref 686),(.ref 687),(.int (.ofNat 1073) 0),(.int (.ofNat 374) 0),(.str (Str.ofString "/claim/cut.py") 1074)])),Array.mk []⟩
noncomputable def k689 (P:Params):Obj:=⟨(.type "function"),none,(fo (subP (stmP 33) 8) (Str.ofString "TermBank.extract") 3 [] .none .none .none (.str (Str.ofString "minismt.terms") 337) none (.ref 688) .none 0),Array.mk []⟩
noncomputable def k695 (P:Params):Obj:=⟨(.type "code"),none,(.fields (Array.mk [(.str (Str.ofString "zero_extend") 1076),(.str (Str.ofString "TermBank.zero_extend") 1077),(.str (Str.ofString "/claim/cut.py") 1078),(.int (.ofNat 380) 0),(.int (.ofNat 3) 0),(.int (.ofNat 0) 0),(.int (.ofNat 0) 0),(.int (.ofNat 3) 0),(.ref 690),(.bool true),(.int (.ofNat 181) 0),(.ref 691),.none,(.ref 692),(.ref 693),(.ref 694),(.int (.ofNat 1082) 0),(.int (.ofNat 380) 0),(.str (Str.ofString "/claim/cut.py") 1083)])),Array.mk []⟩
noncomputable def k696 (P:Params):Obj:=⟨(.type "function"),none,(fo (subP (stmP 33) 9) (Str.ofString "TermBank.zero_extend") 3 [] .none .none .none (.str (Str.ofString "minismt.terms") 337) none (.ref 695) .none 0),Array.mk []⟩
noncomputable def k702 (P:Params):Obj:=⟨(.type "code"),none,(.fields (Array.mk [(.str (Str.ofString "sign_extend") 1085),(.str (Str.ofString "TermBank.sign_extend") 1086),(.str (Str.ofString "/claim/cut.py") 1087),(.int (.ofNat 386) 0),(.int (.ofNat 3) 0),(.int (.ofNat 0) 0),(.int (.ofNat 0) 0),(.int (.ofNat 3) 0),(.ref 697),(.bool true),(.int (.ofNat 181) 0),(.ref 698),.none,(.ref 699),(.ref 700),(.ref 701),(.int (.ofNat 1091) 0),(.int (.ofNat 386) 0),(.str (Str.ofString "/claim/cut.py") 1092)])),Array.mk []⟩
noncomputable def k703 (P:Params):Obj:=⟨(.type "function"),none,(fo (subP (stmP 33) 10) (Str.ofString "TermBank.sign_extend") 3 [] .none .none .none (.str (Str.ofString "minismt.terms") 337) none (.ref 702) .none 0),Array.mk []⟩
noncomputable def k733 (P:Params):Obj:=⟨(.type "dict"),none,(.dict (Array.mk [⟨(PyData.keyHash P (Str.ofString "__module__")),(.str (Str.ofString "__module__") 990),(.str (Str.ofString "minismt.terms") 337)⟩,⟨(PyData.keyHash P (Str.ofString "__firstlineno__")),(.str (Str.ofString "__firstlineno__") 994),(.int (.ofNat 326) 993)⟩,⟨(PyData.keyHash P (Str.ofString "__init__")),(.str (Str.ofString "__init__") 1002),(.ref 633)⟩,⟨(PyData.keyHash P (Str.ofString "bv_sort")),(.str (Str.ofString "bv_sort") 1010),(.ref 640)⟩,⟨(PyData.keyHash P (Str.ofString "find_bv_sort")),(.str (Str.ofString "find_bv_sort") 1018),(.ref 647)⟩,⟨(PyData.keyHash P (Str.ofString "want_bits")),(.str (Str.ofString "want_bits") 1027),(.ref 654)⟩,⟨(PyData.keyHash P (Str.ofString "bv_num")),(.str (Str.ofString "bv_num") 1037),(.ref 661)⟩,⟨(PyData.keyHash P (Str.ofString "bv_one")),(.str (Str.ofString "bv_one") 1046),(.ref 668)⟩,⟨(PyData.keyHash P (Str.ofString "bv_two")),(.str (Str.ofString "bv_two") 1056),(.ref 675)⟩,⟨(PyData.keyHash P (Str.ofString "concat")),(.str (Str.ofString "concat") 1065),(.ref 682)⟩,⟨(PyData.keyHash P (Str.ofString "extract")),(.str (Str.ofString "extract") 1075),(.ref 689)⟩,⟨(PyData.keyHash P (Str.ofString "zero_extend")),(.str (Str.ofString "zero_extend") 1084),(.ref 696)⟩,⟨(PyData.keyHash P (Str.ofString "sign_extend")),(.str (Str.ofString "sign_extend") 1093),(.ref 703)⟩,⟨(PyData.keyHash P (Str.ofString "want_place")),(.str (Str.ofString "want_place") 1103),(.ref 710)⟩,⟨(PyData.keyHash P (Str.ofString "bit")),(.str (Str.ofString "bit") 1112),(.ref 717)⟩,⟨(PyData.keyHash P (Str.ofString "carry")),(.str (Str.ofString "carry") 1122),(.ref 724)⟩,⟨(PyData.keyHash P (Str.ofString "below")),(.str (Str.ofString "below") 1132),(.ref 731)⟩,⟨(PyData.keyHash P (Str.ofString "__static_attributes__")),(.str (Str.ofString "__static_attributes__") 1134),(.ref 732)⟩,⟨(PyData.keyHash P (Str.ofString "__doc__")),(.str (Str.ofString "__doc__") 1136),.none⟩]) 3),Array.mk []⟩
noncomputable def k734 (P:Params):Obj:=⟨(.type "type"),none,(.cls ⟨(Str.ofString "TermBank"),[(.ref 615)],[(.ref 734),(.ref 615),(.ref 519),(.ref 414),(.type "object")],733,(Str.ofString "TermBank"),true,[],[],false,none,false⟩),Array.mk [(some (.ref 618)),none,(some (.str (Str.ofString "TermBank") 983)),(some (.str (Str.ofString "TermBank") 991)),(some (.builtin "object.__new__")),(some (.bool true))]⟩
noncomputable def k749 (P:Params):Obj:=⟨(.type "code"),none,(.fields (Array.mk [(.str (Str.ofString "__init__") 1155),(.str (Str.ofString "BoolRewriter.__init__") 1156),(.str (Str.ofString "/claim/cut.py") 1157),(.int (.ofNat 414) 0),(.int (.ofNat 2) 0),(.int (.ofNat 0) 0),(.int (.ofNat 0) 0),(.int (.ofNat 3) 0),(.ref 744),(.bool true),(.int (.ofNat 181) 0),(.ref 745),.none,(.ref 746),(.ref 747),(.ref 748),(.int (.ofNat 1160) 0),(.int (.ofNat 414) 0),(.str (Str.ofString "/claim/cut.py") 1161)])),Array.mk []⟩
noncomputable def k750 (P:Params):Obj:=⟨(.type "function"),none,(fo (subP (stmP 36) 0) (Str.ofString "BoolRewriter.__init__") 3 [] .none .none .none (.str (Str.ofString "minismt.rewrite") 1139) none (.ref 749) .none 0),Array.mk []⟩
noncomputable def k858 (P:Params):Obj:=⟨(.type "dict"),none,(.dict (Array.mk [⟨(PyData.keyHash P (Str.ofString "__module__")),(.str (Str.ofString "__module__") 1150),(.str (Str.ofString "minismt.rewrite") 1139)⟩,⟨(PyData.keyHash P (Str.ofString "__firstlineno__")),(.str (Str.ofString "__firstlineno__") 1154),(.int (.ofNat 412) 1153)⟩,⟨(PyData.keyHash P (Str.ofString "__init__")),(.str (Str.ofString "__init__") 1162),(.ref 750)⟩,⟨(PyData.keyHash P (Str.ofString "simplify")),(.str (Str.ofString "simplify") 1170),(.ref 757)⟩,⟨(PyData.keyHash P (Str.ofString "made")),(.str (Str.ofString "made") 1179),(.ref 764)⟩,⟨(PyData.keyHash P (Str.ofString "flat")),(.str (Str.ofString "flat") 1193),(.ref 771)⟩,⟨(PyData.keyHash P (Str.ofString "thinned")),(.str (Str.ofString "thinned") 1199),(.ref 776)⟩,⟨(PyData.keyHash P (Str.ofString "joined")),(.str (Str.ofString "joined") 1212),(.ref 783)⟩,⟨(PyData.keyHash P (Str.ofString "negated")),(.str (Str.ofString "negated") 1220),(.ref 790)⟩,⟨(PyData.keyHash P (Str.ofString "parity")),(.str (Str.ofString "parity") 1228),(.ref 797)⟩,⟨(PyData.keyHash P (Str.ofString "same")),(.str (Str.ofString "same") 1239),(.ref 804)⟩,⟨(PyData.keyHash P (Str.ofString "chosen_bool")),(.str (Str.ofString "chosen_bool") 1249),(.ref 811)⟩,⟨(PyData.keyHash P (Str.ofString "chosen")),(.str (Str.ofString "chosen") 1259),(.ref 818)⟩,⟨(PyData.keyHash P (Str.ofString "equal")),(.str (Str.ofString "equal") 1272),(.ref 826)⟩,⟨(PyData.keyHash P (Str.ofString "equal_others")),(.str (Str.ofString "equal_others") 1283),(.ref 834)⟩,⟨(PyData.keyHash P (Str.ofString "equal_chosen")),(.str (Str.ofString "equal_chosen") 1297),(.ref 842)⟩,⟨(PyData.keyHash P (Str.ofString "are_too_many")),(.str (Str.ofString "are_too_many") 1305),(.ref 849)⟩,⟨(PyData.keyHash P (Str.ofString "apart")),(.str (Str.ofString "apart") 1314),(.ref 856)⟩,⟨(PyData.keyHash P (Str.ofString "__static_attributes__")),(.str (Str.ofString "__static_attributes__") 1319),(.ref 857)⟩,⟨(PyData.keyHash P (Str.ofString "__dict__")),(.str (Str.ofString "__dict__") 1321),(.ref 860)⟩,⟨(PyData.keyHash P (Str.ofString "__weakref__")),(.str (Str.ofString "__weakref__") 1323),(.ref 861)⟩,⟨(PyData.keyHash P (Str.ofString "__doc__")),(.str (Str.ofString "__doc__") 1324),.none⟩]) 4),Array.mk []⟩
noncomputable def k859 (P:Params):Obj:=⟨(.type "type"),none,(.cls ⟨(Str.ofString "BoolRewriter"),[(.type "object")],[(.ref 859),(.type "object")],858,(Str.ofString "BoolRewriter"),true,[],[(.ref 1053)],false,none,false⟩),Array.mk [none,none,(some (.str (Str.ofString "BoolRewriter") 1143)),(some (.str (Str.ofString "BoolRewriter") 1151)),(some (.builtin "object.__new__")),(some (.bool true))]⟩
noncomputable def k998 (P:Params):Obj:=⟨(.type "code"),none,(.fields (Array.mk [(.str (Str.ofString "cut_within") 1501),(.str (Str.ofString "BitsRewriter.cut_within") 1502),(.str (Str.ofString "/claim/cut.py") 1503),(.int (.ofNat 590) 0),(.int (.ofNat 4) 0),(.int (.ofNat 0) 0),(.int (.ofNat 0) 0),(.int (.ofNat 3) 0),(.ref 993),(.bool true),(.int (.ofNat 181) 0),(.ref 994),.none,(.ref 995),(.ref 996),(.ref 997),(.int (.ofNat 1511) 0),(.int (.ofNat 590) 0),(.str (Str.ofString "/claim/cut.py") 1512)])),Array.mk []⟩
noncomputable def k999 (P:Params):Obj:=⟨(.type "function"),none,(fo (subP (stmP 37) 17) (Str.ofString "BitsRewriter.cut_within") 3 [] .none .none .none (.str (Str.ofString "minismt.rewrite") 1139) none (.ref 998) .none 0),Array.mk []⟩
noncomputable def k1052 (P:Params):Obj:=⟨(.type "dict"),none,(.dict (Array.mk [⟨(PyData.keyHash P (Str.ofString "__module__")),(.str (Str.ofString "__module__") 1334),(.str (Str.ofString "minismt.rewrite") 1139)⟩,⟨(PyData.keyHash P (Str.ofString "__firstlineno__")),(.str (Str.ofString "__firstlineno__") 1338),(.int (.ofNat 535) 1337)⟩,⟨(PyData.keyHash P (Str.ofString "made")),(.str (Str.ofString "made") 1347),(.ref 878)⟩,⟨(PyData.keyHash P (Str.ofString "equal_others")),(.str (Str.ofString "equal_others") 1359),(.ref 887)⟩,⟨(PyData.keyHash P (Str.ofString "are_too_many")),(.str (Str.ofString "are_too_many") 1367),(.ref 894)⟩,⟨(PyData.keyHash P (Str.ofString "is_bits")),(.str (Str.ofString "is_bits") 1375),(.ref 901)⟩,⟨(PyData.keyHash P (Str.ofString "value_or")),(.str (Str.ofString "value_or") 1384),(.ref 908)⟩,⟨(PyData.keyHash P (Str.ofString "number")),(.str (Str.ofString "number") 1393),(.ref 915)⟩,⟨(PyData.keyHash P (Str.ofString "one_bits")),(.str (Str.ofString "one_bits") 1402),(.ref 922)⟩,⟨(PyData.keyHash P (Str.ofString "two_bits")),(.str (Str.ofString "two_bits") 1412),(.ref 929)⟩,⟨(PyData.keyHash P (Str.ofString "mixed_bits")),(.str (Str.ofString "mixed_bits") 1422),(.ref 936)⟩,⟨(PyData.keyHash P (Str.ofString "is_turned")),(.str (Str.ofString "is_turned") 1432),(.ref 943)⟩,⟨(PyData.keyHash P (Str.ofString "mixed_number")),(.str (Str.ofString "mixed_number") 1442),(.ref 950)⟩,⟨(PyData.keyHash P (Str.ofString "less_bits")),(.str (Str.ofString "less_bits") 1451),(.ref 957)⟩,⟨(PyData.keyHash P (Str.ofString "shifted_bits")),(.str (Str.ofString "shifted_bits") 1461),(.ref 964)⟩,⟨(PyData.keyHash P (Str.ofString "divided_bits")),(.str (Str.ofString "divided_bits") 1471),(.ref 971)⟩,⟨(PyData.keyHash P (Str.ofString "asked_bits")),(.str (Str.ofString "asked_bits") 1481),(.ref 978)⟩,⟨(PyData.keyHash P (Str.ofString "put_together")),(.str (Str.ofString "put_together") 1490),(.ref 985)⟩,⟨(PyData.keyHash P (Str.ofString "cut_out")),(.str (Str.ofString "cut_out") 1500),(.ref 992)⟩,⟨(PyData.keyHash P (Str.ofString "cut_within")),(.str (Str.ofString "cut_within") 1513),(.ref 999)⟩,⟨(PyData.keyHash P (Str.ofString "cut_here")),(.str (Str.ofString "cut_here") 1523),(.ref 1006)⟩,⟨(PyData.keyHash P (Str.ofString "wider")),(.str (Str.ofString "wider") 1532),(.ref 1013)⟩,⟨(PyData.keyHash P (Str.ofString "wider_signed")),(.str (Str.ofString "wider_signed") 1541),(.ref 1020)⟩,⟨(PyData.keyHash P (Str.ofString "equal_bits")),(.str (Str.ofString "equal_bits") 1552),(.ref 1028)⟩,⟨(PyData.keyHash P (Str.ofString "equal_number")),(.str (Str.ofString "equal_number") 1576),(.ref 1036)⟩,⟨(PyData.keyHash P (Str.ofString "bit_of")),(.str (Str.ofString "bit_of") 1585),(.ref 1043)⟩,⟨(PyData.keyHash P (Str.ofString "bit_within")),(.str (Str.ofString "bit_within") 1594),(.ref 1050)⟩,⟨(PyData.keyHash P (Str.ofString "__static_attributes__")),(.str (Str.ofString "__static_attributes__") 1595),(.ref 1051)⟩,⟨(PyData.keyHash P (Str.ofString "__doc__")),(.str (Str.ofString "__doc__") 1597),.none⟩]) 3),Array.mk []⟩
noncomputable def k1053 (P:Params):Obj:=⟨(.type "type"),none,(.cls ⟨(Str.ofString "BitsRewriter"),[(.ref 859)],[(.ref 1053),(.ref 859),(.type "object")],1052,(Str.ofString "BitsRewriter"),true,[],[],false,none,false⟩),Array.mk [(some (.ref 864)),none,(some (.str (Str.ofString "BitsRewriter") 1327)),(some (.str (Str.ofString "BitsRewriter") 1335)),(some (.builtin "object.__new__")),(some (.bool true))]⟩
noncomputable def k1061 (P:Params):Obj:=⟨(.type "code"),none,(.fields (Array.mk [(.str (Str.ofString "_law_ladle") 1602),(.str (Str.ofString "_law_ladle") 1603),(.str (Str.ofString "/claim/cut.py") 1604),(.int (.ofNat 663) 0),(.int (.ofNat 2) 0),(.int (.ofNat 0) 0),(.int (.ofNat 0) 0),(.int (.ofNat 3) 0),(.ref 1056),(.bool true),(.int (.ofNat 181) 0),(.ref 1057),.none,(.ref 1058),(.ref 1059),(.ref 1060),(.int (.ofNat 1609) 0),(.int (.ofNat 663) 0),(.str (Str.ofString "/claim/cut.py") 1610)])),Array.mk []⟩
noncomputable def k1062 (P:Params):Obj:=⟨(.type "function"),none,(fo (stmP 39) (Str.ofString "_law_ladle") 3 [] .none .none .none (.str (Str.ofString "law_rg0226_04") 1600) none (.ref 1061) .none 0),Array.mk []⟩
noncomputable def k1068 (P:Params):Obj:=⟨(.type "code"),none,(.fields (Array.mk [(.str (Str.ofString "_law_term") 1612),(.str (Str.ofString "_law_term") 1613),(.str (Str.ofString "/claim/cut.py") 1614),(.int (.ofNat 667) 0),(.int (.ofNat 3) 0),(.int (.ofNat 0) 0),(.int (.ofNat 0) 0),(.int (.ofNat 3) 0),(.ref 1063),(.bool true),(.int (.ofNat 181) 0),(.ref 1064),.none,(.ref 1065),(.ref 1066),(.ref 1067),(.int (.ofNat 1624) 0),(.int (.ofNat 667) 0),(.str (Str.ofString "/claim/cut.py") 1625)])),Array.mk []⟩
noncomputable def k1069 (P:Params):Obj:=⟨(.type "function"),none,(fo (stmP 40) (Str.ofString "_law_term") 3 [] .none .none .none (.str (Str.ofString "law_rg0226_04") 1600) none (.ref 1068) .none 0),Array.mk []⟩
noncomputable def k1075 (P:Params):Obj:=⟨(.type "code"),none,(.fields (Array.mk [(.str (Str.ofString "_law_number") 1627),(.str (Str.ofString "_law_number") 1628),(.str (Str.ofString "/claim/cut.py") 1629),(.int (.ofNat 679) 0),(.int (.ofNat 3) 0),(.int (.ofNat 0) 0),(.int (.ofNat 0) 0),(.int (.ofNat 3) 0),(.ref 1070),(.bool true),(.int (.ofNat 181) 0),(.ref 1071),.none,(.ref 1072),(.ref 1073),(.ref 1074),(.int (.ofNat 1636) 0),(.int (.ofNat 679) 0),(.str (Str.ofString "/claim/cut.py") 1637)])),Array.mk []⟩
noncomputable def k1076 (P:Params):Obj:=⟨(.type "function"),none,(fo (stmP 41) (Str.ofString "_law_number") 3 [] .none .none .none (.str (Str.ofString "law_rg0226_04") 1600) none (.ref 1075) .none 0),Array.mk []⟩
noncomputable def k1080 (P:Params):Obj:=⟨(.type "code"),none,(.fields (Array.mk [(.str (Str.ofString "_law_numbers") 1639),(.str (Str.ofString "_law_numbers") 1640),(.str (Str.ofString "/claim/cut.py") 1641),(.int (.ofNat 693) 0),(.int (.ofNat 3) 0),(.int (.ofNat 0) 0),(.int (.ofNat 0) 0),(.int (.ofNat 3) 0),(.ref 1077),(.bool true),(.int (.ofNat 181) 0),(.ref 1078),.none,.none,.none,(.ref 1079),(.int (.ofNat 1642) 0),(.int (.ofNat 693) 0),(.str (Str.ofString "/claim/cut.py") 1643)])),Array.mk []⟩
noncomputable def k1081 (P:Params):Obj:=⟨(.type "function"),none,(fo (stmP 42) (Str.ofString "_law_numbers") 3 [] .none .none .none (.str (Str.ofString "law_rg0226_04") 1600) none (.ref 1080) .none 0),Array.mk []⟩
noncomputable def k1085 (P:Params):Obj:=⟨(.type "code"),none,(.fields (Array.mk [(.str (Str.ofString "_law_labels") 1645),(.str (Str.ofString "_law_labels") 1646),(.str (Str.ofString "/claim/cut.py") 1647),(.int (.ofNat 698) 0),(.int (.ofNat 2) 0),(.int (.ofNat 0) 0),(.int (.ofNat 0) 0),(.int (.ofNat 3) 0),(.ref 1082),(.bool true),(.int (.ofNat 181) 0),(.ref 1083),.none,.none,.none,(.ref 1084),(.int (.ofNat 1648) 0),(.int (.ofNat 698) 0),(.str (Str.ofString "/claim/cut.py") 1649)])),Array.mk []⟩
noncomputable def k1086 (P:Params):Obj:=⟨(.type "function"),none,(fo (stmP 43) (Str.ofString "_law_labels") 3 [] .none .none .none (.str (Str.ofString "law_rg0226_04") 1600) none (.ref 1085) .none 0),Array.mk []⟩
noncomputable def k1090 (P:Params):Obj:=⟨(.type "code"),none,(.fields (Array.mk [(.str (Str.ofString "_law_due") 1651),(.str (Str.ofString "_law_due") 1652),(.str (Str.ofString "/claim/cut.py") 1653),(.int (.ofNat 706) 0),(.int (.ofNat 5) 0),(.int (.ofNat 0) 0),(.int (.ofNat 0) 0),(.int (.ofNat 3) 0),(.ref 1087),(.bool true),(.int (.ofNat 181) 0),(.ref 1088),.none,.none,.none,(.ref 1089),(.int (.ofNat 1654) 0),(.int (.ofNat 706) 0),(.str (Str.ofString "/claim/cut.py") 1655)])),Array.mk []⟩
noncomputable def k1091 (P:Params):Obj:=⟨(.type "function"),none,(fo (stmP 44) (Str.ofString "_law_due") 3 [] .none .none .none (.str (Str.ofString "law_rg0226_04") 1600) none (.ref 1090) .none 0),Array.mk []⟩
noncomputable def k1097 (P:Params):Obj:=⟨(.type "code"),none,(.fields (Array.mk [(.str (Str.ofString "_law_is_cut_right") 1657),(.str (Str.ofString "_law_is_cut_right") 1658),(.str (Str.ofString "/claim/cut.py") 1659),(.int (.ofNat 711) 0),(.int (.ofNat 7) 0),(.int (.ofNat 0) 0),(.int (.ofNat 0) 0),(.int (.ofNat 3) 0),(.ref 1092),(.bool true),(.int (.ofNat 181) 0),(.ref 1093),.none,(.ref 1094),(.ref 1095),(.ref 1096),(.int (.ofNat 1675) 0),(.int (.ofNat 711) 0),(.str (Str.ofString "/claim/cut.py") 1676)])),Array.mk []⟩
noncomputable def k1098 (P:Params):Obj:=⟨(.type "function"),none,(fo (stmP 45) (Str.ofString "_law_is_cut_right") 3 [] .none .none .none (.str (Str.ofString "law_rg0226_04") 1600) none (.ref 1097) .none 0),Array.mk []⟩
noncomputable def k1102 (P:Params):Obj:=⟨(.type "code"),none,(.fields (Array.mk [(.str (Str.ofString "law") 1678),(.str (Str.ofString "law") 1679),(.str (Str.ofString "/claim/cut.py") 1680),(.int (.ofNat 726) 0),(.int (.ofNat 1) 0),(.int (.ofNat 0) 0),(.int (.ofNat 0) 0),(.int (.ofNat 3) 0),(.ref 1099),(.bool true),(.int (.ofNat 181) 0),(.ref 1100),.none,.none,.none,(.ref 1101),(.int (.ofNat 1681) 0),(.int (.ofNat 726) 0),(.str (Str.ofString "/claim/cut.py") 1682)])),Array.mk []⟩
noncomputable def k1103 (P:Params):Obj:=⟨(.type "function"),none,(fo (stmP 46) (Str.ofString "law") 3 [] .none .none .none (.str (Str.ofString "law_rg0226_04") 1600) none (.ref 1102) .none 0),Array.mk []⟩
noncomputable def K (P:Params):Frag:=[(2,k2 P),(3,k3 P),(199,k199 P),(200,k200 P),(201,k201 P),(214,k214 P),(215,k215 P),(256,k256 P),(257,k257 P),(270,k270 P),(271,k271 P),(305,k305 P),(306,k306 P),(312,k312 P),(313,k313 P),(319,k319 P),(320,k320 P),(326,k326 P),(327,k327 P),(333,k333 P),(334,k334 P),(340,k340 P),(341,k341 P),(347,k347 P),(348,k348 P),(368,k368 P),(369,k369 P),(382,k382 P),(383,k383 P),(389,k389 P),(390,k390 P),(413,k413 P),(414,k414 P),(518,k518 P),(519,k519 P),(614,k614 P),(615,k615 P),(621,k621 P),(626,k626 P),(632,k632 P),(633,k633 P),(639,k639 P),(640,k640 P),(653,k653 P),(654,k654 P),(660,k660 P),(661,k661 P),(667,k667 P),(668,k668 P),(674,k674 P),(675,k675 P),(681,k681 P),(682,k682 P),(688,k688 P),(689,k689 P),(695,k695 P),(696,k696 P),(702,k702 P),(703,k703 P),(733,k733 P),(734,k734 P),(749,k749 P),(750,k750 P),(858,k858 P),(859,k859 P),(998,k998 P),(999,k999 P),(1052,k1052 P),(1053,k1053 P),(1061,k1061 P),(1062,k1062 P),(1068,k1068 P),(1069,k1069 P),(1075,k1075 P),(1076,k1076 P),(1080,k1080 P),(1081,k1081 P),(1085,k1085 P),(1086,k1086 P),(1090,k1090 P),(1091,k1091 P),(1097,k1097 P),(1098,k1098 P),(1102,k1102 P),(1103,k1103 P)]
noncomputable def Ka:List Addr:=[2,3,199,200,201,214,215,256,257,270,271,305,306,312,313,319,320,326,327,333,334,340,341,347,348,368,369,382,383,389,390,413,414,518,519,614,615,621,626,632,633,639,640,653,654,660,661,667,668,674,675,681,682,688,689,695,696,702,703,733,734,749,750,858,859,998,999,1052,1053,1061,1062,1068,1069,1075,1076,1080,1081,1085,1086,1090,1091,1097,1098,1102,1103]
theorem Ke:∀ P,Ka = (K P).map (·.1):=by intro P; kernel_rfl
theorem look3:∀ (w:World) (os:OsState),Hook.obs (kHook K Ka Ke) ⟨HF w.params,Array.mk [],boot_drawn,nat_lit 1684,os⟩ = Hook.val (kHook K Ka Ke) w:=by intro w os; kernel_rfl
theorem leftD:LeftO pD (vw pD) loose (fun s => xlAt (vw pD) [] s && recOk [] s) (Hook.obs (kHook K Ka Ke)) (Hook.val (kHook K Ka Ke)) (nat_lit 13750) true:=
  LeftO.of_pieces open_o size_o run_o (by decide +kernel) (fun w => by
    funext os
    have e1:=look1 w os
    have e2:=look2 w os
    rw [← PySem.W.Fast.te5923862056798008813] at e1 e2
    rw [← PySem.W.Fast.te4187177175401517315] at e2
    exact Prod.ext e1 (Prod.ext e2 (look3 w os)))
theorem left:LeftO PySem.Challenge.pw_rg0226_04 (vw PySem.Challenge.pw_rg0226_04) loose (fun s => xlAt (vw PySem.Challenge.pw_rg0226_04) [] s && recOk [] s) (Hook.obs (kHook K Ka Ke)) (Hook.val (kHook K Ka Ke)) (nat_lit 13750) true:=by
  rw [pD_eq]; exact leftD
theorem Xa {p0 p1:Prop} {g:Prop} (h:p0 ∧ p1) (k:p0 → p1 → g):g:=by
  obtain ⟨c0,c1⟩:=h
  exact k c0 c1
theorem Xe {A:Type} {p1:A → Prop} {g:Prop} (h:∃ x0,p1 x0) (k:∀ x0,p1 x0 → g):g:=by
  obtain ⟨c0,c1⟩:=h
  exact k c0 c1
theorem Xaa {p0 p1 p2:Prop} {g:Prop} (h:p0 ∧ p1 ∧ p2) (k:p0 → p1 → p2 → g):g:=by
  obtain ⟨c0,c1,c2⟩:=h
  exact k c0 c1 c2
theorem Xae {A:Type} {p0:Prop} {p2:A → Prop} {g:Prop} (h:p0 ∧ ∃ x0,p2 x0) (k:p0 → ∀ x0,p2 x0 → g):g:=by
  obtain ⟨c0,c1,c2⟩:=h
  exact k c0 c1 c2
theorem Xea {A:Type} {p1 p2:A → Prop} {g:Prop} (h:∃ x0,p1 x0 ∧ p2 x0) (k:∀ x0,p1 x0 → p2 x0 → g):g:=by
  obtain ⟨c0,c1,c2⟩:=h
  exact k c0 c1 c2
theorem Xee {A B:Type} {p2:A → B → Prop} {g:Prop} (h:∃ x0,∃ x1,p2 x0 x1) (k:∀ x0,∀ x1,p2 x0 x1 → g):g:=by
  obtain ⟨c0,c1,c2⟩:=h
  exact k c0 c1 c2
theorem Xaaa {p0 p1 p2 p3:Prop} {g:Prop} (h:p0 ∧ p1 ∧ p2 ∧ p3) (k:p0 → p1 → p2 → p3 → g):g:=by
  obtain ⟨c0,c1,c2,c3⟩:=h
  exact k c0 c1 c2 c3
theorem Xeaa {A:Type} {p1 p2 p3:A → Prop} {g:Prop} (h:∃ x0,p1 x0 ∧ p2 x0 ∧ p3 x0) (k:∀ x0,p1 x0 → p2 x0 → p3 x0 → g):g:=by
  obtain ⟨c0,c1,c2,c3⟩:=h
  exact k c0 c1 c2 c3
theorem Xeae {A B:Type} {p1:A → Prop} {p3:A → B → Prop} {g:Prop} (h:∃ x0,p1 x0 ∧ ∃ x1,p3 x0 x1) (k:∀ x0,p1 x0 → ∀ x1,p3 x0 x1 → g):g:=by
  obtain ⟨c0,c1,c2,c3⟩:=h
  exact k c0 c1 c2 c3
theorem Xeea {A B:Type} {p2 p3:A → B → Prop} {g:Prop} (h:∃ x0,∃ x1,p2 x0 x1 ∧ p3 x0 x1) (k:∀ x0,∀ x1,p2 x0 x1 → p3 x0 x1 → g):g:=by
  obtain ⟨c0,c1,c2,c3⟩:=h
  exact k c0 c1 c2 c3
theorem Xeee {A B C:Type} {p3:A → B → C → Prop} {g:Prop} (h:∃ x0,∃ x1,∃ x2,p3 x0 x1 x2) (k:∀ x0,∀ x1,∀ x2,p3 x0 x1 x2 → g):g:=by
  obtain ⟨c0,c1,c2,c3⟩:=h
  exact k c0 c1 c2 c3
theorem Xaaaa {p0 p1 p2 p3 p4:Prop} {g:Prop} (h:p0 ∧ p1 ∧ p2 ∧ p3 ∧ p4) (k:p0 → p1 → p2 → p3 → p4 → g):g:=by
  obtain ⟨c0,c1,c2,c3,c4⟩:=h
  exact k c0 c1 c2 c3 c4
theorem Xaaea {A:Type} {p0 p1:Prop} {p3 p4:A → Prop} {g:Prop} (h:p0 ∧ p1 ∧ ∃ x0,p3 x0 ∧ p4 x0) (k:p0 → p1 → ∀ x0,p3 x0 → p4 x0 → g):g:=by
  obtain ⟨c0,c1,c2,c3,c4⟩:=h
  exact k c0 c1 c2 c3 c4
theorem Xaaee {A B:Type} {p0 p1:Prop} {p4:A → B → Prop} {g:Prop} (h:p0 ∧ p1 ∧ ∃ x0,∃ x1,p4 x0 x1) (k:p0 → p1 → ∀ x0,∀ x1,p4 x0 x1 → g):g:=by
  obtain ⟨c0,c1,c2,c3,c4⟩:=h
  exact k c0 c1 c2 c3 c4
theorem Xaeaa {A:Type} {p0:Prop} {p2 p3 p4:A → Prop} {g:Prop} (h:p0 ∧ ∃ x0,p2 x0 ∧ p3 x0 ∧ p4 x0) (k:p0 → ∀ x0,p2 x0 → p3 x0 → p4 x0 → g):g:=by
  obtain ⟨c0,c1,c2,c3,c4⟩:=h
  exact k c0 c1 c2 c3 c4
theorem Xaeea {A B:Type} {p0:Prop} {p3 p4:A → B → Prop} {g:Prop} (h:p0 ∧ ∃ x0,∃ x1,p3 x0 x1 ∧ p4 x0 x1) (k:p0 → ∀ x0,∀ x1,p3 x0 x1 → p4 x0 x1 → g):g:=by
  obtain ⟨c0,c1,c2,c3,c4⟩:=h
  exact k c0 c1 c2 c3 c4
theorem Xeaaa {A:Type} {p1 p2 p3 p4:A → Prop} {g:Prop} (h:∃ x0,p1 x0 ∧ p2 x0 ∧ p3 x0 ∧ p4 x0) (k:∀ x0,p1 x0 → p2 x0 → p3 x0 → p4 x0 → g):g:=by
  obtain ⟨c0,c1,c2,c3,c4⟩:=h
  exact k c0 c1 c2 c3 c4
theorem Xeaae {A B:Type} {p1 p2:A → Prop} {p4:A → B → Prop} {g:Prop} (h:∃ x0,p1 x0 ∧ p2 x0 ∧ ∃ x1,p4 x0 x1) (k:∀ x0,p1 x0 → p2 x0 → ∀ x1,p4 x0 x1 → g):g:=by
  obtain ⟨c0,c1,c2,c3,c4⟩:=h
  exact k c0 c1 c2 c3 c4
theorem Xeeaa {A B:Type} {p2 p3 p4:A → B → Prop} {g:Prop} (h:∃ x0,∃ x1,p2 x0 x1 ∧ p3 x0 x1 ∧ p4 x0 x1) (k:∀ x0,∀ x1,p2 x0 x1 → p3 x0 x1 → p4 x0 x1 → g):g:=by
  obtain ⟨c0,c1,c2,c3,c4⟩:=h
  exact k c0 c1 c2 c3 c4
theorem Xeeea {A B C:Type} {p3 p4:A → B → C → Prop} {g:Prop} (h:∃ x0,∃ x1,∃ x2,p3 x0 x1 x2 ∧ p4 x0 x1 x2) (k:∀ x0,∀ x1,∀ x2,p3 x0 x1 x2 → p4 x0 x1 x2 → g):g:=by
  obtain ⟨c0,c1,c2,c3,c4⟩:=h
  exact k c0 c1 c2 c3 c4
theorem Xaaaaa {p0 p1 p2 p3 p4 p5:Prop} {g:Prop} (h:p0 ∧ p1 ∧ p2 ∧ p3 ∧ p4 ∧ p5) (k:p0 → p1 → p2 → p3 → p4 → p5 → g):g:=by
  obtain ⟨c0,c1,c2,c3,c4,c5⟩:=h
  exact k c0 c1 c2 c3 c4 c5
theorem Xaaeaa {A:Type} {p0 p1:Prop} {p3 p4 p5:A → Prop} {g:Prop} (h:p0 ∧ p1 ∧ ∃ x0,p3 x0 ∧ p4 x0 ∧ p5 x0) (k:p0 → p1 → ∀ x0,p3 x0 → p4 x0 → p5 x0 → g):g:=by
  obtain ⟨c0,c1,c2,c3,c4,c5⟩:=h
  exact k c0 c1 c2 c3 c4 c5
theorem Xaeeaa {A B:Type} {p0:Prop} {p3 p4 p5:A → B → Prop} {g:Prop} (h:p0 ∧ ∃ x0,∃ x1,p3 x0 x1 ∧ p4 x0 x1 ∧ p5 x0 x1) (k:p0 → ∀ x0,∀ x1,p3 x0 x1 → p4 x0 x1 → p5 x0 x1 → g):g:=by
  obtain ⟨c0,c1,c2,c3,c4,c5⟩:=h
  exact k c0 c1 c2 c3 c4 c5
theorem Xeaaaa {A:Type} {p1 p2 p3 p4 p5:A → Prop} {g:Prop} (h:∃ x0,p1 x0 ∧ p2 x0 ∧ p3 x0 ∧ p4 x0 ∧ p5 x0) (k:∀ x0,p1 x0 → p2 x0 → p3 x0 → p4 x0 → p5 x0 → g):g:=by
  obtain ⟨c0,c1,c2,c3,c4,c5⟩:=h
  exact k c0 c1 c2 c3 c4 c5
theorem Xeaeaa {A B:Type} {p1:A → Prop} {p3 p4 p5:A → B → Prop} {g:Prop} (h:∃ x0,p1 x0 ∧ ∃ x1,p3 x0 x1 ∧ p4 x0 x1 ∧ p5 x0 x1) (k:∀ x0,p1 x0 → ∀ x1,p3 x0 x1 → p4 x0 x1 → p5 x0 x1 → g):g:=by
  obtain ⟨c0,c1,c2,c3,c4,c5⟩:=h
  exact k c0 c1 c2 c3 c4 c5
theorem Xeeaaa {A B:Type} {p2 p3 p4 p5:A → B → Prop} {g:Prop} (h:∃ x0,∃ x1,p2 x0 x1 ∧ p3 x0 x1 ∧ p4 x0 x1 ∧ p5 x0 x1) (k:∀ x0,∀ x1,p2 x0 x1 → p3 x0 x1 → p4 x0 x1 → p5 x0 x1 → g):g:=by
  obtain ⟨c0,c1,c2,c3,c4,c5⟩:=h
  exact k c0 c1 c2 c3 c4 c5
theorem Xeeeaa {A B C:Type} {p3 p4 p5:A → B → C → Prop} {g:Prop} (h:∃ x0,∃ x1,∃ x2,p3 x0 x1 x2 ∧ p4 x0 x1 x2 ∧ p5 x0 x1 x2) (k:∀ x0,∀ x1,∀ x2,p3 x0 x1 x2 → p4 x0 x1 x2 → p5 x0 x1 x2 → g):g:=by
  obtain ⟨c0,c1,c2,c3,c4,c5⟩:=h
  exact k c0 c1 c2 c3 c4 c5
theorem Xaaaaaa {p0 p1 p2 p3 p4 p5 p6:Prop} {g:Prop} (h:p0 ∧ p1 ∧ p2 ∧ p3 ∧ p4 ∧ p5 ∧ p6) (k:p0 → p1 → p2 → p3 → p4 → p5 → p6 → g):g:=by
  obtain ⟨c0,c1,c2,c3,c4,c5,c6⟩:=h
  exact k c0 c1 c2 c3 c4 c5 c6
theorem Xaeeaaa {A B:Type} {p0:Prop} {p3 p4 p5 p6:A → B → Prop} {g:Prop} (h:p0 ∧ ∃ x0,∃ x1,p3 x0 x1 ∧ p4 x0 x1 ∧ p5 x0 x1 ∧ p6 x0 x1) (k:p0 → ∀ x0,∀ x1,p3 x0 x1 → p4 x0 x1 → p5 x0 x1 → p6 x0 x1 → g):g:=by
  obtain ⟨c0,c1,c2,c3,c4,c5,c6⟩:=h
  exact k c0 c1 c2 c3 c4 c5 c6
theorem Xaeeeaa {A B C:Type} {p0:Prop} {p4 p5 p6:A → B → C → Prop} {g:Prop} (h:p0 ∧ ∃ x0,∃ x1,∃ x2,p4 x0 x1 x2 ∧ p5 x0 x1 x2 ∧ p6 x0 x1 x2) (k:p0 → ∀ x0,∀ x1,∀ x2,p4 x0 x1 x2 → p5 x0 x1 x2 → p6 x0 x1 x2 → g):g:=by
  obtain ⟨c0,c1,c2,c3,c4,c5,c6⟩:=h
  exact k c0 c1 c2 c3 c4 c5 c6
theorem Xeeaaaa {A B:Type} {p2 p3 p4 p5 p6:A → B → Prop} {g:Prop} (h:∃ x0,∃ x1,p2 x0 x1 ∧ p3 x0 x1 ∧ p4 x0 x1 ∧ p5 x0 x1 ∧ p6 x0 x1) (k:∀ x0,∀ x1,p2 x0 x1 → p3 x0 x1 → p4 x0 x1 → p5 x0 x1 → p6 x0 x1 → g):g:=by
  obtain ⟨c0,c1,c2,c3,c4,c5,c6⟩:=h
  exact k c0 c1 c2 c3 c4 c5 c6
theorem Xeeeaaa {A B C:Type} {p3 p4 p5 p6:A → B → C → Prop} {g:Prop} (h:∃ x0,∃ x1,∃ x2,p3 x0 x1 x2 ∧ p4 x0 x1 x2 ∧ p5 x0 x1 x2 ∧ p6 x0 x1 x2) (k:∀ x0,∀ x1,∀ x2,p3 x0 x1 x2 → p4 x0 x1 x2 → p5 x0 x1 x2 → p6 x0 x1 x2 → g):g:=by
  obtain ⟨c0,c1,c2,c3,c4,c5,c6⟩:=h
  exact k c0 c1 c2 c3 c4 c5 c6
theorem Xeaeaaae {A B C:Type} {p1:A → Prop} {p3 p4 p5:A → B → Prop} {p7:A → B → C → Prop} {g:Prop} (h:∃ x0,p1 x0 ∧ ∃ x1,p3 x0 x1 ∧ p4 x0 x1 ∧ p5 x0 x1 ∧ ∃ x2,p7 x0 x1 x2) (k:∀ x0,p1 x0 → ∀ x1,p3 x0 x1 → p4 x0 x1 → p5 x0 x1 → ∀ x2,p7 x0 x1 x2 → g):g:=by
  obtain ⟨c0,c1,c2,c3,c4,c5,c6,c7⟩:=h
  exact k c0 c1 c2 c3 c4 c5 c6 c7
theorem Xeeaaaaa {A B:Type} {p2 p3 p4 p5 p6 p7:A → B → Prop} {g:Prop} (h:∃ x0,∃ x1,p2 x0 x1 ∧ p3 x0 x1 ∧ p4 x0 x1 ∧ p5 x0 x1 ∧ p6 x0 x1 ∧ p7 x0 x1) (k:∀ x0,∀ x1,p2 x0 x1 → p3 x0 x1 → p4 x0 x1 → p5 x0 x1 → p6 x0 x1 → p7 x0 x1 → g):g:=by
  obtain ⟨c0,c1,c2,c3,c4,c5,c6,c7⟩:=h
  exact k c0 c1 c2 c3 c4 c5 c6 c7
theorem Xeeeaaaa {A B C:Type} {p3 p4 p5 p6 p7:A → B → C → Prop} {g:Prop} (h:∃ x0,∃ x1,∃ x2,p3 x0 x1 x2 ∧ p4 x0 x1 x2 ∧ p5 x0 x1 x2 ∧ p6 x0 x1 x2 ∧ p7 x0 x1 x2) (k:∀ x0,∀ x1,∀ x2,p3 x0 x1 x2 → p4 x0 x1 x2 → p5 x0 x1 x2 → p6 x0 x1 x2 → p7 x0 x1 x2 → g):g:=by
  obtain ⟨c0,c1,c2,c3,c4,c5,c6,c7⟩:=h
  exact k c0 c1 c2 c3 c4 c5 c6 c7
theorem Xeeeeaaa {A B C D:Type} {p4 p5 p6 p7:A → B → C → D → Prop} {g:Prop} (h:∃ x0,∃ x1,∃ x2,∃ x3,p4 x0 x1 x2 x3 ∧ p5 x0 x1 x2 x3 ∧ p6 x0 x1 x2 x3 ∧ p7 x0 x1 x2 x3) (k:∀ x0,∀ x1,∀ x2,∀ x3,p4 x0 x1 x2 x3 → p5 x0 x1 x2 x3 → p6 x0 x1 x2 x3 → p7 x0 x1 x2 x3 → g):g:=by
  obtain ⟨c0,c1,c2,c3,c4,c5,c6,c7⟩:=h
  exact k c0 c1 c2 c3 c4 c5 c6 c7
theorem Xaeeaaaaa {A B:Type} {p0:Prop} {p3 p4 p5 p6 p7 p8:A → B → Prop} {g:Prop} (h:p0 ∧ ∃ x0,∃ x1,p3 x0 x1 ∧ p4 x0 x1 ∧ p5 x0 x1 ∧ p6 x0 x1 ∧ p7 x0 x1 ∧ p8 x0 x1) (k:p0 → ∀ x0,∀ x1,p3 x0 x1 → p4 x0 x1 → p5 x0 x1 → p6 x0 x1 → p7 x0 x1 → p8 x0 x1 → g):g:=by
  obtain ⟨c0,c1,c2,c3,c4,c5,c6,c7,c8⟩:=h
  exact k c0 c1 c2 c3 c4 c5 c6 c7 c8
theorem Xeeeaaaaa {A B C:Type} {p3 p4 p5 p6 p7 p8:A → B → C → Prop} {g:Prop} (h:∃ x0,∃ x1,∃ x2,p3 x0 x1 x2 ∧ p4 x0 x1 x2 ∧ p5 x0 x1 x2 ∧ p6 x0 x1 x2 ∧ p7 x0 x1 x2 ∧ p8 x0 x1 x2) (k:∀ x0,∀ x1,∀ x2,p3 x0 x1 x2 → p4 x0 x1 x2 → p5 x0 x1 x2 → p6 x0 x1 x2 → p7 x0 x1 x2 → p8 x0 x1 x2 → g):g:=by
  obtain ⟨c0,c1,c2,c3,c4,c5,c6,c7,c8⟩:=h
  exact k c0 c1 c2 c3 c4 c5 c6 c7 c8
theorem Xeeeeaaaa {A B C D:Type} {p4 p5 p6 p7 p8:A → B → C → D → Prop} {g:Prop} (h:∃ x0,∃ x1,∃ x2,∃ x3,p4 x0 x1 x2 x3 ∧ p5 x0 x1 x2 x3 ∧ p6 x0 x1 x2 x3 ∧ p7 x0 x1 x2 x3 ∧ p8 x0 x1 x2 x3) (k:∀ x0,∀ x1,∀ x2,∀ x3,p4 x0 x1 x2 x3 → p5 x0 x1 x2 x3 → p6 x0 x1 x2 x3 → p7 x0 x1 x2 x3 → p8 x0 x1 x2 x3 → g):g:=by
  obtain ⟨c0,c1,c2,c3,c4,c5,c6,c7,c8⟩:=h
  exact k c0 c1 c2 c3 c4 c5 c6 c7 c8
theorem Xaaeeeeaaa {A B C D:Type} {p0 p1:Prop} {p6 p7 p8 p9:A → B → C → D → Prop} {g:Prop} (h:p0 ∧ p1 ∧ ∃ x0,∃ x1,∃ x2,∃ x3,p6 x0 x1 x2 x3 ∧ p7 x0 x1 x2 x3 ∧ p8 x0 x1 x2 x3 ∧ p9 x0 x1 x2 x3) (k:p0 → p1 → ∀ x0,∀ x1,∀ x2,∀ x3,p6 x0 x1 x2 x3 → p7 x0 x1 x2 x3 → p8 x0 x1 x2 x3 → p9 x0 x1 x2 x3 → g):g:=by
  obtain ⟨c0,c1,c2,c3,c4,c5,c6,c7,c8,c9⟩:=h
  exact k c0 c1 c2 c3 c4 c5 c6 c7 c8 c9
theorem Xaeeeeaaaa {A B C D:Type} {p0:Prop} {p5 p6 p7 p8 p9:A → B → C → D → Prop} {g:Prop} (h:p0 ∧ ∃ x0,∃ x1,∃ x2,∃ x3,p5 x0 x1 x2 x3 ∧ p6 x0 x1 x2 x3 ∧ p7 x0 x1 x2 x3 ∧ p8 x0 x1 x2 x3 ∧ p9 x0 x1 x2 x3) (k:p0 → ∀ x0,∀ x1,∀ x2,∀ x3,p5 x0 x1 x2 x3 → p6 x0 x1 x2 x3 → p7 x0 x1 x2 x3 → p8 x0 x1 x2 x3 → p9 x0 x1 x2 x3 → g):g:=by
  obtain ⟨c0,c1,c2,c3,c4,c5,c6,c7,c8,c9⟩:=h
  exact k c0 c1 c2 c3 c4 c5 c6 c7 c8 c9
theorem Xeeaaaaaaa {A B:Type} {p2 p3 p4 p5 p6 p7 p8 p9:A → B → Prop} {g:Prop} (h:∃ x0,∃ x1,p2 x0 x1 ∧ p3 x0 x1 ∧ p4 x0 x1 ∧ p5 x0 x1 ∧ p6 x0 x1 ∧ p7 x0 x1 ∧ p8 x0 x1 ∧ p9 x0 x1) (k:∀ x0,∀ x1,p2 x0 x1 → p3 x0 x1 → p4 x0 x1 → p5 x0 x1 → p6 x0 x1 → p7 x0 x1 → p8 x0 x1 → p9 x0 x1 → g):g:=by
  obtain ⟨c0,c1,c2,c3,c4,c5,c6,c7,c8,c9⟩:=h
  exact k c0 c1 c2 c3 c4 c5 c6 c7 c8 c9
theorem Xeeeaaaaaa {A B C:Type} {p3 p4 p5 p6 p7 p8 p9:A → B → C → Prop} {g:Prop} (h:∃ x0,∃ x1,∃ x2,p3 x0 x1 x2 ∧ p4 x0 x1 x2 ∧ p5 x0 x1 x2 ∧ p6 x0 x1 x2 ∧ p7 x0 x1 x2 ∧ p8 x0 x1 x2 ∧ p9 x0 x1 x2) (k:∀ x0,∀ x1,∀ x2,p3 x0 x1 x2 → p4 x0 x1 x2 → p5 x0 x1 x2 → p6 x0 x1 x2 → p7 x0 x1 x2 → p8 x0 x1 x2 → p9 x0 x1 x2 → g):g:=by
  obtain ⟨c0,c1,c2,c3,c4,c5,c6,c7,c8,c9⟩:=h
  exact k c0 c1 c2 c3 c4 c5 c6 c7 c8 c9
theorem Xeeeeeaaaa {A B C D E:Type} {p5 p6 p7 p8 p9:A → B → C → D → E → Prop} {g:Prop} (h:∃ x0,∃ x1,∃ x2,∃ x3,∃ x4,p5 x0 x1 x2 x3 x4 ∧ p6 x0 x1 x2 x3 x4 ∧ p7 x0 x1 x2 x3 x4 ∧ p8 x0 x1 x2 x3 x4 ∧ p9 x0 x1 x2 x3 x4) (k:∀ x0,∀ x1,∀ x2,∀ x3,∀ x4,p5 x0 x1 x2 x3 x4 → p6 x0 x1 x2 x3 x4 → p7 x0 x1 x2 x3 x4 → p8 x0 x1 x2 x3 x4 → p9 x0 x1 x2 x3 x4 → g):g:=by
  obtain ⟨c0,c1,c2,c3,c4,c5,c6,c7,c8,c9⟩:=h
  exact k c0 c1 c2 c3 c4 c5 c6 c7 c8 c9
theorem Xeeeeeeeaa {A B C D E F G:Type} {p7 p8 p9:A → B → C → D → E → F → G → Prop} {g:Prop} (h:∃ x0,∃ x1,∃ x2,∃ x3,∃ x4,∃ x5,∃ x6,p7 x0 x1 x2 x3 x4 x5 x6 ∧ p8 x0 x1 x2 x3 x4 x5 x6 ∧ p9 x0 x1 x2 x3 x4 x5 x6) (k:∀ x0,∀ x1,∀ x2,∀ x3,∀ x4,∀ x5,∀ x6,p7 x0 x1 x2 x3 x4 x5 x6 → p8 x0 x1 x2 x3 x4 x5 x6 → p9 x0 x1 x2 x3 x4 x5 x6 → g):g:=by
  obtain ⟨c0,c1,c2,c3,c4,c5,c6,c7,c8,c9⟩:=h
  exact k c0 c1 c2 c3 c4 c5 c6 c7 c8 c9
theorem Xaaeeeeaaaa {A B C D:Type} {p0 p1:Prop} {p6 p7 p8 p9 p10:A → B → C → D → Prop} {g:Prop} (h:p0 ∧ p1 ∧ ∃ x0,∃ x1,∃ x2,∃ x3,p6 x0 x1 x2 x3 ∧ p7 x0 x1 x2 x3 ∧ p8 x0 x1 x2 x3 ∧ p9 x0 x1 x2 x3 ∧ p10 x0 x1 x2 x3) (k:p0 → p1 → ∀ x0,∀ x1,∀ x2,∀ x3,p6 x0 x1 x2 x3 → p7 x0 x1 x2 x3 → p8 x0 x1 x2 x3 → p9 x0 x1 x2 x3 → p10 x0 x1 x2 x3 → g):g:=by
  obtain ⟨c0,c1,c2,c3,c4,c5,c6,c7,c8,c9,c10⟩:=h
  exact k c0 c1 c2 c3 c4 c5 c6 c7 c8 c9 c10
theorem Xaeeeaaaaaa {A B C:Type} {p0:Prop} {p4 p5 p6 p7 p8 p9 p10:A → B → C → Prop} {g:Prop} (h:p0 ∧ ∃ x0,∃ x1,∃ x2,p4 x0 x1 x2 ∧ p5 x0 x1 x2 ∧ p6 x0 x1 x2 ∧ p7 x0 x1 x2 ∧ p8 x0 x1 x2 ∧ p9 x0 x1 x2 ∧ p10 x0 x1 x2) (k:p0 → ∀ x0,∀ x1,∀ x2,p4 x0 x1 x2 → p5 x0 x1 x2 → p6 x0 x1 x2 → p7 x0 x1 x2 → p8 x0 x1 x2 → p9 x0 x1 x2 → p10 x0 x1 x2 → g):g:=by
  obtain ⟨c0,c1,c2,c3,c4,c5,c6,c7,c8,c9,c10⟩:=h
  exact k c0 c1 c2 c3 c4 c5 c6 c7 c8 c9 c10
theorem Xeeeeaaaaaa {A B C D:Type} {p4 p5 p6 p7 p8 p9 p10:A → B → C → D → Prop} {g:Prop} (h:∃ x0,∃ x1,∃ x2,∃ x3,p4 x0 x1 x2 x3 ∧ p5 x0 x1 x2 x3 ∧ p6 x0 x1 x2 x3 ∧ p7 x0 x1 x2 x3 ∧ p8 x0 x1 x2 x3 ∧ p9 x0 x1 x2 x3 ∧ p10 x0 x1 x2 x3) (k:∀ x0,∀ x1,∀ x2,∀ x3,p4 x0 x1 x2 x3 → p5 x0 x1 x2 x3 → p6 x0 x1 x2 x3 → p7 x0 x1 x2 x3 → p8 x0 x1 x2 x3 → p9 x0 x1 x2 x3 → p10 x0 x1 x2 x3 → g):g:=by
  obtain ⟨c0,c1,c2,c3,c4,c5,c6,c7,c8,c9,c10⟩:=h
  exact k c0 c1 c2 c3 c4 c5 c6 c7 c8 c9 c10
theorem Xeeeeeaaaaa {A B C D E:Type} {p5 p6 p7 p8 p9 p10:A → B → C → D → E → Prop} {g:Prop} (h:∃ x0,∃ x1,∃ x2,∃ x3,∃ x4,p5 x0 x1 x2 x3 x4 ∧ p6 x0 x1 x2 x3 x4 ∧ p7 x0 x1 x2 x3 x4 ∧ p8 x0 x1 x2 x3 x4 ∧ p9 x0 x1 x2 x3 x4 ∧ p10 x0 x1 x2 x3 x4) (k:∀ x0,∀ x1,∀ x2,∀ x3,∀ x4,p5 x0 x1 x2 x3 x4 → p6 x0 x1 x2 x3 x4 → p7 x0 x1 x2 x3 x4 → p8 x0 x1 x2 x3 x4 → p9 x0 x1 x2 x3 x4 → p10 x0 x1 x2 x3 x4 → g):g:=by
  obtain ⟨c0,c1,c2,c3,c4,c5,c6,c7,c8,c9,c10⟩:=h
  exact k c0 c1 c2 c3 c4 c5 c6 c7 c8 c9 c10
theorem Xeeeeaaaaaaa {A B C D:Type} {p4 p5 p6 p7 p8 p9 p10 p11:A → B → C → D → Prop} {g:Prop} (h:∃ x0,∃ x1,∃ x2,∃ x3,p4 x0 x1 x2 x3 ∧ p5 x0 x1 x2 x3 ∧ p6 x0 x1 x2 x3 ∧ p7 x0 x1 x2 x3 ∧ p8 x0 x1 x2 x3 ∧ p9 x0 x1 x2 x3 ∧ p10 x0 x1 x2 x3 ∧ p11 x0 x1 x2 x3) (k:∀ x0,∀ x1,∀ x2,∀ x3,p4 x0 x1 x2 x3 → p5 x0 x1 x2 x3 → p6 x0 x1 x2 x3 → p7 x0 x1 x2 x3 → p8 x0 x1 x2 x3 → p9 x0 x1 x2 x3 → p10 x0 x1 x2 x3 → p11 x0 x1 x2 x3 → g):g:=by
  obtain ⟨c0,c1,c2,c3,c4,c5,c6,c7,c8,c9,c10,c11⟩:=h
  exact k c0 c1 c2 c3 c4 c5 c6 c7 c8 c9 c10 c11
theorem Xeeeeaaaaaea {A B C D E:Type} {p4 p5 p6 p7 p8:A → B → C → D → Prop} {p10 p11:A → B → C → D → E → Prop} {g:Prop} (h:∃ x0,∃ x1,∃ x2,∃ x3,p4 x0 x1 x2 x3 ∧ p5 x0 x1 x2 x3 ∧ p6 x0 x1 x2 x3 ∧ p7 x0 x1 x2 x3 ∧ p8 x0 x1 x2 x3 ∧ ∃ x4,p10 x0 x1 x2 x3 x4 ∧ p11 x0 x1 x2 x3 x4) (k:∀ x0,∀ x1,∀ x2,∀ x3,p4 x0 x1 x2 x3 → p5 x0 x1 x2 x3 → p6 x0 x1 x2 x3 → p7 x0 x1 x2 x3 → p8 x0 x1 x2 x3 → ∀ x4,p10 x0 x1 x2 x3 x4 → p11 x0 x1 x2 x3 x4 → g):g:=by
  obtain ⟨c0,c1,c2,c3,c4,c5,c6,c7,c8,c9,c10,c11⟩:=h
  exact k c0 c1 c2 c3 c4 c5 c6 c7 c8 c9 c10 c11
theorem Xeeeeeeaaaaa {A B C D E F:Type} {p6 p7 p8 p9 p10 p11:A → B → C → D → E → F → Prop} {g:Prop} (h:∃ x0,∃ x1,∃ x2,∃ x3,∃ x4,∃ x5,p6 x0 x1 x2 x3 x4 x5 ∧ p7 x0 x1 x2 x3 x4 x5 ∧ p8 x0 x1 x2 x3 x4 x5 ∧ p9 x0 x1 x2 x3 x4 x5 ∧ p10 x0 x1 x2 x3 x4 x5 ∧ p11 x0 x1 x2 x3 x4 x5) (k:∀ x0,∀ x1,∀ x2,∀ x3,∀ x4,∀ x5,p6 x0 x1 x2 x3 x4 x5 → p7 x0 x1 x2 x3 x4 x5 → p8 x0 x1 x2 x3 x4 x5 → p9 x0 x1 x2 x3 x4 x5 → p10 x0 x1 x2 x3 x4 x5 → p11 x0 x1 x2 x3 x4 x5 → g):g:=by
  obtain ⟨c0,c1,c2,c3,c4,c5,c6,c7,c8,c9,c10,c11⟩:=h
  exact k c0 c1 c2 c3 c4 c5 c6 c7 c8 c9 c10 c11
theorem Xeeaaaeeaaaaa {A B C D:Type} {p2 p3 p4:A → B → Prop} {p7 p8 p9 p10 p11 p12:A → B → C → D → Prop} {g:Prop} (h:∃ x0,∃ x1,p2 x0 x1 ∧ p3 x0 x1 ∧ p4 x0 x1 ∧ ∃ x2,∃ x3,p7 x0 x1 x2 x3 ∧ p8 x0 x1 x2 x3 ∧ p9 x0 x1 x2 x3 ∧ p10 x0 x1 x2 x3 ∧ p11 x0 x1 x2 x3 ∧ p12 x0 x1 x2 x3) (k:∀ x0,∀ x1,p2 x0 x1 → p3 x0 x1 → p4 x0 x1 → ∀ x2,∀ x3,p7 x0 x1 x2 x3 → p8 x0 x1 x2 x3 → p9 x0 x1 x2 x3 → p10 x0 x1 x2 x3 → p11 x0 x1 x2 x3 → p12 x0 x1 x2 x3 → g):g:=by
  obtain ⟨c0,c1,c2,c3,c4,c5,c6,c7,c8,c9,c10,c11,c12⟩:=h
  exact k c0 c1 c2 c3 c4 c5 c6 c7 c8 c9 c10 c11 c12
theorem Xeeeaaaaaaaaa {A B C:Type} {p3 p4 p5 p6 p7 p8 p9 p10 p11 p12:A → B → C → Prop} {g:Prop} (h:∃ x0,∃ x1,∃ x2,p3 x0 x1 x2 ∧ p4 x0 x1 x2 ∧ p5 x0 x1 x2 ∧ p6 x0 x1 x2 ∧ p7 x0 x1 x2 ∧ p8 x0 x1 x2 ∧ p9 x0 x1 x2 ∧ p10 x0 x1 x2 ∧ p11 x0 x1 x2 ∧ p12 x0 x1 x2) (k:∀ x0,∀ x1,∀ x2,p3 x0 x1 x2 → p4 x0 x1 x2 → p5 x0 x1 x2 → p6 x0 x1 x2 → p7 x0 x1 x2 → p8 x0 x1 x2 → p9 x0 x1 x2 → p10 x0 x1 x2 → p11 x0 x1 x2 → p12 x0 x1 x2 → g):g:=by
  obtain ⟨c0,c1,c2,c3,c4,c5,c6,c7,c8,c9,c10,c11,c12⟩:=h
  exact k c0 c1 c2 c3 c4 c5 c6 c7 c8 c9 c10 c11 c12
theorem Xaeeeeaaaaaaaaa {A B C D:Type} {p0:Prop} {p5 p6 p7 p8 p9 p10 p11 p12 p13 p14:A → B → C → D → Prop} {g:Prop} (h:p0 ∧ ∃ x0,∃ x1,∃ x2,∃ x3,p5 x0 x1 x2 x3 ∧ p6 x0 x1 x2 x3 ∧ p7 x0 x1 x2 x3 ∧ p8 x0 x1 x2 x3 ∧ p9 x0 x1 x2 x3 ∧ p10 x0 x1 x2 x3 ∧ p11 x0 x1 x2 x3 ∧ p12 x0 x1 x2 x3 ∧ p13 x0 x1 x2 x3 ∧ p14 x0 x1 x2 x3) (k:p0 → ∀ x0,∀ x1,∀ x2,∀ x3,p5 x0 x1 x2 x3 → p6 x0 x1 x2 x3 → p7 x0 x1 x2 x3 → p8 x0 x1 x2 x3 → p9 x0 x1 x2 x3 → p10 x0 x1 x2 x3 → p11 x0 x1 x2 x3 → p12 x0 x1 x2 x3 → p13 x0 x1 x2 x3 → p14 x0 x1 x2 x3 → g):g:=by
  obtain ⟨c0,c1,c2,c3,c4,c5,c6,c7,c8,c9,c10,c11,c12,c13,c14⟩:=h
  exact k c0 c1 c2 c3 c4 c5 c6 c7 c8 c9 c10 c11 c12 c13 c14
theorem Xeeeeeeeaaaaaaaa {A B C D E F G:Type} {p7 p8 p9 p10 p11 p12 p13 p14 p15:A → B → C → D → E → F → G → Prop} {g:Prop} (h:∃ x0,∃ x1,∃ x2,∃ x3,∃ x4,∃ x5,∃ x6,p7 x0 x1 x2 x3 x4 x5 x6 ∧ p8 x0 x1 x2 x3 x4 x5 x6 ∧ p9 x0 x1 x2 x3 x4 x5 x6 ∧ p10 x0 x1 x2 x3 x4 x5 x6 ∧ p11 x0 x1 x2 x3 x4 x5 x6 ∧ p12 x0 x1 x2 x3 x4 x5 x6 ∧ p13 x0 x1 x2 x3 x4 x5 x6 ∧ p14 x0 x1 x2 x3 x4 x5 x6 ∧ p15 x0 x1 x2 x3 x4 x5 x6) (k:∀ x0,∀ x1,∀ x2,∀ x3,∀ x4,∀ x5,∀ x6,p7 x0 x1 x2 x3 x4 x5 x6 → p8 x0 x1 x2 x3 x4 x5 x6 → p9 x0 x1 x2 x3 x4 x5 x6 → p10 x0 x1 x2 x3 x4 x5 x6 → p11 x0 x1 x2 x3 x4 x5 x6 → p12 x0 x1 x2 x3 x4 x5 x6 → p13 x0 x1 x2 x3 x4 x5 x6 → p14 x0 x1 x2 x3 x4 x5 x6 → p15 x0 x1 x2 x3 x4 x5 x6 → g):g:=by
  obtain ⟨c0,c1,c2,c3,c4,c5,c6,c7,c8,c9,c10,c11,c12,c13,c14,c15⟩:=h
  exact k c0 c1 c2 c3 c4 c5 c6 c7 c8 c9 c10 c11 c12 c13 c14 c15
theorem Xaeeeeeaaaaaaaaaa {A B C D E:Type} {p0:Prop} {p6 p7 p8 p9 p10 p11 p12 p13 p14 p15 p16:A → B → C → D → E → Prop} {g:Prop} (h:p0 ∧ ∃ x0,∃ x1,∃ x2,∃ x3,∃ x4,p6 x0 x1 x2 x3 x4 ∧ p7 x0 x1 x2 x3 x4 ∧ p8 x0 x1 x2 x3 x4 ∧ p9 x0 x1 x2 x3 x4 ∧ p10 x0 x1 x2 x3 x4 ∧ p11 x0 x1 x2 x3 x4 ∧ p12 x0 x1 x2 x3 x4 ∧ p13 x0 x1 x2 x3 x4 ∧ p14 x0 x1 x2 x3 x4 ∧ p15 x0 x1 x2 x3 x4 ∧ p16 x0 x1 x2 x3 x4) (k:p0 → ∀ x0,∀ x1,∀ x2,∀ x3,∀ x4,p6 x0 x1 x2 x3 x4 → p7 x0 x1 x2 x3 x4 → p8 x0 x1 x2 x3 x4 → p9 x0 x1 x2 x3 x4 → p10 x0 x1 x2 x3 x4 → p11 x0 x1 x2 x3 x4 → p12 x0 x1 x2 x3 x4 → p13 x0 x1 x2 x3 x4 → p14 x0 x1 x2 x3 x4 → p15 x0 x1 x2 x3 x4 → p16 x0 x1 x2 x3 x4 → g):g:=by
  obtain ⟨c0,c1,c2,c3,c4,c5,c6,c7,c8,c9,c10,c11,c12,c13,c14,c15,c16⟩:=h
  exact k c0 c1 c2 c3 c4 c5 c6 c7 c8 c9 c10 c11 c12 c13 c14 c15 c16
open PySem.Calls
abbrev Led:=List (Addr × Obj)
abbrev Loc:=PySem.Str → Option Value
structure Cx (prog:Program) (w:World) (cs:Scope) (cl:List (PySem.Str × Addr)) where
  cn:PySem.Str
  fa:Addr
  cd:Value
  A₀:Around
  A:Around
  base:Heap
  outer:List Env
  h₀:Heap
  L:Addr
  p:Program
  loose:List PySem.Str
  mean:ExcName → Option Value
  mg:PySem.Str → Option Value
  mb:PySem.Str → Option Value
  rem:Nat
  B:Below A₀ base outer h₀
  X:(K w.params).In h₀
  Tp:Top p loose mean mg mb h₀
  hA:A.frames = some (envX cn cs L fa cd cl :: outer)
  hh:A.handled = none
  hk:cs.kind = .function
  hd:A.depth + 4 * rem + 2 < recursionLimit
  hu:A.units + 16 * rem + 8 < cLine

section
variable {prog:Program} {w:World} {cs:Scope} {cl:List (PySem.Str × Addr)} {α β:Type}
abbrev Cx.env (Γ:Cx prog w cs cl):Env:=envX Γ.cn cs Γ.L Γ.fa Γ.cd cl
theorem Cx.tr (Γ:Cx prog w cs cl):TopRead Γ.p Γ.loose Γ.mg Γ.mb Γ.h₀:=topRead_of Γ.Tp
theorem Cx.u8 (Γ:Cx prog w cs cl):Γ.A.units + 8 < cLine:=by have:=Γ.hu; omega

def T (Γ:Cx prog w cs cl) (t:Sem α) (m:Loc) (n:Led) (Post:α → Loc → Led → Prop):Prop:=
  ∀ (s:Shared) (Q:α → Shared → Prop) (E:Value → Shared → Prop),Fr Γ.h₀ Γ.L s.heap m → News Γ.h₀ Γ.L s.heap n →
    (∀ a m' n' h' tk',Fr Γ.h₀ Γ.L h' m' → News Γ.h₀ Γ.L h' n' → Post a m' n' → Q a { s with heap:=h',toks:=tk' }) → wpAny (model prog w) Γ.A t Q E s

abbrev bK {α β:Type} (Γ:Cx prog w cs cl) (f:α → Sem β) (P:β → Loc → Led → Prop):α → Loc → Led → Prop:=fun a m n => T Γ (f a) m n P
abbrev cK {α β γ:Type} (Γ:Cx prog w cs cl) (t:Sem β) (f:α → β → Sem γ) (P:γ → Loc → Led → Prop):α → Loc → Led → Prop:=fun a m n => T Γ t m n (bK Γ (f a) P)
abbrev sK (Γ:Cx prog w cs cl) (rest:List Stmt) (P:Flow → Loc → Led → Prop):Flow → Loc → Led → Prop:=fun f m n => match f with | .next => T Γ (execs rest Γ.env) m n P | f => P f m n
abbrev fK {α:Type} (Γ:Cx prog w cs cl) (t u:Sem α) (P:α → Loc → Led → Prop):Bool → Loc → Led → Prop:=fun b m n => if b then T Γ t m n P else T Γ u m n P
abbrev rK (P:Flow → Loc → Led → Prop):Value → Loc → Led → Prop:=fun v m n => P (.ret v) m n
abbrev eK (P:Flow → Loc → Led → Prop):Value → Loc → Led → Prop:=fun v m n => (∀ a,v ≠ .ref a) ∧ P .next m n
abbrev nK {α:Type} (P:Flow → Loc → Led → Prop):α → Loc → Led → Prop:=fun _ m n => P .next m n
abbrev upL (m:Loc) (x:PySem.Str) (v:Value):Loc:=fun y => if y = x then some v else m y
abbrev aK (x:PySem.Str) (P:Flow → Loc → Led → Prop):Value → Loc → Led → Prop:=fun v m n => P .next (upL m x v) n
abbrev andK (Γ:Cx prog w cs cl) (t:Sem Bool) (P:Bool → Loc → Led → Prop):Bool → Loc → Led → Prop:=fun c m n => if c then T Γ t m n P else P false m n
abbrev orK (Γ:Cx prog w cs cl) (t:Sem Bool) (P:Bool → Loc → Led → Prop):Bool → Loc → Led → Prop:=fun c m n => if c then P true m n else T Γ t m n P
abbrev notK (P:Bool → Loc → Led → Prop):Bool → Loc → Led → Prop:=fun c m n => P (!c) m n
abbrev oK (v:Value) (P:List Value → Loc → Led → Prop):List Value → Loc → Led → Prop:=fun vs m n => P (v :: vs) m n
abbrev gK (Γ:Cx prog w cs cl) (t:Sem (List Value)) (P:List Value → Loc → Led → Prop):Value → Loc → Led → Prop:=fun v m n => T Γ t m n (oK v P)
abbrev lK (Γ:Cx prog w cs cl) (g:Value → Sem Value) (k:Value → Sem Bool) (P:Bool → Loc → Led → Prop):Value → Loc → Led → Prop:=fun b m n => T Γ (g b) m n (bK Γ truthy (andK Γ (k b) P))
abbrev uK (Γ:Cx prog w cs cl) (o i:Sem Value) (P:Flow → Loc → Led → Prop):Value → Loc → Led → Prop:=fun v m n => T Γ o m n (cK Γ i (fun ov iv => setItem ov iv v) (nK P))

variable {Γ:Cx prog w cs cl} {m:Loc} {n:Led}
theorem kF {t u:Sem α} {P:α → Loc → Led → Prop} {b:Bool} (hb:¬ b = true) (h:T Γ u m n P):fK Γ t u P b m n:=by
  show ite _ _ _
  rw [if_neg hb]; exact h
theorem kT {t u:Sem α} {P:α → Loc → Led → Prop} {b:Bool} (hb:b = true) (h:T Γ t m n P):fK Γ t u P b m n:=by
  show ite _ _ _
  rw [if_pos hb]; exact h
theorem T.mono {t:Sem α} {P P':α → Loc → Led → Prop} (h:T Γ t m n P) (k:∀ a m' n',P a m' n' → P' a m' n'):T Γ t m n P':=
  fun s Q E F N q => h s Q E F N fun a m' n' h' tk' F' N' p => q a m' n' h' tk' F' N' (k _ _ _ p)
theorem T.pure' {a:α} {P:α → Loc → Led → Prop} (h:P a m n):T Γ (pure a) m n P:=
  fun s Q E F N q => wpAny_pure (q a m n _ _ F N h)
theorem T.bind' {t:Sem α} {f:α → Sem β} {P:β → Loc → Led → Prop} (h:T Γ t m n (fun a m' n' => T Γ (f a) m' n' P)):T Γ (t >>= f) m n P:=
  fun s Q E F N q => wpAny_bind (h s _ E F N fun a m' n' h' tk' F' N' p => p _ Q E F' N' q)
theorem T.ite {c:Prop} [Decidable c] {t u:Sem α} {P:α → Loc → Led → Prop} (h1:c → T Γ t m n P) (h2:¬ c → T Γ u m n P):T Γ (if c then t else u) m n P:=by
  split
  · exact h1 ‹_›
  · exact h2 ‹_›

theorem t_execs_nil {P:Flow → Loc → Led → Prop} (h:P .next m n):T Γ (execs [] Γ.env) m n P:=
  fun s Q E F N q => wpAny_execs_nil (q _ m n _ _ F N h)
theorem t_execs_cons {st rest} {P:Flow → Loc → Led → Prop}
    (h:T Γ (exec st Γ.env) m n (sK Γ rest P)):T Γ (execs (st :: rest) Γ.env) m n P:=
  fun s Q E F N q => wpAny_execs_cons (h s _ E F N fun f m' n' h' tk' F' N' p => by
    cases f with
    | next => exact p _ Q E F' N' q
    | ret v => exact q _ m' n' h' tk' F' N' p
    | brk => exact q _ m' n' h' tk' F' N' p
    | cont => exact q _ m' n' h' tk' F' N' p)
theorem t_ret {e pos} {P:Flow → Loc → Led → Prop} (h:T Γ (eval e Γ.env) m n (rK P)):T Γ (exec (.Return (some e) pos) Γ.env) m n P:=
  fun s Q E F N q => wpAny_Return_some (h s _ E F N fun a m' n' h' tk' F' N' p => q _ m' n' h' tk' F' N' p)
theorem t_expr {e pos} {P:Flow → Loc → Led → Prop} (h:T Γ (eval e Γ.env) m n (eK P))
    (hi:interactive Γ.env = false:=by rfl) (hs:swapsWith e none pos.line Γ.env = pure false:=by rfl):T Γ (exec (.Expr e pos) Γ.env) m n P:=
  fun s Q E F N q => wpAny_Expr (h s _ E F N fun a m' n' h' tk' F' N' p => by
    cases a with
    | ref x => exact absurd rfl (p.1 x)
    | _ => exact q _ m' n' h' tk' F' N' p.2) hi hs
theorem t_store {x:PySem.Str} {v:Value} {P:Unit → Loc → Led → Prop} (h:P () (upL m x v) n) (hx:cs.names.lookup x = some .local:=by rfl) :
    T Γ (storeName Γ.env x v) m n P:=
  fun s Q E F N q => storeX_L F N (fun h' F' N' => q _ _ n _ _ F' N' h) Γ.hk hx
theorem t_assign {x pos' e pos} {P:Flow → Loc → Led → Prop}
    (h:T Γ (eval e Γ.env) m n (aK x P))
    (hs:swapsWith e (some (.Name x pos')) pos.line Γ.env = pure false:=by rfl) (hx:cs.names.lookup x = some .local:=by rfl) :
    T Γ (exec (.Assign [.Name x pos'] e pos) Γ.env) m n P:=
  fun s Q E F N q => wpAny_Assign_Name (h s _ E F N fun a m' n' h' tk' F' N' p => storeX_L F' N' (fun h'' F'' N'' => q _ _ n' _ _ F'' N'' p) Γ.hk hx) hs
theorem t_if {test body orelse pos} {P:Flow → Loc → Led → Prop}
    (h:T Γ (isTrue test Γ.env (eval test Γ.env)) m n (fK Γ (execs body Γ.env) (execs orelse Γ.env) P)):T Γ (exec (.If test body orelse pos) Γ.env) m n P:=
  fun s Q E F N q => wpAny_If (h s _ E F N fun b m' n' h' tk' F' N' p => by
    cases b with
    | true => exact p _ Q E F' N' q
    | false => exact p _ Q E F' N' q)
theorem t_true_plain {env:Env} {e} {whole:Sem Value} {P:Bool → Loc → Led → Prop} (h:T Γ whole m n (bK Γ truthy P))
    (he:isTrue e env whole = (do let v ← whole; standAt e.pos; holding [v] (truthy v)):=by rfl):T Γ (isTrue e env whole) m n P:=
  fun s Q E F N q => isTrue_plain (h s _ E F N fun b m' n' h' tk' F' N' p => p _ Q E F' N' q) he
theorem t_true_cmp {env:Env} {l op r pos whole} {P:Bool → Loc → Led → Prop}
    (h:T Γ (eval l env) m n (cK Γ (eval r env) (compareOp op) (bK Γ truthy P)))
    (hm:behindInMarks op r = false:=by with_unfolding_all rfl):T Γ (isTrue (.Compare l [op] [r] pos) env whole) m n P:=
  fun s Q E F N q => wpAny_isTrue_Compare1 (h s _ E F N fun a m1 n1 h1 tk1 F1 N1 p => p _ _ E F1 N1 fun b m2 n2 h2 tk2 F2 N2 p => p _ _ E F2 N2 fun c m3 n3 h3 tk3 F3 N3 p => p _ Q E F3 N3 q) hm
theorem t_true_and {env:Env} {x rest pos whole} {P:Bool → Loc → Led → Prop}
    (h:T Γ (isTrue x env (eval x env)) m n (andK Γ (isTrue (.BoolOp .And rest pos) env whole) P)):T Γ (isTrue (.BoolOp .And (x :: rest) pos) env whole) m n P:=
  fun s Q E F N q => isTrue_and (h s _ E F N fun c m' n' h' tk' F' N' p => by
    cases c with
    | true => exact p _ Q E F' N' q
    | false => exact q _ m' n' h' tk' F' N' p)
theorem t_true_or {env:Env} {x rest pos whole} {P:Bool → Loc → Led → Prop}
    (h:T Γ (isTrue x env (eval x env)) m n (orK Γ (isTrue (.BoolOp .Or rest pos) env whole) P)):T Γ (isTrue (.BoolOp .Or (x :: rest) pos) env whole) m n P:=
  fun s Q E F N q => isTrue_or (h s _ E F N fun c m' n' h' tk' F' N' p => by
    cases c with
    | false => exact p _ Q E F' N' q
    | true => exact q _ m' n' h' tk' F' N' p)
theorem t_true_and0 {env:Env} {pos whole} {P:Bool → Loc → Led → Prop} (h:P true m n):T Γ (isTrue (.BoolOp .And [] pos) env whole) m n P:=
  fun s Q E F N q => isTrue_and_nil (q _ m n _ _ F N h)
theorem t_true_or0 {env:Env} {pos whole} {P:Bool → Loc → Led → Prop} (h:P false m n):T Γ (isTrue (.BoolOp .Or [] pos) env whole) m n P:=
  fun s Q E F N q => isTrue_or_nil (q _ m n _ _ F N h)
theorem t_true_not {env:Env} {x pos whole} {P:Bool → Loc → Led → Prop} (h:T Γ (isTrue x env (eval x env)) m n (notK P)):T Γ (isTrue (.UnaryOp .Not x pos) env whole) m n P:=
  fun s Q E F N q => isTrue_not (h s _ E F N fun c m' n' h' tk' F' N' p => q _ m' n' h' tk' F' N' p)
theorem t_true_chain {env:Env} {l op₁ op₂ ops r₁ r₂ rs pos whole} {P:Bool → Loc → Led → Prop}
    (h:T Γ (eval l env) m n (bK Γ (fun a => testChain pos a (op₁ :: op₂ :: ops) (eval r₁ env :: eval r₂ env :: evalEach rs env)) P))
    (hm:lastMarks (op₁ :: op₂ :: ops) (r₁ :: r₂ :: rs) = false:=by with_unfolding_all rfl):T Γ (isTrue (.Compare l (op₁ :: op₂ :: ops) (r₁ :: r₂ :: rs) pos) env whole) m n P:=
  fun s Q E F N q => isTrue_chain (h s _ E F N fun a m1 n1 h1 tk1 F1 N1 p => p _ Q E F1 N1 q) hm
theorem t_link {pos:Pos} {a:Value} {op op':CmpOp} {ops:List CmpOp} {r r':Sem Value} {rs:List (Sem Value)} {P:Bool → Loc → Led → Prop}
    (h:T Γ r m n (lK Γ (compareOp op a) (fun b => testChain pos b (op' :: ops) (r' :: rs)) P)) :
    T Γ (testChain pos a (op :: op' :: ops) (r :: r' :: rs)) m n P:=
  fun s Q E F N q => test_link (h s _ E F N fun b m1 n1 h1 tk1 F1 N1 p => p _ _ E F1 N1 fun c m2 n2 h2 tk2 F2 N2 p => p _ _ E F2 N2 fun t m3 n3 h3 tk3 F3 N3 p => by
    cases t with
    | true => exact p _ Q E F3 N3 q
    | false => exact q _ m3 n3 h3 tk3 F3 N3 p)
theorem t_last {pos:Pos} {a:Value} {op:CmpOp} {r:Sem Value} {P:Bool → Loc → Led → Prop}
    (h:T Γ r m n (bK Γ (compareOp op a) (bK Γ truthy P))):T Γ (testChain pos a [op] [r]) m n P:=
  fun s Q E F N q => test_last (h s _ E F N fun b m1 n1 h1 tk1 F1 N1 p => p _ _ E F1 N1 fun c m2 n2 h2 tk2 F2 N2 p => p _ Q E F2 N2 q)
theorem t_nameL {x pos v} {P:Value → Loc → Led → Prop} (hv:m x = some v) (h:P v m n) (hx:cs.names.lookup x = some .local:=by rfl) (hd:(x == ("__debug__":PySem.Str)) = false:=by decide +kernel) :
    T Γ (eval (.Name x pos) Γ.env) m n P:=
  fun s Q E F N q => nameX_L F hv (q _ m n _ _ F N h) Γ.hk hx hd
theorem t_nameK {x pos v} {P:Value → Loc → Led → Prop} (e:nsIn (K w.params) mainGlobals x = some (some v)) (h:P v m n) (hx:cs.names.lookup x = some .globalImplicit:=by rfl) (hd:(x == ("__debug__":PySem.Str)) = false:=by decide +kernel) :
    T Γ (eval (.Name x pos) Γ.env) m n P:=
  fun s Q E F N q => nameX_K F Γ.X Γ.tr e (q _ m n _ _ F N h) Γ.hk hx hd
theorem t_nameB {x pos v} {P:Value → Loc → Led → Prop} (e:nsIn (K w.params) mainGlobals x = some none) (hv:bootBuiltins x = some v) (h:P v m n) (hn:x ≠ "__name__":=by decide +kernel)
    (hx:cs.names.lookup x = some .globalImplicit:=by rfl) (hd:(x == ("__debug__":PySem.Str)) = false:=by decide +kernel):T Γ (eval (.Name x pos) Γ.env) m n P:=
  fun s Q E F N q => nameX_B F Γ.X Γ.tr e hv hn (q _ m n _ _ F N h) Γ.hk hx hd
theorem t_int {env:Env} {i k pos} {P:Value → Loc → Led → Prop} (h:∀ tk,P (.int i tk) m n):T Γ (eval (.Constant (.int i) k pos) env) m n P:=
  fun s Q E F N q => wpAny_Constant_int (q _ m n _ _ F N (h _))
theorem t_str {env:Env} {x k pos} {P:Value → Loc → Led → Prop} (h:∀ tk,P (.str x tk) m n):T Γ (eval (.Constant (.str x) k pos) env) m n P:=
  fun s Q E F N q => Constant_str (q _ m n _ _ F N (h _))
theorem t_none {env:Env} {k pos} {P:Value → Loc → Led → Prop} (h:P .none m n):T Γ (eval (.Constant .none k pos) env) m n P:=
  fun s Q E F N q => Constant_none (q _ m n _ _ F N h)
theorem t_bool {env:Env} {c k pos} {P:Value → Loc → Led → Prop} (h:P (.bool c) m n):T Γ (eval (.Constant (.bool c) k pos) env) m n P:=
  fun s Q E F N q => Constant_bool (q _ m n _ _ F N h)
theorem t_bin {env:Env} {l op r pos} {P:Value → Loc → Led → Prop} (h:T Γ (eval l env) m n (cK Γ (eval r env) (binaryOp op) P)):T Γ (eval (.BinOp l op r pos) env) m n P:=
  fun s Q E F N q => wpAny_BinOp (h s _ E F N fun a m1 n1 h1 tk1 F1 N1 p => p _ _ E F1 N1 fun b m2 n2 h2 tk2 F2 N2 p => p _ Q E F2 N2 q)
theorem t_un {env:Env} {op x pos} {P:Value → Loc → Led → Prop} (h:T Γ (eval x env) m n (bK Γ (unaryOp op) P)):T Γ (eval (.UnaryOp op x pos) env) m n P:=
  fun s Q E F N q => UnaryOp_ (h s _ E F N fun a m1 n1 h1 tk1 F1 N1 p => p _ Q E F1 N1 q)
theorem t_cmp {env:Env} {l op r pos} {P:Value → Loc → Led → Prop} (h:T Γ (eval l env) m n (cK Γ (eval r env) (compareOp op) P))
    (hm:behindInMarks op r = false:=by with_unfolding_all rfl):T Γ (eval (.Compare l [op] [r] pos) env) m n P:=
  fun s Q E F N q => wpAny_Compare1 (h s _ E F N fun a m1 n1 h1 tk1 F1 N1 p => p _ _ E F1 N1 fun b m2 n2 h2 tk2 F2 N2 p => p _ Q E F2 N2 q) hm
theorem t_ifexp {env:Env} {test body orelse pos} {P:Value → Loc → Led → Prop}
    (h:T Γ (isTrue test env (eval test env)) m n (fK Γ (eval body env) (eval orelse env) P)):T Γ (eval (.IfExp test body orelse pos) env) m n P:=
  fun s Q E F N q => IfExp_ (h s _ E F N fun b m' n' h' tk' F' N' p => by
    cases b with
    | true => exact p _ Q E F' N' q
    | false => exact p _ Q E F' N' q)
theorem t_sub {env:Env} {value slice pos} {P:Value → Loc → Led → Prop} (h:T Γ (eval value env) m n (cK Γ (eval slice env) (subscriptTail value slice) P)) :
    T Γ (eval (.Subscript value slice pos) env) m n P:=
  fun s Q E F N q => Subscript_ (h s _ E F N fun a m1 n1 h1 tk1 F1 N1 p => p _ _ E F1 N1 fun b m2 n2 h2 tk2 F2 N2 p => p _ Q E F2 N2 q)
theorem t_attr {env:Env} {value:PySem.Expr} {attr:PySem.Str} {pos:Pos} {P:Value → Loc → Led → Prop} (h:T Γ (eval value env) m n (bK Γ (fun o => getAttr o attr true) P))
    (he:eval (.Attribute value attr pos) env = (do
      let o ← eval value env
      standAt pos.atName
      let r ← holding [o] (getAttr o attr true)
      letTemporaryGo value o r
      pure r):=by with_unfolding_all rfl):T Γ (eval (.Attribute value attr pos) env) m n P:=
  fun s Q E F N q => Attribute_any_ (h s _ E F N fun a m1 n1 h1 tk1 F1 N1 p => p _ Q E F1 N1 q) he
theorem t_call {env:Env} {func:PySem.Expr} {args:List PySem.Expr} {pos:Pos} {P:Value → Loc → Led → Prop}
    (h:T Γ (eval func env) m n (bK Γ (fun f => callWith pos f [] (backTo pos (starEach args env)) []) P))
    (he:eval (.Call func args [] pos) env = (do callWith pos (← eval func env) [] (backTo pos (starEach args env)) (backToKw pos (keywordEach [] env))):=by rfl) :
    T Γ (eval (.Call func args [] pos) env) m n P:=
  fun s Q E F N q => Call_ (h s _ E F N fun a m1 n1 h1 tk1 F1 N1 p => p _ Q E F1 N1 q) he
theorem t_args0 {env:Env} {pos:Pos} {P:List Value → Loc → Led → Prop} (h:P [] m n):T Γ (spliced (backTo pos (starEach [] env))) m n P:=
  fun s Q E F N q => args_nil (q _ m n _ _ F N h)
theorem t_args1 {env:Env} {e:PySem.Expr} {rest:List PySem.Expr} {pos:Pos} {P:List Value → Loc → Led → Prop}
    (h:T Γ (eval e env) m n (gK Γ (spliced (backTo pos (starEach rest env))) P))
    (he:starEach (e :: rest) env = (false,eval e env) :: starEach rest env:=by rfl):T Γ (spliced (backTo pos (starEach (e :: rest) env))) m n P:=
  fun s Q E F N q => args_cons (h s _ E F N fun a m1 n1 h1 tk1 F1 N1 p => p _ _ E F1 N1 fun vs m2 n2 h2 tk2 F2 N2 p => q _ m2 n2 h2 tk2 F2 N2 p) he
theorem t_callWith {env:Env} {pos:Pos} {f:Value} {first:List Value} {e:PySem.Expr} {rest:List PySem.Expr} {P:Value → Loc → Led → Prop} (hk:keepIn (K w.params) f = true)
    (h:T Γ (spliced (backTo pos (starEach (e :: rest) env))) m n (bK Γ (fun vs => call f (first ++ vs)) P))
    (he:starEach (e :: rest) env = (false,eval e env) :: starEach rest env:=by rfl) (hplain:(backTo pos (starEach rest env)).any (·.1) = false:=by rfl) :
    T Γ (callWith pos f first (backTo pos (starEach (e :: rest) env)) []) m n P:=
  fun s Q E F N q => callWith_K Γ.X hk (h s _ E F N fun vs m1 n1 h1 tk1 F1 N1 p => ⟨Γ.X.keeps F1.keep,p _ Q E F1 N1 q⟩) he hplain
theorem t_callWith0 {env:Env} {pos:Pos} {f:Value} {first:List Value} {P:Value → Loc → Led → Prop} (hk:keepIn (K w.params) f = true)
    (h:T Γ (call f (first ++ [])) m n P):T Γ (callWith pos f first (backTo pos (starEach [] env)) []) m n P:=
  fun s Q E F N q => callWith_K0 (Γ.X.keeps F.keep) hk (h s Q E F N q)
theorem t_meth {env:Env} {o:PySem.Expr} {name:PySem.Str} {apos pos:Pos} {args:List PySem.Expr} {pl:Sem Bool} {P:Value → Loc → Led → Prop}
    (h:T Γ (eval o env) m n (bK Γ (fun ov => getMethod ov name pl) (bK Γ (fun fx => callWith pos fx.1 fx.2 (backTo pos (starEach args env)) []) P)))
    (he:eval (.Call (.Attribute o name apos) args [] pos) env = (do
      let ov ← eval o env
      standAt apos.atName
      let (f,first) ← holding [ov] (getMethod ov name pl)
      callWith pos f first (backTo pos (starEach args env)) []):=by rfl):T Γ (eval (.Call (.Attribute o name apos) args [] pos) env) m n P:=
  fun s Q E F N q => MethodCall_ (h s _ E F N fun a m1 n1 h1 tk1 F1 N1 p => p _ _ E F1 N1 fun vs m2 n2 h2 tk2 F2 N2 p => p _ Q E F2 N2 q) he

theorem t_method {x C dx:Addr} {es:List DictEntry} {k:Nat} {name:PySem.Str} {f:Addr} {pl:Sem Bool} {P:Value × List Value → Loc → Led → Prop}
    (h1:(x,instObj C dx) ∈ n) (h2:(dx,dictOf es k) ∈ n) (hg:plainGet (K w.params) C name = true) (hf:findIn (K w.params) (.ref C) name = some (some (.ref f))) (ht:isFn (K w.params) (.ref f) = true) (hl:getL name es = some none)
    (h:P (.ref f,[.ref x]) m n):T Γ (getMethod (.ref x) name pl) m n P:=
  fun s Q E F N q => method_inst F Γ.X (InstAt.of_news N h1 h2) hg hf ht hl (q _ m n _ _ F N h)
theorem t_getattr {x C dx:Addr} {es:List DictEntry} {k:Nat} {name:PySem.Str} {v:Value} {b:Bool} {attr:Option Value} {P:Value → Loc → Led → Prop}
    (h1:(x,instObj C dx) ∈ n) (h2:(dx,dictOf es k) ∈ n) (hg:plainGet (K w.params) C name = true) (hh:hasDictIn (K w.params) C = true) (ha:findIn (K w.params) (.ref C) name = some attr) (hn:noGet (K w.params) attr = true)
    (hl:getL name es = some (some v)) (hv:handedIn v = true) (h:P v m n):T Γ (getAttr (.ref x) name b) m n P:=
  fun s Q E F N q => get_own F Γ.X (InstAt.of_news N h1 h2) hg hh ha hn hl hv (q _ m n _ _ F N h)
abbrev listO (vs:List Value) (e:Nat):Obj:={ cls:=.type "list",data:=.seq vs.toArray e }
abbrev tupO (vs:List Value) (e:Nat):Obj:={ cls:=.type "tuple",data:=.seq vs.toArray e }
theorem News.list {h₀ h:Heap} {L:Addr} {n:Led} (N:News h₀ L h n) {l:Addr} {vs:List Value} {e:Nat} (hm:(l,listO vs e) ∈ n):h.IsList l vs.toArray:=⟨_,(N _ hm).1,rfl,e,rfl⟩
theorem t_item_list {l:Addr} {vs:List Value} {e:Nat} {k:Int} {u:Tok} {v:Value} {value slice:PySem.Expr} {P:Value → Loc → Led → Prop} (hm:(l,listO vs e) ∈ n) (h0:0 ≤ k) (hx:vs[k.toNat]? = some v) (h:P v m n) (hk:k < 2 ^ 63)
    (hs:subscripted slice false (.ref l) (.int k u) = operate [.ref l,.int k u] (getItem (.ref l) (.int k u)):=by with_unfolding_all rfl) :
    T Γ (subscriptTail value slice (.ref l) (.int k u)) m n P:=
  fun s Q E F N q => tail_any (News.list N hm).typeIs slot_list_getitem.lookup (wpAny_getItem_list (News.list N hm) h0 hk (by simpa using hx) (q _ m n _ _ F N h)) hs
end
section
variable {prog:Program} {w:World}
abbrev poK (Post:Value → Led → Prop):Flow → Loc → Led → Prop:=fun fl _ n' => Post (match fl with | .ret v => v | _ => .none) n'
def Spec (prog:Program) (w:World) (f:Addr) (args:List Value) (n:Led) (rem:Nat) (Post:Value → Led → Prop):Prop:=
  ∀ (cs:Scope) (cl:List (PySem.Str × Addr)) (Γ:Cx prog w cs cl) (m:Loc) (P:Value → Loc → Led → Prop),rem ≤ Γ.rem → (∀ v n',Post v n' → P v m n') → T Γ (call (.ref f) args) m n P

theorem Spec.intro {f:Addr} {args:List Value} {n:Led} {rem:Nat} {Post:Value → Led → Prop} {oc:Value} {od:Option Addr} {osl:Array (Option Value)} {name qual:PySem.Str} {params:Arguments} {body:List Stmt} {scope:Scope} {dV kV doc pm cdv ct:Value} {an:Option Addr} {binds:List (PySem.Str × Value)}
    (ho:(K w.params).lookup f = some ⟨oc,od,.func (fnOf name qual params body scope dV kV doc pm an cdv ct),osl⟩) (hcd:codeIn (K w.params) cdv qual = true)
    (hbind:∀ s,BindsTo s (fnOf name qual params body scope dV kV doc pm an cdv ct) ⟨args,[]⟩ binds) (hloc:∀ y ∈ binds,scope.names.lookup y.1 = some .local)
    (hco:scope.isCoroutine = false) (hgen:scope.isGenerator = false) (hk:scope.kind = .function) (hcell:∀ x ∈ scope.names,x.2 ≠ .cell)
    (h:∀ Γ:Cx prog w scope [],rem ≤ Γ.rem → T Γ (execs body Γ.env) (fun y => binds.reverse.lookup y) n (poK Post)) :
    Spec prog w f args n (rem + 1) Post:=by
  intro cs cl Γ m P hr k s Q E F N q
  have hd:=Γ.hd
  have hu:=Γ.hu
  refine wpAny_call (code_def Γ.B F Γ.X N Γ.Tp Γ.hA rfl Γ.hk ho hcd (by omega) (hbind s) hloc (fun g L' h₁ FG F' N' B' X' T' => ?_) hco hgen hk hcell)
  exact h { cn:=qual,fa:=f,cd:=cdv,A₀:=Γ.A,A:=Γ.A.deeper (envX qual scope L' f cdv []),base:=Γ.base,outer:=Γ.env :: Γ.outer,h₀:=g,L:=L',p:=Γ.p,loose:=Γ.loose,mean:=Γ.mean,mg:=Γ.mg,mb:=Γ.mb,rem:=rem,
            B:=B',X:=X',Tp:=T',hA:=Around.frames_deeper Γ.hA,hh:=Γ.hh,hk:=hk,hd:=by show Γ.A.depth + 1 + 4 * rem + 2 < _; omega,hu:=by show Γ.A.units + 3 + 16 * rem + 8 < _; omega } (Nat.le_refl _) _ _ _ F' N'
    fun fl m' n' h' tk' F'' N'' p => ⟨L',m',n',F'',N'',fun F3 N3 => q _ m n' h' tk' F3 N3 (k _ _ p)⟩
theorem t_spec {cs:Scope} {cl:List (PySem.Str × Addr)} {Γ:Cx prog w cs cl} {m:Loc} {n:Led} {f:Addr} {args:List Value} {rem:Nat} {Post:Value → Led → Prop} {P:Value → Loc → Led → Prop}
    (h:Spec prog w f args n rem Post) (hr:rem ≤ Γ.rem) (k:∀ v n',Post v n' → P v m n'):T Γ (call (.ref f) args) m n P:=h _ _ Γ m P hr k
end

structure BA where
  self:Addr
  dict:Addr
  names:Addr
  widths:Addr
  fnames:Addr
  fargs:Addr
  fres:Addr
  ops:Addr
  args:Addr
  sorts:Addr
  datas:Addr
  numbers:Addr
  bvn:Addr
  tk:Nat → Tok
  ep:Nat
def bankD (P:Params) (B:BA):List DictEntry:=[
  ⟨PyData.keyHash P "sort_names",.str "sort_names" (B.tk 0),.ref B.names⟩,⟨PyData.keyHash P "sort_widths",.str "sort_widths" (B.tk 1),.ref B.widths⟩,
  ⟨PyData.keyHash P "fun_names",.str "fun_names" (B.tk 2),.ref B.fnames⟩,⟨PyData.keyHash P "fun_args",.str "fun_args" (B.tk 3),.ref B.fargs⟩,
  ⟨PyData.keyHash P "fun_results",.str "fun_results" (B.tk 4),.ref B.fres⟩,⟨PyData.keyHash P "fresh_count",.str "fresh_count" (B.tk 5),.int 0 (B.tk 6)⟩,
  ⟨PyData.keyHash P "term_ops",.str "term_ops" (B.tk 7),.ref B.ops⟩,⟨PyData.keyHash P "term_args",.str "term_args" (B.tk 8),.ref B.args⟩,
  ⟨PyData.keyHash P "term_sorts",.str "term_sorts" (B.tk 9),.ref B.sorts⟩,⟨PyData.keyHash P "term_datas",.str "term_datas" (B.tk 10),.ref B.datas⟩,
  ⟨PyData.keyHash P "numbers",.str "numbers" (B.tk 11),.ref B.numbers⟩,⟨PyData.keyHash P "true_number",.str "true_number" (B.tk 12),.int 1 (B.tk 13)⟩,
  ⟨PyData.keyHash P "false_number",.str "false_number" (B.tk 14),.int 2 (B.tk 15)⟩,⟨PyData.keyHash P "bv_numbers",.str "bv_numbers" (B.tk 16),.ref B.bvn⟩]
noncomputable def stName:Stmt → PySem.Str
  | .FunctionDef n .. => n
  | _ => Str.ofString ""
noncomputable def stArgs:Stmt → Arguments
  | .FunctionDef _ a .. => a
  | _ => default
noncomputable def stBody:Stmt → List Stmt
  | .FunctionDef _ _ b .. => b
  | _ => []
noncomputable def stScope:Stmt → Scope
  | .FunctionDef _ _ _ _ _ _ s .. => s
  | _ => default
noncomputable abbrev fz (S:Stmt) (q:PySem.Str) (pm:Value) (c:Addr):FuncData:=fnOf (stName S) q (stArgs S) (stBody S) (stScope S) .none .none .none pm none (.ref c) .none
theorem isFn_keep {K:Frag} {f:Addr} {oc od fd osl} (h:K.lookup f = some ⟨oc,od,.func fd,osl⟩):keepIn K (.ref f) = true:=by
  unfold keepIn; simp only; rw [h]
noncomputable def S_law_ladle:Stmt:=(stmP 39)
noncomputable def sc_law_ladle:Scope:=stScope S_law_ladle
theorem fn_law_ladle (P:Params):(K P).lookup 1062 = some ⟨.type "function",none,.func (fz S_law_ladle (Str.ofString "_law_ladle") (.str (Str.ofString "law_rg0226_04") (nat_lit 1600)) 1061),#[]⟩:=by kernel_rfl
theorem cd_law_ladle (P:Params):codeIn (K P) (.ref 1061) (Str.ofString "_law_ladle") = true:=by kernel_rfl
theorem kp_law_ladle (P:Params):keepIn (K P) (.ref 1062) = true:=isFn_keep (fn_law_ladle P)
theorem if_law_ladle (P:Params):isFn (K P) (.ref 1062) = true:=by kernel_rfl
theorem bi_law_ladle (v0 v1:Value):bindArgs (fz S_law_ladle (Str.ofString "_law_ladle") (.str (Str.ofString "law_rg0226_04") (nat_lit 1600)) 1061) ⟨[v0,v1],[]⟩ = pure [(Str.ofString "pot",v0),(Str.ofString "many",v1)]:=by kernel_rfl
theorem lo_law_ladle (v0 v1:Value):∀ y ∈ ([(Str.ofString "pot",v0),(Str.ofString "many",v1)]:List (PySem.Str × Value)),sc_law_ladle.names.lookup y.1 = some .local:=by
  have h:(([(Str.ofString "pot",v0),(Str.ofString "many",v1)]:List (PySem.Str × Value)).all fun x => decide (sc_law_ladle.names.lookup x.1 = some .local)) = true:=by kernel_rfl
  exact locs h
theorem ce_law_ladle:∀ x ∈ sc_law_ladle.names,x.2 ≠ .cell:=by decide +kernel
theorem sp_law_ladle {prog:Program} {w:World} {v0 v1:Value} {n:Led} {rem:Nat} {Post:Value → Led → Prop}
    (h:∀ Γ:Cx prog w sc_law_ladle [],rem ≤ Γ.rem → T Γ (execs (stBody S_law_ladle) Γ.env) (fun y => ([(Str.ofString "many",v1),(Str.ofString "pot",v0)]:List (PySem.Str × Value)).lookup y) n (poK Post)):Spec prog w 1062 [v0,v1] n (rem + 1) Post:=
  Spec.intro (fn_law_ladle w.params) (cd_law_ladle w.params) (fun s => BindsTo.of_eq (bi_law_ladle v0 v1)) (lo_law_ladle v0 v1) (by kernel_rfl) (by kernel_rfl) (by kernel_rfl) ce_law_ladle h
theorem ns_law_ladle (P:Params):nsIn (K P) mainGlobals "_law_ladle" = some (some (.ref 1062)):=by kernel_rfl
noncomputable def S_law_term:Stmt:=(stmP 40)
noncomputable def sc_law_term:Scope:=stScope S_law_term
theorem fn_law_term (P:Params):(K P).lookup 1069 = some ⟨.type "function",none,.func (fz S_law_term (Str.ofString "_law_term") (.str (Str.ofString "law_rg0226_04") (nat_lit 1600)) 1068),#[]⟩:=by kernel_rfl
theorem cd_law_term (P:Params):codeIn (K P) (.ref 1068) (Str.ofString "_law_term") = true:=by kernel_rfl
theorem kp_law_term (P:Params):keepIn (K P) (.ref 1069) = true:=isFn_keep (fn_law_term P)
theorem if_law_term (P:Params):isFn (K P) (.ref 1069) = true:=by kernel_rfl
theorem bi_law_term (v0 v1 v2:Value):bindArgs (fz S_law_term (Str.ofString "_law_term") (.str (Str.ofString "law_rg0226_04") (nat_lit 1600)) 1068) ⟨[v0,v1,v2],[]⟩ = pure [(Str.ofString "pot",v0),(Str.ofString "bank",v1),(Str.ofString "some",v2)]:=by kernel_rfl
theorem lo_law_term (v0 v1 v2:Value):∀ y ∈ ([(Str.ofString "pot",v0),(Str.ofString "bank",v1),(Str.ofString "some",v2)]:List (PySem.Str × Value)),sc_law_term.names.lookup y.1 = some .local:=by
  have h:(([(Str.ofString "pot",v0),(Str.ofString "bank",v1),(Str.ofString "some",v2)]:List (PySem.Str × Value)).all fun x => decide (sc_law_term.names.lookup x.1 = some .local)) = true:=by kernel_rfl
  exact locs h
theorem ce_law_term:∀ x ∈ sc_law_term.names,x.2 ≠ .cell:=by decide +kernel
theorem sp_law_term {prog:Program} {w:World} {v0 v1 v2:Value} {n:Led} {rem:Nat} {Post:Value → Led → Prop}
    (h:∀ Γ:Cx prog w sc_law_term [],rem ≤ Γ.rem → T Γ (execs (stBody S_law_term) Γ.env) (fun y => ([(Str.ofString "some",v2),(Str.ofString "bank",v1),(Str.ofString "pot",v0)]:List (PySem.Str × Value)).lookup y) n (poK Post)):Spec prog w 1069 [v0,v1,v2] n (rem + 1) Post:=
  Spec.intro (fn_law_term w.params) (cd_law_term w.params) (fun s => BindsTo.of_eq (bi_law_term v0 v1 v2)) (lo_law_term v0 v1 v2) (by kernel_rfl) (by kernel_rfl) (by kernel_rfl) ce_law_term h
theorem ns_law_term (P:Params):nsIn (K P) mainGlobals "_law_term" = some (some (.ref 1069)):=by kernel_rfl
noncomputable def S_law_number:Stmt:=(stmP 41)
noncomputable def sc_law_number:Scope:=stScope S_law_number
theorem fn_law_number (P:Params):(K P).lookup 1076 = some ⟨.type "function",none,.func (fz S_law_number (Str.ofString "_law_number") (.str (Str.ofString "law_rg0226_04") (nat_lit 1600)) 1075),#[]⟩:=by kernel_rfl
theorem cd_law_number (P:Params):codeIn (K P) (.ref 1075) (Str.ofString "_law_number") = true:=by kernel_rfl
theorem kp_law_number (P:Params):keepIn (K P) (.ref 1076) = true:=isFn_keep (fn_law_number P)
theorem if_law_number (P:Params):isFn (K P) (.ref 1076) = true:=by kernel_rfl
theorem bi_law_number (v0 v1 v2:Value):bindArgs (fz S_law_number (Str.ofString "_law_number") (.str (Str.ofString "law_rg0226_04") (nat_lit 1600)) 1075) ⟨[v0,v1,v2],[]⟩ = pure [(Str.ofString "bank",v0),(Str.ofString "t",v1),(Str.ofString "args",v2)]:=by kernel_rfl
theorem lo_law_number (v0 v1 v2:Value):∀ y ∈ ([(Str.ofString "bank",v0),(Str.ofString "t",v1),(Str.ofString "args",v2)]:List (PySem.Str × Value)),sc_law_number.names.lookup y.1 = some .local:=by
  have h:(([(Str.ofString "bank",v0),(Str.ofString "t",v1),(Str.ofString "args",v2)]:List (PySem.Str × Value)).all fun x => decide (sc_law_number.names.lookup x.1 = some .local)) = true:=by kernel_rfl
  exact locs h
theorem ce_law_number:∀ x ∈ sc_law_number.names,x.2 ≠ .cell:=by decide +kernel
theorem sp_law_number {prog:Program} {w:World} {v0 v1 v2:Value} {n:Led} {rem:Nat} {Post:Value → Led → Prop}
    (h:∀ Γ:Cx prog w sc_law_number [],rem ≤ Γ.rem → T Γ (execs (stBody S_law_number) Γ.env) (fun y => ([(Str.ofString "args",v2),(Str.ofString "t",v1),(Str.ofString "bank",v0)]:List (PySem.Str × Value)).lookup y) n (poK Post)):Spec prog w 1076 [v0,v1,v2] n (rem + 1) Post:=
  Spec.intro (fn_law_number w.params) (cd_law_number w.params) (fun s => BindsTo.of_eq (bi_law_number v0 v1 v2)) (lo_law_number v0 v1 v2) (by kernel_rfl) (by kernel_rfl) (by kernel_rfl) ce_law_number h
theorem ns_law_number (P:Params):nsIn (K P) mainGlobals "_law_number" = some (some (.ref 1076)):=by kernel_rfl
noncomputable def S_law_numbers:Stmt:=(stmP 42)
noncomputable def sc_law_numbers:Scope:=stScope S_law_numbers
theorem fn_law_numbers (P:Params):(K P).lookup 1081 = some ⟨.type "function",none,.func (fz S_law_numbers (Str.ofString "_law_numbers") (.str (Str.ofString "law_rg0226_04") (nat_lit 1600)) 1080),#[]⟩:=by kernel_rfl
theorem cd_law_numbers (P:Params):codeIn (K P) (.ref 1080) (Str.ofString "_law_numbers") = true:=by kernel_rfl
theorem kp_law_numbers (P:Params):keepIn (K P) (.ref 1081) = true:=isFn_keep (fn_law_numbers P)
theorem if_law_numbers (P:Params):isFn (K P) (.ref 1081) = true:=by kernel_rfl
theorem bi_law_numbers (v0 v1 v2:Value):bindArgs (fz S_law_numbers (Str.ofString "_law_numbers") (.str (Str.ofString "law_rg0226_04") (nat_lit 1600)) 1080) ⟨[v0,v1,v2],[]⟩ = pure [(Str.ofString "bank",v0),(Str.ofString "some",v1),(Str.ofString "table",v2)]:=by kernel_rfl
theorem ns_law_numbers (P:Params):nsIn (K P) mainGlobals "_law_numbers" = some (some (.ref 1081)):=by kernel_rfl
noncomputable def S_law_labels:Stmt:=(stmP 43)
noncomputable def sc_law_labels:Scope:=stScope S_law_labels
theorem fn_law_labels (P:Params):(K P).lookup 1086 = some ⟨.type "function",none,.func (fz S_law_labels (Str.ofString "_law_labels") (.str (Str.ofString "law_rg0226_04") (nat_lit 1600)) 1085),#[]⟩:=by kernel_rfl
theorem cd_law_labels (P:Params):codeIn (K P) (.ref 1085) (Str.ofString "_law_labels") = true:=by kernel_rfl
theorem kp_law_labels (P:Params):keepIn (K P) (.ref 1086) = true:=isFn_keep (fn_law_labels P)
theorem if_law_labels (P:Params):isFn (K P) (.ref 1086) = true:=by kernel_rfl
theorem bi_law_labels (v0 v1:Value):bindArgs (fz S_law_labels (Str.ofString "_law_labels") (.str (Str.ofString "law_rg0226_04") (nat_lit 1600)) 1085) ⟨[v0,v1],[]⟩ = pure [(Str.ofString "bank",v0),(Str.ofString "t",v1)]:=by kernel_rfl
theorem ns_law_labels (P:Params):nsIn (K P) mainGlobals "_law_labels" = some (some (.ref 1086)):=by kernel_rfl
noncomputable def S_law_due:Stmt:=(stmP 44)
noncomputable def sc_law_due:Scope:=stScope S_law_due
theorem fn_law_due (P:Params):(K P).lookup 1091 = some ⟨.type "function",none,.func (fz S_law_due (Str.ofString "_law_due") (.str (Str.ofString "law_rg0226_04") (nat_lit 1600)) 1090),#[]⟩:=by kernel_rfl
theorem cd_law_due (P:Params):codeIn (K P) (.ref 1090) (Str.ofString "_law_due") = true:=by kernel_rfl
theorem kp_law_due (P:Params):keepIn (K P) (.ref 1091) = true:=isFn_keep (fn_law_due P)
theorem if_law_due (P:Params):isFn (K P) (.ref 1091) = true:=by kernel_rfl
theorem bi_law_due (v0 v1 v2 v3 v4:Value):bindArgs (fz S_law_due (Str.ofString "_law_due") (.str (Str.ofString "law_rg0226_04") (nat_lit 1600)) 1090) ⟨[v0,v1,v2,v3,v4],[]⟩ = pure [(Str.ofString "bank",v0),(Str.ofString "labels",v1),(Str.ofString "high",v2),(Str.ofString "low",v3),(Str.ofString "t",v4)]:=by kernel_rfl
theorem ns_law_due (P:Params):nsIn (K P) mainGlobals "_law_due" = some (some (.ref 1091)):=by kernel_rfl
noncomputable def S_law_is_cut_right:Stmt:=(stmP 45)
noncomputable def sc_law_is_cut_right:Scope:=stScope S_law_is_cut_right
theorem fn_law_is_cut_right (P:Params):(K P).lookup 1098 = some ⟨.type "function",none,.func (fz S_law_is_cut_right (Str.ofString "_law_is_cut_right") (.str (Str.ofString "law_rg0226_04") (nat_lit 1600)) 1097),#[]⟩:=by kernel_rfl
theorem cd_law_is_cut_right (P:Params):codeIn (K P) (.ref 1097) (Str.ofString "_law_is_cut_right") = true:=by kernel_rfl
theorem kp_law_is_cut_right (P:Params):keepIn (K P) (.ref 1098) = true:=isFn_keep (fn_law_is_cut_right P)
theorem if_law_is_cut_right (P:Params):isFn (K P) (.ref 1098) = true:=by kernel_rfl
theorem bi_law_is_cut_right (v0 v1 v2 v3 v4 v5 v6:Value):bindArgs (fz S_law_is_cut_right (Str.ofString "_law_is_cut_right") (.str (Str.ofString "law_rg0226_04") (nat_lit 1600)) 1097) ⟨[v0,v1,v2,v3,v4,v5,v6],[]⟩ = pure [(Str.ofString "bank",v0),(Str.ofString "rewriter",v1),(Str.ofString "tables",v2),(Str.ofString "labels",v3),(Str.ofString "high",v4),(Str.ofString "low",v5),(Str.ofString "t",v6)]:=by kernel_rfl
theorem lo_law_is_cut_right (v0 v1 v2 v3 v4 v5 v6:Value):∀ y ∈ ([(Str.ofString "bank",v0),(Str.ofString "rewriter",v1),(Str.ofString "tables",v2),(Str.ofString "labels",v3),(Str.ofString "high",v4),(Str.ofString "low",v5),(Str.ofString "t",v6)]:List (PySem.Str × Value)),sc_law_is_cut_right.names.lookup y.1 = some .local:=by
  have h:(([(Str.ofString "bank",v0),(Str.ofString "rewriter",v1),(Str.ofString "tables",v2),(Str.ofString "labels",v3),(Str.ofString "high",v4),(Str.ofString "low",v5),(Str.ofString "t",v6)]:List (PySem.Str × Value)).all fun x => decide (sc_law_is_cut_right.names.lookup x.1 = some .local)) = true:=by kernel_rfl
  exact locs h
theorem ce_law_is_cut_right:∀ x ∈ sc_law_is_cut_right.names,x.2 ≠ .cell:=by decide +kernel
theorem sp_law_is_cut_right {prog:Program} {w:World} {v0 v1 v2 v3 v4 v5 v6:Value} {n:Led} {rem:Nat} {Post:Value → Led → Prop}
    (h:∀ Γ:Cx prog w sc_law_is_cut_right [],rem ≤ Γ.rem → T Γ (execs (stBody S_law_is_cut_right) Γ.env) (fun y => ([(Str.ofString "t",v6),(Str.ofString "low",v5),(Str.ofString "high",v4),(Str.ofString "labels",v3),(Str.ofString "tables",v2),(Str.ofString "rewriter",v1),(Str.ofString "bank",v0)]:List (PySem.Str × Value)).lookup y) n (poK Post)):Spec prog w 1098 [v0,v1,v2,v3,v4,v5,v6] n (rem + 1) Post:=
  Spec.intro (fn_law_is_cut_right w.params) (cd_law_is_cut_right w.params) (fun s => BindsTo.of_eq (bi_law_is_cut_right v0 v1 v2 v3 v4 v5 v6)) (lo_law_is_cut_right v0 v1 v2 v3 v4 v5 v6) (by kernel_rfl) (by kernel_rfl) (by kernel_rfl) ce_law_is_cut_right h
theorem ns_law_is_cut_right (P:Params):nsIn (K P) mainGlobals "_law_is_cut_right" = some (some (.ref 1098)):=by kernel_rfl
noncomputable def S_bv_sort:Stmt:=(subP (stmP 33) 1)
noncomputable def sc_bv_sort:Scope:=stScope S_bv_sort
theorem fn_bv_sort (P:Params):(K P).lookup 640 = some ⟨.type "function",none,.func (fz S_bv_sort (Str.ofString "TermBank.bv_sort") (.str (Str.ofString "minismt.terms") (nat_lit 337)) 639),#[]⟩:=by kernel_rfl
theorem cd_bv_sort (P:Params):codeIn (K P) (.ref 639) (Str.ofString "TermBank.bv_sort") = true:=by kernel_rfl
theorem kp_bv_sort (P:Params):keepIn (K P) (.ref 640) = true:=isFn_keep (fn_bv_sort P)
theorem if_bv_sort (P:Params):isFn (K P) (.ref 640) = true:=by kernel_rfl
theorem bi_bv_sort (v0 v1:Value):bindArgs (fz S_bv_sort (Str.ofString "TermBank.bv_sort") (.str (Str.ofString "minismt.terms") (nat_lit 337)) 639) ⟨[v0,v1],[]⟩ = pure [(Str.ofString "self",v0),(Str.ofString "width",v1)]:=by kernel_rfl
theorem lo_bv_sort (v0 v1:Value):∀ y ∈ ([(Str.ofString "self",v0),(Str.ofString "width",v1)]:List (PySem.Str × Value)),sc_bv_sort.names.lookup y.1 = some .local:=by
  have h:(([(Str.ofString "self",v0),(Str.ofString "width",v1)]:List (PySem.Str × Value)).all fun x => decide (sc_bv_sort.names.lookup x.1 = some .local)) = true:=by kernel_rfl
  exact locs h
theorem ce_bv_sort:∀ x ∈ sc_bv_sort.names,x.2 ≠ .cell:=by decide +kernel
theorem sp_bv_sort {prog:Program} {w:World} {v0 v1:Value} {n:Led} {rem:Nat} {Post:Value → Led → Prop}
    (h:∀ Γ:Cx prog w sc_bv_sort [],rem ≤ Γ.rem → T Γ (execs (stBody S_bv_sort) Γ.env) (fun y => ([(Str.ofString "width",v1),(Str.ofString "self",v0)]:List (PySem.Str × Value)).lookup y) n (poK Post)):Spec prog w 640 [v0,v1] n (rem + 1) Post:=
  Spec.intro (fn_bv_sort w.params) (cd_bv_sort w.params) (fun s => BindsTo.of_eq (bi_bv_sort v0 v1)) (lo_bv_sort v0 v1) (by kernel_rfl) (by kernel_rfl) (by kernel_rfl) ce_bv_sort h
theorem fi_bv_sort (P:Params):findIn (K P) (.ref 734) "bv_sort" = some (some (.ref 640)):=by kernel_rfl
theorem pg_bv_sort (P:Params):plainGet (K P) 734 "bv_sort" = true:=by kernel_rfl
theorem gl_bv_sort (P:Params) (B:BA):getL "bv_sort" (bankD P B) = some none:=by kernel_rfl
noncomputable def S_want_bits:Stmt:=(subP (stmP 33) 3)
noncomputable def sc_want_bits:Scope:=stScope S_want_bits
theorem fn_want_bits (P:Params):(K P).lookup 654 = some ⟨.type "function",none,.func (fz S_want_bits (Str.ofString "TermBank.want_bits") (.str (Str.ofString "minismt.terms") (nat_lit 337)) 653),#[]⟩:=by kernel_rfl
theorem cd_want_bits (P:Params):codeIn (K P) (.ref 653) (Str.ofString "TermBank.want_bits") = true:=by kernel_rfl
theorem kp_want_bits (P:Params):keepIn (K P) (.ref 654) = true:=isFn_keep (fn_want_bits P)
theorem if_want_bits (P:Params):isFn (K P) (.ref 654) = true:=by kernel_rfl
theorem bi_want_bits (v0 v1 v2:Value):bindArgs (fz S_want_bits (Str.ofString "TermBank.want_bits") (.str (Str.ofString "minismt.terms") (nat_lit 337)) 653) ⟨[v0,v1,v2],[]⟩ = pure [(Str.ofString "self",v0),(Str.ofString "t",v1),(Str.ofString "where",v2)]:=by kernel_rfl
theorem lo_want_bits (v0 v1 v2:Value):∀ y ∈ ([(Str.ofString "self",v0),(Str.ofString "t",v1),(Str.ofString "where",v2)]:List (PySem.Str × Value)),sc_want_bits.names.lookup y.1 = some .local:=by
  have h:(([(Str.ofString "self",v0),(Str.ofString "t",v1),(Str.ofString "where",v2)]:List (PySem.Str × Value)).all fun x => decide (sc_want_bits.names.lookup x.1 = some .local)) = true:=by kernel_rfl
  exact locs h
theorem ce_want_bits:∀ x ∈ sc_want_bits.names,x.2 ≠ .cell:=by decide +kernel
theorem sp_want_bits {prog:Program} {w:World} {v0 v1 v2:Value} {n:Led} {rem:Nat} {Post:Value → Led → Prop}
    (h:∀ Γ:Cx prog w sc_want_bits [],rem ≤ Γ.rem → T Γ (execs (stBody S_want_bits) Γ.env) (fun y => ([(Str.ofString "where",v2),(Str.ofString "t",v1),(Str.ofString "self",v0)]:List (PySem.Str × Value)).lookup y) n (poK Post)):Spec prog w 654 [v0,v1,v2] n (rem + 1) Post:=
  Spec.intro (fn_want_bits w.params) (cd_want_bits w.params) (fun s => BindsTo.of_eq (bi_want_bits v0 v1 v2)) (lo_want_bits v0 v1 v2) (by kernel_rfl) (by kernel_rfl) (by kernel_rfl) ce_want_bits h
theorem fi_want_bits (P:Params):findIn (K P) (.ref 734) "want_bits" = some (some (.ref 654)):=by kernel_rfl
theorem pg_want_bits (P:Params):plainGet (K P) 734 "want_bits" = true:=by kernel_rfl
theorem gl_want_bits (P:Params) (B:BA):getL "want_bits" (bankD P B) = some none:=by kernel_rfl
noncomputable def S_bv_num:Stmt:=(subP (stmP 33) 4)
noncomputable def sc_bv_num:Scope:=stScope S_bv_num
theorem fn_bv_num (P:Params):(K P).lookup 661 = some ⟨.type "function",none,.func (fz S_bv_num (Str.ofString "TermBank.bv_num") (.str (Str.ofString "minismt.terms") (nat_lit 337)) 660),#[]⟩:=by kernel_rfl
theorem cd_bv_num (P:Params):codeIn (K P) (.ref 660) (Str.ofString "TermBank.bv_num") = true:=by kernel_rfl
theorem kp_bv_num (P:Params):keepIn (K P) (.ref 661) = true:=isFn_keep (fn_bv_num P)
theorem if_bv_num (P:Params):isFn (K P) (.ref 661) = true:=by kernel_rfl
theorem bi_bv_num (v0 v1 v2:Value):bindArgs (fz S_bv_num (Str.ofString "TermBank.bv_num") (.str (Str.ofString "minismt.terms") (nat_lit 337)) 660) ⟨[v0,v1,v2],[]⟩ = pure [(Str.ofString "self",v0),(Str.ofString "value",v1),(Str.ofString "width",v2)]:=by kernel_rfl
theorem lo_bv_num (v0 v1 v2:Value):∀ y ∈ ([(Str.ofString "self",v0),(Str.ofString "value",v1),(Str.ofString "width",v2)]:List (PySem.Str × Value)),sc_bv_num.names.lookup y.1 = some .local:=by
  have h:(([(Str.ofString "self",v0),(Str.ofString "value",v1),(Str.ofString "width",v2)]:List (PySem.Str × Value)).all fun x => decide (sc_bv_num.names.lookup x.1 = some .local)) = true:=by kernel_rfl
  exact locs h
theorem ce_bv_num:∀ x ∈ sc_bv_num.names,x.2 ≠ .cell:=by decide +kernel
theorem sp_bv_num {prog:Program} {w:World} {v0 v1 v2:Value} {n:Led} {rem:Nat} {Post:Value → Led → Prop}
    (h:∀ Γ:Cx prog w sc_bv_num [],rem ≤ Γ.rem → T Γ (execs (stBody S_bv_num) Γ.env) (fun y => ([(Str.ofString "width",v2),(Str.ofString "value",v1),(Str.ofString "self",v0)]:List (PySem.Str × Value)).lookup y) n (poK Post)):Spec prog w 661 [v0,v1,v2] n (rem + 1) Post:=
  Spec.intro (fn_bv_num w.params) (cd_bv_num w.params) (fun s => BindsTo.of_eq (bi_bv_num v0 v1 v2)) (lo_bv_num v0 v1 v2) (by kernel_rfl) (by kernel_rfl) (by kernel_rfl) ce_bv_num h
theorem fi_bv_num (P:Params):findIn (K P) (.ref 734) "bv_num" = some (some (.ref 661)):=by kernel_rfl
theorem pg_bv_num (P:Params):plainGet (K P) 734 "bv_num" = true:=by kernel_rfl
theorem gl_bv_num (P:Params) (B:BA):getL "bv_num" (bankD P B) = some none:=by kernel_rfl
noncomputable def S_bv_one:Stmt:=(subP (stmP 33) 5)
noncomputable def sc_bv_one:Scope:=stScope S_bv_one
theorem fn_bv_one (P:Params):(K P).lookup 668 = some ⟨.type "function",none,.func (fz S_bv_one (Str.ofString "TermBank.bv_one") (.str (Str.ofString "minismt.terms") (nat_lit 337)) 667),#[]⟩:=by kernel_rfl
theorem cd_bv_one (P:Params):codeIn (K P) (.ref 667) (Str.ofString "TermBank.bv_one") = true:=by kernel_rfl
theorem kp_bv_one (P:Params):keepIn (K P) (.ref 668) = true:=isFn_keep (fn_bv_one P)
theorem if_bv_one (P:Params):isFn (K P) (.ref 668) = true:=by kernel_rfl
theorem bi_bv_one (v0 v1 v2:Value):bindArgs (fz S_bv_one (Str.ofString "TermBank.bv_one") (.str (Str.ofString "minismt.terms") (nat_lit 337)) 667) ⟨[v0,v1,v2],[]⟩ = pure [(Str.ofString "self",v0),(Str.ofString "op",v1),(Str.ofString "t",v2)]:=by kernel_rfl
theorem lo_bv_one (v0 v1 v2:Value):∀ y ∈ ([(Str.ofString "self",v0),(Str.ofString "op",v1),(Str.ofString "t",v2)]:List (PySem.Str × Value)),sc_bv_one.names.lookup y.1 = some .local:=by
  have h:(([(Str.ofString "self",v0),(Str.ofString "op",v1),(Str.ofString "t",v2)]:List (PySem.Str × Value)).all fun x => decide (sc_bv_one.names.lookup x.1 = some .local)) = true:=by kernel_rfl
  exact locs h
theorem ce_bv_one:∀ x ∈ sc_bv_one.names,x.2 ≠ .cell:=by decide +kernel
theorem sp_bv_one {prog:Program} {w:World} {v0 v1 v2:Value} {n:Led} {rem:Nat} {Post:Value → Led → Prop}
    (h:∀ Γ:Cx prog w sc_bv_one [],rem ≤ Γ.rem → T Γ (execs (stBody S_bv_one) Γ.env) (fun y => ([(Str.ofString "t",v2),(Str.ofString "op",v1),(Str.ofString "self",v0)]:List (PySem.Str × Value)).lookup y) n (poK Post)):Spec prog w 668 [v0,v1,v2] n (rem + 1) Post:=
  Spec.intro (fn_bv_one w.params) (cd_bv_one w.params) (fun s => BindsTo.of_eq (bi_bv_one v0 v1 v2)) (lo_bv_one v0 v1 v2) (by kernel_rfl) (by kernel_rfl) (by kernel_rfl) ce_bv_one h
theorem fi_bv_one (P:Params):findIn (K P) (.ref 734) "bv_one" = some (some (.ref 668)):=by kernel_rfl
theorem pg_bv_one (P:Params):plainGet (K P) 734 "bv_one" = true:=by kernel_rfl
theorem gl_bv_one (P:Params) (B:BA):getL "bv_one" (bankD P B) = some none:=by kernel_rfl
noncomputable def S_bv_two:Stmt:=(subP (stmP 33) 6)
noncomputable def sc_bv_two:Scope:=stScope S_bv_two
theorem fn_bv_two (P:Params):(K P).lookup 675 = some ⟨.type "function",none,.func (fz S_bv_two (Str.ofString "TermBank.bv_two") (.str (Str.ofString "minismt.terms") (nat_lit 337)) 674),#[]⟩:=by kernel_rfl
theorem cd_bv_two (P:Params):codeIn (K P) (.ref 674) (Str.ofString "TermBank.bv_two") = true:=by kernel_rfl
theorem kp_bv_two (P:Params):keepIn (K P) (.ref 675) = true:=isFn_keep (fn_bv_two P)
theorem if_bv_two (P:Params):isFn (K P) (.ref 675) = true:=by kernel_rfl
theorem bi_bv_two (v0 v1 v2 v3:Value):bindArgs (fz S_bv_two (Str.ofString "TermBank.bv_two") (.str (Str.ofString "minismt.terms") (nat_lit 337)) 674) ⟨[v0,v1,v2,v3],[]⟩ = pure [(Str.ofString "self",v0),(Str.ofString "op",v1),(Str.ofString "a",v2),(Str.ofString "b",v3)]:=by kernel_rfl
theorem lo_bv_two (v0 v1 v2 v3:Value):∀ y ∈ ([(Str.ofString "self",v0),(Str.ofString "op",v1),(Str.ofString "a",v2),(Str.ofString "b",v3)]:List (PySem.Str × Value)),sc_bv_two.names.lookup y.1 = some .local:=by
  have h:(([(Str.ofString "self",v0),(Str.ofString "op",v1),(Str.ofString "a",v2),(Str.ofString "b",v3)]:List (PySem.Str × Value)).all fun x => decide (sc_bv_two.names.lookup x.1 = some .local)) = true:=by kernel_rfl
  exact locs h
theorem ce_bv_two:∀ x ∈ sc_bv_two.names,x.2 ≠ .cell:=by decide +kernel
theorem sp_bv_two {prog:Program} {w:World} {v0 v1 v2 v3:Value} {n:Led} {rem:Nat} {Post:Value → Led → Prop}
    (h:∀ Γ:Cx prog w sc_bv_two [],rem ≤ Γ.rem → T Γ (execs (stBody S_bv_two) Γ.env) (fun y => ([(Str.ofString "b",v3),(Str.ofString "a",v2),(Str.ofString "op",v1),(Str.ofString "self",v0)]:List (PySem.Str × Value)).lookup y) n (poK Post)):Spec prog w 675 [v0,v1,v2,v3] n (rem + 1) Post:=
  Spec.intro (fn_bv_two w.params) (cd_bv_two w.params) (fun s => BindsTo.of_eq (bi_bv_two v0 v1 v2 v3)) (lo_bv_two v0 v1 v2 v3) (by kernel_rfl) (by kernel_rfl) (by kernel_rfl) ce_bv_two h
theorem fi_bv_two (P:Params):findIn (K P) (.ref 734) "bv_two" = some (some (.ref 675)):=by kernel_rfl
theorem pg_bv_two (P:Params):plainGet (K P) 734 "bv_two" = true:=by kernel_rfl
theorem gl_bv_two (P:Params) (B:BA):getL "bv_two" (bankD P B) = some none:=by kernel_rfl
noncomputable def S_concat:Stmt:=(subP (stmP 33) 7)
noncomputable def sc_concat:Scope:=stScope S_concat
theorem fn_concat (P:Params):(K P).lookup 682 = some ⟨.type "function",none,.func (fz S_concat (Str.ofString "TermBank.concat") (.str (Str.ofString "minismt.terms") (nat_lit 337)) 681),#[]⟩:=by kernel_rfl
theorem cd_concat (P:Params):codeIn (K P) (.ref 681) (Str.ofString "TermBank.concat") = true:=by kernel_rfl
theorem kp_concat (P:Params):keepIn (K P) (.ref 682) = true:=isFn_keep (fn_concat P)
theorem if_concat (P:Params):isFn (K P) (.ref 682) = true:=by kernel_rfl
theorem bi_concat (v0 v1 v2:Value):bindArgs (fz S_concat (Str.ofString "TermBank.concat") (.str (Str.ofString "minismt.terms") (nat_lit 337)) 681) ⟨[v0,v1,v2],[]⟩ = pure [(Str.ofString "self",v0),(Str.ofString "a",v1),(Str.ofString "b",v2)]:=by kernel_rfl
theorem lo_concat (v0 v1 v2:Value):∀ y ∈ ([(Str.ofString "self",v0),(Str.ofString "a",v1),(Str.ofString "b",v2)]:List (PySem.Str × Value)),sc_concat.names.lookup y.1 = some .local:=by
  have h:(([(Str.ofString "self",v0),(Str.ofString "a",v1),(Str.ofString "b",v2)]:List (PySem.Str × Value)).all fun x => decide (sc_concat.names.lookup x.1 = some .local)) = true:=by kernel_rfl
  exact locs h
theorem ce_concat:∀ x ∈ sc_concat.names,x.2 ≠ .cell:=by decide +kernel
theorem sp_concat {prog:Program} {w:World} {v0 v1 v2:Value} {n:Led} {rem:Nat} {Post:Value → Led → Prop}
    (h:∀ Γ:Cx prog w sc_concat [],rem ≤ Γ.rem → T Γ (execs (stBody S_concat) Γ.env) (fun y => ([(Str.ofString "b",v2),(Str.ofString "a",v1),(Str.ofString "self",v0)]:List (PySem.Str × Value)).lookup y) n (poK Post)):Spec prog w 682 [v0,v1,v2] n (rem + 1) Post:=
  Spec.intro (fn_concat w.params) (cd_concat w.params) (fun s => BindsTo.of_eq (bi_concat v0 v1 v2)) (lo_concat v0 v1 v2) (by kernel_rfl) (by kernel_rfl) (by kernel_rfl) ce_concat h
theorem fi_concat (P:Params):findIn (K P) (.ref 734) "concat" = some (some (.ref 682)):=by kernel_rfl
theorem pg_concat (P:Params):plainGet (K P) 734 "concat" = true:=by kernel_rfl
theorem gl_concat (P:Params) (B:BA):getL "concat" (bankD P B) = some none:=by kernel_rfl
noncomputable def S_extract:Stmt:=(subP (stmP 33) 8)
noncomputable def sc_extract:Scope:=stScope S_extract
theorem fn_extract (P:Params):(K P).lookup 689 = some ⟨.type "function",none,.func (fz S_extract (Str.ofString "TermBank.extract") (.str (Str.ofString "minismt.terms") (nat_lit 337)) 688),#[]⟩:=by kernel_rfl
theorem cd_extract (P:Params):codeIn (K P) (.ref 688) (Str.ofString "TermBank.extract") = true:=by kernel_rfl
theorem kp_extract (P:Params):keepIn (K P) (.ref 689) = true:=isFn_keep (fn_extract P)
theorem if_extract (P:Params):isFn (K P) (.ref 689) = true:=by kernel_rfl
theorem bi_extract (v0 v1 v2 v3:Value):bindArgs (fz S_extract (Str.ofString "TermBank.extract") (.str (Str.ofString "minismt.terms") (nat_lit 337)) 688) ⟨[v0,v1,v2,v3],[]⟩ = pure [(Str.ofString "self",v0),(Str.ofString "high",v1),(Str.ofString "low",v2),(Str.ofString "t",v3)]:=by kernel_rfl
theorem lo_extract (v0 v1 v2 v3:Value):∀ y ∈ ([(Str.ofString "self",v0),(Str.ofString "high",v1),(Str.ofString "low",v2),(Str.ofString "t",v3)]:List (PySem.Str × Value)),sc_extract.names.lookup y.1 = some .local:=by
  have h:(([(Str.ofString "self",v0),(Str.ofString "high",v1),(Str.ofString "low",v2),(Str.ofString "t",v3)]:List (PySem.Str × Value)).all fun x => decide (sc_extract.names.lookup x.1 = some .local)) = true:=by kernel_rfl
  exact locs h
theorem ce_extract:∀ x ∈ sc_extract.names,x.2 ≠ .cell:=by decide +kernel
theorem sp_extract {prog:Program} {w:World} {v0 v1 v2 v3:Value} {n:Led} {rem:Nat} {Post:Value → Led → Prop}
    (h:∀ Γ:Cx prog w sc_extract [],rem ≤ Γ.rem → T Γ (execs (stBody S_extract) Γ.env) (fun y => ([(Str.ofString "t",v3),(Str.ofString "low",v2),(Str.ofString "high",v1),(Str.ofString "self",v0)]:List (PySem.Str × Value)).lookup y) n (poK Post)):Spec prog w 689 [v0,v1,v2,v3] n (rem + 1) Post:=
  Spec.intro (fn_extract w.params) (cd_extract w.params) (fun s => BindsTo.of_eq (bi_extract v0 v1 v2 v3)) (lo_extract v0 v1 v2 v3) (by kernel_rfl) (by kernel_rfl) (by kernel_rfl) ce_extract h
theorem fi_extract (P:Params):findIn (K P) (.ref 734) "extract" = some (some (.ref 689)):=by kernel_rfl
theorem pg_extract (P:Params):plainGet (K P) 734 "extract" = true:=by kernel_rfl
theorem gl_extract (P:Params) (B:BA):getL "extract" (bankD P B) = some none:=by kernel_rfl
noncomputable def S_zero_extend:Stmt:=(subP (stmP 33) 9)
noncomputable def sc_zero_extend:Scope:=stScope S_zero_extend
theorem fn_zero_extend (P:Params):(K P).lookup 696 = some ⟨.type "function",none,.func (fz S_zero_extend (Str.ofString "TermBank.zero_extend") (.str (Str.ofString "minismt.terms") (nat_lit 337)) 695),#[]⟩:=by kernel_rfl
theorem cd_zero_extend (P:Params):codeIn (K P) (.ref 695) (Str.ofString "TermBank.zero_extend") = true:=by kernel_rfl
theorem kp_zero_extend (P:Params):keepIn (K P) (.ref 696) = true:=isFn_keep (fn_zero_extend P)
theorem if_zero_extend (P:Params):isFn (K P) (.ref 696) = true:=by kernel_rfl
theorem bi_zero_extend (v0 v1 v2:Value):bindArgs (fz S_zero_extend (Str.ofString "TermBank.zero_extend") (.str (Str.ofString "minismt.terms") (nat_lit 337)) 695) ⟨[v0,v1,v2],[]⟩ = pure [(Str.ofString "self",v0),(Str.ofString "many",v1),(Str.ofString "t",v2)]:=by kernel_rfl
theorem lo_zero_extend (v0 v1 v2:Value):∀ y ∈ ([(Str.ofString "self",v0),(Str.ofString "many",v1),(Str.ofString "t",v2)]:List (PySem.Str × Value)),sc_zero_extend.names.lookup y.1 = some .local:=by
  have h:(([(Str.ofString "self",v0),(Str.ofString "many",v1),(Str.ofString "t",v2)]:List (PySem.Str × Value)).all fun x => decide (sc_zero_extend.names.lookup x.1 = some .local)) = true:=by kernel_rfl
  exact locs h
theorem ce_zero_extend:∀ x ∈ sc_zero_extend.names,x.2 ≠ .cell:=by decide +kernel
theorem sp_zero_extend {prog:Program} {w:World} {v0 v1 v2:Value} {n:Led} {rem:Nat} {Post:Value → Led → Prop}
    (h:∀ Γ:Cx prog w sc_zero_extend [],rem ≤ Γ.rem → T Γ (execs (stBody S_zero_extend) Γ.env) (fun y => ([(Str.ofString "t",v2),(Str.ofString "many",v1),(Str.ofString "self",v0)]:List (PySem.Str × Value)).lookup y) n (poK Post)):Spec prog w 696 [v0,v1,v2] n (rem + 1) Post:=
  Spec.intro (fn_zero_extend w.params) (cd_zero_extend w.params) (fun s => BindsTo.of_eq (bi_zero_extend v0 v1 v2)) (lo_zero_extend v0 v1 v2) (by kernel_rfl) (by kernel_rfl) (by kernel_rfl) ce_zero_extend h
theorem fi_zero_extend (P:Params):findIn (K P) (.ref 734) "zero_extend" = some (some (.ref 696)):=by kernel_rfl
theorem pg_zero_extend (P:Params):plainGet (K P) 734 "zero_extend" = true:=by kernel_rfl
theorem gl_zero_extend (P:Params) (B:BA):getL "zero_extend" (bankD P B) = some none:=by kernel_rfl
noncomputable def S_sign_extend:Stmt:=(subP (stmP 33) 10)
noncomputable def sc_sign_extend:Scope:=stScope S_sign_extend
theorem fn_sign_extend (P:Params):(K P).lookup 703 = some ⟨.type "function",none,.func (fz S_sign_extend (Str.ofString "TermBank.sign_extend") (.str (Str.ofString "minismt.terms") (nat_lit 337)) 702),#[]⟩:=by kernel_rfl
theorem cd_sign_extend (P:Params):codeIn (K P) (.ref 702) (Str.ofString "TermBank.sign_extend") = true:=by kernel_rfl
theorem kp_sign_extend (P:Params):keepIn (K P) (.ref 703) = true:=isFn_keep (fn_sign_extend P)
theorem if_sign_extend (P:Params):isFn (K P) (.ref 703) = true:=by kernel_rfl
theorem bi_sign_extend (v0 v1 v2:Value):bindArgs (fz S_sign_extend (Str.ofString "TermBank.sign_extend") (.str (Str.ofString "minismt.terms") (nat_lit 337)) 702) ⟨[v0,v1,v2],[]⟩ = pure [(Str.ofString "self",v0),(Str.ofString "many",v1),(Str.ofString "t",v2)]:=by kernel_rfl
theorem lo_sign_extend (v0 v1 v2:Value):∀ y ∈ ([(Str.ofString "self",v0),(Str.ofString "many",v1),(Str.ofString "t",v2)]:List (PySem.Str × Value)),sc_sign_extend.names.lookup y.1 = some .local:=by
  have h:(([(Str.ofString "self",v0),(Str.ofString "many",v1),(Str.ofString "t",v2)]:List (PySem.Str × Value)).all fun x => decide (sc_sign_extend.names.lookup x.1 = some .local)) = true:=by kernel_rfl
  exact locs h
theorem ce_sign_extend:∀ x ∈ sc_sign_extend.names,x.2 ≠ .cell:=by decide +kernel
theorem sp_sign_extend {prog:Program} {w:World} {v0 v1 v2:Value} {n:Led} {rem:Nat} {Post:Value → Led → Prop}
    (h:∀ Γ:Cx prog w sc_sign_extend [],rem ≤ Γ.rem → T Γ (execs (stBody S_sign_extend) Γ.env) (fun y => ([(Str.ofString "t",v2),(Str.ofString "many",v1),(Str.ofString "self",v0)]:List (PySem.Str × Value)).lookup y) n (poK Post)):Spec prog w 703 [v0,v1,v2] n (rem + 1) Post:=
  Spec.intro (fn_sign_extend w.params) (cd_sign_extend w.params) (fun s => BindsTo.of_eq (bi_sign_extend v0 v1 v2)) (lo_sign_extend v0 v1 v2) (by kernel_rfl) (by kernel_rfl) (by kernel_rfl) ce_sign_extend h
theorem fi_sign_extend (P:Params):findIn (K P) (.ref 734) "sign_extend" = some (some (.ref 703)):=by kernel_rfl
theorem pg_sign_extend (P:Params):plainGet (K P) 734 "sign_extend" = true:=by kernel_rfl
theorem gl_sign_extend (P:Params) (B:BA):getL "sign_extend" (bankD P B) = some none:=by kernel_rfl
noncomputable def S_init:Stmt:=(subP (stmP 29) 0)
noncomputable def sc_init:Scope:=stScope S_init
theorem fn_init (P:Params):(K P).lookup 215 = some ⟨.type "function",none,.func (fz S_init (Str.ofString "Bank.__init__") (.str (Str.ofString "minismt.terms") (nat_lit 337)) 214),#[]⟩:=by kernel_rfl
theorem cd_init (P:Params):codeIn (K P) (.ref 214) (Str.ofString "Bank.__init__") = true:=by kernel_rfl
theorem kp_init (P:Params):keepIn (K P) (.ref 215) = true:=isFn_keep (fn_init P)
theorem if_init (P:Params):isFn (K P) (.ref 215) = true:=by kernel_rfl
theorem bi_init (v0:Value):bindArgs (fz S_init (Str.ofString "Bank.__init__") (.str (Str.ofString "minismt.terms") (nat_lit 337)) 214) ⟨[v0],[]⟩ = pure [(Str.ofString "self",v0)]:=by kernel_rfl
theorem lo_init (v0:Value):∀ y ∈ ([(Str.ofString "self",v0)]:List (PySem.Str × Value)),sc_init.names.lookup y.1 = some .local:=by
  have h:(([(Str.ofString "self",v0)]:List (PySem.Str × Value)).all fun x => decide (sc_init.names.lookup x.1 = some .local)) = true:=by kernel_rfl
  exact locs h
theorem ce_init:∀ x ∈ sc_init.names,x.2 ≠ .cell:=by decide +kernel
theorem sp_init {prog:Program} {w:World} {v0:Value} {n:Led} {rem:Nat} {Post:Value → Led → Prop}
    (h:∀ Γ:Cx prog w sc_init [],rem ≤ Γ.rem → T Γ (execs (stBody S_init) Γ.env) (fun y => ([(Str.ofString "self",v0)]:List (PySem.Str × Value)).lookup y) n (poK Post)):Spec prog w 215 [v0] n (rem + 1) Post:=
  Spec.intro (fn_init w.params) (cd_init w.params) (fun s => BindsTo.of_eq (bi_init v0)) (lo_init v0) (by kernel_rfl) (by kernel_rfl) (by kernel_rfl) ce_init h
noncomputable def S_declare_fun:Stmt:=(subP (stmP 29) 6)
noncomputable def sc_declare_fun:Scope:=stScope S_declare_fun
theorem fn_declare_fun (P:Params):(K P).lookup 257 = some ⟨.type "function",none,.func (fz S_declare_fun (Str.ofString "Bank.declare_fun") (.str (Str.ofString "minismt.terms") (nat_lit 337)) 256),#[]⟩:=by kernel_rfl
theorem cd_declare_fun (P:Params):codeIn (K P) (.ref 256) (Str.ofString "Bank.declare_fun") = true:=by kernel_rfl
theorem kp_declare_fun (P:Params):keepIn (K P) (.ref 257) = true:=isFn_keep (fn_declare_fun P)
theorem if_declare_fun (P:Params):isFn (K P) (.ref 257) = true:=by kernel_rfl
theorem bi_declare_fun (v0 v1 v2 v3:Value):bindArgs (fz S_declare_fun (Str.ofString "Bank.declare_fun") (.str (Str.ofString "minismt.terms") (nat_lit 337)) 256) ⟨[v0,v1,v2,v3],[]⟩ = pure [(Str.ofString "self",v0),(Str.ofString "name",v1),(Str.ofString "arg_sorts",v2),(Str.ofString "result",v3)]:=by kernel_rfl
theorem lo_declare_fun (v0 v1 v2 v3:Value):∀ y ∈ ([(Str.ofString "self",v0),(Str.ofString "name",v1),(Str.ofString "arg_sorts",v2),(Str.ofString "result",v3)]:List (PySem.Str × Value)),sc_declare_fun.names.lookup y.1 = some .local:=by
  have h:(([(Str.ofString "self",v0),(Str.ofString "name",v1),(Str.ofString "arg_sorts",v2),(Str.ofString "result",v3)]:List (PySem.Str × Value)).all fun x => decide (sc_declare_fun.names.lookup x.1 = some .local)) = true:=by kernel_rfl
  exact locs h
theorem ce_declare_fun:∀ x ∈ sc_declare_fun.names,x.2 ≠ .cell:=by decide +kernel
theorem sp_declare_fun {prog:Program} {w:World} {v0 v1 v2 v3:Value} {n:Led} {rem:Nat} {Post:Value → Led → Prop}
    (h:∀ Γ:Cx prog w sc_declare_fun [],rem ≤ Γ.rem → T Γ (execs (stBody S_declare_fun) Γ.env) (fun y => ([(Str.ofString "result",v3),(Str.ofString "arg_sorts",v2),(Str.ofString "name",v1),(Str.ofString "self",v0)]:List (PySem.Str × Value)).lookup y) n (poK Post)):Spec prog w 257 [v0,v1,v2,v3] n (rem + 1) Post:=
  Spec.intro (fn_declare_fun w.params) (cd_declare_fun w.params) (fun s => BindsTo.of_eq (bi_declare_fun v0 v1 v2 v3)) (lo_declare_fun v0 v1 v2 v3) (by kernel_rfl) (by kernel_rfl) (by kernel_rfl) ce_declare_fun h
theorem fi_declare_fun (P:Params):findIn (K P) (.ref 734) "declare_fun" = some (some (.ref 257)):=by kernel_rfl
theorem pg_declare_fun (P:Params):plainGet (K P) 734 "declare_fun" = true:=by kernel_rfl
theorem gl_declare_fun (P:Params) (B:BA):getL "declare_fun" (bankD P B) = some none:=by kernel_rfl
noncomputable def S_fresh_const:Stmt:=(subP (stmP 29) 8)
noncomputable def sc_fresh_const:Scope:=stScope S_fresh_const
theorem fn_fresh_const (P:Params):(K P).lookup 271 = some ⟨.type "function",none,.func (fz S_fresh_const (Str.ofString "Bank.fresh_const") (.str (Str.ofString "minismt.terms") (nat_lit 337)) 270),#[]⟩:=by kernel_rfl
theorem cd_fresh_const (P:Params):codeIn (K P) (.ref 270) (Str.ofString "Bank.fresh_const") = true:=by kernel_rfl
theorem kp_fresh_const (P:Params):keepIn (K P) (.ref 271) = true:=isFn_keep (fn_fresh_const P)
theorem if_fresh_const (P:Params):isFn (K P) (.ref 271) = true:=by kernel_rfl
theorem bi_fresh_const (v0 v1 v2:Value):bindArgs (fz S_fresh_const (Str.ofString "Bank.fresh_const") (.str (Str.ofString "minismt.terms") (nat_lit 337)) 270) ⟨[v0,v1,v2],[]⟩ = pure [(Str.ofString "self",v0),(Str.ofString "name",v1),(Str.ofString "s",v2)]:=by kernel_rfl
theorem lo_fresh_const (v0 v1 v2:Value):∀ y ∈ ([(Str.ofString "self",v0),(Str.ofString "name",v1),(Str.ofString "s",v2)]:List (PySem.Str × Value)),sc_fresh_const.names.lookup y.1 = some .local:=by
  have h:(([(Str.ofString "self",v0),(Str.ofString "name",v1),(Str.ofString "s",v2)]:List (PySem.Str × Value)).all fun x => decide (sc_fresh_const.names.lookup x.1 = some .local)) = true:=by kernel_rfl
  exact locs h
theorem ce_fresh_const:∀ x ∈ sc_fresh_const.names,x.2 ≠ .cell:=by decide +kernel
theorem sp_fresh_const {prog:Program} {w:World} {v0 v1 v2:Value} {n:Led} {rem:Nat} {Post:Value → Led → Prop}
    (h:∀ Γ:Cx prog w sc_fresh_const [],rem ≤ Γ.rem → T Γ (execs (stBody S_fresh_const) Γ.env) (fun y => ([(Str.ofString "s",v2),(Str.ofString "name",v1),(Str.ofString "self",v0)]:List (PySem.Str × Value)).lookup y) n (poK Post)):Spec prog w 271 [v0,v1,v2] n (rem + 1) Post:=
  Spec.intro (fn_fresh_const w.params) (cd_fresh_const w.params) (fun s => BindsTo.of_eq (bi_fresh_const v0 v1 v2)) (lo_fresh_const v0 v1 v2) (by kernel_rfl) (by kernel_rfl) (by kernel_rfl) ce_fresh_const h
theorem fi_fresh_const (P:Params):findIn (K P) (.ref 734) "fresh_const" = some (some (.ref 271)):=by kernel_rfl
theorem pg_fresh_const (P:Params):plainGet (K P) 734 "fresh_const" = true:=by kernel_rfl
theorem gl_fresh_const (P:Params) (B:BA):getL "fresh_const" (bankD P B) = some none:=by kernel_rfl
noncomputable def S_op:Stmt:=(subP (stmP 29) 13)
noncomputable def sc_op:Scope:=stScope S_op
theorem fn_op (P:Params):(K P).lookup 306 = some ⟨.type "function",none,.func (fz S_op (Str.ofString "Bank.op") (.str (Str.ofString "minismt.terms") (nat_lit 337)) 305),#[]⟩:=by kernel_rfl
theorem cd_op (P:Params):codeIn (K P) (.ref 305) (Str.ofString "Bank.op") = true:=by kernel_rfl
theorem kp_op (P:Params):keepIn (K P) (.ref 306) = true:=isFn_keep (fn_op P)
theorem if_op (P:Params):isFn (K P) (.ref 306) = true:=by kernel_rfl
theorem bi_op (v0 v1:Value):bindArgs (fz S_op (Str.ofString "Bank.op") (.str (Str.ofString "minismt.terms") (nat_lit 337)) 305) ⟨[v0,v1],[]⟩ = pure [(Str.ofString "self",v0),(Str.ofString "t",v1)]:=by kernel_rfl
theorem lo_op (v0 v1:Value):∀ y ∈ ([(Str.ofString "self",v0),(Str.ofString "t",v1)]:List (PySem.Str × Value)),sc_op.names.lookup y.1 = some .local:=by
  have h:(([(Str.ofString "self",v0),(Str.ofString "t",v1)]:List (PySem.Str × Value)).all fun x => decide (sc_op.names.lookup x.1 = some .local)) = true:=by kernel_rfl
  exact locs h
theorem ce_op:∀ x ∈ sc_op.names,x.2 ≠ .cell:=by decide +kernel
theorem sp_op {prog:Program} {w:World} {v0 v1:Value} {n:Led} {rem:Nat} {Post:Value → Led → Prop}
    (h:∀ Γ:Cx prog w sc_op [],rem ≤ Γ.rem → T Γ (execs (stBody S_op) Γ.env) (fun y => ([(Str.ofString "t",v1),(Str.ofString "self",v0)]:List (PySem.Str × Value)).lookup y) n (poK Post)):Spec prog w 306 [v0,v1] n (rem + 1) Post:=
  Spec.intro (fn_op w.params) (cd_op w.params) (fun s => BindsTo.of_eq (bi_op v0 v1)) (lo_op v0 v1) (by kernel_rfl) (by kernel_rfl) (by kernel_rfl) ce_op h
theorem fi_op (P:Params):findIn (K P) (.ref 734) "op" = some (some (.ref 306)):=by kernel_rfl
theorem pg_op (P:Params):plainGet (K P) 734 "op" = true:=by kernel_rfl
theorem gl_op (P:Params) (B:BA):getL "op" (bankD P B) = some none:=by kernel_rfl
noncomputable def S_args:Stmt:=(subP (stmP 29) 14)
noncomputable def sc_args:Scope:=stScope S_args
theorem fn_args (P:Params):(K P).lookup 313 = some ⟨.type "function",none,.func (fz S_args (Str.ofString "Bank.args") (.str (Str.ofString "minismt.terms") (nat_lit 337)) 312),#[]⟩:=by kernel_rfl
theorem cd_args (P:Params):codeIn (K P) (.ref 312) (Str.ofString "Bank.args") = true:=by kernel_rfl
theorem kp_args (P:Params):keepIn (K P) (.ref 313) = true:=isFn_keep (fn_args P)
theorem if_args (P:Params):isFn (K P) (.ref 313) = true:=by kernel_rfl
theorem bi_args (v0 v1:Value):bindArgs (fz S_args (Str.ofString "Bank.args") (.str (Str.ofString "minismt.terms") (nat_lit 337)) 312) ⟨[v0,v1],[]⟩ = pure [(Str.ofString "self",v0),(Str.ofString "t",v1)]:=by kernel_rfl
theorem lo_args (v0 v1:Value):∀ y ∈ ([(Str.ofString "self",v0),(Str.ofString "t",v1)]:List (PySem.Str × Value)),sc_args.names.lookup y.1 = some .local:=by
  have h:(([(Str.ofString "self",v0),(Str.ofString "t",v1)]:List (PySem.Str × Value)).all fun x => decide (sc_args.names.lookup x.1 = some .local)) = true:=by kernel_rfl
  exact locs h
theorem ce_args:∀ x ∈ sc_args.names,x.2 ≠ .cell:=by decide +kernel
theorem sp_args {prog:Program} {w:World} {v0 v1:Value} {n:Led} {rem:Nat} {Post:Value → Led → Prop}
    (h:∀ Γ:Cx prog w sc_args [],rem ≤ Γ.rem → T Γ (execs (stBody S_args) Γ.env) (fun y => ([(Str.ofString "t",v1),(Str.ofString "self",v0)]:List (PySem.Str × Value)).lookup y) n (poK Post)):Spec prog w 313 [v0,v1] n (rem + 1) Post:=
  Spec.intro (fn_args w.params) (cd_args w.params) (fun s => BindsTo.of_eq (bi_args v0 v1)) (lo_args v0 v1) (by kernel_rfl) (by kernel_rfl) (by kernel_rfl) ce_args h
theorem fi_args (P:Params):findIn (K P) (.ref 734) "args" = some (some (.ref 313)):=by kernel_rfl
theorem pg_args (P:Params):plainGet (K P) 734 "args" = true:=by kernel_rfl
theorem gl_args (P:Params) (B:BA):getL "args" (bankD P B) = some none:=by kernel_rfl
noncomputable def S_data:Stmt:=(subP (stmP 29) 16)
noncomputable def sc_data:Scope:=stScope S_data
theorem fn_data (P:Params):(K P).lookup 327 = some ⟨.type "function",none,.func (fz S_data (Str.ofString "Bank.data") (.str (Str.ofString "minismt.terms") (nat_lit 337)) 326),#[]⟩:=by kernel_rfl
theorem cd_data (P:Params):codeIn (K P) (.ref 326) (Str.ofString "Bank.data") = true:=by kernel_rfl
theorem kp_data (P:Params):keepIn (K P) (.ref 327) = true:=isFn_keep (fn_data P)
theorem if_data (P:Params):isFn (K P) (.ref 327) = true:=by kernel_rfl
theorem bi_data (v0 v1:Value):bindArgs (fz S_data (Str.ofString "Bank.data") (.str (Str.ofString "minismt.terms") (nat_lit 337)) 326) ⟨[v0,v1],[]⟩ = pure [(Str.ofString "self",v0),(Str.ofString "t",v1)]:=by kernel_rfl
theorem lo_data (v0 v1:Value):∀ y ∈ ([(Str.ofString "self",v0),(Str.ofString "t",v1)]:List (PySem.Str × Value)),sc_data.names.lookup y.1 = some .local:=by
  have h:(([(Str.ofString "self",v0),(Str.ofString "t",v1)]:List (PySem.Str × Value)).all fun x => decide (sc_data.names.lookup x.1 = some .local)) = true:=by kernel_rfl
  exact locs h
theorem ce_data:∀ x ∈ sc_data.names,x.2 ≠ .cell:=by decide +kernel
theorem sp_data {prog:Program} {w:World} {v0 v1:Value} {n:Led} {rem:Nat} {Post:Value → Led → Prop}
    (h:∀ Γ:Cx prog w sc_data [],rem ≤ Γ.rem → T Γ (execs (stBody S_data) Γ.env) (fun y => ([(Str.ofString "t",v1),(Str.ofString "self",v0)]:List (PySem.Str × Value)).lookup y) n (poK Post)):Spec prog w 327 [v0,v1] n (rem + 1) Post:=
  Spec.intro (fn_data w.params) (cd_data w.params) (fun s => BindsTo.of_eq (bi_data v0 v1)) (lo_data v0 v1) (by kernel_rfl) (by kernel_rfl) (by kernel_rfl) ce_data h
theorem fi_data (P:Params):findIn (K P) (.ref 734) "data" = some (some (.ref 327)):=by kernel_rfl
theorem pg_data (P:Params):plainGet (K P) 734 "data" = true:=by kernel_rfl
theorem gl_data (P:Params) (B:BA):getL "data" (bankD P B) = some none:=by kernel_rfl
noncomputable def S_width:Stmt:=(subP (stmP 29) 17)
noncomputable def sc_width:Scope:=stScope S_width
theorem fn_width (P:Params):(K P).lookup 334 = some ⟨.type "function",none,.func (fz S_width (Str.ofString "Bank.width") (.str (Str.ofString "minismt.terms") (nat_lit 337)) 333),#[]⟩:=by kernel_rfl
theorem cd_width (P:Params):codeIn (K P) (.ref 333) (Str.ofString "Bank.width") = true:=by kernel_rfl
theorem kp_width (P:Params):keepIn (K P) (.ref 334) = true:=isFn_keep (fn_width P)
theorem if_width (P:Params):isFn (K P) (.ref 334) = true:=by kernel_rfl
theorem bi_width (v0 v1:Value):bindArgs (fz S_width (Str.ofString "Bank.width") (.str (Str.ofString "minismt.terms") (nat_lit 337)) 333) ⟨[v0,v1],[]⟩ = pure [(Str.ofString "self",v0),(Str.ofString "t",v1)]:=by kernel_rfl
theorem lo_width (v0 v1:Value):∀ y ∈ ([(Str.ofString "self",v0),(Str.ofString "t",v1)]:List (PySem.Str × Value)),sc_width.names.lookup y.1 = some .local:=by
  have h:(([(Str.ofString "self",v0),(Str.ofString "t",v1)]:List (PySem.Str × Value)).all fun x => decide (sc_width.names.lookup x.1 = some .local)) = true:=by kernel_rfl
  exact locs h
theorem ce_width:∀ x ∈ sc_width.names,x.2 ≠ .cell:=by decide +kernel
theorem sp_width {prog:Program} {w:World} {v0 v1:Value} {n:Led} {rem:Nat} {Post:Value → Led → Prop}
    (h:∀ Γ:Cx prog w sc_width [],rem ≤ Γ.rem → T Γ (execs (stBody S_width) Γ.env) (fun y => ([(Str.ofString "t",v1),(Str.ofString "self",v0)]:List (PySem.Str × Value)).lookup y) n (poK Post)):Spec prog w 334 [v0,v1] n (rem + 1) Post:=
  Spec.intro (fn_width w.params) (cd_width w.params) (fun s => BindsTo.of_eq (bi_width v0 v1)) (lo_width v0 v1) (by kernel_rfl) (by kernel_rfl) (by kernel_rfl) ce_width h
theorem fi_width (P:Params):findIn (K P) (.ref 734) "width" = some (some (.ref 334)):=by kernel_rfl
theorem pg_width (P:Params):plainGet (K P) 734 "width" = true:=by kernel_rfl
theorem gl_width (P:Params) (B:BA):getL "width" (bankD P B) = some none:=by kernel_rfl
noncomputable def S_size:Stmt:=(subP (stmP 29) 18)
noncomputable def sc_size:Scope:=stScope S_size
theorem fn_size (P:Params):(K P).lookup 341 = some ⟨.type "function",none,.func (fz S_size (Str.ofString "Bank.size") (.str (Str.ofString "minismt.terms") (nat_lit 337)) 340),#[]⟩:=by kernel_rfl
theorem cd_size (P:Params):codeIn (K P) (.ref 340) (Str.ofString "Bank.size") = true:=by kernel_rfl
theorem kp_size (P:Params):keepIn (K P) (.ref 341) = true:=isFn_keep (fn_size P)
theorem if_size (P:Params):isFn (K P) (.ref 341) = true:=by kernel_rfl
theorem bi_size (v0:Value):bindArgs (fz S_size (Str.ofString "Bank.size") (.str (Str.ofString "minismt.terms") (nat_lit 337)) 340) ⟨[v0],[]⟩ = pure [(Str.ofString "self",v0)]:=by kernel_rfl
theorem lo_size (v0:Value):∀ y ∈ ([(Str.ofString "self",v0)]:List (PySem.Str × Value)),sc_size.names.lookup y.1 = some .local:=by
  have h:(([(Str.ofString "self",v0)]:List (PySem.Str × Value)).all fun x => decide (sc_size.names.lookup x.1 = some .local)) = true:=by kernel_rfl
  exact locs h
theorem ce_size:∀ x ∈ sc_size.names,x.2 ≠ .cell:=by decide +kernel
theorem sp_size {prog:Program} {w:World} {v0:Value} {n:Led} {rem:Nat} {Post:Value → Led → Prop}
    (h:∀ Γ:Cx prog w sc_size [],rem ≤ Γ.rem → T Γ (execs (stBody S_size) Γ.env) (fun y => ([(Str.ofString "self",v0)]:List (PySem.Str × Value)).lookup y) n (poK Post)):Spec prog w 341 [v0] n (rem + 1) Post:=
  Spec.intro (fn_size w.params) (cd_size w.params) (fun s => BindsTo.of_eq (bi_size v0)) (lo_size v0) (by kernel_rfl) (by kernel_rfl) (by kernel_rfl) ce_size h
theorem fi_size (P:Params):findIn (K P) (.ref 734) "size" = some (some (.ref 341)):=by kernel_rfl
theorem pg_size (P:Params):plainGet (K P) 734 "size" = true:=by kernel_rfl
theorem gl_size (P:Params) (B:BA):getL "size" (bankD P B) = some none:=by kernel_rfl
noncomputable def S_make:Stmt:=(subP (stmP 29) 19)
noncomputable def sc_make:Scope:=stScope S_make
theorem fn_make (P:Params):(K P).lookup 348 = some ⟨.type "function",none,.func (fz S_make (Str.ofString "Bank.make") (.str (Str.ofString "minismt.terms") (nat_lit 337)) 347),#[]⟩:=by kernel_rfl
theorem cd_make (P:Params):codeIn (K P) (.ref 347) (Str.ofString "Bank.make") = true:=by kernel_rfl
theorem kp_make (P:Params):keepIn (K P) (.ref 348) = true:=isFn_keep (fn_make P)
theorem if_make (P:Params):isFn (K P) (.ref 348) = true:=by kernel_rfl
theorem bi_make (v0 v1 v2 v3 v4:Value):bindArgs (fz S_make (Str.ofString "Bank.make") (.str (Str.ofString "minismt.terms") (nat_lit 337)) 347) ⟨[v0,v1,v2,v3,v4],[]⟩ = pure [(Str.ofString "self",v0),(Str.ofString "op",v1),(Str.ofString "args",v2),(Str.ofString "sort",v3),(Str.ofString "data",v4)]:=by kernel_rfl
theorem lo_make (v0 v1 v2 v3 v4:Value):∀ y ∈ ([(Str.ofString "self",v0),(Str.ofString "op",v1),(Str.ofString "args",v2),(Str.ofString "sort",v3),(Str.ofString "data",v4)]:List (PySem.Str × Value)),sc_make.names.lookup y.1 = some .local:=by
  have h:(([(Str.ofString "self",v0),(Str.ofString "op",v1),(Str.ofString "args",v2),(Str.ofString "sort",v3),(Str.ofString "data",v4)]:List (PySem.Str × Value)).all fun x => decide (sc_make.names.lookup x.1 = some .local)) = true:=by kernel_rfl
  exact locs h
theorem ce_make:∀ x ∈ sc_make.names,x.2 ≠ .cell:=by decide +kernel
theorem sp_make {prog:Program} {w:World} {v0 v1 v2 v3 v4:Value} {n:Led} {rem:Nat} {Post:Value → Led → Prop}
    (h:∀ Γ:Cx prog w sc_make [],rem ≤ Γ.rem → T Γ (execs (stBody S_make) Γ.env) (fun y => ([(Str.ofString "data",v4),(Str.ofString "sort",v3),(Str.ofString "args",v2),(Str.ofString "op",v1),(Str.ofString "self",v0)]:List (PySem.Str × Value)).lookup y) n (poK Post)):Spec prog w 348 [v0,v1,v2,v3,v4] n (rem + 1) Post:=
  Spec.intro (fn_make w.params) (cd_make w.params) (fun s => BindsTo.of_eq (bi_make v0 v1 v2 v3 v4)) (lo_make v0 v1 v2 v3 v4) (by kernel_rfl) (by kernel_rfl) (by kernel_rfl) ce_make h
theorem fi_make (P:Params):findIn (K P) (.ref 734) "make" = some (some (.ref 348)):=by kernel_rfl
theorem pg_make (P:Params):plainGet (K P) 734 "make" = true:=by kernel_rfl
theorem gl_make (P:Params) (B:BA):getL "make" (bankD P B) = some none:=by kernel_rfl
noncomputable def S_want:Stmt:=(subP (stmP 29) 22)
noncomputable def sc_want:Scope:=stScope S_want
theorem fn_want (P:Params):(K P).lookup 369 = some ⟨.type "function",none,.func (fz S_want (Str.ofString "Bank.want") (.str (Str.ofString "minismt.terms") (nat_lit 337)) 368),#[]⟩:=by kernel_rfl
theorem cd_want (P:Params):codeIn (K P) (.ref 368) (Str.ofString "Bank.want") = true:=by kernel_rfl
theorem kp_want (P:Params):keepIn (K P) (.ref 369) = true:=isFn_keep (fn_want P)
theorem if_want (P:Params):isFn (K P) (.ref 369) = true:=by kernel_rfl
theorem bi_want (v0 v1 v2 v3:Value):bindArgs (fz S_want (Str.ofString "Bank.want") (.str (Str.ofString "minismt.terms") (nat_lit 337)) 368) ⟨[v0,v1,v2,v3],[]⟩ = pure [(Str.ofString "self",v0),(Str.ofString "t",v1),(Str.ofString "s",v2),(Str.ofString "where",v3)]:=by kernel_rfl
theorem lo_want (v0 v1 v2 v3:Value):∀ y ∈ ([(Str.ofString "self",v0),(Str.ofString "t",v1),(Str.ofString "s",v2),(Str.ofString "where",v3)]:List (PySem.Str × Value)),sc_want.names.lookup y.1 = some .local:=by
  have h:(([(Str.ofString "self",v0),(Str.ofString "t",v1),(Str.ofString "s",v2),(Str.ofString "where",v3)]:List (PySem.Str × Value)).all fun x => decide (sc_want.names.lookup x.1 = some .local)) = true:=by kernel_rfl
  exact locs h
theorem ce_want:∀ x ∈ sc_want.names,x.2 ≠ .cell:=by decide +kernel
theorem sp_want {prog:Program} {w:World} {v0 v1 v2 v3:Value} {n:Led} {rem:Nat} {Post:Value → Led → Prop}
    (h:∀ Γ:Cx prog w sc_want [],rem ≤ Γ.rem → T Γ (execs (stBody S_want) Γ.env) (fun y => ([(Str.ofString "where",v3),(Str.ofString "s",v2),(Str.ofString "t",v1),(Str.ofString "self",v0)]:List (PySem.Str × Value)).lookup y) n (poK Post)):Spec prog w 369 [v0,v1,v2,v3] n (rem + 1) Post:=
  Spec.intro (fn_want w.params) (cd_want w.params) (fun s => BindsTo.of_eq (bi_want v0 v1 v2 v3)) (lo_want v0 v1 v2 v3) (by kernel_rfl) (by kernel_rfl) (by kernel_rfl) ce_want h
theorem fi_want (P:Params):findIn (K P) (.ref 734) "want" = some (some (.ref 369)):=by kernel_rfl
theorem pg_want (P:Params):plainGet (K P) 734 "want" = true:=by kernel_rfl
theorem gl_want (P:Params) (B:BA):getL "want" (bankD P B) = some none:=by kernel_rfl
noncomputable def S_true_term:Stmt:=(subP (stmP 29) 24)
noncomputable def sc_true_term:Scope:=stScope S_true_term
theorem fn_true_term (P:Params):(K P).lookup 383 = some ⟨.type "function",none,.func (fz S_true_term (Str.ofString "Bank.true_term") (.str (Str.ofString "minismt.terms") (nat_lit 337)) 382),#[]⟩:=by kernel_rfl
theorem cd_true_term (P:Params):codeIn (K P) (.ref 382) (Str.ofString "Bank.true_term") = true:=by kernel_rfl
theorem kp_true_term (P:Params):keepIn (K P) (.ref 383) = true:=isFn_keep (fn_true_term P)
theorem if_true_term (P:Params):isFn (K P) (.ref 383) = true:=by kernel_rfl
theorem bi_true_term (v0:Value):bindArgs (fz S_true_term (Str.ofString "Bank.true_term") (.str (Str.ofString "minismt.terms") (nat_lit 337)) 382) ⟨[v0],[]⟩ = pure [(Str.ofString "self",v0)]:=by kernel_rfl
theorem lo_true_term (v0:Value):∀ y ∈ ([(Str.ofString "self",v0)]:List (PySem.Str × Value)),sc_true_term.names.lookup y.1 = some .local:=by
  have h:(([(Str.ofString "self",v0)]:List (PySem.Str × Value)).all fun x => decide (sc_true_term.names.lookup x.1 = some .local)) = true:=by kernel_rfl
  exact locs h
theorem ce_true_term:∀ x ∈ sc_true_term.names,x.2 ≠ .cell:=by decide +kernel
theorem sp_true_term {prog:Program} {w:World} {v0:Value} {n:Led} {rem:Nat} {Post:Value → Led → Prop}
    (h:∀ Γ:Cx prog w sc_true_term [],rem ≤ Γ.rem → T Γ (execs (stBody S_true_term) Γ.env) (fun y => ([(Str.ofString "self",v0)]:List (PySem.Str × Value)).lookup y) n (poK Post)):Spec prog w 383 [v0] n (rem + 1) Post:=
  Spec.intro (fn_true_term w.params) (cd_true_term w.params) (fun s => BindsTo.of_eq (bi_true_term v0)) (lo_true_term v0) (by kernel_rfl) (by kernel_rfl) (by kernel_rfl) ce_true_term h
theorem fi_true_term (P:Params):findIn (K P) (.ref 734) "true_term" = some (some (.ref 383)):=by kernel_rfl
theorem pg_true_term (P:Params):plainGet (K P) 734 "true_term" = true:=by kernel_rfl
theorem gl_true_term (P:Params) (B:BA):getL "true_term" (bankD P B) = some none:=by kernel_rfl
noncomputable def S_false_term:Stmt:=(subP (stmP 29) 25)
noncomputable def sc_false_term:Scope:=stScope S_false_term
theorem fn_false_term (P:Params):(K P).lookup 390 = some ⟨.type "function",none,.func (fz S_false_term (Str.ofString "Bank.false_term") (.str (Str.ofString "minismt.terms") (nat_lit 337)) 389),#[]⟩:=by kernel_rfl
theorem cd_false_term (P:Params):codeIn (K P) (.ref 389) (Str.ofString "Bank.false_term") = true:=by kernel_rfl
theorem kp_false_term (P:Params):keepIn (K P) (.ref 390) = true:=isFn_keep (fn_false_term P)
theorem if_false_term (P:Params):isFn (K P) (.ref 390) = true:=by kernel_rfl
theorem bi_false_term (v0:Value):bindArgs (fz S_false_term (Str.ofString "Bank.false_term") (.str (Str.ofString "minismt.terms") (nat_lit 337)) 389) ⟨[v0],[]⟩ = pure [(Str.ofString "self",v0)]:=by kernel_rfl
theorem lo_false_term (v0:Value):∀ y ∈ ([(Str.ofString "self",v0)]:List (PySem.Str × Value)),sc_false_term.names.lookup y.1 = some .local:=by
  have h:(([(Str.ofString "self",v0)]:List (PySem.Str × Value)).all fun x => decide (sc_false_term.names.lookup x.1 = some .local)) = true:=by kernel_rfl
  exact locs h
theorem ce_false_term:∀ x ∈ sc_false_term.names,x.2 ≠ .cell:=by decide +kernel
theorem sp_false_term {prog:Program} {w:World} {v0:Value} {n:Led} {rem:Nat} {Post:Value → Led → Prop}
    (h:∀ Γ:Cx prog w sc_false_term [],rem ≤ Γ.rem → T Γ (execs (stBody S_false_term) Γ.env) (fun y => ([(Str.ofString "self",v0)]:List (PySem.Str × Value)).lookup y) n (poK Post)):Spec prog w 390 [v0] n (rem + 1) Post:=
  Spec.intro (fn_false_term w.params) (cd_false_term w.params) (fun s => BindsTo.of_eq (bi_false_term v0)) (lo_false_term v0) (by kernel_rfl) (by kernel_rfl) (by kernel_rfl) ce_false_term h
theorem fi_false_term (P:Params):findIn (K P) (.ref 734) "false_term" = some (some (.ref 390)):=by kernel_rfl
theorem pg_false_term (P:Params):plainGet (K P) 734 "false_term" = true:=by kernel_rfl
theorem gl_false_term (P:Params) (B:BA):getL "false_term" (bankD P B) = some none:=by kernel_rfl
noncomputable def S_rwinit:Stmt:=(subP (stmP 36) 0)
noncomputable def sc_rwinit:Scope:=stScope S_rwinit
theorem fn_rwinit (P:Params):(K P).lookup 750 = some ⟨.type "function",none,.func (fz S_rwinit (Str.ofString "BoolRewriter.__init__") (.str (Str.ofString "minismt.rewrite") (nat_lit 1139)) 749),#[]⟩:=by kernel_rfl
theorem cd_rwinit (P:Params):codeIn (K P) (.ref 749) (Str.ofString "BoolRewriter.__init__") = true:=by kernel_rfl
theorem kp_rwinit (P:Params):keepIn (K P) (.ref 750) = true:=isFn_keep (fn_rwinit P)
theorem if_rwinit (P:Params):isFn (K P) (.ref 750) = true:=by kernel_rfl
theorem bi_rwinit (v0 v1:Value):bindArgs (fz S_rwinit (Str.ofString "BoolRewriter.__init__") (.str (Str.ofString "minismt.rewrite") (nat_lit 1139)) 749) ⟨[v0,v1],[]⟩ = pure [(Str.ofString "self",v0),(Str.ofString "bank",v1)]:=by kernel_rfl
theorem lo_rwinit (v0 v1:Value):∀ y ∈ ([(Str.ofString "self",v0),(Str.ofString "bank",v1)]:List (PySem.Str × Value)),sc_rwinit.names.lookup y.1 = some .local:=by
  have h:(([(Str.ofString "self",v0),(Str.ofString "bank",v1)]:List (PySem.Str × Value)).all fun x => decide (sc_rwinit.names.lookup x.1 = some .local)) = true:=by kernel_rfl
  exact locs h
theorem ce_rwinit:∀ x ∈ sc_rwinit.names,x.2 ≠ .cell:=by decide +kernel
theorem sp_rwinit {prog:Program} {w:World} {v0 v1:Value} {n:Led} {rem:Nat} {Post:Value → Led → Prop}
    (h:∀ Γ:Cx prog w sc_rwinit [],rem ≤ Γ.rem → T Γ (execs (stBody S_rwinit) Γ.env) (fun y => ([(Str.ofString "bank",v1),(Str.ofString "self",v0)]:List (PySem.Str × Value)).lookup y) n (poK Post)):Spec prog w 750 [v0,v1] n (rem + 1) Post:=
  Spec.intro (fn_rwinit w.params) (cd_rwinit w.params) (fun s => BindsTo.of_eq (bi_rwinit v0 v1)) (lo_rwinit v0 v1) (by kernel_rfl) (by kernel_rfl) (by kernel_rfl) ce_rwinit h
noncomputable def S_cut_within:Stmt:=(subP (stmP 37) 17)
noncomputable def sc_cut_within:Scope:=stScope S_cut_within
theorem fn_cut_within (P:Params):(K P).lookup 999 = some ⟨.type "function",none,.func (fz S_cut_within (Str.ofString "BitsRewriter.cut_within") (.str (Str.ofString "minismt.rewrite") (nat_lit 1139)) 998),#[]⟩:=by kernel_rfl
theorem cd_cut_within (P:Params):codeIn (K P) (.ref 998) (Str.ofString "BitsRewriter.cut_within") = true:=by kernel_rfl
theorem kp_cut_within (P:Params):keepIn (K P) (.ref 999) = true:=isFn_keep (fn_cut_within P)
theorem if_cut_within (P:Params):isFn (K P) (.ref 999) = true:=by kernel_rfl
theorem bi_cut_within (v0 v1 v2 v3:Value):bindArgs (fz S_cut_within (Str.ofString "BitsRewriter.cut_within") (.str (Str.ofString "minismt.rewrite") (nat_lit 1139)) 998) ⟨[v0,v1,v2,v3],[]⟩ = pure [(Str.ofString "self",v0),(Str.ofString "high",v1),(Str.ofString "low",v2),(Str.ofString "a",v3)]:=by kernel_rfl
theorem lo_cut_within (v0 v1 v2 v3:Value):∀ y ∈ ([(Str.ofString "self",v0),(Str.ofString "high",v1),(Str.ofString "low",v2),(Str.ofString "a",v3)]:List (PySem.Str × Value)),sc_cut_within.names.lookup y.1 = some .local:=by
  have h:(([(Str.ofString "self",v0),(Str.ofString "high",v1),(Str.ofString "low",v2),(Str.ofString "a",v3)]:List (PySem.Str × Value)).all fun x => decide (sc_cut_within.names.lookup x.1 = some .local)) = true:=by kernel_rfl
  exact locs h
theorem ce_cut_within:∀ x ∈ sc_cut_within.names,x.2 ≠ .cell:=by decide +kernel
theorem sp_cut_within {prog:Program} {w:World} {v0 v1 v2 v3:Value} {n:Led} {rem:Nat} {Post:Value → Led → Prop}
    (h:∀ Γ:Cx prog w sc_cut_within [],rem ≤ Γ.rem → T Γ (execs (stBody S_cut_within) Γ.env) (fun y => ([(Str.ofString "a",v3),(Str.ofString "low",v2),(Str.ofString "high",v1),(Str.ofString "self",v0)]:List (PySem.Str × Value)).lookup y) n (poK Post)):Spec prog w 999 [v0,v1,v2,v3] n (rem + 1) Post:=
  Spec.intro (fn_cut_within w.params) (cd_cut_within w.params) (fun s => BindsTo.of_eq (bi_cut_within v0 v1 v2 v3)) (lo_cut_within v0 v1 v2 v3) (by kernel_rfl) (by kernel_rfl) (by kernel_rfl) ce_cut_within h
theorem hd_bank (P:Params):hasDictIn (K P) 734 = true:=by kernel_rfl
theorem at_names (P:Params):findIn (K P) (.ref 734) "sort_names" = some none:=by kernel_rfl
theorem pa_names (P:Params):plainGet (K P) 734 "sort_names" = true:=by kernel_rfl
theorem ga_names (P:Params) (B:BA):getL "sort_names" (bankD P B) = some (some (.ref B.names)):=by kernel_rfl
theorem at_widths (P:Params):findIn (K P) (.ref 734) "sort_widths" = some none:=by kernel_rfl
theorem pa_widths (P:Params):plainGet (K P) 734 "sort_widths" = true:=by kernel_rfl
theorem ga_widths (P:Params) (B:BA):getL "sort_widths" (bankD P B) = some (some (.ref B.widths)):=by kernel_rfl
theorem at_fnames (P:Params):findIn (K P) (.ref 734) "fun_names" = some none:=by kernel_rfl
theorem pa_fnames (P:Params):plainGet (K P) 734 "fun_names" = true:=by kernel_rfl
theorem ga_fnames (P:Params) (B:BA):getL "fun_names" (bankD P B) = some (some (.ref B.fnames)):=by kernel_rfl
theorem at_fargs (P:Params):findIn (K P) (.ref 734) "fun_args" = some none:=by kernel_rfl
theorem pa_fargs (P:Params):plainGet (K P) 734 "fun_args" = true:=by kernel_rfl
theorem ga_fargs (P:Params) (B:BA):getL "fun_args" (bankD P B) = some (some (.ref B.fargs)):=by kernel_rfl
theorem at_fres (P:Params):findIn (K P) (.ref 734) "fun_results" = some none:=by kernel_rfl
theorem pa_fres (P:Params):plainGet (K P) 734 "fun_results" = true:=by kernel_rfl
theorem ga_fres (P:Params) (B:BA):getL "fun_results" (bankD P B) = some (some (.ref B.fres)):=by kernel_rfl
theorem at_ops (P:Params):findIn (K P) (.ref 734) "term_ops" = some none:=by kernel_rfl
theorem pa_ops (P:Params):plainGet (K P) 734 "term_ops" = true:=by kernel_rfl
theorem ga_ops (P:Params) (B:BA):getL "term_ops" (bankD P B) = some (some (.ref B.ops)):=by kernel_rfl
theorem at_args (P:Params):findIn (K P) (.ref 734) "term_args" = some none:=by kernel_rfl
theorem pa_args (P:Params):plainGet (K P) 734 "term_args" = true:=by kernel_rfl
theorem ga_args (P:Params) (B:BA):getL "term_args" (bankD P B) = some (some (.ref B.args)):=by kernel_rfl
theorem at_sorts (P:Params):findIn (K P) (.ref 734) "term_sorts" = some none:=by kernel_rfl
theorem pa_sorts (P:Params):plainGet (K P) 734 "term_sorts" = true:=by kernel_rfl
theorem ga_sorts (P:Params) (B:BA):getL "term_sorts" (bankD P B) = some (some (.ref B.sorts)):=by kernel_rfl
theorem at_datas (P:Params):findIn (K P) (.ref 734) "term_datas" = some none:=by kernel_rfl
theorem pa_datas (P:Params):plainGet (K P) 734 "term_datas" = true:=by kernel_rfl
theorem ga_datas (P:Params) (B:BA):getL "term_datas" (bankD P B) = some (some (.ref B.datas)):=by kernel_rfl
theorem at_numbers (P:Params):findIn (K P) (.ref 734) "numbers" = some none:=by kernel_rfl
theorem pa_numbers (P:Params):plainGet (K P) 734 "numbers" = true:=by kernel_rfl
theorem ga_numbers (P:Params) (B:BA):getL "numbers" (bankD P B) = some (some (.ref B.numbers)):=by kernel_rfl
theorem at_bvn (P:Params):findIn (K P) (.ref 734) "bv_numbers" = some none:=by kernel_rfl
theorem pa_bvn (P:Params):plainGet (K P) 734 "bv_numbers" = true:=by kernel_rfl
theorem ga_bvn (P:Params) (B:BA):getL "bv_numbers" (bankD P B) = some (some (.ref B.bvn)):=by kernel_rfl
def upd (n:Led) (d:Addr) (o:Obj):Led:=(d,o) :: n.filter (fun p => p.1 != d)
theorem upd_self {n:Led} {d:Addr} {o:Obj}:(d,o) ∈ upd n d o:=.head _
theorem upd_keep {n:Led} {d a:Addr} {o b:Obj} (h:(a,b) ∈ n) (hne:a ≠ d):(a,b) ∈ upd n d o:=
  .tail _ (List.mem_filter.mpr ⟨h,by simpa using hne⟩)
def Fun (n:Led):Prop:=∀ a o o',(a,o) ∈ n → (a,o') ∈ n → o = o'
theorem News.fn {h₀ h:Heap} {L:Addr} {n:Led} (N:News h₀ L h n):Fun n:=fun a o o' h1 h2 => by
  have e1:=(N _ h1).1
  have e2:=(N _ h2).1
  rw [e1] at e2
  exact Option.some.inj e2
theorem Fun.ne {n:Led} (F:Fun n) {a b:Addr} {o o':Obj} (h1:(a,o) ∈ n) (h2:(b,o') ∈ n) (hne:o ≠ o'):a ≠ b:=by
  rintro rfl; exact hne (F _ _ _ h1 h2)
theorem ne_cls {o o':Obj} (h:o.cls ≠ o'.cls):o ≠ o':=fun e => h (e ▸ rfl)
theorem led_change {h₀ h h':Heap} {L d:Addr} {m:Loc} {n:Led} {o o':Obj} (F:Fr h₀ L h m) (N:News h₀ L h n) (hm:(d,o) ∈ n) (hs:Heap.SameBut d h h') (ho:h'.get? d = some o') :
    Fr h₀ L h' m ∧ News h₀ L h' (upd n d o'):=by
  have z:=N _ hm
  refine ⟨F.change hs z.2.1 z.2.2,fun p hp => ?_⟩
  rcases List.mem_cons.mp hp with rfl | hp
  · exact ⟨ho,z.2⟩
  · refine Xa (List.mem_filter.mp hp) fun h1 h2 => ?_
    have y:=N p h1
    exact ⟨(hs.2 p.1 (by simpa using h2)).trans y.1,y.2⟩
section
variable {prog:Program} {w:World} {cs:Scope} {cl:List (PySem.Str × Addr)} {α β:Type} {Γ:Cx prog w cs cl} {m:Loc} {n:Led}
theorem T.fn {t:Sem α} {P:α → Loc → Led → Prop} (h:Fun n → T Γ t m n P):T Γ t m n P:=fun s Q E F N q => h (News.fn N) s Q E F N q
theorem T.fn' {t:Sem α} {P:α → Loc → Led → Prop} (h:T Γ t m n (fun a m' n' => Fun n' → P a m' n')):T Γ t m n P:=fun s Q E F N q => h s Q E F N fun a m' n' h' tk' F' N' p => q a m' n' h' tk' F' N' (p (News.fn N'))
theorem T.sub {t:Sem α} {n':Led} {P:α → Loc → Led → Prop} (h:T Γ t m n' P) (hs:∀ p ∈ n',p ∈ n):T Γ t m n P:=fun s Q E F N q => h s Q E F (fun p hp => N p (hs p hp)) q
theorem Cx.lo (Γ:Cx prog w cs cl) {h:Heap} {m:Loc} (F:Fr Γ.h₀ Γ.L h m):3 < h.objs.size:=by
  refine Xeeea Γ.Tp.g fun o _ _ ho _ => ?_
  exact Heap.lt_size (F.keep _ _ ho)
variable {a b:Int} {t u:Tok} {P:Value → Loc → Led → Prop}
theorem t_add (h:∀ tk,P (.int (a + b) tk) m n):T Γ (binaryOp .Add (.int a t) (.int b u)) m n P:=fun s Q E F N q => add_int (q _ m n _ _ F N (h _))
theorem t_sub' (h:∀ tk,P (.int (a - b) tk) m n):T Γ (binaryOp .Sub (.int a t) (.int b u)) m n P:=fun s Q E F N q => sub_int (q _ m n _ _ F N (h _))
theorem t_mul (h:∀ tk,P (.int (a * b) tk) m n) (hm:IntMulOk a b):T Γ (binaryOp .Mult (.int a t) (.int b u)) m n P:=fun s Q E F N q => mul_int (q _ m n _ _ F N (h _)) hm
theorem t_div (hb:b ≠ 0) (ha:a.natAbs < 2 ^ 64) (h:∀ tk,P (.int (a.fdiv b) tk) m n) (hp:Builtin.divisionGoesByPylong a b = false):T Γ (binaryOp .FloorDiv (.int a t) (.int b u)) m n P:=fun s Q E F N q => floordiv_int hb (q _ m n _ _ F N (h _)) (.inl hp)
theorem t_eqI (h:P (.bool (a == b)) m n):T Γ (compareOp .Eq (.int a t) (.int b u)) m n P:=fun s Q E F N q => eq_int (q _ m n _ _ F N h)
theorem t_neI (h:P (.bool (a != b)) m n):T Γ (compareOp .NotEq (.int a t) (.int b u)) m n P:=fun s Q E F N q => ne_int (q _ m n _ _ F N h)
theorem t_ltI (h:P (.bool (decide (a < b))) m n):T Γ (compareOp .Lt (.int a t) (.int b u)) m n P:=fun s Q E F N q => lt_int (q _ m n _ _ F N h)
theorem t_leI (h:P (.bool (decide (a ≤ b))) m n):T Γ (compareOp .LtE (.int a t) (.int b u)) m n P:=fun s Q E F N q => le_int (q _ m n _ _ F N h)
theorem t_gtI (h:P (.bool (decide (a > b))) m n):T Γ (compareOp .Gt (.int a t) (.int b u)) m n P:=fun s Q E F N q => gt_int (q _ m n _ _ F N h)
theorem t_geI (h:P (.bool (decide (a ≥ b))) m n):T Γ (compareOp .GtE (.int a t) (.int b u)) m n P:=fun s Q E F N q => ge_int (q _ m n _ _ F N h)
theorem t_eqS {x y:PySem.Str} (h:P (.bool (decide (x = y))) m n):T Γ (compareOp .Eq (.str x t) (.str y u)) m n P:=fun s Q E F N q => eq_str (q _ m n _ _ F N h)
theorem t_truthB {c:Bool} {P:Bool → Loc → Led → Prop} (h:P c m n):T Γ (truthy (.bool c)) m n P:=fun s Q E F N q => wpAny_truthy_bool (q _ m n _ _ F N h)
theorem t_truthI {P:Bool → Loc → Led → Prop} (h:P (a != 0) m n):T Γ (truthy (.int a t)) m n P:=fun s Q E F N q => truthy_int (q _ m n _ _ F N h)
theorem t_callB {env:Env} {pos:Pos} {id:String} {first:List Value} {e:PySem.Expr} {rest:List PySem.Expr}
    (h:T Γ (spliced (backTo pos (starEach (e :: rest) env))) m n (bK Γ (fun vs => call (.builtin id) (first ++ vs)) P))
    (he:starEach (e :: rest) env = (false,eval e env) :: starEach rest env:=by rfl) (hplain:(backTo pos (starEach rest env)).any (·.1) = false:=by rfl) :
    T Γ (callWith pos (.builtin id) first (backTo pos (starEach (e :: rest) env)) []) m n P:=
  fun s Q E F N q => by
    have h':=h s _ E F N fun vs m1 n1 h1 tk1 F1 N1 p => p _ Q E F1 N1 q
    rw [he] at h' ⊢
    exact callWith_builtin (by show (false || (backTo pos (starEach rest env)).any (·.1)) = false; rw [hplain]; rfl) (evalArgs_plain h')
theorem t_len {l:Addr} {vs:List Value} {e:Nat} (hm:(l,listO vs e) ∈ n) (hz:vs.length < 2 ^ 62) (h:∀ tk,P (.int vs.length tk) m n):T Γ (call (.builtin "len") [.ref l]) m n P:=
  fun s Q E F N q => call_len_list (News.list N hm) (by simp; omega) (by simpa using q _ m n _ _ F N (h _))
theorem t_appendM {l:Addr} {vs:List Value} {e:Nat} {pl:Sem Bool} {P:Value × List Value → Loc → Led → Prop} (hm:(l,listO vs e) ∈ n) (h:P (.builtin "list.append",[.ref l]) m n):T Γ (getMethod (.ref l) "append" pl) m n P:=
  fun s Q E F N q => getMethod_append_N N hm (q _ m n _ _ F N h)
theorem t_append {l:Addr} {vs:List Value} {e:Nat} {x:Value} (hm:(l,listO vs e) ∈ n) (hz:vs.length < 2 ^ 20) (h:P .none m (upd n l (listO (vs ++ [x]) (e + 1)))):T Γ (call (.builtin "list.append") [.ref l,x]) m n P:=
  fun s Q E F N q => append_at (hsz:=by rw [sizeLine_eq]; simp; omega) (N _ hm).1 fun h' hs ho => by
    have ho':h'.get? l = some (listO (vs ++ [x]) (e + 1)):=by rw [ho]; simp [listO]
    refine Xa (led_change F N hm hs ho') fun F' N' => ?_
    exact q _ m _ _ _ F' N' h
theorem t_newTuple {vs:List Value} (hz:vs.length < 2 ^ 20) (h:∀ x,(∀ p ∈ n,p.1 < x) → 3 < x → P (.ref x) m ((x,tupO vs 0) :: n)):T Γ (newTuple vs) m n P:=
  fun s Q E F N q => newTuple_N F N (fun h' F' N' => q _ m _ _ _ F' N' (h _ (fun p hp => Heap.lt_size (N p hp).1) (Γ.lo F))) (by rw [sizeLine_eq]; omega)
theorem t_newList {vs:List Value} (hz:vs.length < 2 ^ 20) (h:∀ x,(∀ p ∈ n,p.1 < x) → 3 < x → P (.ref x) m ((x,listO vs 0) :: n)):T Γ (newList vs) m n P:=
  fun s Q E F N q => newList_N F N (fun h' F' N' => q _ m _ _ _ F' N' (h _ (fun p hp => Heap.lt_size (N p hp).1) (Γ.lo F))) (by rw [sizeLine_eq]; omega)
theorem t_tuple {env:Env} {elts:List PySem.Expr} {k:Nat} {pos:Pos} (h:T Γ (spliced (backTo pos (starEach elts env))) m n (bK Γ newTuple P)):T Γ (eval (.Tuple elts k pos) env) m n P:=
  fun s Q E F N q => Tuple_ (h s _ E F N fun vs m1 n1 h1 tk1 F1 N1 p => p _ Q E F1 N1 q)
theorem t_list {env:Env} {elts:List PySem.Expr} {pos:Pos} (h:T Γ (spliced (backTo pos (starEach elts env))) m n (bK Γ newList P)):T Γ (eval (.List elts pos) env) m n P:=
  fun s Q E F N q => List_ (h s _ E F N fun vs m1 n1 h1 tk1 F1 N1 p => p _ Q E F1 N1 q)
end
inductive All2 {α β:Type} (R:α → β → Prop):List α → List β → Prop
  | nil:All2 R [] []
  | cons {a b as bs}:R a b → All2 R as bs → All2 R (a :: as) (b :: bs)
theorem All2.length {α β:Type} {R:α → β → Prop} {as:List α} {bs:List β} (h:All2 R as bs):as.length = bs.length:=by
  induction h with
  | nil => rfl
  | cons _ _ ih => simp [ih]
theorem All2.get {α β:Type} {R:α → β → Prop} {as:List α} {bs:List β} (h:All2 R as bs):∀ {i:Nat} {a:α},as[i]? = some a → ∃ b,bs[i]? = some b ∧ R a b:=by
  induction h with
  | nil => intro i a h; simp at h
  | cons r _ ih =>
    intro i a h
    cases i with
    | zero => simp at h; subst h; exact ⟨_,rfl,r⟩
    | succ i => simp at h; refine Xea (ih h) fun b h1 h2 => ?_; exact ⟨b,by simpa using h1,h2⟩
theorem All2.get' {α β:Type} {R:α → β → Prop} {as:List α} {bs:List β} (h:All2 R as bs):∀ {i:Nat} {b:β},bs[i]? = some b → ∃ a,as[i]? = some a ∧ R a b:=by
  induction h with
  | nil => intro i a h; simp at h
  | cons r _ ih =>
    intro i a h
    cases i with
    | zero => simp at h; subst h; exact ⟨_,rfl,r⟩
    | succ i => simp at h; refine Xea (ih h) fun b h1 h2 => ?_; exact ⟨b,by simpa using h1,h2⟩
theorem All2.snoc {α β:Type} {R:α → β → Prop} {as:List α} {bs:List β} (h:All2 R as bs) {a:α} {b:β} (r:R a b):All2 R (as ++ [a]) (bs ++ [b]):=by
  induction h with
  | nil => exact .cons r .nil
  | cons r' _ ih => exact .cons r' ih
theorem All2.mono {α β:Type} {R R':α → β → Prop} {as:List α} {bs:List β} (h:All2 R as bs) (k:∀ a b,R a b → R' a b):All2 R' as bs:=by
  induction h with
  | nil => exact .nil
  | cons r' _ ih => exact .cons (k _ _ r') ih
theorem All2.append {α β:Type} {R:α → β → Prop} {as as':List α} {bs bs':List β} (h:All2 R as bs) (h':All2 R as' bs'):All2 R (as ++ as') (bs ++ bs'):=by
  induction h with
  | nil => exact h'
  | cons r' _ ih => exact .cons r' ih
def IsI (k:Int) (v:Value):Prop:=∃ t,v = .int k t
def IsS (x:PySem.Str) (v:Value):Prop:=∃ t,v = .str x t
inductive Dat where
  | i (k:Int)
  | p (h l:Int)
  deriving DecidableEq
structure Tm where
  op:PySem.Str
  args:List Int
  sort:Int
  data:Dat
  deriving DecidableEq
def IsT (n:Led) (xs:List Int) (v:Value):Prop:=∃ a us e,v = .ref a ∧ (a,tupO us e) ∈ n ∧ All2 IsI xs us
def IsD (n:Led):Dat → Value → Prop
  | .i k,v => IsI k v
  | .p h l,v => IsT n [h,l] v
structure BankIn (P:Params) (n:Led) (B:BA) (tms:List Tm) (ws:List Int):Prop where
  self:(B.self,instObj 734 B.dict) ∈ n
  dict:(B.dict,dictOf (bankD P B) B.ep) ∈ n
  ops:∃ vs e,(B.ops,listO vs e) ∈ n ∧ All2 (fun (t:Tm) v => IsS t.op v) tms vs
  args:∃ vs e,(B.args,listO vs e) ∈ n ∧ All2 (fun (t:Tm) v => IsT n t.args v) tms vs
  sorts:∃ vs e,(B.sorts,listO vs e) ∈ n ∧ All2 (fun (t:Tm) v => IsI t.sort v) tms vs
  datas:∃ vs e,(B.datas,listO vs e) ∈ n ∧ All2 (fun (t:Tm) v => IsD n t.data v) tms vs
  widths:∃ vs e,(B.widths,listO vs e) ∈ n ∧ All2 IsI ws vs
  small:tms.length < 1000
  smallw:ws.length < 1000
section
variable {prog:Program} {w:World} {n:Led} {B:BA} {tms:List Tm} {ws:List Int}
theorem op_spec (hb:BankIn w.params n B tms ws) {t:Nat} {tk:Tok} {τ:Tm} (ht:tms[t]? = some τ) :
    Spec prog w 306 [.ref B.self,.int t tk] n 1 (fun v n' => n' = n ∧ IsS τ.op v):=by
  refine Xeea hb.ops fun vs e hm hv => ?_
  refine Xea (hv.get ht) fun v hx hs => ?_
  refine sp_op (fun Γ hr => ?_)
  conv in (stBody S_op) => whnf
  refine t_execs_cons (t_ret (t_sub (t_attr (t_nameL rfl (t_getattr hb.self hb.dict (pa_ops _) (hd_bank _) (at_ops _) rfl (ga_ops _ _) rfl (t_nameL rfl (t_item_list hm (Int.natCast_nonneg _) (by simpa using hx) ⟨rfl,hs⟩ ?_)))))))
  have:=hb.small
  have:=(List.getElem?_eq_some_iff.mp ht).1
  omega
end
local macro_rules | `(tactic| walk_at "s") => do
  let mut xs : Array (Lean.TSyntax `tactic) := #[]
  for (k, ns) in ([(0, [`Mine.t_nameL]), (1, [`Mine.t_execs_cons, `Mine.t_execs_nil, `Mine.t_ret, `Mine.t_if, `Mine.t_none, `Mine.t_bool, `Mine.t_bin, `Mine.t_ifexp, `Mine.t_sub, `Mine.t_true_and, `Mine.t_true_and0, `Mine.t_true_or, `Mine.t_true_or0, `Mine.t_true_not, `Mine.t_args0, `Mine.t_tuple, `Mine.t_list, `Mine.t_eqI, `Mine.t_neI, `Mine.t_ltI, `Mine.t_leI, `Mine.t_gtI, `Mine.t_geI, `Mine.t_eqS, `Mine.t_truthB, `Mine.t_truthI]), (2, [`Mine.t_int, `Mine.t_str, `Mine.t_add, `Mine.t_sub']), (3, [`Mine.t_cmp, `Mine.t_true_cmp]), (4, [`Mine.t_attr]), (5, [`Mine.t_meth]), (6, [`Mine.t_call, `Mine.t_args1]), (7, [`Mine.t_assign, `Mine.t_expr]), (8, [`Mine.t_assignSub]), (9, [`Mine.t_ba_names, `Mine.t_ba_widths, `Mine.t_ba_fnames, `Mine.t_ba_fargs, `Mine.t_ba_fres, `Mine.t_ba_ops, `Mine.t_ba_args, `Mine.t_ba_sorts, `Mine.t_ba_datas, `Mine.t_ba_numbers, `Mine.t_ba_bvn, `Mine.t_bm_bv_sort, `Mine.t_bm_want_bits, `Mine.t_bm_bv_num, `Mine.t_bm_bv_one, `Mine.t_bm_bv_two, `Mine.t_bm_concat, `Mine.t_bm_extract, `Mine.t_bm_zero_extend, `Mine.t_bm_sign_extend, `Mine.t_bm_declare_fun, `Mine.t_bm_fresh_const, `Mine.t_bm_op, `Mine.t_bm_args, `Mine.t_bm_data, `Mine.t_bm_width, `Mine.t_bm_size, `Mine.t_bm_make, `Mine.t_bm_want, `Mine.t_appendM, `Mine.t_rw_bank, `Mine.t_rm_cut]), (10, [`Mine.t_cw_bv_sort, `Mine.t_cw_want_bits, `Mine.t_cw_bv_num, `Mine.t_cw_bv_one, `Mine.t_cw_bv_two, `Mine.t_cw_concat, `Mine.t_cw_extract, `Mine.t_cw_zero_extend, `Mine.t_cw_sign_extend, `Mine.t_cw_declare_fun, `Mine.t_cw_fresh_const, `Mine.t_cw_op, `Mine.t_cw_args, `Mine.t_cw_data, `Mine.t_cw_width, `Mine.t_cw_size, `Mine.t_cw_make, `Mine.t_cw_want, `Mine.t_cw_law_ladle, `Mine.t_cw_law_term, `Mine.t_cw_law_number, `Mine.t_cw_law_numbers, `Mine.t_cw_law_labels, `Mine.t_cw_law_due, `Mine.t_cw_law_is_cut_right, `Mine.t_cw_cut, `Mine.t_callT, `Mine.t_callB]), (11, [`Mine.t_n_len, `Mine.t_n_sum, `Mine.t_n_range, `Mine.t_n_tuple, `Mine.t_n_int, `Mine.t_n_BOOL, `Mine.t_n_WIDEST, `Mine.t_n_BV_SAME, `Mine.t_n_BV_ASK, `Mine.t_n_TermBank, `Mine.t_n_BitsRewriter, `Mine.t_n_law_ladle, `Mine.t_n_law_term, `Mine.t_n_law_number, `Mine.t_n_law_numbers, `Mine.t_n_law_labels, `Mine.t_n_law_due, `Mine.t_n_law_is_cut_right, `Mine.t_toName, `Mine.t_storeI]), (1, [`Mine.t_cw0_size, `Mine.t_neS, `Mine.t_joined, `Mine.t_fmt, `Mine.t_intInt, `Mine.t_inOrder, `Mine.t_inOrder0, `Mine.t_un, `Mine.ite_f, `Mine.ite_t]), (2, [`Mine.t_neg, `Mine.t_intBool]), (3, [`Mine.t_true_chain]), (12, [`Mine.t_link]), (13, [`Mine.t_last]), (14, [`Mine.none_ne])] : List (Nat × List Lean.Name)) do
    for n in ns do
      let i := Lean.mkIdent n
      xs := xs.push (← match k with
        | 0 => `(tactic| ((with_reducible refine' $i ?hv ?_ ?hx ?hd); (case hx => rfl); (case hd => decide +kernel); (case hv => exact rfl)))
        | 1 => `(tactic| (with_reducible refine $i ?_))
        | 2 => `(tactic| ((with_reducible refine $i ?_); intro _))
        | 3 => `(tactic| ((with_reducible refine $i ?_ ?hm); (case hm => with_unfolding_all rfl)))
        | 4 => `(tactic| ((with_reducible refine $i ?_ ?he); (case he => with_unfolding_all rfl)))
        | 5 => `(tactic| ((with_reducible refine $i (pl := ?pl) ?_ ?he); (case he => rfl)))
        | 9 => `(tactic| (with_reducible refine $i (by assumption) ?_))
        | 7 => `(tactic| ((with_reducible refine $i ?_ ?hs ?hx); (case hs => rfl); (case hx => rfl)))
        | 10 => `(tactic| ((with_reducible refine $i ?_ ?he ?hp); (case he => rfl); (case hp => rfl)))
        | 12 => `(tactic| ((with_reducible show T _ (testChain _ _ (_ :: _ :: _) _) _ _ _); refine $i ?_))
        | 13 => `(tactic| ((with_reducible show T _ (testChain _ _ [_] _) _ _ _); refine $i ?_))
        | 14 => `(tactic| (with_reducible refine And.intro $i ?_))
        | _ => `(tactic| ((with_reducible refine $i ?_ ?he); (case he => rfl))))
  `(tactic| first $[| $xs:tactic]*)
local macro_rules | `(tactic| walk_at "r") => `(tactic| repeat walk_at "s")
section
variable {prog:Program} {w:World} {n:Led} {B:BA} {tms:List Tm} {ws:List Int}
theorem args_spec (hb:BankIn w.params n B tms ws) {t:Nat} {tk:Tok} {τ:Tm} (ht:tms[t]? = some τ) :
    Spec prog w 313 [.ref B.self,.int t tk] n 1 (fun v n' => n' = n ∧ IsT n τ.args v):=by
  refine Xeea hb.args fun vs e hm hv => ?_
  refine Xea (hv.get ht) fun v hx hs => ?_
  have hz:=hb.small
  have hl:=(List.getElem?_eq_some_iff.mp ht).1
  refine sp_args (fun Γ hr => ?_)
  conv in (stBody S_args) => whnf
  iterate 5 walk_at "s"
  refine t_getattr hb.self hb.dict (pa_args _) (hd_bank _) (at_args _) rfl (ga_args _ _) rfl ?_
  walk_at "s"
  exact t_item_list hm (Int.natCast_nonneg _) (by simpa using hx) ⟨rfl,hs⟩ (by omega)
theorem data_spec (hb:BankIn w.params n B tms ws) {t:Nat} {tk:Tok} {τ:Tm} (ht:tms[t]? = some τ) :
    Spec prog w 327 [.ref B.self,.int t tk] n 1 (fun v n' => n' = n ∧ IsD n τ.data v):=by
  refine Xeea hb.datas fun vs e hm hv => ?_
  refine Xea (hv.get ht) fun v hx hs => ?_
  have hz:=hb.small
  have hl:=(List.getElem?_eq_some_iff.mp ht).1
  refine sp_data (fun Γ hr => ?_)
  conv in (stBody S_data) => whnf
  iterate 5 walk_at "s"
  refine t_getattr hb.self hb.dict (pa_datas _) (hd_bank _) (at_datas _) rfl (ga_datas _ _) rfl ?_
  walk_at "s"
  exact t_item_list hm (Int.natCast_nonneg _) (by simpa using hx) ⟨rfl,hs⟩ (by omega)
theorem width_spec (hb:BankIn w.params n B tms ws) {t:Nat} {tk:Tok} {τ:Tm} {k:Nat} {wd:Int} (ht:tms[t]? = some τ) (hk:τ.sort = k) (hw:ws[k]? = some wd) :
    Spec prog w 334 [.ref B.self,.int t tk] n 1 (fun v n' => n' = n ∧ IsI wd v):=by
  refine Xeea hb.sorts fun vs e hm hv => ?_
  refine Xeae (hv.get ht) fun v hx tk' z1_ => ?_; subst z1_
  refine Xeea hb.widths fun vs2 e2 hm2 hv2 => ?_
  refine Xea (hv2.get hw) fun v2 hx2 hs2 => ?_
  have hz:=hb.small
  have hz2:=hb.smallw
  have hl:=(List.getElem?_eq_some_iff.mp ht).1
  have hl2:=(List.getElem?_eq_some_iff.mp hw).1
  refine sp_width (fun Γ hr => ?_)
  conv in (stBody S_width) => whnf
  iterate 5 walk_at "s"
  refine t_getattr hb.self hb.dict (pa_widths _) (hd_bank _) (at_widths _) rfl (ga_widths _ _) rfl ?_
  iterate 3 walk_at "s"
  refine t_getattr hb.self hb.dict (pa_sorts _) (hd_bank _) (at_sorts _) rfl (ga_sorts _ _) rfl ?_
  walk_at "s"
  refine t_item_list hm (Int.natCast_nonneg _) (by simpa using hx) ?_ (by omega)
  rw [hk]
  exact t_item_list hm2 (Int.natCast_nonneg _) (by simpa using hx2) ⟨rfl,hs2⟩ (by omega)
theorem want_spec (hb:BankIn w.params n B tms ws) {t:Nat} {tk tk2:Tok} {τ:Tm} {k:Int} {x:Value} (ht:tms[t]? = some τ) (hk:τ.sort = k) :
    Spec prog w 369 [.ref B.self,.int t tk,.int k tk2,x] n 1 (fun v n' => n' = n ∧ v = .none):=by
  refine Xeea hb.sorts fun vs e hm hv => ?_
  refine Xeae (hv.get ht) fun v hx tk' z2_ => ?_; subst z2_
  have hz:=hb.small
  have hl:=(List.getElem?_eq_some_iff.mp ht).1
  refine sp_want (fun Γ hr => ?_)
  conv in (stBody S_want) => whnf
  iterate 6 walk_at "s"
  refine t_getattr hb.self hb.dict (pa_sorts _) (hd_bank _) (at_sorts _) rfl (ga_sorts _ _) rfl ?_
  walk_at "s"
  refine t_item_list hm (Int.natCast_nonneg _) (by simpa using hx) ?_ (by omega)
  rw [hk]
  iterate 3 walk_at "s"
  refine kF (by simp) ?_
  iterate 2 walk_at "s"
  exact ⟨rfl,rfl⟩
end
def Dat.isP:Dat → Bool
  | .i _ => false
  | .p _ _ => true
def Tm.wf (k:Tm):Prop:=k.data.isP = decide (k.op = Str.ofString "extract")
section
variable (prog:Program) (w:World)
abbrev iK:=intKind prog w
def datIs (h:Heap):Dat → Value → Prop
  | .i k,v => Value.isInt k v = true
  | .p x y,v => ∃ c,v = .ref c ∧ IsTupleKey (iK prog w) h [x,y] c
def datHash:Dat → Int
  | .i k => hashInt k
  | .p x y => tupleKeyHash (iK prog w) [x,y]
def datDraws:Dat → Nat
  | .i _ => 1
  | .p _ _ => 3
def keyIs (h:Heap) (k:Tm) (a:Addr):Prop:=
  ∃ o us e v0 b v2 v3,h.get? a = some o ∧ o.cls = .type "tuple" ∧ o.data = .seq us e ∧ us.toList = [v0,.ref b,v2,v3] ∧ Value.isStrOf k.op v0 = true ∧ IsTupleKey (iK prog w) h k.args b ∧ Value.isInt k.sort v2 = true ∧ datIs prog w h k.data v3 ∧ k.wf
def tmHash (k:Tm):Int:=reduceHash (Builtin.Tuple.tupleHashOf [hashStr w k.op,tupleKeyHash (iK prog w) k.args,hashInt k.sort,datHash prog w k.data])
def tmDraws (k:Tm):Nat:=1 + (k.args.length + 1) + 1 + datDraws k.data + 1
end
section
variable {prog:Program} {w:World} {A:Around} {E:Value → Shared → Prop} {s:Shared}
theorem datIs.keeps {h h':Heap} {d:Dat} {v:Value} {x:Addr} {o:Obj} {es ep} (y:datIs prog w h d v) (ho:h.get? x = some o) (hd:o.data = .dict es ep) (hs:Heap.SameBut x h h'):datIs prog w h' d v:=by
  cases d with
  | i k => exact y
  | p a b => refine Xea y ?_; clear y; intro c z1_ z; subst z1_; exact ⟨c,rfl,z.keeps ho hd hs⟩
theorem keyIs.keeps {h h':Heap} {k:Tm} {a d:Addr} {o:Obj} {es ep} (x:keyIs prog w h k a) (ho:h.get? d = some o) (hd:o.data = .dict es ep) (hs:Heap.SameBut d h h'):keyIs prog w h' k a:=by
  refine Xeeeeeeeaaaaaaaa x ?_; clear x; intro o' us e v0 b v2 v3 h1 h2 h3 h4 h5 h6 h7 h8 h9
  have hne:a ≠ d:=by
    rintro rfl
    rw [h1] at ho; cases ho
    rw [h3] at hd; cases hd
  exact ⟨o',us,e,v0,b,v2,v3,(hs.2 a hne).trans h1,h2,h3,h4,h5,h6.keeps ho hd hs,h7,h8.keeps ho hd hs,h9⟩
theorem datIs.inj {h:Heap} {d d':Dat} {v:Value} (x:datIs prog w h d v) (y:datIs prog w h d' v):d = d':=by
  cases d with
  | i k =>
    cases d' with
    | i k' => rw [Value.isInt_inj v k k' x y]
    | p a b => refine Xea y ?_; clear y; intro c z2_ _; subst z2_; simp [datIs,Value.isInt] at x
  | p a b =>
    refine Xea x ?_; clear x; intro c z3_ z; subst z3_
    cases d' with
    | i k' => simp [datIs,Value.isInt] at y
    | p a' b' =>
      refine Xea y ?_; clear y; intro c' e z'
      cases e
      have:=z.inj z'
      simp only [List.cons.injEq,and_true] at this
      rw [this.1,this.2]
theorem keyIs.inj {h:Heap} {a:Addr} {x y:Tm} (hx:keyIs prog w h x a) (hy:keyIs prog w h y a):x = y:=by
  refine Xeeeeeeeaaaaaaaa hx ?_; clear hx; intro o' us e v0 b v2 v3 h1 h2 h3 h4 h5 h6 h7 h8 h9
  refine Xeeeeeeeaaaaaaaa hy ?_; clear hy; intro o'' us' e' v0' b' v2' v3' g1 g2 g3 g4 g5 g6 g7 g8 g9
  rw [h1] at g1; cases g1
  rw [h3] at g3; cases g3
  rw [h4] at g4
  simp only [List.cons.injEq,Value.ref.injEq,and_true] at g4
  refine Xaaa g4 ?_; clear g4; intro z4_ z5_ z6_ z7_; subst z4_; subst z5_; subst z6_; subst z7_
  have e1:=Value.isStrOf_inj _ _ _ h5 g5
  have e2:=h6.inj g6
  have e3:=Value.isInt_inj _ _ _ h7 g7
  have e4:=h8.inj g8
  cases x; cases y
  simp_all
theorem dat_hash {d:Dat} {v:Value} {Q:Int → Shared → Prop} (hu:A.units < cLine) (x:datIs prog w s.heap d v) (h:Q (datHash prog w d) { s with toks:=s.toks + datDraws d }):wpAny (model prog w) A (pyHash v) Q E s:=by
  cases d with
  | i k => exact (iK prog w).pyHash x h
  | p a b => refine Xea x ?_; clear x; intro c z8_ z; subst z8_; exact wpAny_pyHash_tuple hu z h
theorem key_hash {k:Tm} {a:Addr} {Q:Int → Shared → Prop} (hu:A.units + 1 < cLine) (hk:keyIs prog w s.heap k a) (h:Q (tmHash prog w k) { s with toks:=s.toks + tmDraws k }) :
    wpAny (model prog w) A (pyHash (.ref a)) Q E s:=by
  refine Xeeeeeeeaaaaaaaa hk ?_; clear hk; intro o us e v0 b v2 v3 h1 h2 h3 h4 h5 h6 h7 h8 h9
  have hT:s.TypeIs (.ref a) "tuple":=⟨o,h1,h2⟩
  show wpAny (model prog w) A (pyHashByItsType (.ref a)) Q E s
  unfold pyHashByItsType
  refine wpAny_bind (wpAny_cRoomFor_or (.inr (by omega)) ?_)
  refine wpAny_bind (wpAny_specialOf hT F.slot_tuple_hash.lookup ?_)
  show wpAny _ _ (if (some (Value.builtin "tuple.__hash__") == some Value.none) = true then _ else _) Q E s
  rw [if_neg (by rw [beq_builtin_none]; exact Bool.false_ne_true)]
  refine wpAny_bind (wpAny_specialOf hT F.slot_tuple_hash.lookup ?_)
  show wpAny _ _ (callSpecialIfBoundUnlessNone? (.ref a) "__hash__" _ >>= _) Q E s
  refine wpAny_bind (wpAny_callSpecialIfBoundUnlessNone?_slot hT F.slot_tuple_hash (wpAny_call_entry F.slot_tuple_hash hT F.entry_tuple_hash ?_ (F.args_tuple_hash_1 _)))
  show wpAny _ _ (Builtin.Tuple.tupleItemsOf (.ref a) >>= _) _ _ s
  refine wpAny_bind (wpAny_tupleItemsOf h1 h3 ?_)
  refine wpAny_bind ?_
  rw [← Array.forIn_toList,h4]
  simp only [List.forIn_cons,List.forIn_nil]
  refine wpAny_bind (wpAny_bind ((strKind prog w).pyHash (k:=k.op) h5 ?_))
  first | refine wpAny_pure ?_ | refine wpAny_bind (wpAny_pure (wpAny_pure ?_))
  dsimp only
  refine wpAny_bind (wpAny_bind (wpAny_pyHash_tuple (by simp only [Around.in1_units]; omega) h6 ?_))
  first | refine wpAny_pure ?_ | refine wpAny_bind (wpAny_pure (wpAny_pure ?_))
  dsimp only
  refine wpAny_bind (wpAny_bind ((iK prog w).pyHash (k:=k.sort) h7 ?_))
  first | refine wpAny_pure ?_ | refine wpAny_bind (wpAny_pure (wpAny_pure ?_))
  dsimp only
  refine wpAny_bind (wpAny_bind (dat_hash (by simp only [Around.in1_units]; omega) h8 ?_))
  first | refine wpAny_pure ?_ | refine wpAny_bind (wpAny_pure (wpAny_pure ?_))
  dsimp only
  refine wpAny_pure ?_
  show wpAny _ _ (retInt (Builtin.Tuple.tupleHashOf [hashStr w k.op,tupleKeyHash (iK prog w) k.args,hashInt k.sort,datHash prog w k.data])) _ _ _
  refine wpAny_ret_mkInt ?_
  generalize hX:Builtin.Tuple.tupleHashOf [hashStr w k.op,tupleKeyHash (iK prog w) k.args,hashInt k.sort,datHash prog w k.data] = X
  have h':Q (reduceHash X) { s with toks:=s.toks + 1 + (k.args.length + 1) + 1 + datDraws k.data + 1 }:=by
    have e:tmDraws k = 1 + (k.args.length + 1) + 1 + datDraws k.data + 1:=rfl
    rw [← hX]
    have:s.toks + 1 + (k.args.length + 1) + 1 + datDraws k.data + 1 = s.toks + tmDraws k:=by rw [e]; omega
    rw [this]; exact h
  show wpAny _ _ (if (decide (-(2:Int) ^ 63 ≤ X) && decide (X < 2 ^ 63)) = true then _ else _) Q E _
  unfold reduceHash at h'
  by_cases hr:(decide (-(2:Int) ^ 63 ≤ X) && decide (X < 2 ^ 63)) = true
  · rw [if_pos hr]
    rw [if_pos hr] at h'
    exact wpAny_pure h'
  · rw [if_neg hr]
    rw [if_neg hr] at h'
    exact wpAny_bind (wpAny_rule (wpAny_pure h'))
theorem dat_eq {d d':Dat} {v v':Value} {Q:Bool → Shared → Prop} (hu:A.units < cLine) (x:datIs prog w s.heap d v) (y:datIs prog w s.heap d' v') (hp:d.isP = d'.isP) (h:Q (decide (d = d')) s):wpAny (model prog w) A (eqBool v v') Q E s:=by
  cases d with
  | i k =>
    cases d' with
    | i k' =>
      refine (iK prog w).eqBool x y ?_
      have e:decide (Dat.i k = Dat.i k') = decide (k = k'):=by simp
      rw [← e]; exact h
    | p a b => cases hp
  | p a b =>
    cases d' with
    | i k' => cases hp
    | p a' b' =>
      refine Xea x ?_; clear x; intro c z9_ z; subst z9_
      refine Xea y ?_; clear y; intro c' z10_ z'; subst z10_
      refine wpAny_eqBool_tuple hu z z' ?_
      have e:decide (Dat.p a b = Dat.p a' b') = decide ([a,b] = [a',b']):=by simp
      rw [← e]; exact h
theorem key_eq_tree {x y:Tm} {a b:Addr} {P:Fin → Shared → Prop} (hu:A.units < cLine) (hx:keyIs prog w s.heap x a) (hy:keyIs prog w s.heap y b) (h:P (.done (.ret (.bool (decide (x = y))))) s) :
    wpAny (model prog w) A (Builtin.«tuple.__eq__» ⟨[.ref a,.ref b],[]⟩) P E s:=by
  refine Xeeeeeeeaaaaaaaa hx ?_; clear hx; intro o us e v0 c v2 v3 h1 h2 h3 h4 h5 h6 h7 h8 h9
  refine Xeeeeeeeaaaaaaaa hy ?_; clear hy; intro o' us' e' v0' c' v2' v3' g1 g2 g3 g4 g5 g6 g7 g8 g9
  show wpAny _ _ (isInstance (.ref b) (.type "tuple") >>= _) _ _ s
  refine wpAny_bind (wpAny_isInstance ⟨o',g1,g2⟩ isSubtype_tuple_tuple ?_)
  simp only [Bool.not_true,Bool.false_eq_true,if_false]
  refine wpAny_bind (wpAny_tupleItemsOf h1 h3 ?_)
  refine wpAny_bind (wpAny_tupleItemsOf g1 g3 ?_)
  rw [h4,g4]
  have hsz:us.size = 4:=by rw [← Array.length_toList,h4]; rfl
  have gsz:us'.size = 4:=by rw [← Array.length_toList,g4]; rfl
  simp only [List.zip_cons_cons,List.zip_nil_right,List.forIn_cons,List.forIn_nil,hsz,gsz]
  refine wpAny_bind ?_
  refine wpAny_bind (wpAny_bind ((strKind prog w).eqBool (a:=x.op) (b:=y.op) h5 g5 ?_))
  by_cases q1:x.op = y.op
  case neg =>
    rw [decide_eq_false q1]
    rw [decide_eq_false (fun e => q1 (by rw [e]))] at h
    exact wpAny_bind (wpAny_pure (wpAny_pure (wpAny_pure (wpAny_pure h))))
  rw [decide_eq_true q1]
  refine wpAny_pure (wpAny_bind (wpAny_bind (wpAny_eqBool_tuple hu h6 g6 ?_)))
  by_cases q2:x.args = y.args
  case neg =>
    rw [decide_eq_false q2]
    rw [decide_eq_false (fun e => q2 (by rw [e]))] at h
    exact wpAny_bind (wpAny_pure (wpAny_pure (wpAny_pure (wpAny_pure h))))
  rw [decide_eq_true q2]
  refine wpAny_pure (wpAny_bind (wpAny_bind ((iK prog w).eqBool (a:=x.sort) (b:=y.sort) h7 g7 ?_)))
  by_cases q3:x.sort = y.sort
  case neg =>
    rw [decide_eq_false q3]
    rw [decide_eq_false (fun e => q3 (by rw [e]))] at h
    exact wpAny_bind (wpAny_pure (wpAny_pure (wpAny_pure (wpAny_pure h))))
  rw [decide_eq_true q3]
  refine wpAny_pure (wpAny_bind (wpAny_bind (dat_eq hu h8 g8 (by unfold Tm.wf at h9 g9; rw [h9,g9,q1]) ?_)))
  by_cases q4:x.data = y.data
  case neg =>
    rw [decide_eq_false q4]
    rw [decide_eq_false (fun e => q4 (by rw [e]))] at h
    exact wpAny_bind (wpAny_pure (wpAny_pure (wpAny_pure (wpAny_pure h))))
  rw [decide_eq_true q4]
  have hxy:x = y:=by cases x; cases y; simp_all
  rw [decide_eq_true hxy] at h
  exact wpAny_pure (wpAny_pure (wpAny_pure h))
theorem key_eq {x y:Tm} {a b:Addr} {Q:Bool → Shared → Prop} (hu:A.units + 1 < cLine) (hx:keyIs prog w s.heap x a) (hy:keyIs prog w s.heap y b) (h:Q (decide (x = y)) s) :
    wpAny (model prog w) A (eqBool (.ref a) (.ref b)) Q E s:=by
  have hTa:s.TypeIs (.ref a) "tuple":=by refine Xeeeeeeeaa hx ?_; clear hx; intro o us e v0 c v2 v3 h1 h2 _; exact ⟨o,h1,h2⟩
  have hTb:s.TypeIs (.ref b) "tuple":=by refine Xeeeeeeeaa hy ?_; clear hy; intro o us e v0 c v2 v3 h1 h2 _; exact ⟨o,h1,h2⟩
  unfold eqBool
  try with_reducible refine wpAny_holding ?_
  show wpAny _ _ (if (Value.ref a == Value.ref b) = true then _ else _) Q E s
  by_cases hab:(Value.ref a == Value.ref b) = true
  · rw [if_pos hab]
    have e:a = b:=by have:=eq_of_beq hab; injection this
    subst e
    obtain rfl:=keyIs.inj hx hy
    exact wpAny_bind (wpAny_rule (wpAny_pure (by simpa using h)))
  · rw [if_neg hab]
    exact wpAny_bind (wpAny_richCompare_same_room (op:=.Eq) hTa hTb F.slot_tuple_eq
      (wpAny_call_entry F.slot_tuple_eq hTa F.entry_tuple_eq (key_eq_tree (by simp only [Around.in1_units]; omega) hx hy ⟨_,rfl,(fun e => nomatch e),wpAny_truthy_bool h⟩) (F.args_tuple_eq_2 _ _)) (by omega))
theorem tup_quiet {ks:List Int} {a:Addr} {d:Nat} {Q:Bool → Shared → Prop} (hk:IsTupleKey (iK prog w) s.heap ks a) (h:Q true s):wpAny (model prog w) A (eqIsQuiet (d + 1) (.ref a)) Q E s:=by
  have hT:=hk.typeIs
  refine Xeeeaaa hk ?_; clear hk; intro o items n ho _ hd hi
  unfold eqIsQuiet
  refine wpAny_bind (wpAny_specialOf hT F.slot_tuple_eq.lookup ?_)
  show wpAny _ _ (isInstance (.ref a) (.type "tuple") >>= _) _ _ s
  refine wpAny_bind (wpAny_isInstance hT isSubtype_tuple_tuple ?_)
  simp only [Bool.not_true,Bool.false_eq_true,if_false]
  refine wpAny_bind (wpAny_seqItems ho hd ?_)
  refine wpAny_bind ?_
  show wpAny _ _ (forIn items _ _) _ _ s
  rw [← Array.forIn_toList]
  refine wpAny_forIn_list _ (fun rest r s' => r.1 = none ∧ s' = s ∧ ∀ v ∈ rest,carriedByValue v = true) _ ?_ ?_ _ _ ⟨rfl,rfl,hi.byValue⟩
  · rintro v rest r s' ⟨hr,rfl,hall⟩
    rw [eqIsQuiet_byValue _ (hall v List.mem_cons_self)]
    refine wpAny_bind (wpAny_pure ?_)
    simp only [Bool.not_true,Bool.false_eq_true,if_false]
    exact wpAny_pure ⟨rfl,rfl,fun u hu' => hall u (List.mem_cons_of_mem _ hu')⟩
  · rintro ⟨r1,r2⟩ s' ⟨hr,rfl,_⟩
    simp only at hr
    subst hr
    exact wpAny_pure h
theorem key_quiet {k:Tm} {a:Addr} {Q:Bool → Shared → Prop} (hk:keyIs prog w s.heap k a) (h:Q true s):wpAny (model prog w) A (eqIsQuiet 8 (.ref a)) Q E s:=by
  refine Xeeeeeeeaaaaaaaa hk ?_; clear hk; intro o us e v0 c v2 v3 h1 h2 h3 h4 h5 h6 h7 h8 h9
  have hT:s.TypeIs (.ref a) "tuple":=⟨o,h1,h2⟩
  have c0:carriedByValue v0 = true:=(strKind prog w).byValue _ _ h5
  have c2:carriedByValue v2 = true:=(iK prog w).byValue _ _ h7
  unfold eqIsQuiet
  refine wpAny_bind (wpAny_specialOf hT F.slot_tuple_eq.lookup ?_)
  show wpAny _ _ (isInstance (.ref a) (.type "tuple") >>= _) _ _ s
  refine wpAny_bind (wpAny_isInstance hT isSubtype_tuple_tuple ?_)
  simp only [Bool.not_true,Bool.false_eq_true,if_false]
  refine wpAny_bind (wpAny_seqItems h1 h3 ?_)
  refine wpAny_bind ?_
  show wpAny _ _ (forIn us _ _) _ _ s
  rw [← Array.forIn_toList,h4]
  refine wpAny_forIn_list _ (fun rest r s' => r.1 = none ∧ s' = s ∧ ∀ v ∈ rest,carriedByValue v = true ∨ ∃ b ks,v = .ref b ∧ IsTupleKey (iK prog w) s.heap ks b) _ ?_ ?_ _ _ ⟨rfl,rfl,?_⟩
  · rintro v rest r s' ⟨hr,rfl,hall⟩
    have fin:wpAny (model prog w) A (eqIsQuiet 7 v) (fun x s₂ => x = true ∧ s₂ = s') E s':=by
      rcases hall v List.mem_cons_self with hv | ⟨b,ks,rfl,hb⟩
      · rw [eqIsQuiet_byValue _ hv]; exact wpAny_pure ⟨rfl,rfl⟩
      · exact tup_quiet hb ⟨rfl,rfl⟩
    refine wpAny_bind (wpAny_mono fin ?_ fun _ _ e => e)
    rintro x s₂ ⟨rfl,rfl⟩
    simp only [Bool.not_true,Bool.false_eq_true,if_false]
    exact wpAny_pure ⟨rfl,rfl,fun u hu' => hall u (List.mem_cons_of_mem _ hu')⟩
  · rintro ⟨r1,r2⟩ s' ⟨hr,rfl,_⟩
    simp only at hr
    subst hr
    exact wpAny_pure h
  · intro v hv
    simp only [List.mem_cons,List.not_mem_nil,or_false] at hv
    rcases hv with rfl | rfl | rfl | rfl
    · exact .inl c0
    · exact .inr ⟨_,_,rfl,h6⟩
    · exact .inl c2
    · cases hd:k.data with
      | i z => rw [hd] at h8; exact .inl ((iK prog w).byValue _ _ h8)
      | p z z' => rw [hd] at h8; refine Xea h8 ?_; clear h8; intro c' z11_ y; subst z11_; exact .inr ⟨_,_,rfl,y⟩
end
noncomputable def tmKind (prog:Program) (w:World):HeapKind prog w Tm where
  is:=keyIs prog w
  hash:=tmHash prog w
  draws:=tmDraws
  room:=fun A => A.units + 1 < cLine
  inj:=fun hx hy => keyIs.inj hx hy
  keeps:=fun x ho hd hs => keyIs.keeps x ho hd hs
  pyHash:=fun hu hk h => key_hash hu hk h
  eqBool:=fun hu hx hy h => key_eq hu hx hy h
  quiet:=fun hk h => key_quiet hk h
abbrev dictO (es:Array DictEntry) (ep:Nat):Obj:={ cls:=.type "dict",data:=.dict es ep }
theorem dictO_of {o:Obj} {es:Array DictEntry} {ep:Nat} (h:o.ExactDict) (hd:o.data = .dict es ep):o = dictO es ep:=by
  obtain ⟨c,d,dt,sl⟩:=o
  refine Xaa h ?_; clear h; intro h1 h2 h3
  simp only at h1 h2 h3 hd
  subst h1 h2 h3 hd
  rfl
def IsK (n:Led) (xs:List Int) (b:Addr):Prop:=∃ us e,(b,tupO us e) ∈ n ∧ All2 IsI xs us
def keyIn (n:Led) (k:Tm) (a:Addr):Prop:=∃ v0 b v2 v3 e,(a,tupO [v0,.ref b,v2,v3] e) ∈ n ∧ IsS k.op v0 ∧ IsK n k.args b ∧ IsI k.sort v2 ∧ IsD n k.data v3 ∧ k.wf
def IDict (prog:Program) (w:World) (n:Led) (d:Addr) (kvs:List (Int × Value)):Prop:=
  d ≠ 1 ∧ ∃ es ep,(d,dictO es ep) ∈ n ∧ KeysOf (iK prog w) es ∧ Pairs (iK prog w) es.toList kvs ∧ (kvs.map (·.1)).Nodup
def KDict (prog:Program) (w:World) (n:Led) (d:Addr) (xs:List (Tm × Addr × Value)):Prop:=
  d ≠ 1 ∧ ∃ es ep,(d,dictO es ep) ∈ n ∧ es.toList = xs.map (entryOfKey (tmKind prog w)) ∧ (∀ x ∈ xs,keyIn n x.1 x.2.1) ∧ (xs.map (·.1)).Nodup
section
variable {prog:Program} {w:World} {h₀ h:Heap} {L:Addr} {n:Led}
theorem isI_int {k:Int} {v:Value} (h:IsI k v):Value.isInt k v = true:=by refine Xe h ?_; clear h; intro t z1_; subst z1_; simp [Value.isInt]
theorem isS_str {k:PySem.Str} {v:Value} (h:IsS k v):Value.isStrOf k v = true:=by refine Xe h ?_; clear h; intro t z2_; subst z2_; simp [Value.isStrOf]
theorem items_of {xs:List Int} {us:List Value} (h:All2 IsI xs us):ItemsAre (iK prog w) xs us:=by
  induction h with
  | nil => exact .nil
  | cons r _ ih => exact .cons (isI_int r) ih
theorem IsK.tup (N:News h₀ L h n) {xs:List Int} {b:Addr} (x:IsK n xs b):IsTupleKey (iK prog w) h xs b:=by
  refine Xeea x ?_; clear x; intro us e hm hv
  exact ⟨_,us.toArray,e,(N _ hm).1,rfl,rfl,by simpa using items_of hv⟩
theorem IsD.dat (N:News h₀ L h n) {d:Dat} {v:Value} (x:IsD n d v):datIs prog w h d v:=by
  cases d with
  | i k => exact isI_int x
  | p a b => refine Xeeeaa x ?_; clear x; intro c us e z3_ hm hv; subst z3_; exact ⟨c,rfl,IsK.tup N ⟨us,e,hm,hv⟩⟩
theorem keyIn.is (N:News h₀ L h n) {k:Tm} {a:Addr} (x:keyIn n k a):keyIs prog w h k a:=by
  refine Xeeeeeaaaaa x ?_; clear x; intro v0 b v2 v3 e hm h1 h2 h3 h4 h5
  exact ⟨_,_,e,v0,b,v2,v3,(N _ hm).1,rfl,rfl,rfl,isS_str h1,IsK.tup N h2,isI_int h3,IsD.dat N h4,h5⟩
theorem IDict.at (N:News h₀ L h n) {d:Addr} {kvs:List (Int × Value)} (x:IDict prog w n d kvs):h.DictOf (iK prog w) d kvs:=by
  refine Xaeeaaa x ?_; clear x; intro _ es ep hm h1 h2 h3
  exact ⟨_,es,ep,(N _ hm).1,⟨rfl,rfl,rfl⟩,rfl,h1,h2,h3⟩
theorem KDict.at (N:News h₀ L h n) {d:Addr} {xs:List (Tm × Addr × Value)} (x:KDict prog w n d xs):h.DictOfH (tmKind prog w) d xs:=by
  refine Xaeeaaa x ?_; clear x; intro _ es ep hm h1 h2 h3
  exact ⟨_,es,ep,(N _ hm).1,⟨rfl,rfl,rfl⟩,rfl,h1,fun y hy => (h2 y hy).is N,h3⟩
theorem sys_ne {d:Addr} (h:d ≠ 1):(d == sysModules) = false:=by
  have:sysModules = 1:=rfl
  rw [this]; simpa using h
end
section
variable {prog:Program} {w:World} {cs:Scope} {cl:List (PySem.Str × Addr)} {α β:Type} {Γ:Cx prog w cs cl} {m:Loc} {n:Led} {P:Value → Loc → Led → Prop}
theorem t_getM {d:Addr} {es:Array DictEntry} {ep:Nat} {pl:Sem Bool} {P:Value × List Value → Loc → Led → Prop} (hm:(d,dictO es ep) ∈ n) (h:P (.builtin "dict.get",[.ref d]) m n):T Γ (getMethod (.ref d) "get" pl) m n P:=
  fun s Q E F N q => getMethod_builtin (T:="dict") ⟨_,(N _ hm).1,rfl⟩ PySem.F.plainAttrs_dict PySem.F.slot_dict_get PySem.F.type_dict_get (fun a e => by cases e; exact ⟨_,(N _ hm).1,rfl⟩) (q _ m n _ _ F N h)
theorem t_dget {d a:Addr} {xs:List (Tm × Addr × Value)} {k:Tm} {dflt:Value} (hd:KDict prog w n d xs) (hk:keyIn n k a) (h:P (((atKey xs k).map (·.2)).getD dflt) m n) :
    T Γ (call (.builtin "dict.get") [.ref d,.ref a,dflt]) m n P:=
  fun s Q E F N q => by
    have hu:=Γ.u8
    have hT:s.TypeIs (.ref d) "dict":=by refine Xaeea hd ?_; clear hd; intro _ es ep hm _; exact ⟨_,(N _ hm).1,rfl⟩
    refine wpAny_call_entry PySem.F.slot_dict_get hT PySem.F.entry_dict_get ?_ (PySem.F.args_dict_get_3 _ _ _)
    show wpAny _ _ (dictGet d (.ref a) >>= _) _ _ s
    refine wpAny_bind (wpAny_dictGet_heap (knd:=tmKind prog w) (by show Γ.A.units + 1 + 1 < cLine; omega) (hk.is N) (hd.at N) ?_)
    cases hf:(atKey xs k).map (·.2) with
    | some v => rw [hf] at h; exact wpAny_pure ⟨v,rfl,q _ m n _ _ F N h⟩
    | none =>
      rw [hf] at h
      show wpAny _ _ (Builtin.Dict.missed d (.ref a) >>= _) _ _ _
      exact wpAny_bind (wpAny_missed_other (sys_ne hd.1) (wpAny_pure ⟨dflt,rfl,q _ m n _ _ F N h⟩))
theorem t_assignSub {o i:PySem.Expr} {pos' pos:Pos} {value:PySem.Expr} {P:Flow → Loc → Led → Prop}
    (h:T Γ (eval value Γ.env) m n (uK Γ (eval o Γ.env) (eval i Γ.env) P))
    (hs:swapsWith value (some (.Subscript o i pos')) pos.line Γ.env = pure false:=by rfl):T Γ (exec (.Assign [.Subscript o i pos'] value pos) Γ.env) m n P:=
  fun s Q E F N q => wpAny_Assign_Subscript (h s _ E F N fun a m1 n1 h1 tk1 F1 N1 p => p _ _ E F1 N1 fun b m2 n2 h2 tk2 F2 N2 p => p _ _ E F2 N2 fun c m3 n3 h3 tk3 F3 N3 p => p _ _ E F3 N3 fun d m4 n4 h4 tk4 F4 N4 p => q _ m4 n4 _ _ F4 N4 p) hs
theorem led_dict {h₀ h h':Heap} {L d:Addr} {m:Loc} {n:Led} {es:Array DictEntry} {ep:Nat} (F:Fr h₀ L h m) (N:News h₀ L h n) (hm:(d,dictO es ep) ∈ n) (hs:Heap.SameBut d h h') {o:Obj} {es':Array DictEntry} {ep':Nat} (ho:h'.get? d = some o) (hx:o.ExactDict) (hd:o.data = .dict es' ep') :
    Fr h₀ L h' m ∧ News h₀ L h' (upd n d (dictO es' ep')):=led_change F N hm hs (by rw [ho,dictO_of hx hd])
theorem keyIn_upd {n:Led} {d:Addr} {es es':Array DictEntry} {ep ep':Nat} (Fn:Fun n) (hm:(d,dictO es ep) ∈ n) {k:Tm} {a:Addr} (x:keyIn n k a):keyIn (upd n d (dictO es' ep')) k a:=by
  have keep:∀ {b:Addr} {us:List Value} {e:Nat},(b,tupO us e) ∈ n → (b,tupO us e) ∈ upd n d (dictO es' ep'):=fun hb => upd_keep hb (Fn.ne hb hm (ne_cls (by simp)))
  refine Xeeeeeaaaaa x ?_; clear x; intro v0 b v2 v3 e h1 h2 z4_ h4 h5 h6; refine Xeea z4_ ?_; clear z4_; intro us e' h3 h3'
  refine ⟨v0,b,v2,v3,e,keep h1,h2,⟨us,e',keep h3,h3'⟩,h4,?_,h6⟩
  cases hdat:k.data with
  | i z => rw [hdat] at h5; exact h5
  | p z z' => rw [hdat] at h5; refine Xeeeaa h5 ?_; clear h5; intro c us e z5_ hc hv; subst z5_; exact ⟨c,us,e,rfl,keep hc,hv⟩
theorem t_dset {d a:Addr} {xs:List (Tm × Addr × Value)} {k:Tm} {v:Value} {P:Unit → Loc → Led → Prop} (hd:KDict prog w n d xs) (hk:keyIn n k a) (hz:xs.length < 2 ^ 20) (hnew:atKey xs k = none)
    (h:∀ es' ep',KDict prog w (upd n d (dictO es' ep')) d (xs ++ [(k,a,v)]) → P () m (upd n d (dictO es' ep'))):T Γ (setItem (.ref d) (.ref a) v) m n P:=
  fun s Q E F N q => by
    have hu:=Γ.u8
    refine Xaeeaaa (id hd) fun hne es ep hm h1 h2 h3 => ?_
    refine wpAny_setItem_heap (knd:=tmKind prog w) (hsz:=by rw [sizeLine_eq]; omega) (by show Γ.A.units + 1 + 1 < cLine; omega) (hk.is N) (hd.at N) fun h' hd' hs => ?_
    rw [storedH_new hnew] at hd'
    refine Xeeeaaaaa hd' ?_; clear hd'; intro o es' ep' ho hx hdt g1 g2 g3
    refine Xa (led_dict F N hm hs ho hx hdt) fun F' N' => ?_
    refine q _ m _ _ _ F' N' (h es' ep' ⟨hne,es',ep',upd_self,g1,fun x hx => ?_,g3⟩)
    rcases List.mem_append.mp hx with hx | hx
    · exact keyIn_upd (News.fn N) hm (h2 x hx)
    · simp only [List.mem_singleton] at hx
      subst hx
      exact keyIn_upd (News.fn N) hm hk
theorem t_inI {d:Addr} {kvs:List (Int × Value)} {k:Int} {t:Tok} (hd:IDict prog w n d kvs) (h:P (.bool (valueAt kvs k).isSome) m n):T Γ (compareOp .In (.int k t) (.ref d)) m n P:=
  fun s Q E F N q => wpAny_in_of (knd:=iK prog w) (isI_int ⟨t,rfl⟩) (sys_ne hd.1) (hd.at N).mapOf (q _ m n _ _ F N h)
theorem t_notinI {d:Addr} {kvs:List (Int × Value)} {k:Int} {t:Tok} (hd:IDict prog w n d kvs) (h:P (.bool (!(valueAt kvs k).isSome)) m n):T Γ (compareOp .NotIn (.int k t) (.ref d)) m n P:=
  fun s Q E F N q => wpAny_notIn_of (knd:=iK prog w) (isI_int ⟨t,rfl⟩) (sys_ne hd.1) (hd.at N).mapOf (q _ m n _ _ F N h)
theorem t_getI {d:Addr} {kvs:List (Int × Value)} {k:Int} {t:Tok} {v:Value} {value slice:PySem.Expr} (hd:IDict prog w n d kvs) (hv:valueAt kvs k = some v) (h:P v m n)
    (hs:subscripted slice false (.ref d) (.int k t) = operate [.ref d,.int k t] (getItem (.ref d) (.int k t)):=by with_unfolding_all rfl):T Γ (subscriptTail value slice (.ref d) (.int k t)) m n P:=
  fun s Q E F N q => tail_any (hd.at N).typeIs slot_dict_getitem.lookup (wpAny_getItem_of (knd:=iK prog w) (isI_int ⟨t,rfl⟩) (hd.at N).mapOf hv (q _ m n _ _ F N h)) hs
theorem t_setI {d:Addr} {kvs:List (Int × Value)} {k:Int} {t:Tok} {v:Value} {P:Unit → Loc → Led → Prop} (hd:IDict prog w n d kvs) (hz:kvs.length < 2 ^ 20)
    (h:∀ es' ep',IDict prog w (upd n d (dictO es' ep')) d (stored kvs k v) → P () m (upd n d (dictO es' ep'))):T Γ (setItem (.ref d) (.int k t) v) m n P:=
  fun s Q E F N q => by
    refine Xaeea (id hd) fun hne es ep hm _ => ?_
    refine wpAny_setItem_pairs (knd:=iK prog w) (hsz:=by rw [sizeLine_eq]; omega) (isI_int ⟨t,rfl⟩) (hd.at N) fun h' hd' hs => ?_
    refine Xeeeaaaaa hd' ?_; clear hd'; intro o es' ep' ho hx hdt g1 g2 g3
    refine Xa (led_dict F N hm hs ho hx hdt) fun F' N' => ?_
    exact q _ m _ _ _ F' N' (h es' ep' ⟨hne,es',ep',upd_self,g1,g2,g3⟩)
end
theorem ane {a b:Addr} (h:@Ne Nat a b):a ≠ b:=h
theorem ite_f {a b:Prop} (h:b):if false = true then a else b:=h
theorem ite_t {a b:Prop} (h:a):if true = true then a else b:=h
theorem none_ne:∀ a,Value.none ≠ .ref a:=fun _ h => nomatch h
structure Self (P:Params) (n:Led) (B:BA):Prop where
  self:(B.self,instObj 734 B.dict) ∈ n
  dict:(B.dict,dictOf (bankD P B) B.ep) ∈ n
theorem Self.mono {P:Params} {n n':Led} {B:BA} (h:Self P n B) (s:∀ p ∈ n,p ∈ n'):Self P n' B:=⟨s _ h.self,s _ h.dict⟩
theorem BankIn.sf {P:Params} {n:Led} {B:BA} {tms ws} (h:BankIn P n B tms ws):Self P n B:=⟨h.self,h.dict⟩
section
variable {prog:Program} {w:World} {cs:Scope} {cl:List (PySem.Str × Addr)} {α β:Type} {Γ:Cx prog w cs cl} {m:Loc} {n:Led} {B:BA}
theorem t_ba_names {b:Bool} {P:Value → Loc → Led → Prop} (hs:Self w.params n B) (h:P (.ref B.names) m n):T Γ (getAttr (.ref B.self) "sort_names" b) m n P:=
  t_getattr hs.self hs.dict (pa_names _) (hd_bank _) (at_names _) rfl (ga_names _ _) rfl h
theorem t_ba_widths {b:Bool} {P:Value → Loc → Led → Prop} (hs:Self w.params n B) (h:P (.ref B.widths) m n):T Γ (getAttr (.ref B.self) "sort_widths" b) m n P:=
  t_getattr hs.self hs.dict (pa_widths _) (hd_bank _) (at_widths _) rfl (ga_widths _ _) rfl h
theorem t_ba_fnames {b:Bool} {P:Value → Loc → Led → Prop} (hs:Self w.params n B) (h:P (.ref B.fnames) m n):T Γ (getAttr (.ref B.self) "fun_names" b) m n P:=
  t_getattr hs.self hs.dict (pa_fnames _) (hd_bank _) (at_fnames _) rfl (ga_fnames _ _) rfl h
theorem t_ba_fargs {b:Bool} {P:Value → Loc → Led → Prop} (hs:Self w.params n B) (h:P (.ref B.fargs) m n):T Γ (getAttr (.ref B.self) "fun_args" b) m n P:=
  t_getattr hs.self hs.dict (pa_fargs _) (hd_bank _) (at_fargs _) rfl (ga_fargs _ _) rfl h
theorem t_ba_fres {b:Bool} {P:Value → Loc → Led → Prop} (hs:Self w.params n B) (h:P (.ref B.fres) m n):T Γ (getAttr (.ref B.self) "fun_results" b) m n P:=
  t_getattr hs.self hs.dict (pa_fres _) (hd_bank _) (at_fres _) rfl (ga_fres _ _) rfl h
theorem t_ba_ops {b:Bool} {P:Value → Loc → Led → Prop} (hs:Self w.params n B) (h:P (.ref B.ops) m n):T Γ (getAttr (.ref B.self) "term_ops" b) m n P:=
  t_getattr hs.self hs.dict (pa_ops _) (hd_bank _) (at_ops _) rfl (ga_ops _ _) rfl h
theorem t_ba_args {b:Bool} {P:Value → Loc → Led → Prop} (hs:Self w.params n B) (h:P (.ref B.args) m n):T Γ (getAttr (.ref B.self) "term_args" b) m n P:=
  t_getattr hs.self hs.dict (pa_args _) (hd_bank _) (at_args _) rfl (ga_args _ _) rfl h
theorem t_ba_sorts {b:Bool} {P:Value → Loc → Led → Prop} (hs:Self w.params n B) (h:P (.ref B.sorts) m n):T Γ (getAttr (.ref B.self) "term_sorts" b) m n P:=
  t_getattr hs.self hs.dict (pa_sorts _) (hd_bank _) (at_sorts _) rfl (ga_sorts _ _) rfl h
theorem t_ba_datas {b:Bool} {P:Value → Loc → Led → Prop} (hs:Self w.params n B) (h:P (.ref B.datas) m n):T Γ (getAttr (.ref B.self) "term_datas" b) m n P:=
  t_getattr hs.self hs.dict (pa_datas _) (hd_bank _) (at_datas _) rfl (ga_datas _ _) rfl h
theorem t_ba_numbers {b:Bool} {P:Value → Loc → Led → Prop} (hs:Self w.params n B) (h:P (.ref B.numbers) m n):T Γ (getAttr (.ref B.self) "numbers" b) m n P:=
  t_getattr hs.self hs.dict (pa_numbers _) (hd_bank _) (at_numbers _) rfl (ga_numbers _ _) rfl h
theorem t_ba_bvn {b:Bool} {P:Value → Loc → Led → Prop} (hs:Self w.params n B) (h:P (.ref B.bvn) m n):T Γ (getAttr (.ref B.self) "bv_numbers" b) m n P:=
  t_getattr hs.self hs.dict (pa_bvn _) (hd_bank _) (at_bvn _) rfl (ga_bvn _ _) rfl h
theorem t_bm_bv_sort {pl:Sem Bool} {P:Value × List Value → Loc → Led → Prop} (hs:Self w.params n B) (h:P (.ref 640,[.ref B.self]) m n):T Γ (getMethod (.ref B.self) "bv_sort" pl) m n P:=
  t_method hs.self hs.dict (pg_bv_sort _) (fi_bv_sort _) (if_bv_sort _) (gl_bv_sort _ _) h
theorem t_cw_bv_sort {env:Env} {pos:Pos} {first:List Value} {e:PySem.Expr} {rest:List PySem.Expr} {P:Value → Loc → Led → Prop}
    (h:T Γ (spliced (backTo pos (starEach (e :: rest) env))) m n (bK Γ (fun vs => call (.ref 640) (first ++ vs)) P))
    (he:starEach (e :: rest) env = (false,eval e env) :: starEach rest env) (hplain:(backTo pos (starEach rest env)).any (·.1) = false) :
    T Γ (callWith pos (.ref 640) first (backTo pos (starEach (e :: rest) env)) []) m n P:=t_callWith (kp_bv_sort _) h he hplain
theorem t_bm_want_bits {pl:Sem Bool} {P:Value × List Value → Loc → Led → Prop} (hs:Self w.params n B) (h:P (.ref 654,[.ref B.self]) m n):T Γ (getMethod (.ref B.self) "want_bits" pl) m n P:=
  t_method hs.self hs.dict (pg_want_bits _) (fi_want_bits _) (if_want_bits _) (gl_want_bits _ _) h
theorem t_cw_want_bits {env:Env} {pos:Pos} {first:List Value} {e:PySem.Expr} {rest:List PySem.Expr} {P:Value → Loc → Led → Prop}
    (h:T Γ (spliced (backTo pos (starEach (e :: rest) env))) m n (bK Γ (fun vs => call (.ref 654) (first ++ vs)) P))
    (he:starEach (e :: rest) env = (false,eval e env) :: starEach rest env) (hplain:(backTo pos (starEach rest env)).any (·.1) = false) :
    T Γ (callWith pos (.ref 654) first (backTo pos (starEach (e :: rest) env)) []) m n P:=t_callWith (kp_want_bits _) h he hplain
theorem t_bm_bv_num {pl:Sem Bool} {P:Value × List Value → Loc → Led → Prop} (hs:Self w.params n B) (h:P (.ref 661,[.ref B.self]) m n):T Γ (getMethod (.ref B.self) "bv_num" pl) m n P:=
  t_method hs.self hs.dict (pg_bv_num _) (fi_bv_num _) (if_bv_num _) (gl_bv_num _ _) h
theorem t_cw_bv_num {env:Env} {pos:Pos} {first:List Value} {e:PySem.Expr} {rest:List PySem.Expr} {P:Value → Loc → Led → Prop}
    (h:T Γ (spliced (backTo pos (starEach (e :: rest) env))) m n (bK Γ (fun vs => call (.ref 661) (first ++ vs)) P))
    (he:starEach (e :: rest) env = (false,eval e env) :: starEach rest env) (hplain:(backTo pos (starEach rest env)).any (·.1) = false) :
    T Γ (callWith pos (.ref 661) first (backTo pos (starEach (e :: rest) env)) []) m n P:=t_callWith (kp_bv_num _) h he hplain
theorem t_bm_bv_one {pl:Sem Bool} {P:Value × List Value → Loc → Led → Prop} (hs:Self w.params n B) (h:P (.ref 668,[.ref B.self]) m n):T Γ (getMethod (.ref B.self) "bv_one" pl) m n P:=
  t_method hs.self hs.dict (pg_bv_one _) (fi_bv_one _) (if_bv_one _) (gl_bv_one _ _) h
theorem t_cw_bv_one {env:Env} {pos:Pos} {first:List Value} {e:PySem.Expr} {rest:List PySem.Expr} {P:Value → Loc → Led → Prop}
    (h:T Γ (spliced (backTo pos (starEach (e :: rest) env))) m n (bK Γ (fun vs => call (.ref 668) (first ++ vs)) P))
    (he:starEach (e :: rest) env = (false,eval e env) :: starEach rest env) (hplain:(backTo pos (starEach rest env)).any (·.1) = false) :
    T Γ (callWith pos (.ref 668) first (backTo pos (starEach (e :: rest) env)) []) m n P:=t_callWith (kp_bv_one _) h he hplain
theorem t_bm_bv_two {pl:Sem Bool} {P:Value × List Value → Loc → Led → Prop} (hs:Self w.params n B) (h:P (.ref 675,[.ref B.self]) m n):T Γ (getMethod (.ref B.self) "bv_two" pl) m n P:=
  t_method hs.self hs.dict (pg_bv_two _) (fi_bv_two _) (if_bv_two _) (gl_bv_two _ _) h
theorem t_cw_bv_two {env:Env} {pos:Pos} {first:List Value} {e:PySem.Expr} {rest:List PySem.Expr} {P:Value → Loc → Led → Prop}
    (h:T Γ (spliced (backTo pos (starEach (e :: rest) env))) m n (bK Γ (fun vs => call (.ref 675) (first ++ vs)) P))
    (he:starEach (e :: rest) env = (false,eval e env) :: starEach rest env) (hplain:(backTo pos (starEach rest env)).any (·.1) = false) :
    T Γ (callWith pos (.ref 675) first (backTo pos (starEach (e :: rest) env)) []) m n P:=t_callWith (kp_bv_two _) h he hplain
theorem t_bm_concat {pl:Sem Bool} {P:Value × List Value → Loc → Led → Prop} (hs:Self w.params n B) (h:P (.ref 682,[.ref B.self]) m n):T Γ (getMethod (.ref B.self) "concat" pl) m n P:=
  t_method hs.self hs.dict (pg_concat _) (fi_concat _) (if_concat _) (gl_concat _ _) h
theorem t_cw_concat {env:Env} {pos:Pos} {first:List Value} {e:PySem.Expr} {rest:List PySem.Expr} {P:Value → Loc → Led → Prop}
    (h:T Γ (spliced (backTo pos (starEach (e :: rest) env))) m n (bK Γ (fun vs => call (.ref 682) (first ++ vs)) P))
    (he:starEach (e :: rest) env = (false,eval e env) :: starEach rest env) (hplain:(backTo pos (starEach rest env)).any (·.1) = false) :
    T Γ (callWith pos (.ref 682) first (backTo pos (starEach (e :: rest) env)) []) m n P:=t_callWith (kp_concat _) h he hplain
theorem t_bm_extract {pl:Sem Bool} {P:Value × List Value → Loc → Led → Prop} (hs:Self w.params n B) (h:P (.ref 689,[.ref B.self]) m n):T Γ (getMethod (.ref B.self) "extract" pl) m n P:=
  t_method hs.self hs.dict (pg_extract _) (fi_extract _) (if_extract _) (gl_extract _ _) h
theorem t_cw_extract {env:Env} {pos:Pos} {first:List Value} {e:PySem.Expr} {rest:List PySem.Expr} {P:Value → Loc → Led → Prop}
    (h:T Γ (spliced (backTo pos (starEach (e :: rest) env))) m n (bK Γ (fun vs => call (.ref 689) (first ++ vs)) P))
    (he:starEach (e :: rest) env = (false,eval e env) :: starEach rest env) (hplain:(backTo pos (starEach rest env)).any (·.1) = false) :
    T Γ (callWith pos (.ref 689) first (backTo pos (starEach (e :: rest) env)) []) m n P:=t_callWith (kp_extract _) h he hplain
theorem t_bm_zero_extend {pl:Sem Bool} {P:Value × List Value → Loc → Led → Prop} (hs:Self w.params n B) (h:P (.ref 696,[.ref B.self]) m n):T Γ (getMethod (.ref B.self) "zero_extend" pl) m n P:=
  t_method hs.self hs.dict (pg_zero_extend _) (fi_zero_extend _) (if_zero_extend _) (gl_zero_extend _ _) h
theorem t_cw_zero_extend {env:Env} {pos:Pos} {first:List Value} {e:PySem.Expr} {rest:List PySem.Expr} {P:Value → Loc → Led → Prop}
    (h:T Γ (spliced (backTo pos (starEach (e :: rest) env))) m n (bK Γ (fun vs => call (.ref 696) (first ++ vs)) P))
    (he:starEach (e :: rest) env = (false,eval e env) :: starEach rest env) (hplain:(backTo pos (starEach rest env)).any (·.1) = false) :
    T Γ (callWith pos (.ref 696) first (backTo pos (starEach (e :: rest) env)) []) m n P:=t_callWith (kp_zero_extend _) h he hplain
theorem t_bm_sign_extend {pl:Sem Bool} {P:Value × List Value → Loc → Led → Prop} (hs:Self w.params n B) (h:P (.ref 703,[.ref B.self]) m n):T Γ (getMethod (.ref B.self) "sign_extend" pl) m n P:=
  t_method hs.self hs.dict (pg_sign_extend _) (fi_sign_extend _) (if_sign_extend _) (gl_sign_extend _ _) h
theorem t_cw_sign_extend {env:Env} {pos:Pos} {first:List Value} {e:PySem.Expr} {rest:List PySem.Expr} {P:Value → Loc → Led → Prop}
    (h:T Γ (spliced (backTo pos (starEach (e :: rest) env))) m n (bK Γ (fun vs => call (.ref 703) (first ++ vs)) P))
    (he:starEach (e :: rest) env = (false,eval e env) :: starEach rest env) (hplain:(backTo pos (starEach rest env)).any (·.1) = false) :
    T Γ (callWith pos (.ref 703) first (backTo pos (starEach (e :: rest) env)) []) m n P:=t_callWith (kp_sign_extend _) h he hplain
theorem t_bm_declare_fun {pl:Sem Bool} {P:Value × List Value → Loc → Led → Prop} (hs:Self w.params n B) (h:P (.ref 257,[.ref B.self]) m n):T Γ (getMethod (.ref B.self) "declare_fun" pl) m n P:=
  t_method hs.self hs.dict (pg_declare_fun _) (fi_declare_fun _) (if_declare_fun _) (gl_declare_fun _ _) h
theorem t_cw_declare_fun {env:Env} {pos:Pos} {first:List Value} {e:PySem.Expr} {rest:List PySem.Expr} {P:Value → Loc → Led → Prop}
    (h:T Γ (spliced (backTo pos (starEach (e :: rest) env))) m n (bK Γ (fun vs => call (.ref 257) (first ++ vs)) P))
    (he:starEach (e :: rest) env = (false,eval e env) :: starEach rest env) (hplain:(backTo pos (starEach rest env)).any (·.1) = false) :
    T Γ (callWith pos (.ref 257) first (backTo pos (starEach (e :: rest) env)) []) m n P:=t_callWith (kp_declare_fun _) h he hplain
theorem t_bm_fresh_const {pl:Sem Bool} {P:Value × List Value → Loc → Led → Prop} (hs:Self w.params n B) (h:P (.ref 271,[.ref B.self]) m n):T Γ (getMethod (.ref B.self) "fresh_const" pl) m n P:=
  t_method hs.self hs.dict (pg_fresh_const _) (fi_fresh_const _) (if_fresh_const _) (gl_fresh_const _ _) h
theorem t_cw_fresh_const {env:Env} {pos:Pos} {first:List Value} {e:PySem.Expr} {rest:List PySem.Expr} {P:Value → Loc → Led → Prop}
    (h:T Γ (spliced (backTo pos (starEach (e :: rest) env))) m n (bK Γ (fun vs => call (.ref 271) (first ++ vs)) P))
    (he:starEach (e :: rest) env = (false,eval e env) :: starEach rest env) (hplain:(backTo pos (starEach rest env)).any (·.1) = false) :
    T Γ (callWith pos (.ref 271) first (backTo pos (starEach (e :: rest) env)) []) m n P:=t_callWith (kp_fresh_const _) h he hplain
theorem t_bm_op {pl:Sem Bool} {P:Value × List Value → Loc → Led → Prop} (hs:Self w.params n B) (h:P (.ref 306,[.ref B.self]) m n):T Γ (getMethod (.ref B.self) "op" pl) m n P:=
  t_method hs.self hs.dict (pg_op _) (fi_op _) (if_op _) (gl_op _ _) h
theorem t_cw_op {env:Env} {pos:Pos} {first:List Value} {e:PySem.Expr} {rest:List PySem.Expr} {P:Value → Loc → Led → Prop}
    (h:T Γ (spliced (backTo pos (starEach (e :: rest) env))) m n (bK Γ (fun vs => call (.ref 306) (first ++ vs)) P))
    (he:starEach (e :: rest) env = (false,eval e env) :: starEach rest env) (hplain:(backTo pos (starEach rest env)).any (·.1) = false) :
    T Γ (callWith pos (.ref 306) first (backTo pos (starEach (e :: rest) env)) []) m n P:=t_callWith (kp_op _) h he hplain
theorem t_bm_args {pl:Sem Bool} {P:Value × List Value → Loc → Led → Prop} (hs:Self w.params n B) (h:P (.ref 313,[.ref B.self]) m n):T Γ (getMethod (.ref B.self) "args" pl) m n P:=
  t_method hs.self hs.dict (pg_args _) (fi_args _) (if_args _) (gl_args _ _) h
theorem t_cw_args {env:Env} {pos:Pos} {first:List Value} {e:PySem.Expr} {rest:List PySem.Expr} {P:Value → Loc → Led → Prop}
    (h:T Γ (spliced (backTo pos (starEach (e :: rest) env))) m n (bK Γ (fun vs => call (.ref 313) (first ++ vs)) P))
    (he:starEach (e :: rest) env = (false,eval e env) :: starEach rest env) (hplain:(backTo pos (starEach rest env)).any (·.1) = false) :
    T Γ (callWith pos (.ref 313) first (backTo pos (starEach (e :: rest) env)) []) m n P:=t_callWith (kp_args _) h he hplain
theorem t_bm_data {pl:Sem Bool} {P:Value × List Value → Loc → Led → Prop} (hs:Self w.params n B) (h:P (.ref 327,[.ref B.self]) m n):T Γ (getMethod (.ref B.self) "data" pl) m n P:=
  t_method hs.self hs.dict (pg_data _) (fi_data _) (if_data _) (gl_data _ _) h
theorem t_cw_data {env:Env} {pos:Pos} {first:List Value} {e:PySem.Expr} {rest:List PySem.Expr} {P:Value → Loc → Led → Prop}
    (h:T Γ (spliced (backTo pos (starEach (e :: rest) env))) m n (bK Γ (fun vs => call (.ref 327) (first ++ vs)) P))
    (he:starEach (e :: rest) env = (false,eval e env) :: starEach rest env) (hplain:(backTo pos (starEach rest env)).any (·.1) = false) :
    T Γ (callWith pos (.ref 327) first (backTo pos (starEach (e :: rest) env)) []) m n P:=t_callWith (kp_data _) h he hplain
theorem t_bm_width {pl:Sem Bool} {P:Value × List Value → Loc → Led → Prop} (hs:Self w.params n B) (h:P (.ref 334,[.ref B.self]) m n):T Γ (getMethod (.ref B.self) "width" pl) m n P:=
  t_method hs.self hs.dict (pg_width _) (fi_width _) (if_width _) (gl_width _ _) h
theorem t_cw_width {env:Env} {pos:Pos} {first:List Value} {e:PySem.Expr} {rest:List PySem.Expr} {P:Value → Loc → Led → Prop}
    (h:T Γ (spliced (backTo pos (starEach (e :: rest) env))) m n (bK Γ (fun vs => call (.ref 334) (first ++ vs)) P))
    (he:starEach (e :: rest) env = (false,eval e env) :: starEach rest env) (hplain:(backTo pos (starEach rest env)).any (·.1) = false) :
    T Γ (callWith pos (.ref 334) first (backTo pos (starEach (e :: rest) env)) []) m n P:=t_callWith (kp_width _) h he hplain
theorem t_bm_size {pl:Sem Bool} {P:Value × List Value → Loc → Led → Prop} (hs:Self w.params n B) (h:P (.ref 341,[.ref B.self]) m n):T Γ (getMethod (.ref B.self) "size" pl) m n P:=
  t_method hs.self hs.dict (pg_size _) (fi_size _) (if_size _) (gl_size _ _) h
theorem t_cw_size {env:Env} {pos:Pos} {first:List Value} {e:PySem.Expr} {rest:List PySem.Expr} {P:Value → Loc → Led → Prop}
    (h:T Γ (spliced (backTo pos (starEach (e :: rest) env))) m n (bK Γ (fun vs => call (.ref 341) (first ++ vs)) P))
    (he:starEach (e :: rest) env = (false,eval e env) :: starEach rest env) (hplain:(backTo pos (starEach rest env)).any (·.1) = false) :
    T Γ (callWith pos (.ref 341) first (backTo pos (starEach (e :: rest) env)) []) m n P:=t_callWith (kp_size _) h he hplain
theorem t_bm_make {pl:Sem Bool} {P:Value × List Value → Loc → Led → Prop} (hs:Self w.params n B) (h:P (.ref 348,[.ref B.self]) m n):T Γ (getMethod (.ref B.self) "make" pl) m n P:=
  t_method hs.self hs.dict (pg_make _) (fi_make _) (if_make _) (gl_make _ _) h
theorem t_cw_make {env:Env} {pos:Pos} {first:List Value} {e:PySem.Expr} {rest:List PySem.Expr} {P:Value → Loc → Led → Prop}
    (h:T Γ (spliced (backTo pos (starEach (e :: rest) env))) m n (bK Γ (fun vs => call (.ref 348) (first ++ vs)) P))
    (he:starEach (e :: rest) env = (false,eval e env) :: starEach rest env) (hplain:(backTo pos (starEach rest env)).any (·.1) = false) :
    T Γ (callWith pos (.ref 348) first (backTo pos (starEach (e :: rest) env)) []) m n P:=t_callWith (kp_make _) h he hplain
theorem t_bm_want {pl:Sem Bool} {P:Value × List Value → Loc → Led → Prop} (hs:Self w.params n B) (h:P (.ref 369,[.ref B.self]) m n):T Γ (getMethod (.ref B.self) "want" pl) m n P:=
  t_method hs.self hs.dict (pg_want _) (fi_want _) (if_want _) (gl_want _ _) h
theorem t_cw_want {env:Env} {pos:Pos} {first:List Value} {e:PySem.Expr} {rest:List PySem.Expr} {P:Value → Loc → Led → Prop}
    (h:T Γ (spliced (backTo pos (starEach (e :: rest) env))) m n (bK Γ (fun vs => call (.ref 369) (first ++ vs)) P))
    (he:starEach (e :: rest) env = (false,eval e env) :: starEach rest env) (hplain:(backTo pos (starEach rest env)).any (·.1) = false) :
    T Γ (callWith pos (.ref 369) first (backTo pos (starEach (e :: rest) env)) []) m n P:=t_callWith (kp_want _) h he hplain
theorem t_cw0_size {env:Env} {pos:Pos} {first:List Value} {P:Value → Loc → Led → Prop} (h:T Γ (call (.ref 341) (first ++ [])) m n P):T Γ (callWith pos (.ref 341) first (backTo pos (starEach [] env)) []) m n P:=t_callWith0 (kp_size _) h
theorem t_n_len {pos:Pos} {P:Value → Loc → Led → Prop} (h:P (.builtin "len") m n) (hx:cs.names.lookup ("len":PySem.Str) = some NameKind.globalImplicit):T Γ (eval (.Name "len" pos) Γ.env) m n P:=
  t_nameB (by kernel_rfl) (by boot_fast) h (by decide +kernel) hx (by decide +kernel)
theorem t_n_sum {pos:Pos} {P:Value → Loc → Led → Prop} (h:P (.builtin "sum") m n) (hx:cs.names.lookup ("sum":PySem.Str) = some NameKind.globalImplicit):T Γ (eval (.Name "sum" pos) Γ.env) m n P:=
  t_nameB (by kernel_rfl) (by boot_fast) h (by decide +kernel) hx (by decide +kernel)
theorem t_n_range {pos:Pos} {P:Value → Loc → Led → Prop} (h:P (.type "range") m n) (hx:cs.names.lookup ("range":PySem.Str) = some NameKind.globalImplicit):T Γ (eval (.Name "range" pos) Γ.env) m n P:=
  t_nameB (by kernel_rfl) (by boot_fast) h (by decide +kernel) hx (by decide +kernel)
theorem t_n_tuple {pos:Pos} {P:Value → Loc → Led → Prop} (h:P (.type "tuple") m n) (hx:cs.names.lookup ("tuple":PySem.Str) = some NameKind.globalImplicit):T Γ (eval (.Name "tuple" pos) Γ.env) m n P:=
  t_nameB (by kernel_rfl) (by boot_fast) h (by decide +kernel) hx (by decide +kernel)
theorem t_n_int {pos:Pos} {P:Value → Loc → Led → Prop} (h:P (.type "int") m n) (hx:cs.names.lookup ("int":PySem.Str) = some NameKind.globalImplicit):T Γ (eval (.Name "int" pos) Γ.env) m n P:=
  t_nameB (by kernel_rfl) (by boot_fast) h (by decide +kernel) hx (by decide +kernel)
theorem t_n_BOOL {pos:Pos} {P:Value → Loc → Led → Prop} (h:P (.int 0 418) m n) (hx:cs.names.lookup ("BOOL":PySem.Str) = some NameKind.globalImplicit):T Γ (eval (.Name "BOOL" pos) Γ.env) m n P:=
  t_nameK (by kernel_rfl) h hx (by decide +kernel)
theorem t_n_WIDEST {pos:Pos} {P:Value → Loc → Led → Prop} (h:P (.int 4096 424) m n) (hx:cs.names.lookup ("WIDEST":PySem.Str) = some NameKind.globalImplicit):T Γ (eval (.Name "WIDEST" pos) Γ.env) m n P:=
  t_nameK (by kernel_rfl) h hx (by decide +kernel)
theorem t_n_BV_SAME {pos:Pos} {P:Value → Loc → Led → Prop} (h:P (.ref 199) m n) (hx:cs.names.lookup ("BV_SAME":PySem.Str) = some NameKind.globalImplicit):T Γ (eval (.Name "BV_SAME" pos) Γ.env) m n P:=
  t_nameK (by kernel_rfl) h hx (by decide +kernel)
theorem t_n_BV_ASK {pos:Pos} {P:Value → Loc → Led → Prop} (h:P (.ref 200) m n) (hx:cs.names.lookup ("BV_ASK":PySem.Str) = some NameKind.globalImplicit):T Γ (eval (.Name "BV_ASK" pos) Γ.env) m n P:=
  t_nameK (by kernel_rfl) h hx (by decide +kernel)
theorem t_n_TermBank {pos:Pos} {P:Value → Loc → Led → Prop} (h:P (.ref 734) m n) (hx:cs.names.lookup ("TermBank":PySem.Str) = some NameKind.globalImplicit):T Γ (eval (.Name "TermBank" pos) Γ.env) m n P:=
  t_nameK (by kernel_rfl) h hx (by decide +kernel)
theorem t_n_BitsRewriter {pos:Pos} {P:Value → Loc → Led → Prop} (h:P (.ref 1053) m n) (hx:cs.names.lookup ("BitsRewriter":PySem.Str) = some NameKind.globalImplicit):T Γ (eval (.Name "BitsRewriter" pos) Γ.env) m n P:=
  t_nameK (by kernel_rfl) h hx (by decide +kernel)
theorem t_n_law_ladle {pos:Pos} {P:Value → Loc → Led → Prop} (h:P (.ref 1062) m n) (hx:cs.names.lookup ("_law_ladle":PySem.Str) = some NameKind.globalImplicit):T Γ (eval (.Name "_law_ladle" pos) Γ.env) m n P:=
  t_nameK (by kernel_rfl) h hx (by decide +kernel)
theorem t_cw_law_ladle {env:Env} {pos:Pos} {first:List Value} {e:PySem.Expr} {rest:List PySem.Expr} {P:Value → Loc → Led → Prop}
    (h:T Γ (spliced (backTo pos (starEach (e :: rest) env))) m n (bK Γ (fun vs => call (.ref 1062) (first ++ vs)) P))
    (he:starEach (e :: rest) env = (false,eval e env) :: starEach rest env) (hplain:(backTo pos (starEach rest env)).any (·.1) = false) :
    T Γ (callWith pos (.ref 1062) first (backTo pos (starEach (e :: rest) env)) []) m n P:=t_callWith (kp_law_ladle _) h he hplain
theorem t_n_law_term {pos:Pos} {P:Value → Loc → Led → Prop} (h:P (.ref 1069) m n) (hx:cs.names.lookup ("_law_term":PySem.Str) = some NameKind.globalImplicit):T Γ (eval (.Name "_law_term" pos) Γ.env) m n P:=
  t_nameK (by kernel_rfl) h hx (by decide +kernel)
theorem t_cw_law_term {env:Env} {pos:Pos} {first:List Value} {e:PySem.Expr} {rest:List PySem.Expr} {P:Value → Loc → Led → Prop}
    (h:T Γ (spliced (backTo pos (starEach (e :: rest) env))) m n (bK Γ (fun vs => call (.ref 1069) (first ++ vs)) P))
    (he:starEach (e :: rest) env = (false,eval e env) :: starEach rest env) (hplain:(backTo pos (starEach rest env)).any (·.1) = false) :
    T Γ (callWith pos (.ref 1069) first (backTo pos (starEach (e :: rest) env)) []) m n P:=t_callWith (kp_law_term _) h he hplain
theorem t_n_law_number {pos:Pos} {P:Value → Loc → Led → Prop} (h:P (.ref 1076) m n) (hx:cs.names.lookup ("_law_number":PySem.Str) = some NameKind.globalImplicit):T Γ (eval (.Name "_law_number" pos) Γ.env) m n P:=
  t_nameK (by kernel_rfl) h hx (by decide +kernel)
theorem t_cw_law_number {env:Env} {pos:Pos} {first:List Value} {e:PySem.Expr} {rest:List PySem.Expr} {P:Value → Loc → Led → Prop}
    (h:T Γ (spliced (backTo pos (starEach (e :: rest) env))) m n (bK Γ (fun vs => call (.ref 1076) (first ++ vs)) P))
    (he:starEach (e :: rest) env = (false,eval e env) :: starEach rest env) (hplain:(backTo pos (starEach rest env)).any (·.1) = false) :
    T Γ (callWith pos (.ref 1076) first (backTo pos (starEach (e :: rest) env)) []) m n P:=t_callWith (kp_law_number _) h he hplain
theorem t_n_law_numbers {pos:Pos} {P:Value → Loc → Led → Prop} (h:P (.ref 1081) m n) (hx:cs.names.lookup ("_law_numbers":PySem.Str) = some NameKind.globalImplicit):T Γ (eval (.Name "_law_numbers" pos) Γ.env) m n P:=
  t_nameK (by kernel_rfl) h hx (by decide +kernel)
theorem t_cw_law_numbers {env:Env} {pos:Pos} {first:List Value} {e:PySem.Expr} {rest:List PySem.Expr} {P:Value → Loc → Led → Prop}
    (h:T Γ (spliced (backTo pos (starEach (e :: rest) env))) m n (bK Γ (fun vs => call (.ref 1081) (first ++ vs)) P))
    (he:starEach (e :: rest) env = (false,eval e env) :: starEach rest env) (hplain:(backTo pos (starEach rest env)).any (·.1) = false) :
    T Γ (callWith pos (.ref 1081) first (backTo pos (starEach (e :: rest) env)) []) m n P:=t_callWith (kp_law_numbers _) h he hplain
theorem t_n_law_labels {pos:Pos} {P:Value → Loc → Led → Prop} (h:P (.ref 1086) m n) (hx:cs.names.lookup ("_law_labels":PySem.Str) = some NameKind.globalImplicit):T Γ (eval (.Name "_law_labels" pos) Γ.env) m n P:=
  t_nameK (by kernel_rfl) h hx (by decide +kernel)
theorem t_cw_law_labels {env:Env} {pos:Pos} {first:List Value} {e:PySem.Expr} {rest:List PySem.Expr} {P:Value → Loc → Led → Prop}
    (h:T Γ (spliced (backTo pos (starEach (e :: rest) env))) m n (bK Γ (fun vs => call (.ref 1086) (first ++ vs)) P))
    (he:starEach (e :: rest) env = (false,eval e env) :: starEach rest env) (hplain:(backTo pos (starEach rest env)).any (·.1) = false) :
    T Γ (callWith pos (.ref 1086) first (backTo pos (starEach (e :: rest) env)) []) m n P:=t_callWith (kp_law_labels _) h he hplain
theorem t_n_law_due {pos:Pos} {P:Value → Loc → Led → Prop} (h:P (.ref 1091) m n) (hx:cs.names.lookup ("_law_due":PySem.Str) = some NameKind.globalImplicit):T Γ (eval (.Name "_law_due" pos) Γ.env) m n P:=
  t_nameK (by kernel_rfl) h hx (by decide +kernel)
theorem t_cw_law_due {env:Env} {pos:Pos} {first:List Value} {e:PySem.Expr} {rest:List PySem.Expr} {P:Value → Loc → Led → Prop}
    (h:T Γ (spliced (backTo pos (starEach (e :: rest) env))) m n (bK Γ (fun vs => call (.ref 1091) (first ++ vs)) P))
    (he:starEach (e :: rest) env = (false,eval e env) :: starEach rest env) (hplain:(backTo pos (starEach rest env)).any (·.1) = false) :
    T Γ (callWith pos (.ref 1091) first (backTo pos (starEach (e :: rest) env)) []) m n P:=t_callWith (kp_law_due _) h he hplain
theorem t_n_law_is_cut_right {pos:Pos} {P:Value → Loc → Led → Prop} (h:P (.ref 1098) m n) (hx:cs.names.lookup ("_law_is_cut_right":PySem.Str) = some NameKind.globalImplicit):T Γ (eval (.Name "_law_is_cut_right" pos) Γ.env) m n P:=
  t_nameK (by kernel_rfl) h hx (by decide +kernel)
theorem t_cw_law_is_cut_right {env:Env} {pos:Pos} {first:List Value} {e:PySem.Expr} {rest:List PySem.Expr} {P:Value → Loc → Led → Prop}
    (h:T Γ (spliced (backTo pos (starEach (e :: rest) env))) m n (bK Γ (fun vs => call (.ref 1098) (first ++ vs)) P))
    (he:starEach (e :: rest) env = (false,eval e env) :: starEach rest env) (hplain:(backTo pos (starEach rest env)).any (·.1) = false) :
    T Γ (callWith pos (.ref 1098) first (backTo pos (starEach (e :: rest) env)) []) m n P:=t_callWith (kp_law_is_cut_right _) h he hplain
end
def ListAt (n:Led) (l:Addr) (vs:List Value):Prop:=∃ o,(l,o) ∈ n ∧ o.cls = .type "list" ∧ ∃ e,o.data = .seq vs.toArray e
theorem ListAt.of {n:Led} {l:Addr} {vs:List Value} {e:Nat} (h:(l,listO vs e) ∈ n):ListAt n l vs:=⟨_,h,rfl,e,rfl⟩
theorem ListAt.at {h₀ h:Heap} {L:Addr} {n:Led} (N:News h₀ L h n) {l:Addr} {vs:List Value} (x:ListAt n l vs):h.IsList l vs.toArray:=by
  refine Xeaae x ?_; clear x; intro o hm hc e hd; exact ⟨o,(N _ hm).1,hc,e,hd⟩
theorem News.tup {h₀ h:Heap} {L:Addr} {n:Led} (N:News h₀ L h n) {l:Addr} {vs:List Value} {e:Nat} (hm:(l,tupO vs e) ∈ n):h.IsTuple l vs.toArray:=⟨_,(N _ hm).1,rfl,e,rfl⟩
theorem News.tup' {h₀ h:Heap} {L:Addr} {n:Led} (N:News h₀ L h n) {l:Addr} {vs:List Value} {e:Nat} (hm:(l,tupO vs e) ∈ n):IsTup h l vs.toArray:=⟨_,(N _ hm).1,rfl,e,rfl⟩
theorem Fr.grow {h₀ h h':Heap} {L:Addr} {m:Loc} (F:Fr h₀ L h m) (hk:∀ b o,h.get? b = some o → h'.get? b = some o):Fr h₀ L h' m:=
  ⟨F.ns.at' fun o e => hk _ o e,fun b o e => hk b o (F.keep b o e),F.above⟩
theorem Fr.ext {h₀ h h':Heap} {L d:Addr} {m:Loc} {n:Led} {o:Obj} (F:Fr h₀ L h m) (N:News h₀ L h n) (hm:(d,o) ∈ n) (hs:Heap.ExtBut d h h'):Fr h₀ L h' m:=
  have z:=N _ hm
  ⟨F.ns.at' fun o e => hs _ o z.2.1.symm e,fun b x e => hs b x (by rintro rfl; rw [z.2.2] at e; cases e) (F.keep b x e),F.above⟩
theorem News.ext {h₀ h h':Heap} {L d:Addr} {n:Led} (N:News h₀ L h n) (hs:Heap.ExtBut d h h'):News h₀ L h' (n.filter (fun p => p.1 != d)):=fun p hp => by
  refine Xa (List.mem_filter.mp hp) fun h1 h2 => ?_
  have y:=N p h1
  exact ⟨hs _ _ (by simpa using h2) y.1,y.2⟩
theorem Fr.extNew {h₀ h h':Heap} {L:Addr} {m:Loc} (F:Fr h₀ L h m) (hs:Heap.ExtBut h.objs.size h h'):Fr h₀ L h' m:=F.extBut hs (Nat.le_refl _)
section
variable {prog:Program} {w:World} {cs:Scope} {cl:List (PySem.Str × Addr)} {α β:Type} {Γ:Cx prog w cs cl} {m:Loc} {n:Led}
theorem t_storeI {x:PySem.Str} {v:Value} {P:Unit → Loc → Led → Prop} (h:P () (upL m x v) n) (hx:cs.names.lookup x = some .local):T Γ (bindName Γ.env x v) m n P:=
  fun s Q E F N q => bindName_ (t_store h hx s Q E F N q)
variable {a b:Int} {t u:Tok} {P:Value → Loc → Led → Prop}
theorem t_mod (hb:b ≠ 0) (h:∀ tk,P (.int (a.fmod b) tk) m n):T Γ (binaryOp .Mod (.int a t) (.int b u)) m n P:=fun s Q E F N q => mod_int hb (q _ m n _ _ F N (h _))
theorem t_pow (hn:0 ≤ b) (hz:b ≤ 1000000) (ha:a.natAbs < 2 ^ 64) (h:∀ tk,P (.int (a ^ b.toNat) tk) m n):T Γ (binaryOp .Pow (.int a t) (.int b u)) m n P:=fun s Q E F N q => pow_int_small hn hz ha (q _ m n _ _ F N (h _))
theorem t_shl (hn:0 ≤ b) (hz:b ≤ 1000000) (ha:a.natAbs < 2 ^ 64) (h:∀ tk,P (.int (a * 2 ^ b.toNat) tk) m n):T Γ (binaryOp .LShift (.int a t) (.int b u)) m n P:=fun s Q E F N q => lshift_int_small hn hz ha (q _ m n _ _ F N (h _))
theorem t_neg (h:∀ tk,P (.int (-a) tk) m n):T Γ (unaryOp .USub (.int a t)) m n P:=fun s Q E F N q => neg_int (q _ m n _ _ F N (h _))
theorem t_intInt (h:P (.int a t) m n):T Γ (call (.type "int") [.int a t]) m n P:=fun s Q E F N q => call_int_int (q _ m n _ _ F N h)
theorem t_intBool {c:Bool} (h:∀ tk,P (.int (if c then 1 else 0) tk) m n):T Γ (call (.type "int") [.bool c]) m n P:=fun s Q E F N q => call_int_bool (q _ m n _ _ F N (h _))
theorem t_neS {x y:PySem.Str} (h:P (.bool (x != y)) m n):T Γ (compareOp .NotEq (.str x t) (.str y u)) m n P:=fun s Q E F N q => ne_str (q _ m n _ _ F N h)
theorem t_joined {env:Env} {v₁ v₂:PySem.Expr} {rest:List PySem.Expr} {pos:Pos} (h:T Γ (joinParts Str.empty (eval v₁ env :: eval v₂ env :: evalEach rest env)) m n P):T Γ (eval (.JoinedStr (v₁ :: v₂ :: rest) pos) env) m n P:=
  fun s Q E F N q => JoinedStr_many (h s Q E F N q)
theorem t_part {out:PySem.Str} {x:Sem Value} {rest:List (Sem Value)}
    (h:T Γ x m n (fun v m1 n1 => ∃ y tk,v = .str y tk ∧ (out ++ y).length ≤ sizeLine ∧ T Γ (joinParts (out ++ y) rest) m1 n1 P)):T Γ (joinParts out (x :: rest)) m n P:=
  fun s Q E F N q => joinParts_cons (h s _ E F N fun v m1 n1 h1 tk1 F1 N1 p => by
    refine Xeeaa p ?_; clear p; intro y tk z1_ hz p; subst z1_
    exact ⟨hz,p _ Q E F1 N1 q⟩)
theorem t_partEnd {out:PySem.Str} (hz:out.length ≤ sizeLine) (h:∀ tk,P (.str out tk) m n):T Γ (joinParts out []) m n P:=fun s Q E F N q => joinParts_nil (q _ m n _ _ F N (h _)) hz
theorem t_fmt {env:Env} {value:PySem.Expr} {pos:Pos} (h:T Γ (eval value env) m n (bK Γ (fun v => formatField v Str.empty) P)):T Γ (eval (.FormattedValue value (-1) none pos) env) m n P:=
  fun s Q E F N q => FormattedValue_plain (h s _ E F N fun v m1 n1 h1 tk1 F1 N1 p => p _ Q E F1 N1 q)
theorem t_fmtI (hd:a.natAbs.log2 < 1920) (h:∀ tk,P (.str (Str.ofString (toString a)) tk) m n):T Γ (formatField (.int a t) Str.empty) m n P:=fun s Q E F N q => formatField_int_small hd (q _ m n _ _ F N (h _))
theorem t_item {l:Addr} {vs:List Value} {k:Int} {v:Value} {value slice:PySem.Expr} (hm:ListAt n l vs) (h0:0 ≤ k) (hx:vs[k.toNat]? = some v) (h:P v m n) (hk:k < 2 ^ 63)
    (hs:subscripted slice false (.ref l) (.int k u) = operate [.ref l,.int k u] (getItem (.ref l) (.int k u)):=by with_unfolding_all rfl):T Γ (subscriptTail value slice (.ref l) (.int k u)) m n P:=
  fun s Q E F N q => tail_any (hm.at N).typeIs slot_list_getitem.lookup (wpAny_getItem_list (hm.at N) h0 hk (by simpa using hx) (q _ m n _ _ F N h)) hs
theorem t_itemN {l:Addr} {vs:List Value} {k:Int} {v:Value} {value slice:PySem.Expr} (hm:ListAt n l vs) (h0:k < 0) (h1:-(vs.length:Int) ≤ k) (hk:-(2 ^ 63) ≤ k) (hx:vs[(k + vs.length).toNat]? = some v) (h:P v m n)
    (hs:subscripted slice false (.ref l) (.int k u) = operate [.ref l,.int k u] (getItem (.ref l) (.int k u)):=by with_unfolding_all rfl):T Γ (subscriptTail value slice (.ref l) (.int k u)) m n P:=
  fun s Q E F N q => tail_any (hm.at N).typeIs slot_list_getitem.lookup (wpAny_getItem_list_neg (hm.at N) h0 (by simpa using h1) hk (by simpa using hx) (q _ m n _ _ F N h)) hs
theorem t_itemT {l:Addr} {vs:List Value} {e:Nat} {k:Int} {v:Value} {value slice:PySem.Expr} (hm:(l,tupO vs e) ∈ n) (h0:0 ≤ k) (hx:vs[k.toNat]? = some v) (h:P v m n) (hk:k < 2 ^ 63)
    (hs:subscripted slice false (.ref l) (.int k u) = operate [.ref l,.int k u] (getItem (.ref l) (.int k u)):=by with_unfolding_all rfl):T Γ (subscriptTail value slice (.ref l) (.int k u)) m n P:=
  fun s Q E F N q => item_tupleT (News.tup' N hm) (by omega) hk (j:=k.toNat) (by
    have:=(List.getElem?_eq_some_iff.mp hx).1
    unfold seqIndex?
    simp only [show ¬ k < 0 by omega,if_false]
    rw [if_pos (by simp; omega)]) hx (q _ m n _ _ F N h) hs
theorem t_setL {l:Addr} {vs:List Value} {k:Int} {v:Value} {P:Unit → Loc → Led → Prop} (hm:ListAt n l vs) (h0:0 ≤ k) (hk:k < 2 ^ 63) (hn:k < vs.length)
    (h:∀ o,ListAt (upd n l o) l (vs.set k.toNat v) → o.cls = .type "list" → P () m (upd n l o)):T Γ (setItem (.ref l) (.int k u) v) m n P:=
  fun s Q E F N q => wpAny_setItem_list (hm.at N) h0 hk (by simpa using hn) fun h' hl hs => by
    refine Xeaae hl ?_; clear hl; intro o ho hc e hd
    refine Xea hm ?_; clear hm; intro o1 hm1 _
    refine Xa (led_change F N hm1 hs ho) fun F' N' => ?_
    exact q _ m _ _ _ F' N' (h o ⟨o,upd_self,hc,e,by rw [hd]; simp⟩ hc)
theorem t_addL {l b:Addr} {vs ws:List Value} (hl:ListAt n l vs) (hb:ListAt n b ws) (hz:vs.length + ws.length < 2 ^ 20) (h:∀ x,(∀ p ∈ n,p.1 < x) → 3 < x → P (.ref x) m ((x,listO (vs ++ ws) 0) :: n)):T Γ (binaryOp .Add (.ref l) (.ref b)) m n P:=
  fun s Q E F N q => add_lists F N (hl.at N) (hb.at N) (fun h' F' N' => q _ m _ _ _ F' N' (h _ (fun p hp => Heap.lt_size (N p hp).1) (Γ.lo F))) (by rw [sizeLine_eq]; omega)
theorem t_lenL {l:Addr} {vs:List Value} (hm:ListAt n l vs) (hz:vs.length < 2 ^ 62) (h:∀ tk,P (.int vs.length tk) m n):T Γ (call (.builtin "len") [.ref l]) m n P:=
  fun s Q E F N q => call_len_list (hm.at N) (by simp; omega) (by simpa using q _ m n _ _ F N (h _))
theorem t_callT {pos:Pos} {U:String} {e:PySem.Expr} {rest:List PySem.Expr} {env:Env}
    (h:T Γ (spliced (backTo pos (starEach (e :: rest) env))) m n (bK Γ (fun vs => call (.type U) vs) P))
    (he:starEach (e :: rest) env = (false,eval e env) :: starEach rest env) (hplain:(backTo pos (starEach rest env)).any (·.1) = false) :
    T Γ (callWith pos (.type U) [] (backTo pos (starEach (e :: rest) env)) []) m n P:=
  fun s Q E F N q => PySem.Pv.callWith_type1 (h s _ E F N fun vs m1 n1 h1 tk1 F1 N1 p => p _ Q E F1 N1 q) he hplain
theorem t_tupleT {l:Addr} {vs:List Value} {e:Nat} (hm:(l,tupO vs e) ∈ n) (h:P (.ref l) m n):T Γ (call (.type "tuple") [.ref l]) m n P:=
  fun s Q E F N q => call_tuple_tup (News.tup' N hm) (q _ m n _ _ F N h)
end
def IsO (n:Led):Option (List Int) → Value → Prop
  | none,v => v = .none
  | some xs,v => IsT n xs v
theorem IsI.inj {a b:Int} {v:Value} (h:IsI a v) (k:IsI b v):a = b:=by refine Xe h ?_; clear h; intro t z1_; subst z1_; refine Xe k ?_; clear k; intro u e; cases e; rfl
theorem All2.inj {xs ys:List Int} {us:List Value} (h:All2 IsI xs us):All2 IsI ys us → xs = ys:=by
  induction h generalizing ys with
  | nil => intro k; cases k; rfl
  | cons r _ ih => intro k; cases k with | cons r' k' => rw [r.inj r',ih k']
theorem all_range_eq {xs ys:List Int} (h:∀ j (h1:j < xs.length) (h2:j < ys.length),True):((List.range (min xs.length ys.length)).all (fun j => xs[j]? == ys[j]?) && xs.length == ys.length) = decide (xs = ys):=by
  rw [Bool.eq_iff_iff]
  simp only [Bool.and_eq_true,List.all_eq_true,List.mem_range,beq_iff_eq,decide_eq_true_eq]
  constructor
  · rintro ⟨h1,h2⟩
    refine List.ext_getElem? fun i => ?_
    by_cases hi:i < min xs.length ys.length
    · exact h1 i hi
    · rw [List.getElem?_eq_none (by omega),List.getElem?_eq_none (by omega)]
  · rintro rfl; simp
theorem all_range_eqO {α:Type} [DecidableEq α] {xs ys:List α} (hl:xs.length = ys.length):(List.range xs.length).all (fun j => decide (xs[j]? = ys[j]?)) = decide (xs = ys):=by
  rw [Bool.eq_iff_iff]
  simp only [List.all_eq_true,List.mem_range,decide_eq_true_eq]
  constructor
  · intro h1
    refine List.ext_getElem? fun i => ?_
    by_cases hi:i < xs.length
    · exact h1 i hi
    · rw [List.getElem?_eq_none (by omega),List.getElem?_eq_none (by omega)]
  · rintro rfl; simp
section
variable {h₀:Heap} {L:Addr} {n:Led} {A:Around} {s:Shared}
theorem eq_ints (hu:A.units < cLine) {xs ys:List Int} {us vs:List Value} (hx:All2 IsI xs us) (hy:All2 IsI ys vs) (j:Nat) (h1:j < us.toArray.size) (h2:j < vs.toArray.size) :
    SeqAt.EqAt A s us.toArray[j] vs.toArray[j] ((fun j => xs[j]? == ys[j]?) j):=by
  refine Xeae (hx.get' (i:=j) (b:=us[j]'(by simpa using h1)) (by simp)) fun a e1 t r1 => ?_
  refine Xeae (hy.get' (i:=j) (b:=vs[j]'(by simpa using h2)) (by simp)) fun b e2 u r2 => ?_
  have g1:us.toArray[j] = .int a t:=by simpa using r1
  have g2:vs.toArray[j] = .int b u:=by simpa using r2
  rw [g1,g2]
  have:((fun j => xs[j]? == ys[j]?) j) = (a == b):=by simp [e1,e2]
  rw [this]
  exact SeqAt.EqAt.int_int a t b u
theorem rcne_tup (hu:A.units + 1 < cLine) (N:News h₀ L s.heap n) {xs ys:List Int} {a b:Addr} {us vs:List Value} {e e':Nat} (ha:(a,tupO us e) ∈ n) (hb:(b,tupO vs e') ∈ n) (hx:All2 IsI xs us) (hy:All2 IsI ys vs) :
    SeqAt.RcNeAt A s (.ref a) (.ref b) (decide (xs ≠ ys)):=by
  have:=SeqAt.RcNeAt.tuples (A:=A) (s:=s) (e:=fun j => xs[j]? == ys[j]?) (News.tup N ha) (News.tup N hb) (by omega) (fun j h1 h2 => eq_ints (by simp only [Around.in1_units]; omega) hx hy j h1 h2)
  have e1:us.toArray.size = xs.length:=by simp [hx.length]
  have e2:vs.toArray.size = ys.length:=by simp [hy.length]
  rw [e1,e2,all_range_eq (fun _ _ _ => trivial)] at this
  rwa [decide_not]
theorem eqat_tup (hu:A.units + 1 < cLine) (N:News h₀ L s.heap n) {xs ys:List Int} {a b:Addr} {us vs:List Value} {e e':Nat} (ha:(a,tupO us e) ∈ n) (hb:(b,tupO vs e') ∈ n) (hx:All2 IsI xs us) (hy:All2 IsI ys vs) :
    SeqAt.EqAt A s (.ref a) (.ref b) (decide (xs = ys)):=by
  by_cases hab:a = b
  · subst hab
    have:=News.fn N _ _ _ ha hb
    have e1:us = vs:=by injection this with _ _ h3 _; injection h3 with h4; simpa using h4
    subst e1
    rw [decide_eq_true (hx.inj hy)]
    exact SeqAt.EqAt.same _
  · refine SeqAt.EqAt.of_refs hab ?_
    have:=SeqAt.RcAt.tuples (A:=A) (s:=s) (e:=fun j => xs[j]? == ys[j]?) (News.tup N ha) (News.tup N hb) (by omega) (fun j h1 h2 => eq_ints (by simp only [Around.in1_units]; omega) hx hy j h1 h2)
    have e1:us.toArray.size = xs.length:=by simp [hx.length]
    have e2:vs.toArray.size = ys.length:=by simp [hy.length]
    rw [e1,e2,all_range_eq (fun _ _ _ => trivial)] at this
    exact this
theorem eqat_O (hu:A.units + 1 < cLine) (N:News h₀ L s.heap n) {x y:Option (List Int)} {a b:Value} (hx:IsO n x a) (hy:IsO n y b):SeqAt.EqAt A s a b (decide (x = y)):=by
  cases x with
  | none =>
    cases hx
    cases y with
    | none => cases hy; rw [decide_eq_true rfl]; exact SeqAt.EqAt.same _
    | some ys => refine Xeeeaa hy ?_; clear hy; intro c us e z2_ hm _; subst z2_; rw [decide_eq_false (by simp)]; exact SeqAt.EqAt.none_tuple (News.tup N hm) (by omega)
  | some xs =>
    refine Xeeeaa hx ?_; clear hx; intro c us e z3_ hm hv; subst z3_
    cases y with
    | none => cases hy; rw [decide_eq_false (by simp)]; exact SeqAt.EqAt.tuple_none (News.tup N hm) (by omega)
    | some ys =>
      refine Xeeeaa hy ?_; clear hy; intro c' us' e' z4_ hm' hv'; subst z4_
      have:=eqat_tup hu N hm hm' hv hv'
      have e1:decide (some xs = some ys) = decide (xs = ys):=by simp
      rw [e1]; exact this
theorem rcne_O (hu:A.units + 1 < cLine) (N:News h₀ L s.heap n) {x y:Option (List Int)} {a b:Value} (hx:IsO n x a) (hy:IsO n y b):SeqAt.RcNeAt A s a b (decide (x ≠ y)):=by
  cases x with
  | none =>
    cases hx
    cases y with
    | none => cases hy; rw [decide_eq_false (by simp)]; exact SeqAt.RcNeAt.none_none
    | some ys => refine Xeeeaa hy ?_; clear hy; intro c us e z5_ hm _; subst z5_; rw [decide_eq_true (by simp)]; exact SeqAt.RcNeAt.none_tuple (News.tup N hm) (by omega)
  | some xs =>
    refine Xeeeaa hx ?_; clear hx; intro c us e z6_ hm hv; subst z6_
    cases y with
    | none => cases hy; rw [decide_eq_true (by simp)]; exact SeqAt.RcNeAt.tuple_none (News.tup N hm) (by omega)
    | some ys =>
      refine Xeeeaa hy ?_; clear hy; intro c' us' e' z7_ hm' hv'; subst z7_
      have:=rcne_tup hu N hm hm' hv hv'
      have e1:decide (some xs ≠ some ys) = decide (xs ≠ ys):=by simp
      rw [e1]; exact this
end
section
variable {prog:Program} {w:World} {cs:Scope} {cl:List (PySem.Str × Addr)} {α β:Type} {Γ:Cx prog w cs cl} {m:Loc} {n:Led} {P:Value → Loc → Led → Prop}
theorem t_neO {x y:Option (List Int)} {a b:Value} (hx:IsO n x a) (hy:IsO n y b) (h:P (.bool (decide (x ≠ y))) m n):T Γ (compareOp .NotEq a b) m n P:=
  fun s Q E F N q => rcne_O (by have:=Γ.u8; omega) N hx hy prog w E Q (q _ m n _ _ F N h)
theorem t_neL {xs ys:List (Option (List Int))} {vs ws:List Value} {l b:Addr} (hl:ListAt n l vs) (hb:ListAt n b ws) (hx:All2 (IsO n) xs vs) (hy:All2 (IsO n) ys ws) (h:P (.bool (decide (xs ≠ ys))) m n) :
    T Γ (compareOp .NotEq (.ref l) (.ref b)) m n P:=fun s Q E F N q => by
  have hu:=Γ.u8
  by_cases hsz:vs.length = ws.length
  · have:=SeqAt.RcNeAt.lists (A:=Γ.A) (s:=s) (e:=fun j => decide (xs[j]? = ys[j]?)) (hl.at N) (hb.at N) (by simpa using hsz) (by omega) (fun j h1 h2 => by
      refine Xea (hx.get' (i:=j) (b:=vs[j]'(by simpa using h1)) (by simp)) fun x e1 r1 => ?_
      refine Xea (hy.get' (i:=j) (b:=ws[j]'(by simpa using h2)) (by simp)) fun y e2 r2 => ?_
      have g:decide (xs[j]? = ys[j]?) = decide (x = y):=by simp [e1,e2]
      rw [g]
      have:=eqat_O (A:=Γ.A.in1) (s:=s) (by simp only [Around.in1_units]; omega) N r1 r2
      simpa using this)
    have e1:vs.toArray.size = xs.length:=by simp [hx.length]
    rw [e1,all_range_eqO (by rw [hx.length,hy.length,hsz]),← decide_not] at this
    exact this prog w E Q (q _ m n _ _ F N h)
  · have:=SeqAt.RcNeAt.lists_lengths (A:=Γ.A) (s:=s) (hl.at N) (hb.at N) (by simpa using hsz) (by omega)
    have e:decide (xs ≠ ys) = true:=decide_eq_true (fun e => hsz (by rw [← hx.length,← hy.length,e]))
    rw [e] at h
    exact this prog w E Q (q _ m n _ _ F N h)
theorem t_inNone {xs:List (Option (List Int))} {vs:List Value} {l:Addr} (hl:ListAt n l vs) (hx:All2 (IsO n) xs vs) (h:P (.bool (xs.any (·.isNone))) m n):T Γ (compareOp .In .none (.ref l)) m n P:=fun s Q E F N q => by
  have hu:=Γ.u8
  refine SeqAt.in_listAt (fun v => match v with | .none => true | _ => false) (hl.at N) (fun y hy => ?_) ?_
  · obtain ⟨i,hi,rfl⟩:=List.getElem_of_mem (List.mem_toArray.mp hy)
    refine Xea (hx.get' (i:=i) (b:=vs[i]) (by simp)) fun x _ r => ?_
    cases x with
    | none => rw [show vs[i] = .none from r]; exact SeqAt.EqAt.same _
    | some xs => refine Xeeeaa r ?_; clear r; intro c us e r hm _; rw [r]; exact SeqAt.EqAt.tuple_none (News.tup N hm) (by simp only [Around.in1_units]; omega)
  · have:vs.toArray.any (fun v => match v with | .none => true | _ => false) = xs.any (·.isNone):=by
      rw [List.any_toArray]
      clear h q hl
      induction hx with
      | nil => rfl
      | cons r _ ih =>
        rename_i a b as bs _
        simp only [List.any_cons,ih]
        cases a with
        | none => cases r; rfl
        | some xs => refine Xeeeaa r ?_; clear r; intro c us e z9_ hm _; subst z9_; rfl
    rw [this]
    exact q _ m n _ _ F N h
theorem t_isNotNone {x:Option (List Int)} {a:Value} (hx:IsO n x a) (h:P (.bool x.isSome) m n):T Γ (compareOp .IsNot a .none) m n P:=fun s Q E F N q => by
  cases x with
  | none => cases hx; exact wpAny_isNot_self rfl (q _ m n _ _ F N h)
  | some xs => refine Xeeeaa hx ?_; clear hx; intro c us e z10_ hm _; subst z10_; exact wpAny_isNot_other rfl (by simp) (q _ m n _ _ F N h)
theorem t_inT {x:PySem.Str} {t:Tok} {ys:List PySem.Str} {vs:List Value} {l:Addr} {e:Nat} (hl:(l,tupO vs e) ∈ n) (hx:All2 IsS ys vs) (h:P (.bool (ys.any (· == x))) m n):T Γ (compareOp .In (.str x t) (.ref l)) m n P:=fun s Q E F N q => by
  refine SeqAt.in_tupleAt (fun v => match v with | .str y _ => y == x | _ => false) (News.tup N hl) (fun y hy => ?_) ?_
  · obtain ⟨i,hi,rfl⟩:=List.getElem_of_mem (List.mem_toArray.mp hy)
    refine Xeae (hx.get' (i:=i) (b:=vs[i]) (by simp)) fun y _ u r => ?_
    rw [r]; exact SeqAt.EqAt.str_str y u x t
  · have:vs.toArray.any (fun v => match v with | .str y _ => y == x | _ => false) = ys.any (· == x):=by
      rw [List.any_toArray]
      clear h q hl
      induction hx with
      | nil => rfl
      | cons r _ ih => refine Xe r ?_; clear r; intro u z12_; subst z12_; simp only [List.any_cons,ih]
    rw [this]
    exact q _ m n _ _ F N h
theorem t_inK {x:PySem.Str} {t:Tok} {ys:List PySem.Str} {vs:List Value} {l:Addr} {o:Obj} {e:Nat} (hl:(K w.params).lookup l = some o) (hc:o.cls = .type "tuple") (hd:o.data = .seq vs.toArray e) (hx:All2 IsS ys vs) (h:P (.bool (ys.any (· == x))) m n) :
    T Γ (compareOp .In (.str x t) (.ref l)) m n P:=fun s Q E F N q => by
  have hT:s.heap.IsTuple l vs.toArray:=⟨o,F.keep _ _ (Γ.X _ _ hl),hc,e,hd⟩
  refine SeqAt.in_tupleAt (fun v => match v with | .str y _ => y == x | _ => false) hT (fun y hy => ?_) ?_
  · obtain ⟨i,hi,rfl⟩:=List.getElem_of_mem (List.mem_toArray.mp hy)
    refine Xeae (hx.get' (i:=i) (b:=vs[i]) (by simp)) fun y _ u r => ?_
    rw [r]; exact SeqAt.EqAt.str_str y u x t
  · have:vs.toArray.any (fun v => match v with | .str y _ => y == x | _ => false) = ys.any (· == x):=by
      rw [List.any_toArray]
      clear h q hT hd
      induction hx with
      | nil => rfl
      | cons r _ ih => refine Xe r ?_; clear r; intro u z14_; subst z14_; simp only [List.any_cons,ih]
    rw [this]
    exact q _ m n _ _ F N h
end
theorem draw_list {prog:Program} {w:World} {A:Around} {E:Value → Shared → Prop} {it t:Addr} {items:Array Value} (hne:t ≠ it):∀ (n i:Nat) (s:Shared) (Q:List Value → Shared → Prop),s.heap.IsListIter it t i → s.heap.IsList t items → i + n ≤ items.size →
    (∀ h',h'.IsListIter it t (i + n) → Heap.SameBut it s.heap h' → Q ((items.toList.drop i).take n) { s with heap:=h' }) → wpAny (model prog w) A (draw (.ref it) n) Q E s
  | 0,i,s,Q,hit,_,_,hQ => by
    show wpAny _ _ (pure []) Q E s
    exact wpAny_pure (by simpa using hQ s.heap hit (Heap.SameBut.refl ..))
  | n + 1,i,s,Q,hit,ht,hle,hQ => by
    have hlt:i < items.size:=by omega
    show wpAny _ _ (pyNext (.ref it) >>= _) Q E s
    refine wpAny_bind (wpAny_pyNext_list_item hit ht (x:=items[i]) (by simp [hlt]) fun h₁ hit₁ hs₁ => ?_)
    refine wpAny_bind (wpAny_holding (draw_list hne n (i + 1) _ _ hit₁ (ht.extBut hs₁.extBut hne) (by omega) fun h₂ hit₂ hs₂ => wpAny_pure ?_))
    have hd:items.toList.drop i = items[i] :: items.toList.drop (i + 1):=by simp [List.drop_eq_getElem_cons,hlt]
    have:=hQ h₂ (by rw [show i + (n + 1) = i + 1 + n by omega]; exact hit₂) (hs₁.trans hs₂)
    rw [hd,List.take_succ_cons] at this
    exact this
theorem unpackItems_list {prog:Program} {w:World} {A:Around} {E:Value → Shared → Prop} {s:Shared} {t:Addr} {items:Array Value} {Q:List Value → Shared → Prop} (hh:A.handled = none) (ht:s.heap.IsList t items)
    (hQ:∀ h',Heap.ExtBut s.heap.objs.size s.heap h' → Q items.toList { s with heap:=h' }):wpAny (model prog w) A (unpackItems (.ref t) items.size none) Q E s:=by
  have hlt:t ≠ s.heap.objs.size:=by refine Xea ht ?_; clear ht; intro o ho _; exact Nat.ne_of_lt (Heap.lt_size ho)
  unfold unpackItems
  refine wpAny_bind ?_
  · unfold notIterableAtAll
    refine wpAny_bind (wpAny_specialOf ht.typeIs slot_list_iter.lookup ?_)
    refine wpAny_pure ?_
    simp only [Bool.false_eq_true,if_false]
    refine wpAny_bind (wpAny_holding (wpAny_pyIter_list ht ?_))
    refine wpAny_bind (wpAny_holding (draw_list hlt items.size 0 _ _ ⟨_,Heap.get?_push_size _ rfl,rfl,rfl⟩ (ht.push _) (by omega) fun h₁ hit₁ hs₁ => ?_))
    have hall:List.take items.size (List.drop 0 items.toList) = items.toList:=by
      rw [List.drop_zero]; exact List.take_of_length_le (by simp)
    rw [hall]
    rw [if_neg (by simp)]
    have ht₁:h₁.IsList t items:=(ht.push _).extBut hs₁.extBut hlt
    refine wpAny_bind (wpAny_holding (wpAny_pyNext_list_end hh hit₁ ht₁ (by simp) fun h₂ he₂ => ?_))
    simp only [Option.isSome_none,Bool.false_eq_true,if_false]
    refine wpAny_pure (hQ h₂ fun b o hb e => he₂ b o hb (hs₁.extBut b o hb (Heap.get?_push_of_some _ e)))
abbrev riO (a left:Int):Obj:={ cls:=.type "range_iterator",data:=.fields #[rawInt a,rawInt left,rawInt 1] }
def RangeO (n:Led) (r:Addr) (a b:Int):Prop:=∃ t u v,(r,({ cls:=.type "range",data:=.fields #[.int a t,.int b u,.int 1 v] }:Obj)) ∈ n
def ItL (n:Led) (I ax:Addr) (i:Nat):Prop:=∃ o,(I,o) ∈ n ∧ o.cls = .type "list_iterator" ∧ o.data = .fields #[.ref ax,.int i 0]
def ItT (n:Led) (I ax:Addr) (i:Nat):Prop:=∃ o,(I,o) ∈ n ∧ o.cls = .type "tuple_iterator" ∧ o.data = .fields #[.ref ax,.int i 0]
section
variable {prog:Program} {w:World} {cs:Scope} {cl:List (PySem.Str × Addr)} {α β:Type} {Γ:Cx prog w cs cl} {m:Loc} {n:Led}
theorem t_inOrder0 {xs:List Value} {P:Unit → Loc → Led → Prop} (h:P () m n):T Γ (assignInOrder [] xs) m n P:=fun s Q E F N q => assignInOrder_nil (q _ m n _ _ F N h)
theorem t_inOrder {t:Value → Sem Unit} {ts:List (Value → Sem Unit)} {x:Value} {xs:List Value} {P:Unit → Loc → Led → Prop} (h:T Γ (t x) m n (bK Γ (fun _ => assignInOrder ts xs) P)):T Γ (assignInOrder (t :: ts) (x :: xs)) m n P:=
  fun s Q E F N q => assignInOrder_cons (h s _ E F N fun _ m1 n1 h1 tk1 F1 N1 p => p _ Q E F1 N1 q)
theorem t_toName {x:PySem.Str} {pos:Pos} {v:Value} {P:Unit → Loc → Led → Prop} (h:P () (upL m x v) n) (hx:cs.names.lookup x = some .local):T Γ (assign (.Name x pos) Γ.env v) m n P:=
  fun s Q E F N q => assign_Name (t_store h hx s Q E F N q)
theorem t_assignTup {elts k tpos value pos} {P:Flow → Loc → Led → Prop} (h:T Γ (eval value Γ.env) m n (bK Γ (fun v => assign (.Tuple elts k tpos) Γ.env v) (nK P)))
    (hs:swapsWithSole [.Tuple elts k tpos] value pos.line Γ.env = pure false) (hw:swappedStores [.Tuple elts k tpos] value Γ.env = pure none):T Γ (exec (.Assign [.Tuple elts k tpos] value pos) Γ.env) m n P:=
  fun s Q E F N q => Assign_Tuple (h s _ E F N fun _ m1 n1 h1 tk1 F1 N1 p => p _ _ E F1 N1 fun _ m2 n2 h2 tk2 F2 N2 p => q _ m2 n2 _ _ F2 N2 p) hs hw
theorem t_assignSwap {elts k tpos value pos} (names:List PySem.Str) {P:Flow → Loc → Led → Prop} (h:T Γ (eval value Γ.env) m n (bK Γ (fun v => unpackItems v names.length none) (bK Γ (fun items => assignInOrder (names.reverse.map fun x => bindName Γ.env x) items.reverse) (nK P))))
    (hs:swapsWithSole [.Tuple elts k tpos] value pos.line Γ.env = pure false) (hw:swappedStores [.Tuple elts k tpos] value Γ.env = pure (some names)):T Γ (exec (.Assign [.Tuple elts k tpos] value pos) Γ.env) m n P:=
  fun s Q E F N q => Assign_Tuple_swapped (h s _ E F N fun _ m1 n1 h1 tk1 F1 N1 p => p _ _ E F1 N1 fun _ m2 n2 h2 tk2 F2 N2 p => p _ _ E F2 N2 fun _ m3 n3 h3 tk3 F3 N3 p => q _ m3 n3 _ _ F3 N3 p) hs hw
theorem t_unpackT {t:Addr} {vs:List Value} {e k:Nat} {P:List Value → Loc → Led → Prop} (hm:(t,tupO vs e) ∈ n) (hk:k = vs.length) (h:P vs m n):T Γ (unpackItems (.ref t) k none) m n P:=
  fun s Q E F N q => unpackItemsN_ F N (News.tup' N hm) Γ.hh (by simpa using hk) fun h' F' N' => by simpa using q _ m n _ s.toks F' N' h
theorem t_unpackA {elts:List PySem.Expr} {k:Nat} {pos:Pos} {t:Addr} {vs:List Value} {e:Nat} {P:Unit → Loc → Led → Prop} (hm:(t,tupO vs e) ∈ n) (h:T Γ (assignInOrder ((assignEach elts Γ.env).map (·.2)) vs) m n P)
    (hn:(assignEach elts Γ.env).length = vs.length) (hstar:(assignEach elts Γ.env).findIdx? (·.1) = none):T Γ (assign (.Tuple elts k pos) Γ.env (.ref t)) m n P:=
  fun s Q E F N q => unpackN_ F N (News.tup' N hm) Γ.hh (by simpa using hn) hstar fun h' F' N' => by simpa using h { s with heap:=h' } Q E F' N' q
theorem t_unpackL {elts:List PySem.Expr} {k:Nat} {pos:Pos} {t:Addr} {vs:List Value} {P:Unit → Loc → Led → Prop} (hm:ListAt n t vs) (h:T Γ (assignInOrder ((assignEach elts Γ.env).map (·.2)) vs) m n P)
    (hn:(assignEach elts Γ.env).length = vs.length) (hstar:(assignEach elts Γ.env).findIdx? (·.1) = none):T Γ (assign (.Tuple elts k pos) Γ.env (.ref t)) m n P:=
  fun s Q E F N q => by
    rw [PyProof.Rows.assign_Tuple]
    refine wpAny_bind (wpAny_standAt ?_)
    unfold unpack
    rw [hn,hstar]
    have:=unpackItems_list (prog:=prog) (w:=w) (E:=E) (Q:=fun items s' => wpAny (model prog w) Γ.A (assignInOrder ((assignEach elts Γ.env).map (·.2)) items) Q E s') Γ.hh (hm.at N) (fun h' he => by
      simpa using h { s with heap:=h' } Q E (Fr.extNew F he) (N.extBut he (Nat.le_refl _)) q)
    simp only [List.size_toArray] at this
    exact wpAny_bind (wpAny_holding this)
theorem t_slice {value lo hi:PySem.Expr} {p pos:Pos} {P:Value → Loc → Led → Prop} {env:Env}
    (h:T Γ (eval value env) m n (fun o m1 n1 => T Γ (eval lo env) m1 n1 (fun l m2 n2 => T Γ (eval hi env) m2 n2 (fun u m3 n3 =>
      ∃ (b:Addr) (vs:List Value) (x y:Int) (t t':Tok),o = .ref b ∧ l = .int x t ∧ u = .int y t' ∧ ListAt n3 b vs ∧ vs.length < 2 ^ 20 ∧ ∀ D,(∀ p ∈ n3,p.1 < D) → 3 < D → P (.ref D) m3 ((D,listO (slicePick vs.toArray (some x) (some y) none).toList 0) :: n3)))))
    (ht:∀ b r,letTemporaryGo value (.ref b) r = pure ()):T Γ (eval (.Subscript value (.Slice (some lo) (some hi) none p) pos) env) m n P:=
  fun s Q E F N q => Subscript_ (h s _ E F N fun a m1 n1 h1 tk1 F1 N1 p1 => wpAny_Slice (p1 _ _ E F1 N1 fun l m2 n2 h2 tk2 F2 N2 p2 => p2 _ _ E F2 N2 fun u m3 n3 h3 tk3 F3 N3 p3 => by
    refine Xeeeeeeaaaaa p3 ?_; clear p3; intro b vs x y t t' z1_ z2_ z3_ hm hz k; subst z1_; subst z2_; subst z3_
    refine wpAny_pure ?_
    refine slice_list F3 N3 (hm.at N3) (.int x t) (.int y t') (fun h' F' N' => q _ m3 _ _ _ F' (by simpa using N') (k _ (fun p hp => Nat.lt_succ_of_lt (Heap.lt_size (N3 p hp).1)) (Nat.lt_succ_of_lt (Γ.lo F3)))) (by with_unfolding_all rfl) (ht b) (by rw [sizeLine_eq]; simp; omega)))
theorem t_sliceTo {value hi:PySem.Expr} {p pos:Pos} {P:Value → Loc → Led → Prop} {env:Env}
    (h:T Γ (eval value env) m n (fun o m1 n1 => T Γ (eval hi env) m1 n1 (fun u m3 n3 =>
      ∃ (b:Addr) (vs:List Value) (y:Int) (t':Tok),o = .ref b ∧ u = .int y t' ∧ ListAt n3 b vs ∧ vs.length < 2 ^ 20 ∧ ∀ D,(∀ p ∈ n3,p.1 < D) → 3 < D → P (.ref D) m3 ((D,listO (slicePick vs.toArray none (some y) none).toList 0) :: n3))))
    (ht:∀ b r,letTemporaryGo value (.ref b) r = pure ()):T Γ (eval (.Subscript value (.Slice none (some hi) none p) pos) env) m n P:=
  fun s Q E F N q => Subscript_ (h s _ E F N fun a m1 n1 h1 tk1 F1 N1 p1 => wpAny_Slice (wpAny_pure (p1 _ _ E F1 N1 fun u m3 n3 h3 tk3 F3 N3 p3 => by
    refine Xeeeeaaaa p3 ?_; clear p3; intro b vs y t' z4_ z5_ hm hz k; subst z4_; subst z5_
    refine wpAny_pure ?_
    refine slice_list F3 N3 (hm.at N3) .none (.int y t') (fun h' F' N' => q _ m3 _ _ _ F' (by simpa using N') (k _ (fun p hp => Nat.lt_succ_of_lt (Heap.lt_size (N3 p hp).1)) (Nat.lt_succ_of_lt (Γ.lo F3)))) (by with_unfolding_all rfl) (ht b) (by rw [sizeLine_eq]; simp; omega))))
theorem push_led {h₀ h:Heap} {L:Addr} {m:Loc} {n:Led} (F:Fr h₀ L h m) (N:News h₀ L h n) (o:Obj) (hf:o.isFreed = false:=by rfl):Fr h₀ L (h.push o) m ∧ News h₀ L (h.push o) ((h.objs.size,o) :: n):=⟨F.push _,News.push F N _ hf⟩
theorem t_range1 {a:Int} {t:Tok} {P:Value → Loc → Led → Prop} (h:∀ r o,(∀ p ∈ n,p.1 < r) → 3 < r → RangeO ((r,o) :: n) r 0 a → o.cls = .type "range" → P (.ref r) m ((r,o) :: n)):T Γ (call (.type "range") [.int a t]) m n P:=
  fun s Q E F N q => call_range_1 (by
    refine Xa (push_led F N { cls:=.type "range",data:=.fields #[.int 0 s.toks,.int a t,.int 1 (s.toks + 1)] }) fun F' N' => ?_
    exact q _ m _ _ _ F' N' (h _ _ (fun p hp => Heap.lt_size (N p hp).1) (Γ.lo F) ⟨_,_,_,.head _⟩ rfl))
theorem t_range2 {a b:Int} {t u:Tok} {P:Value → Loc → Led → Prop} (h:∀ r o,(∀ p ∈ n,p.1 < r) → 3 < r → RangeO ((r,o) :: n) r a b → o.cls = .type "range" → P (.ref r) m ((r,o) :: n)):T Γ (call (.type "range") [.int a t,.int b u]) m n P:=
  fun s Q E F N q => call_range_2 (by
    refine Xa (push_led F N { cls:=.type "range",data:=.fields #[.int a t,.int b u,.int 1 s.toks] }) fun F' N' => ?_
    exact q _ m _ _ _ F' N' (h _ _ (fun p hp => Heap.lt_size (N p hp).1) (Γ.lo F) ⟨_,_,_,.head _⟩ rfl))
theorem t_iterR {r:Addr} {a b:Int} {P:Value → Loc → Led → Prop} (hr:RangeO n r a b) (ha:-(2 ^ 62) ≤ a) (ha':a < 2 ^ 62) (hb:-(2 ^ 62) ≤ b) (hb':b < 2 ^ 62)
    (h:∀ I,(∀ p ∈ n,p.1 < I) → 3 < I → P (.ref I) m ((I,riO a (if a < b then b - a else 0)) :: n)):T Γ (pyIter (.ref r)) m n P:=
  fun s Q E F N q => by
    refine Xeee hr ?_; clear hr; intro t u v hm
    refine wpAny_pyIter_range (N _ hm).1 (small_one ha ha' hb hb') ?_
    rw [rangeSize_one]
    refine Xa (push_led F N (riO a (if a < b then b - a else 0))) fun F' N' => ?_
    exact q _ m _ _ _ F' N' (h _ (fun p hp => Heap.lt_size (N p hp).1) (Γ.lo F))
theorem t_iterL {l:Addr} {vs:List Value} {P:Value → Loc → Led → Prop} (hl:ListAt n l vs)
    (h:∀ I o,(∀ p ∈ n,p.1 < I) → 3 < I → ItL ((I,o) :: n) I l 0 → o.cls = .type "list_iterator" → P (.ref I) m ((I,o) :: n)):T Γ (pyIter (.ref l)) m n P:=
  fun s Q E F N q => by
    refine wpAny_pyIter_list (hl.at N) ?_
    refine Xa (push_led F N { cls:=.type "list_iterator",data:=.fields #[.ref l,.int 0 0] }) fun F' N' => ?_
    exact q _ m _ _ _ F' N' (h _ _ (fun p hp => Heap.lt_size (N p hp).1) (Γ.lo F) ⟨_,.head _,rfl,rfl⟩ rfl)
def Loop (Γ:Cx prog w cs cl) (target:PySem.Expr) (it:Value) (body:List Stmt) (m:Loc) (n:Led) (P:Flow → Loc → Led → Prop):Prop:=
  ∀ (s:Shared) (Q:Flow → Shared → Prop) (E:Value → Shared → Prop),Fr Γ.h₀ Γ.L s.heap m → News Γ.h₀ Γ.L s.heap n →
    (∀ a m' n' h' tk',Fr Γ.h₀ Γ.L h' m' → News Γ.h₀ Γ.L h' n' → P a m' n' → Q a { s with heap:=h',toks:=tk' }) →
    codeAny (model prog w) Γ.A (.forLoop target it body [] Γ.env) (fun r s' => match r with | .ok f => Q f s' | .error e => cameBackBy (model prog w) Γ.A Γ.env E e s') s
abbrev lpK (Γ:Cx prog w cs cl) (target:PySem.Expr) (body:List Stmt) (P:Flow → Loc → Led → Prop):Value → Loc → Led → Prop:=fun it m n => Loop Γ target it body m n P
theorem t_for {target iter:PySem.Expr} {body:List Stmt} {pos:Pos} {P:Flow → Loc → Led → Prop}
    (h:T Γ (eval iter Γ.env) m n (bK Γ pyIter (lpK Γ target body P))) (hs:∀ x,foldedSetIterable iter Γ.env x = pure x):T Γ (exec (.For target iter body [] pos) Γ.env) m n P:=
  fun s Q E F N q => wpAny_For (h s _ E F N fun _ m1 n1 h1 tk1 F1 N1 p => p _ _ E F1 N1 fun _ m2 n2 h2 tk2 F2 N2 p => p _ Q E F2 N2 q) hs
def bodyPost (J:Loc → Led → Prop) (P:Flow → Loc → Led → Prop):Flow → Loc → Led → Prop
  | .next,m,n => J m n
  | .cont,m,n => J m n
  | .brk,m,n => P .next m n
  | .ret v,m,n => P (.ret v) m n
theorem Loop.core {x:PySem.Str} {px:Pos} {I:Addr} {body:List Stmt} {P:Flow → Loc → Led → Prop} (cnt:Nat) (J:Nat → Loc → Led → Prop) (hx:cs.names.lookup x = some .local) (h0:J 0 m n)
    (hI:∀ i m1 n1,J i m1 n1 → ∃ o,(I,o) ∈ n1)
    (next:∀ i m1 n1,i < cnt → J i m1 n1 → ∃ (V:Value → Prop) (O:Obj → Prop),(∀ (s:Shared) (Q:Option Value → Shared → Prop) (E:Value → Shared → Prop),Fr Γ.h₀ Γ.L s.heap m1 → News Γ.h₀ Γ.L s.heap n1 →
        (∀ v h' tk o',V v → Heap.SameBut I s.heap h' → h'.get? I = some o' → O o' → Q (some v) { s with heap:=h',toks:=tk }) → wpAny (model prog w) Γ.A (pyNext (.ref I)) Q E s) ∧
      ∀ v o',V v → O o' → T Γ (execs body Γ.env) (upL m1 x v) (upd n1 I o') (bodyPost (J (i + 1)) P))
    (stop:∀ m1 n1 (s:Shared) (Q:Option Value → Shared → Prop) (E:Value → Shared → Prop),J cnt m1 n1 → Fr Γ.h₀ Γ.L s.heap m1 → News Γ.h₀ Γ.L s.heap n1 → (∀ h',Heap.ExtBut I s.heap h' → Q none { s with heap:=h' }) → wpAny (model prog w) Γ.A (pyNext (.ref I)) Q E s)
    (done:∀ m1 n1,J cnt m1 n1 → P .next m1 (n1.filter (fun p => p.1 != I))):Loop Γ (.Name x px) (.ref I) body m n P:=by
  intro s Q E F N q
  refine codeAny_forLoop (fun k s' => ∃ h' tk m' n' i,s' = { s with heap:=h',toks:=tk } ∧ Fr Γ.h₀ Γ.L h' m' ∧ News Γ.h₀ Γ.L h' n' ∧ J i m' n' ∧ i ≤ cnt ∧ k = cnt + 1 - i) ?_ (cnt + 1)
    ⟨s.heap,s.toks,m,n,0,rfl,F,N,h0,Nat.zero_le _,rfl⟩
  rintro k s' ⟨h',tk,m',n',i,rfl,F',N',hJ,hi,rfl⟩
  refine Xe (hI _ _ _ hJ) fun o hm => ?_
  by_cases hlt:i < cnt
  · refine Xeea (next i m' n' hlt hJ) fun V O nx bd => ?_
    refine nx _ _ _ F' N' fun v h₁ tk₁ o' hV hs ho hO => ?_
    refine Xa (led_change F' N' hm hs ho) fun F₁ N₁ => ?_
    refine assign_Name (storeX_L F₁ N₁ (fun h₂ F₂ N₂ => ?_) Γ.hk hx)
    refine bd v o' hV hO _ _ _ F₂ N₂ fun f m₃ n₃ h₃ tk₃ F₃ N₃ p => ?_
    cases f with
    | next => exact ⟨_,by omega,h₃,tk₃,m₃,n₃,i + 1,rfl,F₃,N₃,p,hlt,rfl⟩
    | cont => exact ⟨_,by omega,h₃,tk₃,m₃,n₃,i + 1,rfl,F₃,N₃,p,hlt,rfl⟩
    | brk => exact q _ _ _ _ _ F₃ N₃ p
    | ret v => exact q _ _ _ _ _ F₃ N₃ p
  · obtain rfl:i = cnt:=by omega
    refine stop _ _ _ _ _ hJ F' N' fun h₁ hs => wpAny_execs_nil ?_
    exact q _ _ _ _ _ (Fr.ext F' N' hm hs) (News.ext N' hs) (done _ _ hJ)
theorem Loop.range {x:PySem.Str} {px:Pos} {I:Addr} {body:List Stmt} {P:Flow → Loc → Led → Prop} {a:Int} (cnt:Nat) (J:Nat → Loc → Led → Prop) (hx:cs.names.lookup x = some .local) (h0:J 0 m n)
    (hI:∀ i m1 n1,J i m1 n1 → (I,riO (a + i) (cnt - i)) ∈ n1)
    (step:∀ i m1 n1 t,i < cnt → J i m1 n1 → T Γ (execs body Γ.env) (upL m1 x (.int (a + i) t)) (upd n1 I (riO (a + (i + 1:Nat)) (cnt - (i + 1:Nat)))) (bodyPost (J (i + 1)) P))
    (done:∀ m1 n1,J cnt m1 n1 → P .next m1 (n1.filter (fun p => p.1 != I))):Loop Γ (.Name x px) (.ref I) body m n P:=by
  refine Loop.core cnt J hx h0 (fun i m1 n1 h => ⟨_,hI _ _ _ h⟩) (fun i m1 n1 hi hJ => ⟨fun v => ∃ t,v = .int (a + i) t,fun o => o = riO (a + (i + 1:Nat)) (cnt - (i + 1:Nat)),fun s Q E F N k => ?_,?_⟩) (fun m1 n1 s Q E hJ F N k => ?_) done
  · refine wpAny_pyNext_range_item (x:=a + i) (left:=cnt - i) (step:=1) (N _ (hI _ _ _ hJ)).1 (by omega) fun h' hit hs => k _ _ _ _ ⟨_,rfl⟩ hs hit ?_
    have e1:a + ((i + 1:Nat):Int) = a + i + 1:=by omega
    have e2:(cnt:Int) - ((i + 1:Nat):Int) = cnt - i - 1:=by omega
    show riO _ _ = _
    rw [e1,e2]
  · rintro v o ⟨t,rfl⟩ rfl
    exact step i m1 n1 t hi hJ
  · exact wpAny_pyNext_range_end (x:=a + cnt) (left:=cnt - cnt) (step:=1) Γ.hh (N _ (hI _ _ _ hJ)).1 (by omega) fun h' hs => k h' hs
theorem Loop.list {x:PySem.Str} {px:Pos} {I l:Addr} {vs:List Value} {body:List Stmt} {P:Flow → Loc → Led → Prop} (J:Nat → Loc → Led → Prop) (hx:cs.names.lookup x = some .local) (h0:J 0 m n)
    (hI:∀ i m1 n1,J i m1 n1 → ItL n1 I l i ∧ ListAt n1 l vs)
    (step:∀ i m1 n1 v o,vs[i]? = some v → J i m1 n1 → ItL (upd n1 I o) I l (i + 1) → o.cls = .type "list_iterator" → T Γ (execs body Γ.env) (upL m1 x v) (upd n1 I o) (bodyPost (J (i + 1)) P))
    (done:∀ m1 n1,J vs.length m1 n1 → P .next m1 (n1.filter (fun p => p.1 != I))):Loop Γ (.Name x px) (.ref I) body m n P:=by
  refine Loop.core vs.length J hx h0 (fun i m1 n1 h => by refine Xa (hI _ _ _ h) fun z6_ _ => ?_; refine Xea z6_ ?_; clear z6_; intro o hm _; exact ⟨o,hm⟩) (fun i m1 n1 hi hJ => ⟨fun v => vs[i]? = some v,fun o => o.cls = .type "list_iterator" ∧ o.data = .fields #[.ref l,.int (i + 1:Nat) 0],fun s Q E F N k => ?_,?_⟩) (fun m1 n1 s Q E hJ F N k => ?_) done
  · refine Xa (hI _ _ _ hJ) fun z7_ hl => ?_; refine Xeaa z7_ ?_; clear z7_; intro o hm hc hd
    refine wpAny_pyNext_list_item ⟨o,(N _ hm).1,hc,hd⟩ (hl.at N) (x:=vs[i]) (by simp [hi]) fun h' hit hs => ?_
    refine Xeaa hit ?_; clear hit; intro o' ho' hc' hd'
    exact k _ _ _ _ (by simp [hi]) hs ho' ⟨hc',hd'⟩
  · rintro v o hv ⟨hc,hd⟩
    exact step i m1 n1 v o hv hJ ⟨o,upd_self,hc,hd⟩ hc
  · refine Xa (hI _ _ _ hJ) fun z8_ hl => ?_; refine Xeaa z8_ ?_; clear z8_; intro o hm hc hd
    exact wpAny_pyNext_list_end Γ.hh ⟨o,(N _ hm).1,hc,hd⟩ (hl.at N) (by simp) fun h' hs => k h' hs
end
def CellAt (n:Led) (c:Addr) (v:Value):Prop:=∃ o,(c,o) ∈ n ∧ o.data = .cell (some v)
abbrev lstO (ys:List Value):Obj:=listO ys ys.length
section
variable {prog:Program} {w:World} {cs:Scope} {cl:List (PySem.Str × Addr)} {Γ:Cx prog w cs cl} {m:Loc} {n:Led}
theorem t_nameC {x:PySem.Str} {pos:Pos} {v:Value} {c:Addr} {P:Value → Loc → Led → Prop} (hm:CellAt n c v) (h:P v m n) (hc:cl.lookup x = some c) (hx:cs.names.lookup x = some .cell) (hb:(x == ("__debug__":PySem.Str)) = false) :
    T Γ (eval (.Name x pos) Γ.env) m n P:=fun s Q E F N q => by refine Xea hm ?_; clear hm; intro o h1 h2; exact nameX_C N hc h1 h2 (q _ m n _ _ F N h) Γ.hk hx hb
theorem t_storeC {x:PySem.Str} {v:Value} {c:Addr} {v₀:Option Value} {P:Unit → Loc → Led → Prop} (hm:∃ o,(c,o) ∈ n ∧ o.data = .cell v₀) (hc:cl.lookup x = some c) (h:∀ o,o.data = .cell (some v) → P () m (upd n c o)) (hx:cs.names.lookup x = some .cell) :
    T Γ (storeName Γ.env x v) m n P:=fun s Q E F N q => by
  refine Xea hm ?_; clear hm; intro o h1 h2
  refine wpAny_storeName_cell Γ.hk hx hc ⟨o,(N _ h1).1,h2⟩ fun h' hv hs => ?_
  refine Xea hv ?_; clear hv; intro o' ho' hd'
  refine Xa (led_change F N h1 hs ho') fun F' N' => ?_
  exact q _ m _ _ _ F' N' (h o' hd')
theorem t_assignC {x pos' e pos} {c:Addr} {P:Flow → Loc → Led → Prop}
    (h:T Γ (eval e Γ.env) m n (fun v m' n' => (∃ v₀,∃ o,(c,o) ∈ n' ∧ o.data = .cell v₀) ∧ ∀ o,o.data = .cell (some v) → P .next m' (upd n' c o)))
    (hc:cl.lookup x = some c) (hs:swapsWith e (some (.Name x pos')) pos.line Γ.env = pure false) (hx:cs.names.lookup x = some .cell) :
    T Γ (exec (.Assign [.Name x pos'] e pos) Γ.env) m n P:=
  fun s Q E F N q => wpAny_Assign_Name (h s _ E F N fun a m' n' h' tk' F' N' p => by
    refine Xa p ?_; clear p; intro z1_ p2; refine Xe z1_ ?_; clear z1_; intro v₀ p1
    exact t_storeC (P:=fun _ m n => P .next m n) p1 hc p2 hx _ _ _ F' N' fun _ m2 n2 h2 tk2 F2 N2 p => q _ m2 n2 _ _ F2 N2 p) hs
theorem t_toCell {x:PySem.Str} {pos:Pos} {v:Value} {c:Addr} {v₀:Option Value} {P:Unit → Loc → Led → Prop} (hm:∃ o,(c,o) ∈ n ∧ o.data = .cell v₀) (hc:cl.lookup x = some c) (h:∀ o,o.data = .cell (some v) → P () m (upd n c o)) (hx:cs.names.lookup x = some .cell) :
    T Γ (assign (.Name x pos) Γ.env v) m n P:=fun s Q E F N q => assign_Name (t_storeC hm hc h hx s Q E F N q)
variable {scope:Scope} {cl':List (PySem.Str × Addr)} {C:Addr}
theorem t_cnL {x:PySem.Str} {pos:Pos} {v:Value} {oC:Obj} {m₂:Loc} {P:Value → Loc → Led → Prop} (hm:(C,oC) ∈ n) (hC:LCg.NsObj oC m₂) (hx:m₂ x = some v) (h:P v m n)
    (hk:(compEnvC scope cl' C Γ.env).scope.kind = .function) (hl:(compEnvC scope cl' C Γ.env).kindOf x = some .local) (hd:(x == ("__debug__":PySem.Str)) = false):T Γ (eval (.Name x pos) (compEnvC scope cl' C Γ.env)) m n P:=
  fun s Q E F N q => LCgL.ld_own N hm hC hx (q _ m n _ _ F N h) hk hl hd
theorem t_cnC {x:PySem.Str} {pos:Pos} {v:Value} {c:Addr} {P:Value → Loc → Led → Prop} (hm:CellAt n c v) (h:P v m n) (hc:cl'.lookup x = some c)
    (hk:(compEnvC scope cl' C Γ.env).scope.kind = .function) (hx:(compEnvC scope cl' C Γ.env).kindOf x = some .cell) (hb:(x == ("__debug__":PySem.Str)) = false):T Γ (eval (.Name x pos) (compEnvC scope cl' C Γ.env)) m n P:=
  fun s Q E F N q => by refine Xea hm ?_; clear hm; intro o h1 h2; exact wpAny_Name (wpAny_loadName_cell hk hx hc ⟨o,N.get h1,h2⟩ (q _ m n _ _ F N h)) hb
theorem t_cnG {x:PySem.Str} {pos:Pos} {v:Value} {P:Value → Loc → Led → Prop} (e:nsIn (K w.params) mainGlobals x = some (some v)) (h:P v m n)
    (hk:(compEnvC scope cl' C Γ.env).scope.kind = .function) (hx:(compEnvC scope cl' C Γ.env).kindOf x = some .globalImplicit) (hd:(x == ("__debug__":PySem.Str)) = false):T Γ (eval (.Name x pos) (compEnvC scope cl' C Γ.env)) m n P:=
  fun s Q E F N q => LCgL.ld_global F Γ.X Γ.Tp e (q _ m n _ _ F N h) rfl hk hx hd
theorem t_cnB {x:PySem.Str} {pos:Pos} {v:Value} {P:Value → Loc → Led → Prop} (e:nsIn (K w.params) mainGlobals x = some none) (hv:bootBuiltins x = some v) (hn:x ≠ "__name__") (h:P v m n)
    (hk:(compEnvC scope cl' C Γ.env).scope.kind = .function) (hx:(compEnvC scope cl' C Γ.env).kindOf x = some .globalImplicit) (hd:(x == ("__debug__":PySem.Str)) = false):T Γ (eval (.Name x pos) (compEnvC scope cl' C Γ.env)) m n P:=
  fun s Q E F N q => LCgL.ld_built F Γ.X Γ.Tp e hv hn (q _ m n _ _ F N h) rfl rfl hk hx hd
def CStep (Γ:Cx prog w cs cl) (elt:PySem.Expr) (x:PySem.Str) (scope:Scope) (cl':List (PySem.Str × Addr)) (m:Loc) (PV:Nat → Value → Prop) (cnt:Nat) (J:Nat → List Value → Led → Prop):Prop:=
  ∀ i ys n1 v I oI C oC D m₂,i < cnt → PV i v → J i ys n1 → LCg.NsObj oC m₂ → m₂ x = some v → LCg.Off3 I C D n1 → @Ne Nat I C → @Ne Nat I D → @Ne Nat C D →
    T Γ (eval elt (compEnvC scope cl' C Γ.env)) m ((I,oI) :: (C,oC) :: (D,LCg.lst ys) :: n1) (fun y m' n' => m' = m ∧ ∃ n2,(∀ p ∈ (I,oI) :: (C,oC) :: (D,LCg.lst ys) :: n2,p ∈ n') ∧ LCg.Off3 I C D n2 ∧ J (i + 1) (ys ++ [y]) n2)
theorem CStep.rest {elt:PySem.Expr} {x:PySem.Str} {PV:Nat → Value → Prop} {cnt:Nat} {J:Nat → List Value → Led → Prop} (st:CStep Γ elt x scope cl' m PV cnt J) {S:Led → Prop} (hS:∀ i ys n1,J i ys n1 → S n1) {Fin:List Value → Led → Prop} (hF:∀ ys n1,J cnt ys n1 → Fin ys n1) (s:Shared) :
    ∀ k i ys n1,i + k = cnt → J i ys n1 → LCg.CompRest prog w Γ.A Γ.h₀ Γ.L m Γ.env elt x scope cl' s S PV Fin k i ys n1:=by
  intro k
  induction k with
  | zero => intro i ys n1 hk hJ; exact LCg.CompRest.zero (hF _ _ (by simpa using (show i = cnt by omega) ▸ hJ))
  | succ k ih =>
    intro i ys n1 hk hJ
    refine LCg.CompRest.succ fun v I oI C oC D m₂ h tk E' hP hC hx F N off hne => ?_
    refine st i ys n1 v I oI C oC D m₂ (by omega) hP hJ hC hx off hne.1 hne.2.1 hne.2.2 _ _ _ F N fun y m' n' h' tk' F' N' p => ?_
    refine Xaeaa p ?_; clear p; intro z2_ n2 sub off2 hJ2; subst z2_
    exact LCg.CompEnd.intro F' N' n2 sub off2 (hS _ _ _ hJ2) (ih _ _ _ (by omega) hJ2)
theorem t_compL {elt iter:PySem.Expr} {x:PySem.Str} {px:Pos} {pos:Pos} {P:Value → Loc → Led → Prop}
    (h:T Γ (eval iter Γ.env) m n (fun xv m1 n1 => m1 = m ∧ ∃ ax vs J,xv = .ref ax ∧ ListAt n1 ax vs ∧ vs.length < 2 ^ 20 ∧ CStep Γ elt x scope cl' m (fun i v => vs[i]? = some v) vs.length J ∧ J 0 [] n1 ∧ (∀ i ys n1,J i ys n1 → ListAt n1 ax vs) ∧ ∀ ys n2 D,J vs.length ys n2 → LCg.Off1 D n2 → P (.ref D) m ((D,LCg.lst ys) :: n2)))
    (hclos:closureFor scope Γ.env = pure cl') (hcell:∀ y ∈ scope.names,y.2 ≠ .cell) (hkind:scope.kind = .function)
    (hnames:∀ y ∈ scope.names,y.2 = .local → scope.names.lookup y.1 = some .local) (hx:scope.names.lookup x = some .local) (hs:∀ x,foldedSetIterable iter Γ.env x = pure x) :
    T Γ (eval (.ListComp elt [⟨.Name x px,iter,[],0⟩] scope pos) Γ.env) m n P:=fun s Q E F N q =>
  LCg.ListComp_U F hclos hcell hkind hnames hx (h s _ E F N fun xv m1 n1 h1 tk1 F1 N1 p => by
    refine Xaeeeaaaaaa p ?_; clear p; intro z3_ ax vs J z4_ hl hz st hJ hL fin; subst z3_; subst z4_
    refine Xeaae hl ?_; clear hl; intro o h1 h2 e h3
    refine .inl ⟨ax,vs.toArray,n1,rfl,Γ.hh,F1,N1,.inr ⟨o,h1,h2,e,h3⟩,by rw [sizeLine_eq]; simp; omega,fun s₂ hs₂ => ?_⟩
    refine Xe hs₂ ?_; clear hs₂; intro g z5_; subst z5_
    have:=st.rest (S:=LCg.SrcAt Γ.h₀ ax vs.toArray) (fun i ys n1 hJ => by refine Xeaae (hL _ _ _ hJ) fun o h1 h2 e h3 => ?_; exact .inr ⟨o,h1,h2,e,h3⟩)
      (Fin:=LCg.FinE Γ.h₀ Γ.L m1 { s with heap:=g,toks:=tk1 } Q) (fun ys n2 hJ D h2 tk2 F2 N2 off => q _ m1 _ h2 tk2 F2 N2 (fin ys n2 D hJ off)) { s with heap:=g,toks:=tk1 } vs.length 0 [] n1 (by omega) hJ
    simpa using this) hs
theorem t_compR {elt iter:PySem.Expr} {x:PySem.Str} {px:Pos} {pos:Pos} {P:Value → Loc → Led → Prop}
    (h:T Γ (eval iter Γ.env) m n (fun xv m1 n1 => m1 = m ∧ ∃ r a b cnt J,xv = .ref r ∧ RangeO n1 r a b ∧ -(2 ^ 62) ≤ a ∧ a < 2 ^ 62 ∧ -(2 ^ 62) ≤ b ∧ b < 2 ^ 62 ∧ (if a < b then b - a else 0) = ((cnt:Nat):Int) ∧ cnt < 2 ^ 20 ∧ CStep Γ elt x scope cl' m (fun i v => ∃ t,v = .int (a + (i:Int)) t) cnt J ∧ J 0 [] n1 ∧ ∀ ys n2 D,J cnt ys n2 → LCg.Off1 D n2 → P (.ref D) m ((D,LCg.lst ys) :: n2)))
    (hclos:closureFor scope Γ.env = pure cl') (hcell:∀ y ∈ scope.names,y.2 ≠ .cell) (hkind:scope.kind = .function)
    (hnames:∀ y ∈ scope.names,y.2 = .local → scope.names.lookup y.1 = some .local) (hx:scope.names.lookup x = some .local) (hs:∀ x,foldedSetIterable iter Γ.env x = pure x) :
    T Γ (eval (.ListComp elt [⟨.Name x px,iter,[],0⟩] scope pos) Γ.env) m n P:=fun s Q E F N q =>
  LCg.ListComp_U F hclos hcell hkind hnames hx (h s _ E F N fun xv m1 n1 h1 tk1 F1 N1 p => by
    refine Xaeeeeeaaaaaaaaaa p ?_; clear p; intro z6_ r a b cnt J z7_ hl a1 a2 b1 b2 hc hz st hJ fin; subst z6_; subst z7_
    refine Xeee hl ?_; clear hl; intro t u v hm
    refine .inr ⟨r,a,b,t,u,v,cnt,n1,rfl,Γ.hh,F1,N1,(N1 _ hm).1,small_one a1 a2 b1 b2,by rw [rangeSize_one]; exact hc,by rw [sizeLine_eq]; omega,fun s₂ hs₂ => ?_⟩
    refine Xe hs₂ ?_; clear hs₂; intro g z8_; subst z8_
    have:=st.rest (S:=fun _ => True) (fun i ys n1 hJ => trivial)
      (Fin:=LCg.FinE Γ.h₀ Γ.L m1 { s with heap:=g,toks:=tk1 } Q) (fun ys n2 hJ D h2 tk2 F2 N2 off => q _ m1 _ h2 tk2 F2 N2 (fin ys n2 D hJ off)) { s with heap:=g,toks:=tk1 } cnt 0 [] n1 (by omega) hJ
    exact this) hs
def TupSrc (h₀:Heap) (ax:Addr) (vs:List Value) (n:Led):Prop:=h₀.IsTuple ax vs.toArray ∨ ∃ e,(ax,tupO vs e) ∈ n
theorem TupSrc.at {h₀ h:Heap} {L ax:Addr} {vs:List Value} {n:Led} (x:TupSrc h₀ ax vs n) (k:∀ b o,h₀.get? b = some o → h.get? b = some o) (N:News h₀ L h n):h.IsTuple ax vs.toArray:=by
  rcases x with ⟨o,e,r⟩ | ⟨e,hm⟩
  · exact ⟨o,k _ _ e,r⟩
  · exact News.tup N hm
theorem t_compT {elt iter:PySem.Expr} {x:PySem.Str} {px:Pos} {pos:Pos} {P:Value → Loc → Led → Prop}
    (h:T Γ (eval iter Γ.env) m n (fun xv m1 n1 => m1 = m ∧ ∃ ax vs J,xv = .ref ax ∧ TupSrc Γ.h₀ ax vs n1 ∧ vs.length < 2 ^ 20 ∧ CStep Γ elt x scope cl' m (fun i v => vs[i]? = some v) vs.length J ∧ J 0 [] n1 ∧ (∀ i ys n1,J i ys n1 → TupSrc Γ.h₀ ax vs n1) ∧ ∀ ys n2 D,J vs.length ys n2 → LCg.Off1 D n2 → P (.ref D) m ((D,LCg.lst ys) :: n2)))
    (hclos:closureFor scope Γ.env = pure cl') (hcell:∀ y ∈ scope.names,y.2 ≠ .cell) (hkind:scope.kind = .function)
    (hnames:∀ y ∈ scope.names,y.2 = .local → scope.names.lookup y.1 = some .local) (hx:scope.names.lookup x = some .local) (hs:∀ x,foldedSetIterable iter Γ.env x = pure x) :
    T Γ (eval (.ListComp elt [⟨.Name x px,iter,[],0⟩] scope pos) Γ.env) m n P:=fun s Q E F N q => by
  rw [eval_ListComp]
  refine wpAny_comprehension_free (use:=none) rfl hs hclos hkind hnames (h s _ E F N fun xv m1 n1 h1 tk1 F1 N1 p => ?_)
  refine Xaeeeaaaaaa p ?_; clear p; intro z9_ ax vs J z10_ hl hz st hJ hL fin; subst z9_; subst z10_
  have hl':=hl.at F1.keep N1
  have hlt:ax < h1.objs.size:=by refine Xea hl' ?_; clear hl'; intro _ e _; exact Heap.lt_size e
  refine wpAny_pyIter_tuple hl' ?_
  have up:∀ b o,h1.get? b = some o → (h1.push { cls:=.type "tuple_iterator",data:=.fields #[.ref ax,.int 0 0] }).get? b = some o:=fun b o e => Heap.get?_push_of_some _ e
  refine LCg.block_U (Walks.tuple Γ.hh h1.objs.size ax (Nat.ne_of_lt hlt) vs.toArray) (by rw [sizeLine_eq]; simp; omega) (fun i h st => by refine Xea st.1 fun o e _ => ?_; exact ⟨o,e⟩)
    (S:=TupSrc Γ.h₀ ax vs) (fun i h h' o nw st e e' k N S => ⟨by refine Xea st.1 fun o' q r => ?_; rw [e] at q; cases q; exact ⟨o,e',r⟩,S.at k N⟩)
    hcell hkind hx ⟨⟨_,Heap.get?_push_size _ rfl,rfl,rfl⟩,hl'.push _⟩ (fun b hb => ?_)
    (F1.keeps up) (N1.grown up) (Nat.ne_of_lt F1.ns.lt) (next_is_new F1) (fun p hp => Nat.ne_of_lt (Heap.lt_size (N1 p hp).1)) hl
    (Fin:=LCg.FinE Γ.h₀ Γ.L m1 { s with heap:=h1.push { cls:=.type "tuple_iterator",data:=.fields #[.ref ax,.int 0 0] },toks:=tk1 } Q) ?_ ?_
  · show b < (h1.push _).objs.size
    rw [Heap.size_push]
    rcases List.mem_cons.mp hb with rfl | hb
    · exact Nat.lt_succ_self _
    · rw [List.mem_singleton.mp hb]; exact Nat.lt_succ_of_lt hlt
  · have:=st.rest (S:=TupSrc Γ.h₀ ax vs) hL (Fin:=LCg.FinE Γ.h₀ Γ.L m1 { s with heap:=h1.push { cls:=.type "tuple_iterator",data:=.fields #[.ref ax,.int 0 0] },toks:=tk1 } Q)
      (fun ys n2 hJ D h2 tk2 F2 N2 off => q _ m1 _ h2 tk2 F2 N2 (fin ys n2 D hJ off)) { s with heap:=h1.push { cls:=.type "tuple_iterator",data:=.fields #[.ref ax,.int 0 0] },toks:=tk1 } vs.length 0 [] n1 (by omega) hJ
    simpa using this
  · intro D C h' tk m' ys news' F' N' o1 hn hC₀ hD₀ hCL hDL hCD offC fin
    refine ⟨m',hn,fun h'' hs'' => fin D h'' tk (F'.change hs'' hCL hC₀) (fun p hp => ?_) o1⟩
    refine ⟨hs''.extBut _ _ ?_ (N' p hp).1,(N' p hp).2⟩
    rcases List.mem_cons.mp hp with rfl | hp
    · exact Ne.symm hCD
    · exact offC p hp
theorem t_sum {l:Addr} {vs:List Value} {ns:List Int} {P:Value → Loc → Led → Prop} (hl:ListAt n l vs) (hi:All2 IsI ns vs) (h:∀ t,P (.int ns.sum t) m n):T Γ (call (.builtin "sum") [.ref l]) m n P:=fun s Q E F N q => by
  have hI:IntsAre vs ns:=by
    clear h q hl
    induction hi with
    | nil => exact .nil
    | cons r _ ih => refine Xe r ?_; clear r; intro t z11_; subst z11_; exact .cons _ _ ih
  refine Xe hI.allInts.items fun xs hxs => ?_
  refine sum_intListG (xs:=xs) Γ.hh (by rw [← hxs]; exact hl.at N) fun h' tk t' hk => ?_
  have e1:preSum (numAt xs) xs.size = ns.sum:=by
    have:=nums_intItems xs
    rw [← hxs,show vs.toArray.toList = vs from rfl,hI.numsOf] at this
    rw [this,preSum_eq,List.take_of_length_le (by simp)]
  rw [e1]
  exact q _ m n _ _ (Fr.grow F hk) (N.grown hk) (h t')
end
def BA.mut (B:BA):List Addr:=[B.names,B.widths,B.fnames,B.fargs,B.fres,B.ops,B.args,B.sorts,B.datas,B.numbers,B.bvn]
structure BA.Up (B:BA):Prop where
  o0:@LT.lt Nat _ B.dict B.self
  o1:@LT.lt Nat _ B.self B.names
  o2:@LT.lt Nat _ B.names B.widths
  o3:@LT.lt Nat _ B.widths B.fnames
  o4:@LT.lt Nat _ B.fnames B.fargs
  o5:@LT.lt Nat _ B.fargs B.fres
  o6:@LT.lt Nat _ B.fres B.ops
  o7:@LT.lt Nat _ B.ops B.args
  o8:@LT.lt Nat _ B.args B.sorts
  o9:@LT.lt Nat _ B.sorts B.datas
  o10:@LT.lt Nat _ B.datas B.numbers
  o11:@LT.lt Nat _ B.numbers B.bvn
def BA.ad (B:BA):Nat → Nat
  | 0 => B.dict
  | 1 => B.self
  | 2 => B.names
  | 3 => B.widths
  | 4 => B.fnames
  | 5 => B.fargs
  | 6 => B.fres
  | 7 => B.ops
  | 8 => B.args
  | 9 => B.sorts
  | 10 => B.datas
  | 11 => B.numbers
  | _ => B.bvn
theorem BA.Up.step {B:BA} (u:B.Up):∀ i,i < 12 → B.ad i < B.ad (i + 1)
  | 0,_ => u.o0
  | 1,_ => u.o1
  | 2,_ => u.o2
  | 3,_ => u.o3
  | 4,_ => u.o4
  | 5,_ => u.o5
  | 6,_ => u.o6
  | 7,_ => u.o7
  | 8,_ => u.o8
  | 9,_ => u.o9
  | 10,_ => u.o10
  | 11,_ => u.o11
  | n + 12,h => absurd h (Nat.not_lt.mpr (Nat.le_add_left 12 n))
theorem BA.Up.lt_add {B:BA} (u:B.Up) (i:Nat):∀ k,i + k < 12 → B.ad i < B.ad (i + k + 1)
  | 0,h => u.step i h
  | k + 1,h => Nat.lt_trans (u.lt_add i k (Nat.lt_of_succ_lt h)) (u.step (i + k + 1) h)
theorem BA.Up.lt {B:BA} (u:B.Up) (i j:Nat) (h:(Nat.blt i j && Nat.blt j 13) = true):B.ad i < B.ad j:=by
  simp only [Bool.and_eq_true,Nat.blt_eq] at h
  have:=u.lt_add i (j - i - 1) (by omega)
  rwa [show i + (j - i - 1) + 1 = j by omega] at this
theorem BA.Up.ne {B:BA} (u:B.Up) (i j:Nat) (h:(Nat.blt i 13 && Nat.blt j 13 && (Nat.blt i j || Nat.blt j i)) = true):B.ad i ≠ B.ad j:=by
  simp only [Bool.and_eq_true,Bool.or_eq_true,Nat.blt_eq] at h
  rcases h.2 with h2 | h2
  · exact Nat.ne_of_lt (u.lt i j (by simp [h2,h.1.2]))
  · exact Nat.ne_of_gt (u.lt j i (by simp [h2,h.1.1]))
def WsOk (ws:List Int):Prop:=∀ (k k':Nat) wd,3 ≤ k → 3 ≤ k' → ws[k]? = some wd → ws[k']? = some wd → k = k'
theorem WsOk.snoc {ws:List Int} (h:WsOk ws) {wd:Int} (hn:∀ k:Nat,3 ≤ k → ws[k]? ≠ some wd):WsOk (ws ++ [wd]):=by
  have key:∀ (k:Nat) wd',(ws ++ [wd])[k]? = some wd' → ws[k]? = some wd' ∨ (k = ws.length ∧ wd' = wd):=by
    intro k wd' e
    by_cases hk:k < ws.length
    · rw [List.getElem?_append_left hk] at e; exact .inl e
    · rw [List.getElem?_append_right (by omega)] at e
      have:k - ws.length = 0:=by
        have:=(List.getElem?_eq_some_iff.mp e).1
        simp at this; omega
      rw [this] at e
      simp at e
      exact .inr ⟨by omega,e.symm⟩
  intro k k' wd' h3 h3' e e'
  rcases key k wd' e with e1 | ⟨e1,e2⟩
  · rcases key k' wd' e' with f1 | ⟨f1,f2⟩
    · exact h k k' wd' h3 h3' e1 f1
    · exact absurd (f2 ▸ e1) (hn k h3)
  · rcases key k' wd' e' with f1 | ⟨f1,_⟩
    · exact absurd (e2 ▸ f1) (hn k' h3')
    · omega
structure Bank (prog:Program) (w:World) (n:Led) (B:BA) (F:Nat) (tms:List Tm) (ws:List Int):Prop where
  base:BankIn w.params n B tms ws
  nums:∃ xs,KDict prog w n B.numbers xs ∧ (∀ x ∈ xs,∃ i:Nat,IsI i x.2.2 ∧ 0 < i ∧ tms[i]? = some x.1) ∧ xs.length < tms.length
  bvd:∃ kvs,IDict prog w n B.bvn kvs ∧ (∀ x ∈ kvs,∃ k:Nat,IsI k x.2 ∧ ws[k]? = some x.1 ∧ 3 ≤ k) ∧ kvs.length + 3 ≤ ws.length ∧ (∀ (k:Nat) wd,3 ≤ k → ws[k]? = some wd → (valueAt kvs wd).isSome = true) ∧ WsOk ws
  names:∃ vs e,(B.names,listO vs e) ∈ n ∧ vs.length = ws.length
  fnames:∃ vs e,(B.fnames,listO vs e) ∈ n ∧ vs.length ≤ F
  fargs:∃ vs e,(B.fargs,listO vs e) ∈ n ∧ vs.length ≤ F
  fres:∃ vs e,(B.fres,listO vs e) ∈ n ∧ vs.length ≤ F
  up:B.Up
def Frame (B:BA) (n n':Led):Prop:=∀ a o,(a,o) ∈ n → a ∉ B.mut → (a,o) ∈ n'
theorem Frame.refl {B:BA} {n:Led}:Frame B n n:=fun _ _ h _ => h
theorem Frame.trans {B:BA} {n n' n'':Led} (h:Frame B n n') (k:Frame B n' n''):Frame B n n'':=fun a o ha hm => k a o (h a o ha hm) hm
theorem Frame.cons {B:BA} {n:Led} {p:Addr × Obj}:Frame B n (p :: n):=fun _ _ h _ => .tail _ h
theorem Frame.upd {B:BA} {n:Led} {d:Addr} {o:Obj} (h:d ∈ B.mut):Frame B n (upd n d o):=fun a b ha hm => upd_keep ha (fun e => hm (e ▸ h))
def BA.has (B:BA) (d:Addr):Prop:=@LE.le Nat _ B.dict d ∧ @LE.le Nat _ d B.bvn
theorem BA.Up.has {B:BA} (u:B.Up) (i:Nat) (h:Nat.blt i 13 = true):B.has (B.ad i):=by
  rw [Nat.blt_eq] at h
  refine ⟨?_,?_⟩
  · cases i with
    | zero => exact Nat.le_refl _
    | succ i => exact Nat.le_of_lt (u.lt 0 (i + 1) (by simp [h]))
  · by_cases h2:i = 12
    · subst h2; exact Nat.le_refl _
    · exact Nat.le_of_lt (u.lt i 12 (by simp; omega))
def BSub (B:BA) (n n':Led):Prop:=∀ a o,(a,o) ∈ n → (B.has a ∨ ∃ us e,o = tupO us e) → (a,o) ∈ n'
def Ext (n n':Led):Prop:=∀ p ∈ n,p ∈ n'
theorem Ext.refl {n:Led}:Ext n n:=fun _ h => h
theorem Ext.trans {n n' n'':Led} (h:Ext n n') (k:Ext n' n''):Ext n n'':=fun p hp => k p (h p hp)
theorem Ext.cons {n:Led} {p:Addr × Obj}:Ext n (p :: n):=fun _ h => .tail _ h
theorem Ext.b {B:BA} {n n':Led} (h:Ext n n'):BSub B n n':=fun a o ha _ => h _ ha
theorem BSub.trans {B:BA} {n n' n'':Led} (h:BSub B n n') (k:BSub B n' n''):BSub B n n'':=fun a o ha hc => k a o (h a o ha hc) hc
theorem BSub.upd {B:BA} {n:Led} {d:Addr} {o o':Obj} (Fn:Fun n) (hm:(d,o) ∈ n) (hc:∀ us e,o ≠ tupO us e) (hd:¬ B.has d):BSub B n (upd n d o'):=fun a b ha hk => by
  refine upd_keep ha ?_
  rintro rfl
  rcases hk with hk | hk
  · exact hd hk
  · rw [Fn _ _ _ ha hm] at hk; refine Xee hk ?_; clear hk; intro us e hk; exact hc us e hk
theorem BSub.drop {B:BA} {n:Led} {d:Addr} {o:Obj} (Fn:Fun n) (hm:(d,o) ∈ n) (hc:∀ us e,o ≠ tupO us e) (hd:¬ B.has d):BSub B n (n.filter (fun p => p.1 != d)):=fun a b ha hk => by
  have:=BSub.upd (o':=o) Fn hm hc hd a b ha hk
  rcases List.mem_cons.mp this with e | h
  · cases e
    rcases hk with hk | hk
    · exact absurd hk hd
    · refine Xee hk ?_; clear hk; intro us e hk; exact absurd hk (hc us e)
  · exact h
theorem atKey_mem {xs:List (Tm × Addr × Value)} {k:Tm} {p:Addr × Value} (h:atKey xs k = some p):(k,p.1,p.2) ∈ xs:=by
  unfold atKey at h
  refine Xea (Option.map_eq_some_iff.mp h) fun x hx z1_ => ?_; subst z1_
  have h1:=List.mem_of_find?_eq_some hx
  have h2:=List.find?_some hx
  simp only [decide_eq_true_eq] at h2
  obtain ⟨a,b,c⟩:=x
  subst h2
  exact h1
theorem atKey_none {xs:List (Tm × Addr × Value)} {k:Tm} {d:Value} (h:atKey xs k = none):((atKey xs k).map (·.2)).getD d = d:=by rw [h]; rfl
theorem IsT_of {n:Led} {xs:List Int} {b:Addr} (h:IsK n xs b):IsT n xs (.ref b):=by refine Xeea h ?_; clear h; intro us e h1 h2; exact ⟨b,us,e,rfl,h1,h2⟩
section
variable {prog:Program} {w:World} {n:Led} {B:BA} {F:Nat} {tms:List Tm} {ws:List Int}
theorem tup_notmut (hb:Bank prog w n B F tms ws) (Fn:Fun n) {a:Addr} {us:List Value} {e:Nat} (h:(a,tupO us e) ∈ n):a ∉ B.mut:=by
  have L:∀ {d:Addr} {vs:List Value} {k:Nat},(d,listO vs k) ∈ n → a ≠ d:=fun hd => Fn.ne h hd (ne_cls (by simp))
  have D:∀ {d:Addr} {es:Array DictEntry} {k:Nat},(d,dictO es k) ∈ n → a ≠ d:=fun hd => Fn.ne h hd (ne_cls (by simp))
  refine Xeea hb.names fun _ _ h1 _ => ?_
  refine Xeea hb.base.widths fun _ _ h2 _ => ?_
  refine Xeea hb.fnames fun _ _ h3 _ => ?_
  refine Xeea hb.fargs fun _ _ h4 _ => ?_
  refine Xeea hb.fres fun _ _ h5 _ => ?_
  refine Xeea hb.base.ops fun _ _ h6 _ => ?_
  refine Xeea hb.base.args fun _ _ h7 _ => ?_
  refine Xeea hb.base.sorts fun _ _ h8 _ => ?_
  refine Xeea hb.base.datas fun _ _ h9 _ => ?_
  refine Xea hb.nums fun _ z2_ _ => ?_; refine Xaeea z2_ ?_; clear z2_; intro _ _ _ h10 _
  refine Xea hb.bvd fun _ z3_ _ => ?_; refine Xaeea z3_ ?_; clear z3_; intro _ _ _ h11 _
  unfold BA.mut
  simp only [List.mem_cons,List.not_mem_nil,or_false,not_or]
  exact ⟨L h1,L h2,L h3,L h4,L h5,L h6,L h7,L h8,L h9,D h10,D h11⟩
theorem IsT.frame (hb:Bank prog w n B F tms ws) (Fn:Fun n) {n':Led} (f:Frame B n n') {xs:List Int} {v:Value} (h:IsT n xs v):IsT n' xs v:=by
  refine Xeeeaa h ?_; clear h; intro a us e z4_ h1 h2; subst z4_
  exact ⟨a,us,e,rfl,f _ _ h1 (tup_notmut hb Fn h1),h2⟩
theorem IsK.frame (hb:Bank prog w n B F tms ws) (Fn:Fun n) {n':Led} (f:Frame B n n') {xs:List Int} {a:Addr} (h:IsK n xs a):IsK n' xs a:=by
  refine Xeea h ?_; clear h; intro us e h1 h2
  exact ⟨us,e,f _ _ h1 (tup_notmut hb Fn h1),h2⟩
theorem IsD.frame (hb:Bank prog w n B F tms ws) (Fn:Fun n) {n':Led} (f:Frame B n n') {d:Dat} {v:Value} (h:IsD n d v):IsD n' d v:=by
  cases d with
  | i k => exact h
  | p x y => exact IsT.frame hb Fn f h
theorem keyIn.frame (hb:Bank prog w n B F tms ws) (Fn:Fun n) {n':Led} (f:Frame B n n') {k:Tm} {a:Addr} (h:keyIn n k a):keyIn n' k a:=by
  refine Xeeeeeaaaaa h ?_; clear h; intro v0 b v2 v3 e h1 h2 h3 h4 h5 h6
  exact ⟨v0,b,v2,v3,e,f _ _ h1 (tup_notmut hb Fn h1),h2,h3.frame hb Fn f,h4,h5.frame hb Fn f,h6⟩
end
section
variable {prog:Program} {w:World} {n n':Led} {B:BA} {F:Nat} {tms:List Tm} {ws:List Int}
theorem IsT.mono {xs:List Int} {v:Value} (h:IsT n xs v) (s:BSub B n n'):IsT n' xs v:=by refine Xeeeaa h ?_; clear h; intro a us e h1 h2 h3; exact ⟨a,us,e,h1,s _ _ h2 (.inr ⟨_,_,rfl⟩),h3⟩
theorem IsK.mono {xs:List Int} {v:Addr} (h:IsK n xs v) (s:BSub B n n'):IsK n' xs v:=by refine Xeea h ?_; clear h; intro us e h2 h3; exact ⟨us,e,s _ _ h2 (.inr ⟨_,_,rfl⟩),h3⟩
theorem IsD.mono {d:Dat} {v:Value} (h:IsD n d v) (s:BSub B n n'):IsD n' d v:=by
  cases d with
  | i k => exact h
  | p x y => exact IsT.mono h s
theorem keyIn.mono {k:Tm} {a:Addr} (h:keyIn n k a) (s:BSub B n n'):keyIn n' k a:=by
  refine Xeeeeeaaaaa h ?_; clear h; intro v0 b v2 v3 e h1 h2 h3 h4 h5 h6
  exact ⟨v0,b,v2,v3,e,s _ _ h1 (.inr ⟨_,_,rfl⟩),h2,h3.mono s,h4,h5.mono s,h6⟩
theorem IDict.mono {d:Addr} {kvs} (h:IDict prog w n d kvs) (s:BSub B n n') (hd:B.has d):IDict prog w n' d kvs:=by refine Xaeea h ?_; clear h; intro h0 es ep h1 r; exact ⟨h0,es,ep,s _ _ h1 (.inl hd),r⟩
theorem KDict.mono {d:Addr} {xs} (h:KDict prog w n d xs) (s:BSub B n n') (hd:B.has d):KDict prog w n' d xs:=by
  refine Xaeeaaa h ?_; clear h; intro h0 es ep h1 h2 h3 h4
  exact ⟨h0,es,ep,s _ _ h1 (.inl hd),h2,fun x hx => (h3 x hx).mono s,h4⟩
theorem BankIn.mono {P:Params} (h:BankIn P n B tms ws) (s:BSub B n n') (u:B.Up):BankIn P n' B tms ws:=by
  obtain ⟨h0,h1,⟨vo,eo,mo,ao⟩,⟨va,ea,ma,aa⟩,⟨vs,es,ms,as⟩,⟨vd,ed,md,ad⟩,⟨vw,ew,mw,aw⟩,z1,z2⟩:=h
  exact ⟨s _ _ h0 (.inl (u.has 1 rfl)),s _ _ h1 (.inl (u.has 0 rfl)),⟨vo,eo,s _ _ mo (.inl (u.has 7 rfl)),ao⟩,⟨va,ea,s _ _ ma (.inl (u.has 8 rfl)),aa.mono fun _ _ x => x.mono s⟩,
    ⟨vs,es,s _ _ ms (.inl (u.has 9 rfl)),as⟩,⟨vd,ed,s _ _ md (.inl (u.has 10 rfl)),ad.mono fun _ _ x => x.mono s⟩,⟨vw,ew,s _ _ mw (.inl (u.has 3 rfl)),aw⟩,z1,z2⟩
theorem Bank.mono (h:Bank prog w n B F tms ws) (s:BSub B n n'):Bank prog w n' B F tms ws:=by
  obtain ⟨hb,⟨xs,q,qr⟩,⟨kvs,r,rr⟩,⟨v1,e1,m1,a1⟩,⟨v2,e2,m2,a2⟩,⟨v3,e3,m3,a3⟩,⟨v4,e4,m4,a4⟩,u⟩:=h
  exact ⟨hb.mono s u,⟨xs,q.mono s (u.has 11 rfl),qr⟩,⟨kvs,r.mono s (u.has 12 rfl),rr⟩,⟨v1,e1,s _ _ m1 (.inl (u.has 2 rfl)),a1⟩,⟨v2,e2,s _ _ m2 (.inl (u.has 4 rfl)),a2⟩,
    ⟨v3,e3,s _ _ m3 (.inl (u.has 5 rfl)),a3⟩,⟨v4,e4,s _ _ m4 (.inl (u.has 6 rfl)),a4⟩,u⟩
def Made (prog:Program) (w:World) (n:Led) (B:BA) (F:Nat) (tms:List Tm) (ws:List Int) (τ:Tm) (v:Value) (n':Led):Prop:=
  ∃ (i:Nat) (tms':List Tm),IsI i v ∧ 0 < i ∧ tms'[i]? = some τ ∧ (tms' = tms ∨ tms' = tms ++ [τ]) ∧ Bank prog w n' B F tms' ws ∧ Frame B n n'
theorem Self.upd {P:Params} {n:Led} {B:BA} {d:Addr} {o:Obj} (h:Self P n B) (h1:B.self ≠ d) (h2:B.dict ≠ d):Self P (upd n d o) B:=⟨upd_keep h.self h1,upd_keep h.dict h2⟩
theorem make_spec (hb:Bank prog w n B F tms ws) {v0 v2 v3:Value} {a:Addr} {τ:Tm} (h0:IsS τ.op v0) (h1:IsK n τ.args a) (h2:IsI τ.sort v2) (h3:IsD n τ.data v3) (hw:τ.wf) (hz:tms.length + 1 < 1000) :
    Spec prog w 348 [.ref B.self,v0,.ref a,v2,v3] n 1 (Made prog w n B F tms ws τ):=by
  refine sp_make (fun Γ hr => ?_)
  conv in (stBody S_make) => whnf
  refine Xeaa hb.nums fun xs hd hxs hl => ?_
  walk_at "r"
  refine t_newTuple (by simp) fun x hx hx3 => ?_
  have sub:BSub B n ((x,tupO [v0,Value.ref a,v2,v3] 0) :: n):=Ext.cons.b
  have hb1:=hb.mono sub
  have hs1:=hb1.base.sf
  have hk:keyIn ((x,tupO [v0,Value.ref a,v2,v3] 0) :: n) τ x:=⟨v0,a,v2,v3,0,.head _,h0,h1.mono sub,h2,h3.mono sub,hw⟩
  have hd1:=hd.mono sub (hb.up.has 11 rfl)
  refine Xaeea (id hd1) fun _ es ep hdm _ => ?_
  walk_at "r"
  refine t_getM hdm ?_
  walk_at "r"
  refine t_dget hd1 hk ?_
  cases hf:atKey xs τ with
  | some p =>
    refine Xeaa (hxs _ (atKey_mem hf)) fun i z5_ hi hτ => ?_; refine Xe z5_ ?_; clear z5_; intro t' ht'
    simp only at ht' hτ
    simp only [Option.map_some,Option.getD_some,ht']
    walk_at "r"
    have e0:((i:Int) == 0) = false:=by simp; omega
    rw [e0]; refine kF Bool.false_ne_true ?_
    walk_at "r"
    exact ⟨i,tms,⟨t',rfl⟩,hi,hτ,.inl rfl,hb1,Frame.cons⟩
  | none =>
    simp only [Option.map_none,Option.getD_none]
    walk_at "r"
    refine kT (by rfl) ?_
    refine Xeea hb1.base.ops fun vo eo mo ao => ?_
    refine Xeea hb1.base.args fun va ea ma aa => ?_
    refine Xeea hb1.base.sorts fun vs es' ms as => ?_
    refine Xeea hb1.base.datas fun vd ed md ad => ?_
    have lo:=ao.length
    have la:=aa.length
    have ls:=as.length
    have ld:=ad.length
    walk_at "r"
    refine t_len mo (by omega) fun tk => ?_
    walk_at "r"
    refine T.fn fun Fn => ?_
    refine t_append mo (by omega) ?_
    have hs2:=hs1.upd (d:=B.ops) (o:=listO (vo ++ [v0]) (eo + 1)) (ane (hb.up.ne 1 7 rfl)) (ane (hb.up.ne 0 7 rfl))
    have ma2:=upd_keep (d:=B.ops) (o:=listO (vo ++ [v0]) (eo + 1)) ma (ane (hb.up.ne 8 7 rfl))
    have f2:Frame B _ _:=Frame.upd (n:=(x,tupO [v0,Value.ref a,v2,v3] 0) :: n) (d:=B.ops) (o:=listO (vo ++ [v0]) (eo + 1)) (by simp [BA.mut])
    walk_at "r"
    refine t_append ma2 (by omega) ?_

    generalize hn2:upd ((x,tupO [v0,Value.ref a,v2,v3] 0) :: n) B.ops (listO (vo ++ [v0]) (eo + 1)) = n2 at *
    have hs3:=hs2.upd (d:=B.args) (o:=listO (va ++ [.ref a]) (ea + 1)) (ane (hb.up.ne 1 8 rfl)) (ane (hb.up.ne 0 8 rfl))
    have ms3:=upd_keep (d:=B.args) (o:=listO (va ++ [.ref a]) (ea + 1)) (hn2 ▸ upd_keep ms (ane (hb.up.ne 9 7 rfl)):(B.sorts,_) ∈ n2) (ane (hb.up.ne 9 8 rfl))
    have f3:Frame B n2 _:=Frame.upd (n:=n2) (d:=B.args) (o:=listO (va ++ [.ref a]) (ea + 1)) (by simp [BA.mut])
    walk_at "r"
    refine t_append ms3 (by omega) ?_
    generalize hn3:upd n2 B.args (listO (va ++ [.ref a]) (ea + 1)) = n3 at *
    have hs4:=hs3.upd (d:=B.sorts) (o:=listO (vs ++ [v2]) (es' + 1)) (ane (hb.up.ne 1 9 rfl)) (ane (hb.up.ne 0 9 rfl))
    have md4:=upd_keep (d:=B.sorts) (o:=listO (vs ++ [v2]) (es' + 1)) (hn3 ▸ upd_keep (hn2 ▸ upd_keep md (ane (hb.up.ne 10 7 rfl)):(B.datas,_) ∈ n2) (ane (hb.up.ne 10 8 rfl)):(B.datas,_) ∈ n3) (ane (hb.up.ne 10 9 rfl))
    have f4:Frame B n3 _:=Frame.upd (n:=n3) (d:=B.sorts) (o:=listO (vs ++ [v2]) (es' + 1)) (by simp [BA.mut])
    walk_at "r"
    refine t_append md4 (by omega) ?_
    generalize hn4:upd n3 B.sorts (listO (vs ++ [v2]) (es' + 1)) = n4 at *
    have hs5:=hs4.upd (d:=B.datas) (o:=listO (vd ++ [v3]) (ed + 1)) (ane (hb.up.ne 1 10 rfl)) (ane (hb.up.ne 0 10 rfl))
    have f5:Frame B n4 _:=Frame.upd (n:=n4) (d:=B.datas) (o:=listO (vd ++ [v3]) (ed + 1)) (by simp [BA.mut])
    walk_at "r"
    generalize hn5:upd n4 B.datas (listO (vd ++ [v3]) (ed + 1)) = n5 at *
    have K5:∀ {b:Addr} {o:Obj},(b,o) ∈ (x,tupO [v0,Value.ref a,v2,v3] 0) :: n → b ≠ B.ops → b ≠ B.args → b ≠ B.sorts → b ≠ B.datas → (b,o) ∈ n5:=
      fun h e1 e2 e3 e4 => hn5 ▸ upd_keep (hn4 ▸ upd_keep (hn3 ▸ upd_keep (hn2 ▸ upd_keep h e1) e2) e3) e4
    have f15:=f2.trans (f3.trans (f4.trans f5))
    refine Xaeeaaa (id hd1) fun hne _ _ _ q1 q2 q3 => ?_
    have hd5:KDict prog w n5 B.numbers xs:=by
      refine Xaeeaaa (id hd1) fun hne es1 ep1 q0 q1 q2 q3 => ?_
      exact ⟨hne,es1,ep1,K5 q0 (ane (hb.up.ne 11 7 rfl)) (ane (hb.up.ne 11 8 rfl)) (ane (hb.up.ne 11 9 rfl)) (ane (hb.up.ne 11 10 rfl)),q1,fun y hy => (q2 y hy).frame hb1 Fn f15,q3⟩
    refine t_dset hd5 (hk.frame hb1 Fn f15) (by omega) hf fun es6 ep6 hd6 => ?_
    have f6:Frame B n5 _:=Frame.upd (n:=n5) (d:=B.numbers) (o:=dictO es6 ep6) (by simp [BA.mut])
    have f16:=f15.trans f6
    walk_at "r"
    have K6:∀ {b:Addr} {o:Obj},(b,o) ∈ (x,tupO [v0,Value.ref a,v2,v3] 0) :: n → b ≠ B.ops → b ≠ B.args → b ≠ B.sorts → b ≠ B.datas → b ≠ B.numbers → (b,o) ∈ upd n5 B.numbers (dictO es6 ep6):=
      fun h e1 e2 e3 e4 e5 => upd_keep (K5 h e1 e2 e3 e4) e5
    have K6':∀ {b:Addr} {o:Obj},(b,o) ∈ (x,tupO [v0,Value.ref a,v2,v3] 0) :: n → @LT.lt Nat _ b B.ops → (b,o) ∈ upd n5 B.numbers (dictO es6 ep6):=
      fun h e => K6 h (Nat.ne_of_lt e) (Nat.ne_of_lt (Nat.lt_trans e (hb.up.lt 7 8 rfl))) (Nat.ne_of_lt (Nat.lt_trans e (hb.up.lt 7 9 rfl))) (Nat.ne_of_lt (Nat.lt_trans e (hb.up.lt 7 10 rfl))) (Nat.ne_of_lt (Nat.lt_trans e (hb.up.lt 7 11 rfl)))
    refine ⟨vo.length,tms ++ [τ],⟨tk,rfl⟩,by omega,by rw [← lo]; simp,.inr rfl,⟨⟨?_,?_,?_,?_,?_,?_,?_,?_,?_⟩,?_,?_,?_,?_,?_,?_,hb.up⟩,Frame.cons.trans f16⟩
    · exact K6' hs1.self (hb.up.lt 1 7 rfl)
    · exact K6' hs1.dict (hb.up.lt 0 7 rfl)
    · exact ⟨_,_,upd_keep (hn5 ▸ upd_keep (hn4 ▸ upd_keep (hn3 ▸ upd_keep (hn2 ▸ upd_self) (ane (hb.up.ne 7 8 rfl))) (ane (hb.up.ne 7 9 rfl))) (ane (hb.up.ne 7 10 rfl))) (ane (hb.up.ne 7 11 rfl)),ao.snoc h0⟩
    · exact ⟨_,_,upd_keep (hn5 ▸ upd_keep (hn4 ▸ upd_keep (hn3 ▸ upd_self) (ane (hb.up.ne 8 9 rfl))) (ane (hb.up.ne 8 10 rfl))) (ane (hb.up.ne 8 11 rfl)),(aa.mono fun _ _ y => IsT.frame hb1 Fn f16 y).snoc (IsT.frame hb1 Fn f16 (IsT_of (h1.mono sub)))⟩
    · exact ⟨_,_,upd_keep (hn5 ▸ upd_keep (hn4 ▸ upd_self) (ane (hb.up.ne 9 10 rfl))) (ane (hb.up.ne 9 11 rfl)),as.snoc h2⟩
    · exact ⟨_,_,upd_keep (hn5 ▸ upd_self) (ane (hb.up.ne 10 11 rfl)),(ad.mono fun _ _ y => IsD.frame hb1 Fn f16 y).snoc (IsD.frame hb1 Fn f16 (h3.mono sub))⟩
    · refine Xeea hb1.base.widths fun vw ew mw aw => ?_
      exact ⟨vw,ew,K6' mw (hb.up.lt 3 7 rfl),aw⟩
    · simp; omega
    · exact hb.base.smallw
    · refine ⟨_,hd6,fun y hy => ?_,by simp; omega⟩
      rcases List.mem_append.mp hy with hy | hy
      · refine Xeaa (hxs y hy) fun i hi hp hg => ?_
        exact ⟨i,hi,hp,by rw [List.getElem?_append_left (List.getElem?_eq_some_iff.mp hg).1]; exact hg⟩
      · simp only [List.mem_singleton] at hy
        subst hy
        exact ⟨vo.length,⟨tk,rfl⟩,by omega,by rw [← lo]; simp⟩
    · refine Xea hb1.bvd fun kvs z6_ gr => ?_; refine Xaeea z6_ ?_; clear z6_; intro g0 g1 g2 g3 g4
      exact ⟨kvs,⟨g0,g1,g2,K6 g3 (ane (hb.up.ne 12 7 rfl)) (ane (hb.up.ne 12 8 rfl)) (ane (hb.up.ne 12 9 rfl)) (ane (hb.up.ne 12 10 rfl)) (ane (hb.up.ne 12 11 rfl)),g4⟩,gr⟩
    · refine Xeea hb1.names fun vv e1 g1 g2 => ?_
      exact ⟨vv,e1,K6' g1 (hb.up.lt 2 7 rfl),g2⟩
    · refine Xeea hb1.fnames fun vv e1 g1 g2 => ?_
      exact ⟨vv,e1,K6' g1 (hb.up.lt 4 7 rfl),g2⟩
    · refine Xeea hb1.fargs fun vv e1 g1 g2 => ?_
      exact ⟨vv,e1,K6' g1 (hb.up.lt 5 7 rfl),g2⟩
    · refine Xeea hb1.fres fun vv e1 g1 g2 => ?_
      exact ⟨vv,e1,K6' g1 (hb.up.lt 6 7 rfl),g2⟩
end
section
variable {prog:Program} {w:World} {n:Led} {B:BA} {F:Nat} {tms:List Tm} {ws:List Int}
theorem want_bits_spec (hb:BankIn w.params n B tms ws) {t:Nat} {tk:Tok} {τ:Tm} {k:Nat} {wd:Int} {x:Value} (ht:tms[t]? = some τ) (hk:τ.sort = k) (hw:ws[k]? = some wd) (h0:wd ≠ 0) :
    Spec prog w 654 [.ref B.self,.int t tk,x] n 2 (fun v n' => n' = n ∧ v = .none):=by
  refine sp_want_bits (fun Γ hr => ?_)
  conv in (stBody S_want_bits) => whnf
  have hs:=hb.sf
  walk_at "r"
  refine t_spec (width_spec hb ht hk hw) (Nat.le_trans (by decide) hr) fun v n' h => ?_
  refine Xae h ?_; clear h; intro z1_ tk' z2_; subst z1_; subst z2_
  walk_at "r"
  refine kF (by simpa using h0) ?_
  walk_at "r"
  exact ⟨rfl,rfl⟩
theorem size_spec (hb:BankIn w.params n B tms ws):Spec prog w 341 [.ref B.self] n 1 (fun v n' => n' = n ∧ IsI (tms.length - 1) v):=by
  refine sp_size (fun Γ hr => ?_)
  conv in (stBody S_size) => whnf
  have hs:=hb.sf
  refine Xeea hb.ops fun vs e hm hv => ?_
  have hz:=hb.small
  have hl:=hv.length
  walk_at "r"
  refine t_len hm (by omega) fun tk => ?_
  walk_at "r"
  rw [hl]
  exact ⟨rfl,_,rfl⟩
theorem declare_spec (hb:Bank prog w n B F tms ws) {nm:PySem.Str} {tk:Tok} {a:Addr} {us:List Value} {e:Nat} {r:Value} (ha:(a,tupO us e) ∈ n) (hF:F < 100) :
    Spec prog w 257 [.ref B.self,.str nm tk,.ref a,r] n 1 (fun v n' => (∃ i,IsI i v) ∧ Bank prog w n' B (F + 1) tms ws ∧ Frame B n n'):=by
  refine sp_declare_fun (fun Γ hr => ?_)
  conv in (stBody S_declare_fun) => whnf
  have hs:=hb.base.sf
  refine Xeea hb.fnames fun v1 e1 m1 a1 => ?_
  refine Xeea hb.fargs fun v2 e2 m2 a2 => ?_
  refine Xeea hb.fres fun v3 e3 m3 a3 => ?_
  refine T.fn fun Fn => ?_
  walk_at "r"
  refine t_append m1 (by omega) ?_
  have hs1:=hs.upd (d:=B.fnames) (o:=listO (v1 ++ [.str nm tk]) (e1 + 1)) (ane (hb.up.ne 1 4 rfl)) (ane (hb.up.ne 0 4 rfl))
  have m2':=upd_keep (d:=B.fnames) (o:=listO (v1 ++ [.str nm tk]) (e1 + 1)) m2 (ane (hb.up.ne 5 4 rfl))
  have m3':=upd_keep (d:=B.fnames) (o:=listO (v1 ++ [.str nm tk]) (e1 + 1)) m3 (ane (hb.up.ne 6 4 rfl))
  have f1:Frame B n _:=Frame.upd (n:=n) (d:=B.fnames) (o:=listO (v1 ++ [.str nm tk]) (e1 + 1)) (by simp [BA.mut])
  have ha':=f1 _ _ ha (tup_notmut hb Fn ha)
  generalize hn1:upd n B.fnames (listO (v1 ++ [.str nm tk]) (e1 + 1)) = n1 at *
  walk_at "r"
  refine t_tupleT ha' ?_
  walk_at "r"
  refine t_append m2' (by omega) ?_
  have hs2:=hs1.upd (d:=B.fargs) (o:=listO (v2 ++ [.ref a]) (e2 + 1)) (ane (hb.up.ne 1 5 rfl)) (ane (hb.up.ne 0 5 rfl))
  have m3'':=upd_keep (d:=B.fargs) (o:=listO (v2 ++ [.ref a]) (e2 + 1)) m3' (ane (hb.up.ne 6 5 rfl))
  have f2:Frame B n1 _:=Frame.upd (n:=n1) (d:=B.fargs) (o:=listO (v2 ++ [.ref a]) (e2 + 1)) (by simp [BA.mut])
  have k2:=upd_keep (d:=B.fargs) (o:=listO (v2 ++ [.ref a]) (e2 + 1)) (hn1 ▸ upd_self:(B.fnames,listO (v1 ++ [.str nm tk]) (e1 + 1)) ∈ n1) (ane (hb.up.ne 4 5 rfl))
  have k2':(B.fargs,_) ∈ _:=upd_self (n:=n1) (d:=B.fargs) (o:=listO (v2 ++ [.ref a]) (e2 + 1))
  generalize hn2:upd n1 B.fargs (listO (v2 ++ [.ref a]) (e2 + 1)) = n2 at *
  walk_at "r"
  refine t_append m3'' (by omega) ?_
  have hs3:=hs2.upd (d:=B.fres) (o:=listO (v3 ++ [r]) (e3 + 1)) (ane (hb.up.ne 1 6 rfl)) (ane (hb.up.ne 0 6 rfl))
  have f3:Frame B n2 _:=Frame.upd (n:=n2) (d:=B.fres) (o:=listO (v3 ++ [r]) (e3 + 1)) (by simp [BA.mut])
  have k3:=upd_keep (d:=B.fres) (o:=listO (v3 ++ [r]) (e3 + 1)) k2 (ane (hb.up.ne 4 6 rfl))
  have k3':=upd_keep (d:=B.fres) (o:=listO (v3 ++ [r]) (e3 + 1)) k2' (ane (hb.up.ne 5 6 rfl))
  have k3'':(B.fres,_) ∈ _:=upd_self (n:=n2) (d:=B.fres) (o:=listO (v3 ++ [r]) (e3 + 1))
  have K:∀ {b:Addr} {o:Obj},(b,o) ∈ n → b ≠ B.fnames → b ≠ B.fargs → b ≠ B.fres → (b,o) ∈ upd n2 B.fres (listO (v3 ++ [r]) (e3 + 1)):=
    fun h e1 e2 e3 => upd_keep (hn2 ▸ upd_keep (hn1 ▸ upd_keep h e1) e2) e3
  generalize hn3:upd n2 B.fres (listO (v3 ++ [r]) (e3 + 1)) = n3 at *
  walk_at "r"
  refine t_len k3 (by simp; omega) fun tk' => ?_
  walk_at "r"
  have f:=f1.trans (f2.trans f3)
  obtain ⟨⟨h0,h1,⟨vo,eo,mo,ao⟩,⟨va,ea,ma,aa⟩,⟨vs,es,ms,as⟩,⟨vd,ed,md,ad⟩,⟨vw,ew,mw,aw⟩,z1,z2⟩,⟨xs,⟨q0,q1,q2,q3,q4,q5,q6⟩,qr⟩,⟨kvs,⟨r0,r1,r2,r3,r4⟩,rr⟩,⟨w1,g1,p1,c1⟩,_,_,_,u⟩:=id hb
  refine ⟨⟨_,_,rfl⟩,⟨⟨hs3.self,hs3.dict,⟨vo,eo,K mo (ane (hb.up.ne 7 4 rfl)) (ane (hb.up.ne 7 5 rfl)) (ane (hb.up.ne 7 6 rfl)),ao⟩,⟨va,ea,K ma (ane (hb.up.ne 8 4 rfl)) (ane (hb.up.ne 8 5 rfl)) (ane (hb.up.ne 8 6 rfl)),aa.mono fun _ _ y => IsT.frame hb Fn f y⟩,
    ⟨vs,es,K ms (ane (hb.up.ne 9 4 rfl)) (ane (hb.up.ne 9 5 rfl)) (ane (hb.up.ne 9 6 rfl)),as⟩,⟨vd,ed,K md (ane (hb.up.ne 10 4 rfl)) (ane (hb.up.ne 10 5 rfl)) (ane (hb.up.ne 10 6 rfl)),ad.mono fun _ _ y => IsD.frame hb Fn f y⟩,⟨vw,ew,K mw (ane (hb.up.ne 3 4 rfl)) (ane (hb.up.ne 3 5 rfl)) (ane (hb.up.ne 3 6 rfl)),aw⟩,z1,z2⟩,
    ⟨xs,⟨q0,q1,q2,K q3 (ane (hb.up.ne 11 4 rfl)) (ane (hb.up.ne 11 5 rfl)) (ane (hb.up.ne 11 6 rfl)),q4,fun y hy => (q5 y hy).frame hb Fn f,q6⟩,qr⟩,⟨kvs,⟨r0,r1,r2,K r3 (ane (hb.up.ne 12 4 rfl)) (ane (hb.up.ne 12 5 rfl)) (ane (hb.up.ne 12 6 rfl)),r4⟩,rr⟩,
    ⟨w1,g1,K p1 (ane (hb.up.ne 2 4 rfl)) (ane (hb.up.ne 2 5 rfl)) (ane (hb.up.ne 2 6 rfl)),c1⟩,⟨_,_,k3,by simp; omega⟩,⟨_,_,k3',by simp; omega⟩,⟨_,_,k3'',by simp; omega⟩,u⟩,f⟩
theorem valueAt_find {kvs:List (Int × Value)} {k:Int} {v:Value} (h:valueAt kvs k = some v):kvs.find? (fun kv => decide (kv.1 = k)) = some (k,v):=by
  unfold valueAt at h
  refine Xea (Option.map_eq_some_iff.mp h) fun x hx z3_ => ?_; subst z3_
  have:=List.find?_some hx
  simp only [decide_eq_true_eq] at this
  obtain ⟨a,b⟩:=x
  subst this
  exact hx
theorem valueAt_snoc {kvs:List (Int × Value)} {k:Int} {v:Value} (h:valueAt kvs k = none):valueAt (kvs ++ [(k,v)]) k = some v:=by
  unfold valueAt at h ⊢
  rw [List.find?_append,Option.map_eq_none_iff.mp h]
  simp
theorem valueAt_app {kvs l:List (Int × Value)} {k:Int} (h:(valueAt kvs k).isSome = true):(valueAt (kvs ++ l) k).isSome = true:=by
  unfold valueAt at h ⊢
  rw [Option.isSome_map] at h ⊢
  rw [List.find?_append]
  cases hf:kvs.find? (fun kv => decide (kv.1 = k)) with
  | some x => rfl
  | none => rw [hf] at h; cases h
def Sorted (prog:Program) (w:World) (n:Led) (B:BA) (F:Nat) (tms:List Tm) (ws:List Int) (wd:Int) (v:Value) (n':Led):Prop:=
  ∃ (k:Nat) (ws':List Int),IsI k v ∧ 3 ≤ k ∧ ws'[k]? = some wd ∧ (ws' = ws ∨ ws' = ws ++ [wd]) ∧ Bank prog w n' B F tms ws' ∧ Frame B n n'
theorem sort_spec (hb:Bank prog w n B F tms ws) {wd:Int} {tk:Tok} (h1:1 ≤ wd) (h2:wd < 10) (hz:ws.length + 1 < 1000) :
    Spec prog w 640 [.ref B.self,.int wd tk] n 1 (Sorted prog w n B F tms ws wd):=by
  refine sp_bv_sort (fun Γ hr => ?_)
  conv in (stBody S_bv_sort) => whnf
  have hs:=hb.base.sf
  refine Xeaaaa hb.bvd fun kvs hd hk hl hcov hwo => ?_
  walk_at "r"
  refine kF (by simp; omega) ?_
  walk_at "r"
  refine kF (by simp; omega) ?_
  walk_at "r"
  refine t_notinI hd ?_
  walk_at "r"
  cases hv:valueAt kvs wd with
  | some v =>
    refine kF (by simp) ?_
    walk_at "r"
    refine t_getI hd hv ?_
    obtain ⟨k,hk1,hk2,hk3⟩:=hk _ (List.mem_of_find?_eq_some (p:=fun kv => decide (kv.1 = wd)) (valueAt_find hv))
    exact ⟨k,ws,hk1,hk3,hk2,.inl rfl,hb,Frame.refl⟩
  | none =>
    refine kT (by simp) ?_
    refine Xeea hb.names fun vn en mn an => ?_
    refine Xeea hb.base.widths fun vw ew mw aw => ?_
    refine Xaeeaaa (id hd) fun hd0 ds dp hd1 hd2 hd3 hd4 => ?_
    have lw:=aw.length
    have zw:=hb.base.smallw
    refine T.fn fun Fn => ?_
    have hlog:wd.natAbs.log2 < 1920:=by
      have:wd.natAbs.log2 ≤ wd.natAbs:=Nat.log2_le_self _
      omega
    have hlen:∀ x:PySem.Str,x.length ≤ 10 → x.length ≤ sizeLine:=fun x hx => by rw [sizeLine_eq]; omega
    have ht2:(Str.ofString (toString wd)).length ≤ 2:=by
      rw [PySem.ofString_length]
      exact int_text_length_le10 (a:=wd) (k:=1) (by decide) (by omega)
    walk_at "r"
    refine t_part ?_
    walk_at "s"
    have l1:(Str.empty ++ Str.ofString "(_ BitVec ").length = 10:=by decide
    refine ⟨_,_,rfl,by rw [l1,sizeLine_eq]; omega,?_⟩
    refine t_part ?_
    walk_at "r"
    refine t_fmtI hlog fun tk2 => ?_
    have l2:(Str.empty ++ Str.ofString "(_ BitVec " ++ Str.ofString (toString wd)).length ≤ 12:=by rw [strLen_append,l1]; omega
    refine ⟨_,_,rfl,by rw [sizeLine_eq]; omega,?_⟩
    refine t_part ?_
    walk_at "s"
    have l3:(Str.empty ++ Str.ofString "(_ BitVec " ++ Str.ofString (toString wd) ++ Str.ofString ")").length ≤ 13:=by
      rw [strLen_append]
      have:(Str.ofString ")").length = 1:=by decide
      omega
    refine ⟨_,_,rfl,by rw [sizeLine_eq]; omega,?_⟩
    refine t_partEnd (by rw [sizeLine_eq]; omega) fun tk3 => ?_
    generalize (Str.empty ++ Str.ofString "(_ BitVec " ++ Str.ofString (toString wd) ++ Str.ofString ")") = txt
    walk_at "r"
    refine t_append mn (by omega) ?_
    have hs1:=hs.upd (d:=B.names) (o:=listO (vn ++ [.str txt tk3]) (en + 1)) (ane (hb.up.ne 1 2 rfl)) (ane (hb.up.ne 0 2 rfl))
    have m2:=upd_keep (d:=B.names) (o:=listO (vn ++ [.str txt tk3]) (en + 1)) mw (ane (hb.up.ne 3 2 rfl))
    have k1:(B.names,_) ∈ _:=upd_self (n:=n) (d:=B.names) (o:=listO (vn ++ [.str txt tk3]) (en + 1))
    have m3:=upd_keep (d:=B.names) (o:=listO (vn ++ [.str txt tk3]) (en + 1)) hd1 (ane (hb.up.ne 12 2 rfl))
    have f1:Frame B n _:=Frame.upd (n:=n) (d:=B.names) (o:=listO (vn ++ [.str txt tk3]) (en + 1)) (by simp [BA.mut])
    generalize hn1:upd n B.names (listO (vn ++ [.str txt tk3]) (en + 1)) = n1 at *
    walk_at "r"
    refine t_append m2 (by omega) ?_
    have hs2:=hs1.upd (d:=B.widths) (o:=listO (vw ++ [.int wd tk]) (ew + 1)) (ane (hb.up.ne 1 3 rfl)) (ane (hb.up.ne 0 3 rfl))
    have k2:=upd_keep (d:=B.widths) (o:=listO (vw ++ [.int wd tk]) (ew + 1)) k1 (ane (hb.up.ne 2 3 rfl))
    have k2':(B.widths,_) ∈ _:=upd_self (n:=n1) (d:=B.widths) (o:=listO (vw ++ [.int wd tk]) (ew + 1))
    have m3':=upd_keep (d:=B.widths) (o:=listO (vw ++ [.int wd tk]) (ew + 1)) m3 (ane (hb.up.ne 12 3 rfl))
    have f2:Frame B n1 _:=Frame.upd (n:=n1) (d:=B.widths) (o:=listO (vw ++ [.int wd tk]) (ew + 1)) (by simp [BA.mut])
    generalize hn2:upd n1 B.widths (listO (vw ++ [.int wd tk]) (ew + 1)) = n2 at *
    walk_at "r"
    refine t_len k2 (by simp; omega) fun tk4 => ?_
    walk_at "r"
    have hdd:IDict prog w n2 B.bvn kvs:=⟨hd0,ds,dp,m3',hd2,hd3,hd4⟩
    refine t_setI hdd (by omega) fun ds' dp' hd' => ?_
    have hs3:=hs2.upd (d:=B.bvn) (o:=dictO ds' dp') (ane (hb.up.ne 1 12 rfl)) (ane (hb.up.ne 0 12 rfl))
    have f3:Frame B n2 _:=Frame.upd (n:=n2) (d:=B.bvn) (o:=dictO ds' dp') (by simp [BA.mut])
    have k3:=upd_keep (d:=B.bvn) (o:=dictO ds' dp') k2 (ane (hb.up.ne 2 12 rfl))
    have k3':=upd_keep (d:=B.bvn) (o:=dictO ds' dp') k2' (ane (hb.up.ne 3 12 rfl))
    have K:∀ {b:Addr} {o:Obj},(b,o) ∈ n → b ≠ B.names → b ≠ B.widths → b ≠ B.bvn → (b,o) ∈ upd n2 B.bvn (dictO ds' dp'):=
      fun h e1 e2 e3 => upd_keep (hn2 ▸ upd_keep (hn1 ▸ upd_keep h e1) e2) e3
    generalize hn3:upd n2 B.bvn (dictO ds' dp') = n3 at *
    rw [stored_absent hv] at hd'
    walk_at "r"
    refine t_getI hd' (valueAt_snoc hv) ?_
    have hnone:∀ k:Nat,3 ≤ k → ws[k]? ≠ some wd:=fun k h3 e => by have:=hcov k wd h3 e; rw [hv] at this; cases this
    have hwo':=hwo.snoc hnone
    have hcov':∀ {v:Value} (k:Nat) wd',3 ≤ k → (ws ++ [wd])[k]? = some wd' → (valueAt (kvs ++ [(wd,v)]) wd').isSome = true:=by
      intro v k wd' h3 e
      by_cases hk:k < ws.length
      · rw [List.getElem?_append_left hk] at e; exact valueAt_app (hcov k wd' h3 e)
      · rw [List.getElem?_append_right (by omega)] at e
        have:k - ws.length = 0:=by
          have:=(List.getElem?_eq_some_iff.mp e).1
          simp at this; omega
        rw [this] at e
        simp at e
        subst e
        rw [valueAt_snoc hv]; rfl
    have f:=f1.trans (f2.trans f3)
    obtain ⟨⟨h0,h1,⟨vo,eo,mo,ao⟩,⟨va,ea,ma,aa⟩,⟨vs,es,ms,as⟩,⟨vd,ed,md,ad⟩,_,z1,z2⟩,⟨xs,⟨q0,q1,q2,q3,q4,q5,q6⟩,qr⟩,_,_,⟨v1,g1,p1,c1⟩,⟨v2,g2,p2,c2⟩,⟨v3,g3,p3,c3⟩,u⟩:=id hb
    refine ⟨vn.length,ws ++ [wd],⟨_,by simp; rfl⟩,by omega,by rw [an]; simp,.inr rfl,⟨⟨hs3.self,hs3.dict,⟨vo,eo,K mo (ane (hb.up.ne 7 2 rfl)) (ane (hb.up.ne 7 3 rfl)) (ane (hb.up.ne 7 12 rfl)),ao⟩,⟨va,ea,K ma (ane (hb.up.ne 8 2 rfl)) (ane (hb.up.ne 8 3 rfl)) (ane (hb.up.ne 8 12 rfl)),aa.mono fun _ _ y => IsT.frame hb Fn f y⟩,
      ⟨vs,es,K ms (ane (hb.up.ne 9 2 rfl)) (ane (hb.up.ne 9 3 rfl)) (ane (hb.up.ne 9 12 rfl)),as⟩,⟨vd,ed,K md (ane (hb.up.ne 10 2 rfl)) (ane (hb.up.ne 10 3 rfl)) (ane (hb.up.ne 10 12 rfl)),ad.mono fun _ _ y => IsD.frame hb Fn f y⟩,⟨_,_,k3',aw.snoc ⟨_,rfl⟩⟩,z1,by simp; omega⟩,
      ⟨xs,⟨q0,q1,q2,K q3 (ane (hb.up.ne 11 2 rfl)) (ane (hb.up.ne 11 3 rfl)) (ane (hb.up.ne 11 12 rfl)),q4,fun y hy => (q5 y hy).frame hb Fn f,q6⟩,qr⟩,⟨_,hd',fun y hy => ?_,by simp; omega,hcov',hwo'⟩,
      ⟨_,_,k3,by simp [an]⟩,⟨v1,g1,K p1 (ane (hb.up.ne 4 2 rfl)) (ane (hb.up.ne 4 3 rfl)) (ane (hb.up.ne 4 12 rfl)),c1⟩,⟨v2,g2,K p2 (ane (hb.up.ne 5 2 rfl)) (ane (hb.up.ne 5 3 rfl)) (ane (hb.up.ne 5 12 rfl)),c2⟩,⟨v3,g3,K p3 (ane (hb.up.ne 6 2 rfl)) (ane (hb.up.ne 6 3 rfl)) (ane (hb.up.ne 6 12 rfl)),c3⟩,u⟩,f⟩
    rcases List.mem_append.mp hy with hy | hy
    · refine Xeaa (hk y hy) fun k i1 i2 i3 => ?_
      exact ⟨k,i1,by rw [List.getElem?_append_left (List.getElem?_eq_some_iff.mp i2).1]; exact i2,i3⟩
    · simp only [List.mem_singleton] at hy
      subst hy
      exact ⟨vn.length,⟨_,by simp; rfl⟩,by rw [an]; simp,by omega⟩
end
theorem Made.frame {prog:Program} {w:World} {n n1 n':Led} {B:BA} {F:Nat} {tms:List Tm} {ws:List Int} {τ:Tm} {v:Value} (f:Frame B n n1) (h:Made prog w n1 B F tms ws τ v n'):Made prog w n B F tms ws τ v n':=by
  refine Xeeaaaaa h ?_; clear h; intro i tms' h1 h2 h3 h4 h5 h6
  exact ⟨i,tms',h1,h2,h3,h4,h5,f.trans h6⟩
def MadeS (prog:Program) (w:World) (n:Led) (B:BA) (F:Nat) (tms:List Tm) (ws:List Int) (op:PySem.Str) (args:List Int) (wd:Int) (d:Dat) (v:Value) (n':Led):Prop:=
  ∃ (k:Nat) (ws':List Int),3 ≤ k ∧ ws'[k]? = some wd ∧ (ws' = ws ∨ ws' = ws ++ [wd]) ∧ Made prog w n B F tms ws' ⟨op,args,k,d⟩ v n'
theorem wf_i {op:PySem.Str} {args:List Int} {k x:Int} (h:op ≠ Str.ofString "extract"):Tm.wf ⟨op,args,k,.i x⟩:=by simp [Tm.wf,Dat.isP,h]
def SAME:List PySem.Str:=[Str.ofString "bvand",Str.ofString "bvor",Str.ofString "bvxor",Str.ofString "bvadd",Str.ofString "bvsub",Str.ofString "bvmul",Str.ofString "bvshl",Str.ofString "bvlshr",Str.ofString "bvudiv",Str.ofString "bvurem"]
def SAMEv:List Value:=[.str (Str.ofString "bvand") 430,.str (Str.ofString "bvor") 431,.str (Str.ofString "bvxor") 432,.str (Str.ofString "bvadd") 433,.str (Str.ofString "bvsub") 434,.str (Str.ofString "bvmul") 435,.str (Str.ofString "bvshl") 436,.str (Str.ofString "bvlshr") 437,.str (Str.ofString "bvudiv") 438,.str (Str.ofString "bvurem") 439]
theorem same_at (P:Params):(K P).lookup 199 = some ⟨.type "tuple",none,.seq SAMEv.toArray 0,#[]⟩:=by kernel_rfl
theorem same_all:All2 IsS SAME SAMEv:=by
  unfold SAME SAMEv
  repeat first | exact .nil | refine .cons ⟨_,rfl⟩ ?_
theorem Ext.f {B:BA} {n n':Led} (h:Ext n n'):Frame B n n':=fun a o ha _ => h _ ha
section
variable {prog:Program} {w:World} {n:Led} {B:BA} {F:Nat} {tms:List Tm} {ws:List Int}
theorem fresh_spec (hb:Bank prog w n B F tms ws) {nm:PySem.Str} {tk tk2:Tok} {k:Int} (hF:F < 100) (hz:tms.length + 1 < 1000) :
    Spec prog w 271 [.ref B.self,.str nm tk,.int k tk2] n 2 (fun v n' => ∃ f,Made prog w n B (F + 1) tms ws ⟨Str.ofString "app",[],k,.i f⟩ v n'):=by
  refine sp_fresh_const (fun Γ hr => ?_)
  conv in (stBody S_fresh_const) => whnf
  have hs:=hb.base.sf
  walk_at "r"
  refine t_newTuple (by simp) fun x hx hx3 => ?_
  have hb1:=hb.mono (Ext.cons (p:=(x,tupO [] 0))).b
  have hs1:=hb1.base.sf
  walk_at "r"
  refine t_newTuple (by simp) fun x2 hx2 hx23 => ?_
  have hb2:=hb1.mono (Ext.cons (p:=(x2,tupO [] 0))).b
  have hs2:=hb2.base.sf
  walk_at "r"
  refine T.fn fun Fn => ?_
  refine t_spec (declare_spec hb2 (.head _) hF) (Nat.le_trans (by decide) hr) fun v n' h => ?_
  refine Xaa h ?_; clear h; intro z1_ hb3 fr; refine Xee z1_ ?_; clear z1_; intro f t z1_; subst z1_
  walk_at "r"
  have hx':(x,tupO [] 0) ∈ n':=fr _ _ (.tail _ (.head _)) (tup_notmut hb2 Fn (.tail _ (.head _)))
  refine t_spec (make_spec hb3 (τ:=⟨Str.ofString "app",[],k,.i f⟩) ⟨_,rfl⟩ ⟨[],0,hx',.nil⟩ ⟨_,rfl⟩ ⟨_,rfl⟩ (wf_i (by decide)) hz) (Nat.le_trans (by decide) hr) fun v n'' h => ?_
  exact ⟨f,h.frame (Frame.cons.trans (Frame.cons.trans fr))⟩
theorem num_spec (hb:Bank prog w n B F tms ws) {x wd:Int} {tk tk2:Tok} (h1:1 ≤ wd) (h2:wd < 10) (hz:tms.length + 1 < 1000) (hz2:ws.length + 1 < 1000) :
    Spec prog w 661 [.ref B.self,.int x tk,.int wd tk2] n 2 (MadeS prog w n B F tms ws (Str.ofString "bvnum") [] wd (.i (x.fmod (1 * 2 ^ wd.toNat)))):=by
  refine sp_bv_num (fun Γ hr => ?_)
  conv in (stBody S_bv_num) => whnf
  have hs:=hb.base.sf
  walk_at "r"
  refine t_spec (sort_spec hb h1 h2 hz2) (Nat.le_trans (by decide) hr) fun v n1 h => ?_
  refine Xeeaaaaa h ?_; clear h; intro k ws' z2_ hk3 hkw hws hb1 f1; refine Xe z2_ ?_; clear z2_; intro t z2_; subst z2_
  have hs1:=hb1.base.sf
  walk_at "r"
  refine t_newTuple (by simp) fun y hy hy3 => ?_
  have hb2:=hb1.mono (Ext.cons (p:=(y,tupO [] 0))).b
  walk_at "r"
  refine t_shl (by omega) (by omega) (by decide) fun t3 => ?_
  have hpos:(0:Int) < 1 * 2 ^ wd.toNat:=by have:(0:Int) < 2 ^ wd.toNat:=Int.pow_pos (by decide); omega
  refine t_mod (by omega) fun t4 => ?_
  walk_at "r"
  refine t_spec (make_spec hb2 (τ:=⟨Str.ofString "bvnum",[],k,.i (x.fmod (1 * 2 ^ wd.toNat))⟩) ⟨_,rfl⟩ ⟨[],0,.head _,.nil⟩ ⟨_,rfl⟩ ⟨_,rfl⟩ (wf_i (by decide)) hz) (Nat.le_trans (by decide) hr) fun v n'' h => ?_
  exact ⟨k,ws',hk3,hkw,hws,h.frame (f1.trans Frame.cons)⟩
theorem one_spec (hb:Bank prog w n B F tms ws) {op:PySem.Str} {t:Nat} {tk tk2:Tok} {τ:Tm} {k:Nat} {wd:Int} (ht:tms[t]? = some τ) (hk:τ.sort = k) (hw:ws[k]? = some wd) (h0:wd ≠ 0)
    (hop:op = Str.ofString "bvnot" ∨ op = Str.ofString "bvneg") (hz:tms.length + 1 < 1000) :
    Spec prog w 668 [.ref B.self,.str op tk,.int t tk2] n 3 (Made prog w n B F tms ws ⟨op,[(t:Int)],k,.i 0⟩):=by
  refine sp_bv_one (fun Γ hr => ?_)
  conv in (stBody S_bv_one) => whnf
  have hs:=hb.base.sf
  refine Xeea hb.base.sorts fun vs e hm hv => ?_
  refine Xeae (hv.get ht) fun v hx tks z3_ => ?_; subst z3_
  have hl:=(List.getElem?_eq_some_iff.mp ht).1
  have hop':op ≠ Str.ofString "extract":=by rcases hop with rfl | rfl <;> decide
  walk_at "r"
  refine t_spec (want_bits_spec hb.base ht hk hw h0) (Nat.le_trans (by decide) hr) fun v n' h => ?_
  refine Xa h ?_; clear h; intro z4_ z5_; subst z4_; subst z5_
  walk_at "r"
  rcases hop with rfl | rfl
  all_goals
    first
    | (rw [show (Str.ofString "bvnot" != Str.ofString "bvnot") = false by decide]; walk_at "r")
    | (rw [show (Str.ofString "bvneg" != Str.ofString "bvnot") = true by decide]; (walk_at "r"); rw [show (Str.ofString "bvneg" != Str.ofString "bvneg") = false by decide]; walk_at "r")
    refine t_newTuple (by simp) fun x hx' hx3 => ?_
    have hb1:=hb.mono (Ext.cons (p:=(x,tupO [.int t tk2] 0))).b
    have hs1:=hb1.base.sf
    walk_at "r"
    refine t_item_list (.tail _ hm) (Int.natCast_nonneg _) (by simpa using hx) ?_ (by have:=hb.base.small; omega)
    walk_at "r"
    rw [hk]
    refine t_spec (make_spec hb1 (τ:=Tm.mk _ [(t:Int)] k (.i 0)) ⟨_,rfl⟩ ⟨_,0,.head _,.cons ⟨_,rfl⟩ .nil⟩ ⟨_,rfl⟩ ⟨_,rfl⟩ (wf_i hop') hz) (by omega) fun v n'' h => ?_
    exact h.frame Frame.cons
theorem two_body (hb:Bank prog w n B F tms ws) {op:PySem.Str} {a b:Nat} {tk tk2 tk3:Tok} {τ τ':Tm} {k:Nat} {wd:Int} (ht:tms[a]? = some τ) (hk:τ.sort = k) (hw:ws[k]? = some wd) (h0:wd ≠ 0)
    (ht':tms[b]? = some τ') (hk':τ'.sort = k) (hop:SAME.any (· == op) = true) (hop':op ≠ Str.ofString "extract") (hz:tms.length + 1 < 1000) :
    ∀ Γ:Cx prog w sc_bv_two [],2 ≤ Γ.rem → T Γ (execs (stBody S_bv_two) Γ.env) (fun y => ([(Str.ofString "b",.int b tk3),(Str.ofString "a",.int a tk2),(Str.ofString "op",.str op tk),(Str.ofString "self",.ref B.self)]:List (PySem.Str × Value)).lookup y) n
      (fun fl m' n' => Made prog w n B F tms ws ⟨op,[(a:Int),(b:Int)],k,.i 0⟩ (match fl with | .ret v => v | _ => .none) n'):=by
  intro Γ hr
  conv in (stBody S_bv_two) => whnf
  have hs:=hb.base.sf
  refine Xeea hb.base.sorts fun vs e hm hv => ?_
  refine Xeae (hv.get ht) fun v hx tks z6_ => ?_; subst z6_
  have hl:=(List.getElem?_eq_some_iff.mp ht).1
  have hsm:=hb.base.small
  walk_at "r"
  refine t_spec (want_bits_spec hb.base ht hk hw h0) (Nat.le_trans (by decide) hr) fun v n' h => ?_
  refine Xa h ?_; clear h; intro z7_ z8_; subst z7_; subst z8_
  walk_at "r"
  refine t_item_list hm (Int.natCast_nonneg _) (by simpa using hx) ?_ (by omega)
  rw [hk]
  walk_at "r"
  refine t_spec (want_spec hb.base ht' hk') (Nat.le_trans (by decide) hr) fun v n' h => ?_
  refine Xa h ?_; clear h; intro z9_ z10_; subst z9_; subst z10_
  walk_at "r"
  refine t_inK (same_at _) rfl rfl same_all ?_
  rw [hop]
  walk_at "r"
  refine t_newTuple (by simp) fun x hx' hx3 => ?_
  have hb1:=hb.mono (Ext.cons (p:=(x,tupO [.int a tk2,.int b tk3] 0))).b
  have hs1:=hb1.base.sf
  walk_at "r"
  refine t_item_list (.tail _ hm) (Int.natCast_nonneg _) (by simpa using hx) ?_ (by omega)
  walk_at "r"
  rw [hk]
  refine t_spec (make_spec hb1 (τ:=Tm.mk op [(a:Int),(b:Int)] k (.i 0)) ⟨_,rfl⟩ ⟨_,0,.head _,.cons ⟨_,rfl⟩ (.cons ⟨_,rfl⟩ .nil)⟩ ⟨_,rfl⟩ ⟨_,rfl⟩ (wf_i hop') hz) (Nat.le_trans (by decide) hr) fun v n'' h => ?_
  exact h.frame Frame.cons
theorem two_spec (hb:Bank prog w n B F tms ws) {op:PySem.Str} {a b:Nat} {tk tk2 tk3:Tok} {τ τ':Tm} {k:Nat} {wd:Int} (ht:tms[a]? = some τ) (hk:τ.sort = k) (hw:ws[k]? = some wd) (h0:wd ≠ 0)
    (ht':tms[b]? = some τ') (hk':τ'.sort = k) (hop:SAME.any (· == op) = true) (hop':op ≠ Str.ofString "extract") (hz:tms.length + 1 < 1000) :
    Spec prog w 675 [.ref B.self,.str op tk,.int a tk2,.int b tk3] n 3 (Made prog w n B F tms ws ⟨op,[(a:Int),(b:Int)],k,.i 0⟩):=sp_bv_two (two_body hb ht hk hw h0 ht' hk' hop hop' hz)
theorem concat_spec (hb:Bank prog w n B F tms ws) {a b:Nat} {tk2 tk3:Tok} {τ τ':Tm} {k k':Nat} {wd wd':Int} (ht:tms[a]? = some τ) (hk:τ.sort = k) (hw:ws[k]? = some wd) (h0:1 ≤ wd)
    (ht':tms[b]? = some τ') (hk':τ'.sort = k') (hw':ws[k']? = some wd') (h0':1 ≤ wd') (hs10:wd + wd' < 10) (hz:tms.length + 1 < 1000) (hz2:ws.length + 1 < 1000) :
    Spec prog w 682 [.ref B.self,.int a tk2,.int b tk3] n 3 (MadeS prog w n B F tms ws (Str.ofString "concat") [(a:Int),(b:Int)] (wd + wd') (.i 0)):=by
  refine sp_concat (fun Γ hr => ?_)
  conv in (stBody S_concat) => whnf
  have hs:=hb.base.sf
  walk_at "r"
  refine t_spec (want_bits_spec hb.base ht hk hw (by omega)) (Nat.le_trans (by decide) hr) fun v n' h => ?_
  refine Xa h ?_; clear h; intro z11_ z12_; subst z11_; subst z12_
  walk_at "r"
  refine t_spec (want_bits_spec hb.base ht' hk' hw' (by omega)) (Nat.le_trans (by decide) hr) fun v n' h => ?_
  refine Xa h ?_; clear h; intro z13_ z14_; subst z13_; subst z14_
  walk_at "r"
  refine t_newTuple (by simp) fun x hx' hx3 => ?_
  have hb1:=hb.mono (Ext.cons (p:=(x,tupO [.int a tk2,.int b tk3] 0))).b
  have hs1:=hb1.base.sf
  refine T.fn fun Fn => ?_
  walk_at "r"
  refine t_spec (width_spec hb1.base ht hk hw) (Nat.le_trans (by decide) hr) fun v n' h => ?_
  refine Xae h ?_; clear h; intro z15_ t1 z16_; subst z15_; subst z16_
  walk_at "r"
  refine t_spec (width_spec hb1.base ht' hk' hw') (Nat.le_trans (by decide) hr) fun v n' h => ?_
  refine Xae h ?_; clear h; intro z17_ t1 z18_; subst z17_; subst z18_
  walk_at "r"
  refine t_spec (sort_spec hb1 (by omega) hs10 hz2) (Nat.le_trans (by decide) hr) fun v n1 h => ?_
  refine Xeeaaaaa h ?_; clear h; intro q ws' z19_ hk3 hkw hws hb2 f1; refine Xe z19_ ?_; clear z19_; intro t z3_; subst z3_
  walk_at "r"
  have hx1:=f1 _ _ (.head _) (tup_notmut hb1 Fn (.head _))
  refine t_spec (make_spec hb2 (τ:=Tm.mk (Str.ofString "concat") [(a:Int),(b:Int)] q (.i 0)) ⟨_,rfl⟩ ⟨_,0,hx1,.cons ⟨_,rfl⟩ (.cons ⟨_,rfl⟩ .nil)⟩ ⟨_,rfl⟩ ⟨_,rfl⟩ (wf_i (by decide)) hz) (Nat.le_trans (by decide) hr) fun v n'' h => ?_
  exact ⟨q,ws',hk3,hkw,hws,h.frame (Frame.cons.trans f1)⟩
theorem zero_spec (hb:Bank prog w n B F tms ws) {a:Nat} {m:Int} {tk2 tk3:Tok} {τ:Tm} {k:Nat} {wd:Int} (ht:tms[a]? = some τ) (hk:τ.sort = k) (hw:ws[k]? = some wd) (h0:1 ≤ wd)
    (hm1:1 ≤ m) (hs10:wd + m < 10) (hz:tms.length + 1 < 1000) (hz2:ws.length + 1 < 1000) :
    Spec prog w 696 [.ref B.self,.int m tk2,.int a tk3] n 3 (MadeS prog w n B F tms ws (Str.ofString "zero_extend") [(a:Int)] (wd + m) (.i m)):=by
  refine sp_zero_extend (fun Γ hr => ?_)
  conv in (stBody S_zero_extend) => whnf
  have hs:=hb.base.sf
  walk_at "r"
  refine t_spec (want_bits_spec hb.base ht hk hw (by omega)) (Nat.le_trans (by decide) hr) fun v n' h => ?_
  refine Xa h ?_; clear h; intro z20_ z21_; subst z20_; subst z21_
  walk_at "r"
  rw [show decide (m < 0) = false from decide_eq_false (by omega)]
  walk_at "r"
  rw [show (m == 0) = false from by simp; omega]
  walk_at "r"
  refine t_newTuple (by simp) fun x hx' hx3 => ?_
  have hb1:=hb.mono (Ext.cons (p:=(x,tupO [.int a tk3] 0))).b
  have hs1:=hb1.base.sf
  refine T.fn fun Fn => ?_
  walk_at "r"
  refine t_spec (width_spec hb1.base ht hk hw) (Nat.le_trans (by decide) hr) fun v n' h => ?_
  refine Xae h ?_; clear h; intro z22_ t1 z23_; subst z22_; subst z23_
  walk_at "r"
  refine t_spec (sort_spec hb1 (by omega) hs10 hz2) (Nat.le_trans (by decide) hr) fun v n1 h => ?_
  refine Xeeaaaaa h ?_; clear h; intro q ws' z24_ hk3 hkw hws hb2 f1; refine Xe z24_ ?_; clear z24_; intro t z4_; subst z4_
  walk_at "r"
  have hx1:=f1 _ _ (.head _) (tup_notmut hb1 Fn (.head _))
  refine t_spec (make_spec hb2 (τ:=Tm.mk (Str.ofString "zero_extend") [(a:Int)] q (.i m)) ⟨_,rfl⟩ ⟨_,0,hx1,.cons ⟨_,rfl⟩ .nil⟩ ⟨_,rfl⟩ ⟨_,rfl⟩ (wf_i (by decide)) hz) (Nat.le_trans (by decide) hr) fun v n'' h => ?_
  exact ⟨q,ws',hk3,hkw,hws,h.frame (Frame.cons.trans f1)⟩
theorem sign_spec (hb:Bank prog w n B F tms ws) {a:Nat} {m:Int} {tk2 tk3:Tok} {τ:Tm} {k:Nat} {wd:Int} (ht:tms[a]? = some τ) (hk:τ.sort = k) (hw:ws[k]? = some wd) (h0:1 ≤ wd)
    (hm1:1 ≤ m) (hs10:wd + m < 10) (hz:tms.length + 1 < 1000) (hz2:ws.length + 1 < 1000) :
    Spec prog w 703 [.ref B.self,.int m tk2,.int a tk3] n 3 (MadeS prog w n B F tms ws (Str.ofString "sign_extend") [(a:Int)] (wd + m) (.i m)):=by
  refine sp_sign_extend (fun Γ hr => ?_)
  conv in (stBody S_sign_extend) => whnf
  have hs:=hb.base.sf
  walk_at "r"
  refine t_spec (want_bits_spec hb.base ht hk hw (by omega)) (Nat.le_trans (by decide) hr) fun v n' h => ?_
  refine Xa h ?_; clear h; intro z25_ z26_; subst z25_; subst z26_
  walk_at "r"
  rw [show decide (m < 0) = false from decide_eq_false (by omega)]
  walk_at "r"
  rw [show (m == 0) = false from by simp; omega]
  walk_at "r"
  refine t_newTuple (by simp) fun x hx' hx3 => ?_
  have hb1:=hb.mono (Ext.cons (p:=(x,tupO [.int a tk3] 0))).b
  have hs1:=hb1.base.sf
  refine T.fn fun Fn => ?_
  walk_at "r"
  refine t_spec (width_spec hb1.base ht hk hw) (Nat.le_trans (by decide) hr) fun v n' h => ?_
  refine Xae h ?_; clear h; intro z27_ t1 z28_; subst z27_; subst z28_
  walk_at "r"
  refine t_spec (sort_spec hb1 (by omega) hs10 hz2) (Nat.le_trans (by decide) hr) fun v n1 h => ?_
  refine Xeeaaaaa h ?_; clear h; intro q ws' z29_ hk3 hkw hws hb2 f1; refine Xe z29_ ?_; clear z29_; intro t z5_; subst z5_
  walk_at "r"
  have hx1:=f1 _ _ (.head _) (tup_notmut hb1 Fn (.head _))
  refine t_spec (make_spec hb2 (τ:=Tm.mk (Str.ofString "sign_extend") [(a:Int)] q (.i m)) ⟨_,rfl⟩ ⟨_,0,hx1,.cons ⟨_,rfl⟩ .nil⟩ ⟨_,rfl⟩ ⟨_,rfl⟩ (wf_i (by decide)) hz) (Nat.le_trans (by decide) hr) fun v n'' h => ?_
  exact ⟨q,ws',hk3,hkw,hws,h.frame (Frame.cons.trans f1)⟩
theorem extract_spec (hb:Bank prog w n B F tms ws) {a:Nat} {hi lo:Int} {tk1 tk2 tk3:Tok} {τ:Tm} {k:Nat} {wd:Int} (ht:tms[a]? = some τ) (hk:τ.sort = k) (hw:ws[k]? = some wd) (h0:wd < 10)
    (hlo:0 ≤ lo) (hlh:lo ≤ hi) (hhi:hi < wd) (hz:tms.length + 1 < 1000) (hz2:ws.length + 1 < 1000) :
    Spec prog w 689 [.ref B.self,.int hi tk1,.int lo tk2,.int a tk3] n 3 (MadeS prog w n B F tms ws (Str.ofString "extract") [(a:Int)] (hi - lo + 1) (.p hi lo)):=by
  refine sp_extract (fun Γ hr => ?_)
  conv in (stBody S_extract) => whnf
  have hs:=hb.base.sf
  walk_at "r"
  refine t_spec (want_bits_spec hb.base ht hk hw (by omega)) (Nat.le_trans (by decide) hr) fun v n' h => ?_
  refine Xa h ?_; clear h; intro z30_ z31_; subst z30_; subst z31_
  walk_at "r"
  rw [show decide (0 ≤ lo) = true from decide_eq_true hlo]
  walk_at "r"
  rw [show decide (lo ≤ hi) = true from decide_eq_true hlh]
  walk_at "r"
  refine t_spec (width_spec hb.base ht hk hw) (Nat.le_trans (by decide) hr) fun v n' h => ?_
  refine Xae h ?_; clear h; intro z32_ t1 z33_; subst z32_; subst z33_
  walk_at "r"
  rw [show decide (hi < wd) = true from decide_eq_true hhi]
  walk_at "r"
  refine ite_f ?_
  walk_at "r"
  refine t_newTuple (by simp) fun x hx' hx3 => ?_
  have hb1:=hb.mono (Ext.cons (p:=(x,tupO [.int a tk3] 0))).b
  have hs1:=hb1.base.sf
  refine T.fn fun Fn => ?_
  walk_at "r"
  refine t_spec (sort_spec hb1 (by omega) (by omega) hz2) (Nat.le_trans (by decide) hr) fun v n1 h => ?_
  refine Xeeaaaaa h ?_; clear h; intro q ws' z34_ hk3 hkw hws hb2 f1; refine Xe z34_ ?_; clear z34_; intro t z6_; subst z6_
  walk_at "r"
  refine t_newTuple (by simp) fun y hy' hy3 => ?_
  have hb3:=hb2.mono (Ext.cons (p:=(y,tupO [.int hi tk1,.int lo tk2] 0))).b
  walk_at "r"
  have hx1:=f1 _ _ (.head _) (tup_notmut hb1 Fn (.head _))
  refine t_spec (make_spec hb3 (τ:=Tm.mk (Str.ofString "extract") [(a:Int)] q (.p hi lo)) ⟨_,rfl⟩ ⟨_,0,.tail _ hx1,.cons ⟨_,rfl⟩ .nil⟩ ⟨_,rfl⟩ ⟨y,_,0,rfl,.head _,.cons ⟨_,rfl⟩ (.cons ⟨_,rfl⟩ .nil)⟩ (by simp [Tm.wf,Dat.isP]) hz) (Nat.le_trans (by decide) hr) fun v n'' h => ?_
  exact ⟨q,ws',hk3,hkw,hws,h.frame (Frame.cons.trans (f1.trans Frame.cons))⟩
end
structure RA where
  self:Addr
  dict:Addr
  known:Addr
  tk:Nat → Tok
  yes:Value
  no:Value
  ep:Nat
def rwD (P:Params) (B:BA) (R:RA):List DictEntry:=[
  ⟨PyData.keyHash P "bank",.str "bank" (R.tk 0),.ref B.self⟩,⟨PyData.keyHash P "yes",.str "yes" (R.tk 1),R.yes⟩,
  ⟨PyData.keyHash P "no",.str "no" (R.tk 2),R.no⟩,⟨PyData.keyHash P "known",.str "known" (R.tk 3),.ref R.known⟩]
structure Rw (P:Params) (n:Led) (B:BA) (R:RA):Prop where
  self:(R.self,instObj 1053 R.dict) ∈ n
  dict:(R.dict,dictOf (rwD P B R) R.ep) ∈ n
theorem Rw.mono {P:Params} {n n':Led} {B:BA} {R:RA} (h:Rw P n B R) (s:Ext n n'):Rw P n' B R:=⟨s _ h.self,s _ h.dict⟩
theorem hd_rw (P:Params):hasDictIn (K P) 1053 = true:=by kernel_rfl
theorem at_rwbank (P:Params):findIn (K P) (.ref 1053) "bank" = some none:=by kernel_rfl
theorem pa_rwbank (P:Params):plainGet (K P) 1053 "bank" = true:=by kernel_rfl
theorem ga_rwbank (P:Params) (B:BA) (R:RA):getL "bank" (rwD P B R) = some (some (.ref B.self)):=by kernel_rfl
theorem fi_cut_within (P:Params):findIn (K P) (.ref 1053) "cut_within" = some (some (.ref 999)):=by kernel_rfl
theorem pg_cut_within (P:Params):plainGet (K P) 1053 "cut_within" = true:=by kernel_rfl
theorem gl_cut_within (P:Params) (B:BA) (R:RA):getL "cut_within" (rwD P B R) = some none:=by kernel_rfl
section
variable {prog:Program} {w:World} {cs:Scope} {cl:List (PySem.Str × Addr)} {Γ:Cx prog w cs cl} {m:Loc} {n:Led} {B:BA} {R:RA}
theorem T.test {α:Type} {t:Sem α} {P:α → Loc → Led → Prop} (v:α) (h1:T Γ t m n (fun a m' n' => a = v ∧ m' = m ∧ n' = n)) (h2:P v m n):T Γ t m n P:=h1.mono fun a m' n' h => by refine Xaa h ?_; clear h; intro z1_ z2_ z3_; subst z1_; subst z2_; subst z3_; exact h2
theorem kAT {t:Sem Bool} {P:Bool → Loc → Led → Prop} {b:Bool} (hb:b = true) (h:T Γ t m n P):andK Γ t P b m n:=by
  show ite _ _ _
  rw [if_pos hb]; exact h
theorem kAF {t:Sem Bool} {P:Bool → Loc → Led → Prop} {b:Bool} (hb:¬ b = true) (h:P false m n):andK Γ t P b m n:=by
  show ite _ _ _
  rw [if_neg hb]; exact h
theorem t_rw_bank {b:Bool} {P:Value → Loc → Led → Prop} (hs:Rw w.params n B R) (h:P (.ref B.self) m n):T Γ (getAttr (.ref R.self) "bank" b) m n P:=
  t_getattr hs.self hs.dict (pa_rwbank _) (hd_rw _) (at_rwbank _) rfl (ga_rwbank _ _ _) rfl h
theorem t_rm_cut {pl:Sem Bool} {P:Value × List Value → Loc → Led → Prop} (hs:Rw w.params n B R) (h:P (.ref 999,[.ref R.self]) m n):T Γ (getMethod (.ref R.self) "cut_within" pl) m n P:=
  t_method hs.self hs.dict (pg_cut_within _) (fi_cut_within _) (if_cut_within _) (gl_cut_within _ _ _) h
theorem t_cw_cut {env:Env} {pos:Pos} {first:List Value} {e:PySem.Expr} {rest:List PySem.Expr} {P:Value → Loc → Led → Prop}
    (h:T Γ (spliced (backTo pos (starEach (e :: rest) env))) m n (bK Γ (fun vs => call (.ref 999) (first ++ vs)) P))
    (he:starEach (e :: rest) env = (false,eval e env) :: starEach rest env) (hplain:(backTo pos (starEach rest env)).any (·.1) = false) :
    T Γ (callWith pos (.ref 999) first (backTo pos (starEach (e :: rest) env)) []) m n P:=t_callWith (kp_cut_within _) h he hplain
end
inductive CutIs (tms:List Tm) (ws:List Int) (τ:Tm) (hi lo wd:Int):Option (List Int) → Prop
  | whole:lo = 0 → hi = wd - 1 → CutIs tms ws τ hi lo wd none
  | ext {a h l:Int}:¬ (lo = 0 ∧ hi = wd - 1) → τ.op = Str.ofString "extract" → τ.args = [a] → τ.data = .p h l → CutIs tms ws τ hi lo wd (some [hi + l,lo + l,a])
  | not {a:Int}:¬ (lo = 0 ∧ hi = wd - 1) → τ.op = Str.ofString "bvnot" → τ.args = [a] → CutIs tms ws τ hi lo wd (some [hi,lo,a])
  | cat {a:Int} {b:Nat} {τ':Tm} {k:Nat} {sb:Int}:¬ (lo = 0 ∧ hi = wd - 1) → τ.op = Str.ofString "concat" → τ.args = [a,(b:Int)] → tms[b]? = some τ' → τ'.sort = k → ws[k]? = some sb →
      CutIs tms ws τ hi lo wd (if hi < sb then some [hi,lo,(b:Int)] else if lo ≥ sb then some [hi - sb,lo - sb,a] else none)
  | wide {a:Nat} {τ':Tm} {k:Nat} {sa:Int}:¬ (lo = 0 ∧ hi = wd - 1) → τ.op = Str.ofString "zero_extend" ∨ τ.op = Str.ofString "sign_extend" → τ.args = [(a:Int)] → tms[a]? = some τ' → τ'.sort = k → ws[k]? = some sa →
      CutIs tms ws τ hi lo wd (if hi < sa then some [hi,lo,(a:Int)] else none)
  | other:¬ (lo = 0 ∧ hi = wd - 1) → τ.op ≠ Str.ofString "extract" → τ.op ≠ Str.ofString "bvnot" → τ.op ≠ Str.ofString "concat" → τ.op ≠ Str.ofString "zero_extend" → τ.op ≠ Str.ofString "sign_extend" → CutIs tms ws τ hi lo wd none
section
variable {prog:Program} {w:World} {n:Led} {B:BA} {R:RA} {tms:List Tm} {ws:List Int}
theorem cut_spec (hb:BankIn w.params n B tms ws) (hR:Rw w.params n B R) {t:Nat} {hi lo:Int} {tk1 tk2 tk3:Tok} {τ:Tm} {k:Nat} {wd:Int} {r:Option (List Int)} (ht:tms[t]? = some τ) (hk:τ.sort = k) (hw:ws[k]? = some wd)
    (up:B.Up) (hc:CutIs tms ws τ hi lo wd r):Spec prog w 999 [.ref R.self,.int hi tk1,.int lo tk2,.int t tk3] n 2 (fun v n' => IsO n' r v ∧ Ext n n'):=by
  refine sp_cut_within (fun Γ hr => ?_)
  conv in (stBody S_cut_within) => whnf
  have hs:=hb.sf
  walk_at "s"
  refine t_assignSwap [Str.ofString "kind",Str.ofString "args"] ?_ (by rfl) (by with_unfolding_all rfl)
  walk_at "r"
  refine t_spec (op_spec hb ht) (Nat.le_trans (by decide) hr) fun v n' h => ?_
  refine Xae h ?_; clear h; intro z4_ t1 z5_; subst z4_; subst z5_
  walk_at "r"
  refine t_spec (args_spec hb ht) (Nat.le_trans (by decide) hr) fun v n' h => ?_
  refine Xaeeeaa h ?_; clear h; intro z6_ ax us e z7_ hax hus; subst z6_; subst z7_
  walk_at "r"
  refine t_newTuple (by simp) fun x hx hx3 => ?_
  refine t_unpackT (.head _) rfl ?_
  have hR1:=hR.mono (Ext.cons (p:=(x,tupO [.str τ.op t1,.ref ax] 0)))
  have hb1:=hb.mono (Ext.cons (p:=(x,tupO [.str τ.op t1,.ref ax] 0))).b up
  have hs1:=hb1.sf
  have hax1:(ax,tupO us e) ∈ (x,tupO [.str τ.op t1,.ref ax] 0) :: n':=.tail _ hax
  generalize hn1:(x,tupO [.str τ.op t1,.ref ax] 0) :: n' = n1 at *
  have ex:Ext n' n1:=hn1 ▸ Ext.cons
  refine t_inOrder (t_storeI (t_inOrder (t_storeI (t_inOrder0 ?_) (by rfl))) (by rfl))
  have fin:∀ {c:Addr} {vs:List Value} {xs:List Int} {n2:Led},Ext n1 n2 → All2 IsI xs vs → r = some xs → IsO ((c,tupO vs 0) :: n2) r (.ref c) ∧ Ext n' ((c,tupO vs 0) :: n2):=by
    intro c vs xs n2 e2 hx hr
    subst hr
    exact ⟨⟨c,vs,0,rfl,.head _,hx⟩,ex.trans (e2.trans Ext.cons)⟩
  have e01:∀ {n2:Led},Ext n1 n2 → r = none → IsO n2 r .none ∧ Ext n' n2:=by
    intro n2 e2 hr; subst hr; exact ⟨rfl,ex.trans e2⟩
  iterate 2 walk_at "s"
  refine T.test (decide (lo = 0 ∧ hi = wd - 1)) ?test ?cont
  case test =>
    walk_at "r"
    by_cases h0:lo = 0
    · refine kAT (by simp [h0]) ?_
      walk_at "r"
      refine t_spec (width_spec hb1 ht hk hw) (Nat.le_trans (by decide) hr) fun v n' h => ?_
      refine Xae h ?_; clear h; intro z8_ t2 z9_; subst z8_; subst z9_
      walk_at "r"
      by_cases h1:hi = wd - 1
      · refine kAT (by simp [h1]) ?_
        walk_at "r"
        exact ⟨by simp [h0,h1],rfl,rfl⟩
      · refine kAF (by simp [h1]) ?_
        exact ⟨by simp [h0,h1],rfl,rfl⟩
    · refine kAF (by simp [h0]) ?_
      exact ⟨by simp [h0],rfl,rfl⟩
  case cont =>
   cases hc with
   | whole h0 h1 =>
     rw [decide_eq_true ⟨h0,h1⟩]
     walk_at "r"
     exact e01 Ext.refl rfl
   | ext hn ho ha hd =>
     rw [decide_eq_false hn]
     walk_at "r"
     rw [decide_eq_true ho]
     walk_at "r"
     refine t_spec (data_spec hb1 ht) (Nat.le_trans (by decide) hr) fun v n' h => ?_
     refine Xa h ?_; clear h; intro z10_ h; subst z10_
     rw [hd] at h
     refine Xeeeaa h ?_; clear h; intro c us2 e2 z11_ hm2 hv2; subst z11_
     refine Xeae (hv2.get (i:=1) (by rfl)) fun v0 g0 u0 z12_ => ?_; subst z12_
     walk_at "r"
     refine t_itemT hm2 (by decide) (by simpa using g0) ?_ (by decide)
     walk_at "r"
     refine t_spec (data_spec hb1 ht) (Nat.le_trans (by decide) hr) fun v n' h => ?_
     refine Xa h ?_; clear h; intro z13_ h; subst z13_
     rw [hd] at h
     refine Xeeeaa h ?_; clear h; intro c' us2' e2' z14_ hm2' hv2'; subst z14_
     refine Xeae (hv2'.get (i:=1) (by rfl)) fun v0' g0' u0' z15_ => ?_; subst z15_
     walk_at "r"
     refine t_itemT hm2' (by decide) (by simpa using g0') ?_ (by decide)
     walk_at "r"
     rw [ha] at hus
     refine Xeae (hus.get (i:=0) (by rfl)) fun va ga ua z16_ => ?_; subst z16_
     refine t_itemT hax1 (by decide) (by simpa using ga) ?_ (by decide)
     walk_at "r"
     refine t_newTuple (by simp) fun y hy hy3 => ?_
     exact fin Ext.refl (.cons ⟨_,rfl⟩ (.cons ⟨_,rfl⟩ (.cons ⟨_,rfl⟩ .nil))) rfl
   | not hn ho ha =>
     rw [decide_eq_false hn]
     walk_at "r"
     rw [decide_eq_false (show ¬ τ.op = Str.ofString "extract" by rw [ho]; decide)]
     walk_at "r"
     rw [decide_eq_true ho]
     walk_at "r"
     rw [ha] at hus
     refine Xeae (hus.get (i:=0) (by rfl)) fun va ga ua z17_ => ?_; subst z17_
     refine t_itemT hax1 (by decide) (by simpa using ga) ?_ (by decide)
     walk_at "r"
     refine t_newTuple (by simp) fun y hy hy3 => ?_
     exact fin Ext.refl (.cons ⟨_,rfl⟩ (.cons ⟨_,rfl⟩ (.cons ⟨_,rfl⟩ .nil))) rfl
   | @cat aa bb τ' k' sb hn ho ha h1 h2 h3 =>
     rw [decide_eq_false hn]
     walk_at "r"
     rw [decide_eq_false (show ¬ τ.op = Str.ofString "extract" by rw [ho]; decide)]
     walk_at "r"
     rw [decide_eq_false (show ¬ τ.op = Str.ofString "bvnot" by rw [ho]; decide)]
     walk_at "r"
     rw [decide_eq_true ho]
     walk_at "r"
     rw [ha] at hus
     refine Xeae (hus.get (i:=0) (by rfl)) fun va ga ua z18_ => ?_; subst z18_
     refine Xeae (hus.get (i:=1) (by rfl)) fun vb gb ub z19_ => ?_; subst z19_
     refine t_itemT hax1 (by decide) (by simpa using gb) ?_ (by decide)
     walk_at "r"
     refine t_spec (width_spec hb1 h1 h2 h3) (Nat.le_trans (by decide) hr) fun v n' h => ?_
     refine Xae h ?_; clear h; intro z20_ t4 z21_; subst z20_; subst z21_
     walk_at "r"
     by_cases c1:hi < sb
     · rw [decide_eq_true c1]
       walk_at "r"
       refine t_itemT hax1 (by decide) (by simpa using gb) ?_ (by decide)
       walk_at "r"
       refine t_newTuple (by simp) fun y hy hy3 => ?_
       exact fin Ext.refl (.cons ⟨_,rfl⟩ (.cons ⟨_,rfl⟩ (.cons ⟨_,rfl⟩ .nil))) (by rw [if_pos c1])
     · rw [decide_eq_false c1]
       walk_at "r"
       by_cases c2:lo ≥ sb
       · rw [decide_eq_true c2]
         walk_at "r"
         refine t_itemT hax1 (by decide) (by simpa using ga) ?_ (by decide)
         walk_at "r"
         refine t_newTuple (by simp) fun y hy hy3 => ?_
         exact fin Ext.refl (.cons ⟨_,rfl⟩ (.cons ⟨_,rfl⟩ (.cons ⟨_,rfl⟩ .nil))) (by rw [if_neg c1,if_pos c2])
       · rw [decide_eq_false c2]
         walk_at "r"
         refine t_newTuple (by simp) fun y hy hy3 => ?_
         refine t_inT (ys:=[Str.ofString "zero_extend",Str.ofString "sign_extend"]) (.head _) (.cons ⟨_,rfl⟩ (.cons ⟨_,rfl⟩ .nil)) ?_
         rw [show ([Str.ofString "zero_extend",Str.ofString "sign_extend"].any (· == τ.op)) = false by rw [ho]; decide]
         walk_at "r"
         exact e01 Ext.cons (by rw [if_neg c1,if_neg c2])
   | @wide aa τ' k' sa hn ho ha h1 h2 h3 =>
     rw [decide_eq_false hn]
     walk_at "r"
     rw [decide_eq_false (show ¬ τ.op = Str.ofString "extract" by rcases ho with ho | ho <;> rw [ho] <;> decide)]
     walk_at "r"
     rw [decide_eq_false (show ¬ τ.op = Str.ofString "bvnot" by rcases ho with ho | ho <;> rw [ho] <;> decide)]
     walk_at "r"
     rw [decide_eq_false (show ¬ τ.op = Str.ofString "concat" by rcases ho with ho | ho <;> rw [ho] <;> decide)]
     walk_at "r"
     refine t_newTuple (by simp) fun y hy hy3 => ?_
     refine t_inT (ys:=[Str.ofString "zero_extend",Str.ofString "sign_extend"]) (.head _) (.cons ⟨_,rfl⟩ (.cons ⟨_,rfl⟩ .nil)) ?_
     rw [show ([Str.ofString "zero_extend",Str.ofString "sign_extend"].any (· == τ.op)) = true by rcases ho with ho | ho <;> rw [ho] <;> decide]
     rw [ha] at hus
     refine Xeae (hus.get (i:=0) (by rfl)) fun va ga ua z22_ => ?_; subst z22_
     generalize hn2:(y,tupO [Value.str (Str.ofString "zero_extend") _,Value.str (Str.ofString "sign_extend") _] 0) :: n1 = n2
     have ex2:Ext n1 n2:=hn2 ▸ Ext.cons
     have hb2:=hb1.mono ex2.b up
     have hR2:=hR1.mono ex2
     have hs2:=hb2.sf
     walk_at "r"
     refine t_itemT (ex2 _ hax1) (by decide) (by simpa using ga) ?_ (by decide)
     walk_at "r"
     refine t_spec (width_spec hb2 h1 h2 h3) (Nat.le_trans (by decide) hr) fun v n' h => ?_
     refine Xae h ?_; clear h; intro z23_ t4 z24_; subst z23_; subst z24_
     walk_at "r"
     by_cases c1:hi < sa
     · rw [decide_eq_true c1]
       walk_at "r"
       refine t_itemT (ex2 _ hax1) (by decide) (by simpa using ga) ?_ (by decide)
       walk_at "r"
       refine t_newTuple (by simp) fun y hy hy3 => ?_
       exact fin ex2 (.cons ⟨_,rfl⟩ (.cons ⟨_,rfl⟩ (.cons ⟨_,rfl⟩ .nil))) (by rw [if_pos c1])
     · rw [decide_eq_false c1]
       walk_at "r"
       exact e01 ex2 (by rw [if_neg c1])
   | other hn o1 o2 o3 o4 o5 =>
     rw [decide_eq_false hn]
     walk_at "r"
     rw [decide_eq_false o1]
     walk_at "r"
     rw [decide_eq_false o2]
     walk_at "r"
     rw [decide_eq_false o3]
     walk_at "r"
     refine t_newTuple (by simp) fun y hy hy3 => ?_
     refine t_inT (ys:=[Str.ofString "zero_extend",Str.ofString "sign_extend"]) (.head _) (.cons ⟨_,rfl⟩ (.cons ⟨_,rfl⟩ .nil)) ?_
     rw [show ([Str.ofString "zero_extend",Str.ofString "sign_extend"].any (· == τ.op)) = false by simp [Ne.symm o4,Ne.symm o5]]
     walk_at "r"
     exact e01 Ext.cons rfl
end
theorem Spec.introC {prog:Program} {w:World} {n:Led} {f:Addr} {args:List Value} {rem:Nat} {Post:Value → Led → Prop} {oc:Value} {od:Option Addr} {osl:Array (Option Value)} {name qual:PySem.Str} {params:Arguments} {body:List Stmt} {scope:Scope} {dV kV doc pm cdv ct:Value} {an:Option Addr} {binds:List (PySem.Str × Value)}
    (ho:(K w.params).lookup f = some ⟨oc,od,.func (fnOf name qual params body scope dV kV doc pm an cdv ct),osl⟩) (hcd:codeIn (K w.params) cdv qual = true)
    (hbind:∀ s,BindsTo s (fnOf name qual params body scope dV kV doc pm an cdv ct) ⟨args,[]⟩ binds) (hkind:(binds.all fun y => scope.names.lookup y.1 == some .local || scope.names.lookup y.1 == some .cell) = true)
    (hnd:((cellsFrom 0 scope.names []).map (·.1)).Nodup)
    (hco:scope.isCoroutine = false) (hgen:scope.isGenerator = false) (hk:scope.kind = .function)
    (h:∀ (Lc:Addr) (Γ:Cx prog w scope (cellsFrom (Lc + 1) scope.names [])) (cells:Led),rem ≤ Γ.rem → CellsAre (bindC (fun x => scope.names.lookup x) binds fun _ => none) (cellsFrom (Lc + 1) scope.names []) cells → (∀ p ∈ n,p.1 < Lc) → 3 < Lc →
      T Γ (execs body Γ.env) (bindL (fun x => scope.names.lookup x) binds fun _ => none) (cells ++ n) (poK Post)) :
    Spec prog w f args n (rem + 1) Post:=by
  intro cs cl Γ m P hr k s Q E F N q
  have hd:=Γ.hd
  have hu:=Γ.hu
  refine wpAny_call (code_defC Γ.B F Γ.X N Γ.Tp Γ.hA rfl Γ.hk ho hcd (by omega) (hbind s) hkind hnd (fun g L' h₁ tk cells FG F' N' Y B' X' T' lt => ?_) hco hgen hk)
  exact h L' { cn:=qual,fa:=f,cd:=cdv,A₀:=Γ.A,A:=Γ.A.deeper (envOfC qual scope L' f cdv),base:=Γ.base,outer:=Γ.env :: Γ.outer,h₀:=g,L:=L',p:=Γ.p,loose:=Γ.loose,mean:=Γ.mean,mg:=Γ.mg,mb:=Γ.mb,
                 rem:=rem,B:=B',X:=X',Tp:=T',hA:=Around.frames_deeper Γ.hA,hh:=Γ.hh,hk:=hk,hd:=by show Γ.A.depth + 1 + 4 * rem + 2 < _; omega,hu:=by show Γ.A.units + 3 + 16 * rem + 8 < _; omega } cells (Nat.le_refl _) Y lt (Nat.lt_of_lt_of_le (Γ.lo FG) F'.above) _ _ _ F' N'
    fun fl m' n' h' tk' F'' N'' p => ⟨L',m',n',F'',N'',fun F3 N3 => q _ m n' h' tk' F3 N3 (k _ _ p)⟩
def Pot (n:Led) (pot ca:Addr) (q:Nat):Prop:=
  ∃ (vs:List Value) (at_:Int) (t:Tok),ListAt n pot [.ref ca,.int at_ t] ∧ 0 ≤ at_ ∧ at_ ≤ q ∧ ListAt n ca vs ∧ (∀ v ∈ vs,∃ k t,v = .int k t) ∧ vs.length < 2 ^ 20 ∧ @Ne Nat ca pot
theorem ListAt.upd {n:Led} {l d:Addr} {vs:List Value} {o:Obj} (h:ListAt n l vs) (hne:l ≠ d):ListAt (upd n d o) l vs:=by refine Xea h ?_; clear h; intro x h1 h2; exact ⟨x,upd_keep h1 hne,h2⟩
theorem ListAt.mono {n n':Led} {l:Addr} {vs:List Value} (h:ListAt n l vs) (s:Ext n n'):ListAt n' l vs:=by refine Xea h ?_; clear h; intro x h1 h2; exact ⟨x,s _ h1,h2⟩
theorem Pot.mono {n n':Led} {pot ca:Addr} {q:Nat} (h:Pot n pot ca q) (s:Ext n n'):Pot n' pot ca q:=by
  refine Xeeeaaaa h ?_; clear h; intro vs a t h1 h2 h3 h4 h5
  exact ⟨vs,a,t,h1.mono s,h2,h3,h4.mono s,h5⟩
theorem Pot.le {n:Led} {pot ca:Addr} {q q':Nat} (h:Pot n pot ca q) (s:q ≤ q'):Pot n pot ca q':=by
  refine Xeeeaaa h ?_; clear h; intro vs a t h1 h2 h3 h4
  exact ⟨vs,a,t,h1,h2,by omega,h4⟩
section
variable {prog:Program} {w:World} {n:Led}
theorem mulOk {a b:Int} (ha:a.natAbs < 2 ^ 64) (hb:b.natAbs < 2 ^ 64):IntMulOk a b:=IntMulOk.of_le (intBits_le ha) (intBits_le hb) (by decide)
theorem ladle_spec {pot ca:Addr} {q:Nat} {many:Int} {tk:Tok} (hp:Pot n pot ca q) (hq:q < 1000) (hm:0 < many) :
    Spec prog w 1062 [.ref pot,.int many tk] n 1 (fun v n' => (∃ r,IsI r v ∧ 0 ≤ r ∧ r < many) ∧ ∃ o,o.cls = .type "list" ∧ n' = upd n pot o ∧ Pot n' pot ca (q + 1)):=by
  refine sp_law_ladle (fun Γ hr => ?_)
  conv in (stBody S_law_ladle) => whnf
  refine Xeeeaaaaaa hp ?_; clear hp; intro vs at_ t h1 h2 h3 h4 h5 h6 h7
  walk_at "s"
  refine t_assignTup ?_ (by rfl) (by with_unfolding_all rfl)
  walk_at "r"
  refine t_unpackL h1 ?_ (by rfl) (by rfl)
  refine t_inOrder (t_toName (t_inOrder (t_toName (t_inOrder0 ?_) (by rfl))) (by rfl))
  walk_at "r"
  refine t_setL h1 (by decide) (by decide) (by simp) fun o ho hcls => ?_
  have h4':ListAt (upd n pot o) ca vs:=h4.upd h7
  have hP:∀ t',(Value.int (at_ + 1) t' = Value.int (at_ + 1) t') → True:=fun _ _ => trivial
  have fin:∀ {r:Int} {v:Value} ,IsI r v → 0 ≤ r → r < many → (∃ r,IsI r v ∧ 0 ≤ r ∧ r < many) ∧ ∃ o',o'.cls = .type "list" ∧ upd n pot o = upd n pot o' ∧ Pot (upd n pot o) pot ca (q + 1):=
    fun h a b => ⟨⟨_,h,a,b⟩,o,hcls,rfl,⟨vs,at_ + 1,_,ho,by omega,by omega,h4',h5,h6,h7⟩⟩
  walk_at "r"
  refine t_lenL h4' (by omega) fun t2 => ?_
  walk_at "r"
  by_cases hc:at_ < vs.length
  · rw [decide_eq_true hc]
    walk_at "r"
    refine Xee (h5 (vs[at_.toNat]'(by omega)) (List.getElem_mem _)) fun k tk' hk => ?_
    refine t_item h4' h2 (List.getElem?_eq_some_iff.mpr ⟨by omega,rfl⟩) ?_ (by omega)
    rw [hk]
    walk_at "r"
    refine t_mod (by omega) fun t3 => ?_
    exact fin ⟨_,rfl⟩ (Int.fmod_nonneg_of_pos _ hm) (Int.fmod_lt_of_pos _ hm)
  · rw [decide_eq_false hc]
    walk_at "r"
    refine t_mul (fun t3 => ?_) (mulOk (by decide) (by omega))
    walk_at "r"
    refine t_mul (fun t3 => ?_) (mulOk (by omega) (by omega))
    walk_at "r"
    refine t_mul (fun t3 => ?_) (mulOk (by decide) (by omega))
    walk_at "r"
    refine t_mod (by decide) fun t3 => ?_
    walk_at "r"
    refine t_mod (by omega) fun t3 => ?_
    exact fin ⟨_,rfl⟩ (Int.fmod_nonneg_of_pos _ hm) (Int.fmod_lt_of_pos _ hm)
end
def Wd (tms:List Tm) (ws:List Int) (t:Nat) (τ:Tm) (wd:Int):Prop:=tms[t]? = some τ ∧ ∃ k:Nat,τ.sort = k ∧ ws[k]? = some wd ∧ 3 ≤ k
inductive Good (tms:List Tm) (ws:List Int):Nat → Int → Prop
  | app {t τ wd}:Wd tms ws t τ wd → τ.op = Str.ofString "app" → τ.args = [] → 1 ≤ wd → wd ≤ 6 → Good tms ws t wd
  | num {t τ wd x}:Wd tms ws t τ wd → τ.op = Str.ofString "bvnum" → τ.args = [] → τ.data = .i x → 0 ≤ x → x < 2 ^ wd.toNat → 1 ≤ wd → wd ≤ 6 → Good tms ws t wd
  | cat {t τ wa wb} {a b:Nat}:Wd tms ws t τ (wa + wb) → τ.op = Str.ofString "concat" → τ.args = [(a:Int),(b:Int)] → Good tms ws a wa → Good tms ws b wb → wa + wb ≤ 6 → Good tms ws t (wa + wb)
  | ext {t τ h l wa} {a:Nat}:Wd tms ws t τ (h - l + 1) → τ.op = Str.ofString "extract" → τ.args = [(a:Int)] → τ.data = .p h l → 0 ≤ l → l ≤ h → h < wa → Good tms ws a wa → Good tms ws t (h - l + 1)
  | zx {t τ m wa} {a:Nat}:Wd tms ws t τ (wa + m) → τ.op = Str.ofString "zero_extend" → τ.args = [(a:Int)] → τ.data = .i m → 1 ≤ m → wa + m ≤ 6 → Good tms ws a wa → Good tms ws t (wa + m)
  | sx {t τ m wa} {a:Nat}:Wd tms ws t τ (wa + m) → τ.op = Str.ofString "sign_extend" → τ.args = [(a:Int)] → τ.data = .i m → 1 ≤ m → wa + m ≤ 6 → Good tms ws a wa → Good tms ws t (wa + m)
  | add {t τ wd} {a b:Nat}:Wd tms ws t τ wd → τ.op = Str.ofString "bvadd" → τ.args = [(a:Int),(b:Int)] → Good tms ws a wd → Good tms ws b wd → Good tms ws t wd
  | not {t τ wd} {a:Nat}:Wd tms ws t τ wd → τ.op = Str.ofString "bvnot" → τ.args = [(a:Int)] → Good tms ws a wd → Good tms ws t wd
theorem Good.wd {tms ws t wd} (h:Good tms ws t wd):∃ τ,Wd tms ws t τ wd:=by cases h <;> exact ⟨_,‹_›⟩
theorem Good.bd {tms ws t wd} (h:Good tms ws t wd):1 ≤ wd ∧ wd ≤ 6:=by
  induction h with
  | app _ _ _ h1 h2 => exact ⟨h1,h2⟩
  | num _ _ _ _ _ _ h1 h2 => exact ⟨h1,h2⟩
  | cat _ _ _ _ _ h i1 i2 => omega
  | ext _ _ _ _ h1 h2 h3 _ i => omega
  | zx _ _ _ _ h1 h2 _ i => omega
  | sx _ _ _ _ h1 h2 _ i => omega
  | add _ _ _ _ _ i _ => exact i
  | not _ _ _ _ i => exact i
theorem pre_get {α:Type} {l l':List α} (h:l <+: l') {i:Nat} {a:α} (e:l[i]? = some a):l'[i]? = some a:=by
  refine Xe h ?_; clear h; intro r z1_; subst z1_
  rw [List.getElem?_append_left (List.getElem?_eq_some_iff.mp e).1]; exact e
theorem Wd.mono {tms tms':List Tm} {ws ws':List Int} (h:tms <+: tms') (k:ws <+: ws') {t τ wd} (x:Wd tms ws t τ wd):Wd tms' ws' t τ wd:=by
  refine Xaeaa x ?_; clear x; intro h1 q h2 h3 h4
  exact ⟨pre_get h h1,q,h2,pre_get k h3,h4⟩
theorem Good.mono {tms tms':List Tm} {ws ws':List Int} (h:tms <+: tms') (k:ws <+: ws') {t wd} (x:Good tms ws t wd):Good tms' ws' t wd:=by
  induction x with
  | app w a b c d => exact .app (w.mono h k) a b c d
  | num w a b c d e f g => exact .num (w.mono h k) a b c d e f g
  | cat w a b _ _ c i j => exact .cat (w.mono h k) a b i j c
  | ext w a b c d e f _ i => exact .ext (w.mono h k) a b c d e f i
  | zx w a b c d e _ i => exact .zx (w.mono h k) a b c d e i
  | sx w a b c d e _ i => exact .sx (w.mono h k) a b c d e i
  | add w a b _ _ i j => exact .add (w.mono h k) a b i j
  | not w a b _ i => exact .not (w.mono h k) a b i
theorem Wd.inj {tms:List Tm} {ws:List Int} {t τ τ' wd wd'} (h:Wd tms ws t τ wd) (k:Wd tms ws t τ' wd'):τ = τ' ∧ wd = wd':=by
  refine Xaeaa h ?_; clear h; intro h1 q h2 h3 _
  refine Xaeaa k ?_; clear k; intro k1 q' k2 k3 _
  rw [h1] at k1; cases k1
  have:q = q':=by omega
  subst this
  rw [h3] at k3; cases k3
  exact ⟨rfl,rfl⟩
def Ord (tms:List Tm):Prop:=∀ (i:Nat) (τ:Tm),tms[i]? = some τ → ∀ a ∈ τ.args,a < (i:Int)
theorem Ord.snoc {tms:List Tm} (h:Ord tms) {τ:Tm} (k:∀ a ∈ τ.args,a < tms.length):Ord (tms ++ [τ]):=fun i τ' e a ha => by
  by_cases hi:i < tms.length
  · rw [List.getElem?_append_left hi] at e; exact h i τ' e a ha
  · rw [List.getElem?_append_right (by omega)] at e
    have:i - tms.length = 0:=by
      have:=(List.getElem?_eq_some_iff.mp e).1
      simp at this; omega
    rw [this] at e
    simp at e
    subst e
    have:=k a ha
    omega
def FrP (B:BA) (pot:Addr) (n n':Led):Prop:=∀ a o,(a,o) ∈ n → a ∉ B.mut → a ≠ pot → (a,o) ∈ n'
theorem Frame.p {B:BA} {pot:Addr} {n n':Led} (h:Frame B n n'):FrP B pot n n':=fun a o ha hm _ => h a o ha hm
theorem FrP.refl {B:BA} {pot:Addr} {n:Led}:FrP B pot n n:=fun _ _ h _ _ => h
theorem FrP.trans {B:BA} {pot:Addr} {n n' n'':Led} (h:FrP B pot n n') (k:FrP B pot n' n''):FrP B pot n n'':=fun a o ha hm hp => k a o (h a o ha hm hp) hm hp
theorem FrP.upd {B:BA} {pot:Addr} {n:Led} {o:Obj}:FrP B pot n (upd n pot o):=fun a b ha _ hp => upd_keep ha hp
theorem BA.mut_has {B:BA} (u:B.Up) {a:Addr} (h:a ∈ B.mut):B.has a:=by
  unfold BA.mut at h
  simp only [List.mem_cons,List.not_mem_nil,or_false] at h
  rcases h with rfl | rfl | rfl | rfl | rfl | rfl | rfl | rfl | rfl | rfl | rfl
  · exact u.has 2 rfl
  · exact u.has 3 rfl
  · exact u.has 4 rfl
  · exact u.has 5 rfl
  · exact u.has 6 rfl
  · exact u.has 7 rfl
  · exact u.has 8 rfl
  · exact u.has 9 rfl
  · exact u.has 10 rfl
  · exact u.has 11 rfl
  · exact u.has 12 rfl
theorem Frame.listAt {B:BA} (u:B.Up) {n n':Led} (f:Frame B n n') {l:Addr} {vs:List Value} (h:ListAt n l vs) (hl:¬ B.has l):ListAt n' l vs:=by
  refine Xea h ?_; clear h; intro o h1 h2
  exact ⟨o,f _ _ h1 (fun e => hl (BA.mut_has u e)),h2⟩
theorem FrP.listAt {B:BA} (u:B.Up) {pot:Addr} {n n':Led} (f:FrP B pot n n') {l:Addr} {vs:List Value} (h:ListAt n l vs) (hl:¬ B.has l) (hp:l ≠ pot):ListAt n' l vs:=by
  refine Xea h ?_; clear h; intro o h1 h2
  exact ⟨o,f _ _ h1 (fun e => hl (BA.mut_has u e)) hp,h2⟩
structure St (prog:Program) (w:World) (n:Led) (B:BA) (F:Nat) (pot:Addr) (q:Nat) (tms:List Tm) (ws:List Int):Prop where
  bank:Bank prog w n B F tms ws
  pt:∃ ca,Pot n pot ca q ∧ ¬ B.has ca
  out:¬ B.has pot
section
variable {prog:Program} {w:World} {n n':Led} {B:BA} {F F':Nat} {pot:Addr} {q q':Nat} {tms tms':List Tm} {ws ws':List Int}
theorem St.frame (h:St prog w n B F pot q tms ws) (f:Frame B n n') (hb:Bank prog w n' B F' tms' ws'):St prog w n' B F' pot q tms' ws':=by
  refine Xea h.pt fun ca z2_ h8 => ?_; refine Xeeeaaaaaa z2_ ?_; clear z2_; intro vs a t h1 h2 h3 h4 h5 h6 h7
  exact ⟨hb,⟨ca,⟨vs,a,t,Frame.listAt h.bank.up f h1 h.out,h2,h3,Frame.listAt h.bank.up f h4 h8,h5,h6,h7⟩,h8⟩,h.out⟩
theorem St.le (h:St prog w n B F pot q tms ws) (hq:q ≤ q'):St prog w n B F pot q' tms ws:=by
  refine Xea h.pt fun ca h1 h8 => ?_
  exact ⟨h.bank,⟨ca,h1.le hq,h8⟩,h.out⟩
theorem St.ext (h:St prog w n B F pot q tms ws) (e:Ext n n'):St prog w n' B F pot q tms ws:=h.frame e.f (h.bank.mono e.b)
theorem St.ladle {many:Int} {tk:Tok} (h:St prog w n B F pot q tms ws) (Fn:Fun n) (hq:q < 1000) (hm:0 < many) :
    Spec prog w 1062 [.ref pot,.int many tk] n 1 (fun v n' => ∃ r,IsI r v ∧ 0 ≤ r ∧ r < many ∧ St prog w n' B F pot (q + 1) tms ws ∧ FrP B pot n n'):=by
  refine Xea h.pt fun ca hp h8 => ?_
  have sp:=ladle_spec (prog:=prog) (w:=w) (tk:=tk) hp hq hm
  intro cs cl Γ m P hr k
  refine sp cs cl Γ m P hr fun v n' hh => k v n' ?_
  refine Xaeaa hh ?_; clear hh; intro z3_ o ho z4_ hp'; refine Xeaa z3_ ?_; clear z3_; intro r h1 h2 h3; subst z4_
  refine Xeeea hp ?_; clear hp; intro vs a t z5_ _; refine Xeaae z5_ ?_; clear z5_; intro o1 m1 c1 e1 d1
  refine ⟨r,h1,h2,h3,⟨h.bank.mono (BSub.upd Fn m1 (fun us e he => ?_) h.out),⟨ca,hp',h8⟩,h.out⟩,FrP.upd⟩
  rw [he] at c1
  exact absurd c1 (by simp)
end
def IsN (t:Nat) (v:Value):Prop:=IsI (t:Int) v
section
variable {prog:Program} {w:World} {n:Led} {B:BA} {F:Nat} {pot sa:Addr} {q:Nat} {tms:List Tm} {ws:List Int} {som:List Nat} {vs:List Value}
theorem t_inTI {cs:Scope} {cl:List (PySem.Str × Addr)} {Γ:Cx prog w cs cl} {m:Loc} {P:Value → Loc → Led → Prop} {x:Int} {t:Tok} {ys:List Int} {vs:List Value} {l:Addr} {e:Nat} (hl:(l,tupO vs e) ∈ n) (hx:All2 IsI ys vs) (h:P (.bool (ys.any (· == x))) m n):T Γ (compareOp .In (.int x t) (.ref l)) m n P:=fun s Q E F N q => by
  refine SeqAt.in_tupleAt (fun v => match v with | .int y _ => y == x | _ => false) (News.tup N hl) (fun y hy => ?_) ?_
  · obtain ⟨i,hi,rfl⟩:=List.getElem_of_mem (List.mem_toArray.mp hy)
    refine Xeae (hx.get' (i:=i) (b:=vs[i]) (by simp)) fun y _ u r => ?_
    rw [r]; exact SeqAt.EqAt.int_int y u x t
  · have:vs.toArray.any (fun v => match v with | .int y _ => y == x | _ => false) = ys.any (· == x):=by
      rw [List.any_toArray]
      clear h q hl
      induction hx with
      | nil => rfl
      | cons r _ ih => refine Xe r ?_; clear r; intro u z2_; subst z2_; simp only [List.any_cons,ih]
    rw [this]
    exact q _ m n _ _ F N h
def TermMade (prog:Program) (w:World) (n:Led) (B:BA) (F:Nat) (pot:Addr) (q:Nat) (tms:List Tm) (ws:List Int) (som:List Nat) (v:Value) (n':Led):Prop:=
  ∃ (t:Nat) (tms':List Tm) (ws':List Int),IsN t v ∧ St prog w n' B F pot (q + 5) tms' ws' ∧ FrP B pot n n' ∧ tms <+: tms' ∧ ws <+: ws' ∧ tms'.length ≤ tms.length + 1 ∧ ws'.length ≤ ws.length + 1 ∧ (∃ wd,Good tms' ws' t wd) ∧ Ord tms' ∧
    (∀ τ,tms'[t]? = some τ → ∀ a ∈ τ.args,∃ j ∈ som,a = (j:Int))
theorem TermMade.of {n1 n':Led} {v:Value} {τ:Tm} {ws0 ws':List Int} (hS:St prog w n1 B F pot (q + 5) tms ws0) (f:FrP B pot n n1) (hM:Made prog w n1 B F tms ws' τ v n') (hw:ws <+: ws') (hwl:ws'.length ≤ ws.length + 1) (hO:Ord tms)
    (ha:∀ a ∈ τ.args,∃ j ∈ som,a = (j:Int)) (hlt:∀ j ∈ som,j < tms.length) (hG:∀ t tms',tms <+: tms' → tms'[t]? = some τ → ∃ wd,Good tms' ws' t wd):TermMade prog w n B F pot q tms ws som v n':=by
  refine Xeeaaaaa hM ?_; clear hM; intro i tms' h1 h2 h3 h4 h5 h6
  have hp:tms <+: tms':=by rcases h4 with rfl | rfl <;> simp
  have hO':Ord tms':=by
    rcases h4 with rfl | rfl
    · exact hO
    · refine hO.snoc fun a h => ?_
      refine Xea (ha a h) fun j hj z3_ => ?_; subst z3_
      have:=hlt j hj
      omega
  have hl:tms'.length ≤ tms.length + 1:=by rcases h4 with rfl | rfl <;> simp
  exact ⟨i,tms',ws',h1,hS.frame h6 h5,f.trans h6.p,hp,hw,hl,hwl,hG i tms' hp h3,hO',fun τ' e => by rw [h3] at e; cases e; exact ha⟩
theorem pre_or {ws ws':List Int} {wd:Int} (h:ws' = ws ∨ ws' = ws ++ [wd]):ws <+: ws' ∧ ws'.length ≤ ws.length + 1:=by rcases h with rfl | rfl <;> simp
theorem T.test' {cs:Scope} {cl:List (PySem.Str × Addr)} {Γ:Cx prog w cs cl} {m:Loc} {α:Type} {t:Sem α} {P:α → Loc → Led → Prop} (v:α) (h1:T Γ t m n (fun a m' n' => a = v ∧ m' = m ∧ Ext n n')) (h2:∀ n',Ext n n' → P v m n'):T Γ t m n P:=h1.mono fun a m' n' h => by refine Xaa h ?_; clear h; intro z4_ z5_ e; subst z4_; subst z5_; exact h2 _ e
theorem term_spec (hS:St prog w n B F pot q tms ws) (hl:ListAt n sa vs) (hv:All2 IsN som vs) (hg:∀ t ∈ som,∃ wd,Good tms ws t wd) (h0:0 < som.length) (h1:som.length < 100) (hq:q + 10 < 1000) (hsa:¬ B.has sa) (hsp:sa ≠ pot)
    (hO:Ord tms) (hz:tms.length + 1 < 1000) (hz2:ws.length + 1 < 1000) :
    Spec prog w 1069 [.ref pot,.ref B.self,.ref sa] n 5 (TermMade prog w n B F pot q tms ws som):=by
  refine sp_law_term (fun Γ hr => ?_)
  conv in (stBody S_law_term) => whnf
  have hlv:=hv.length
  have up:=hS.bank.up
  have pick:∀ {r:Int},0 ≤ r → r < vs.length → ∃ t ∈ som,∃ tk,vs[r.toNat]? = some (.int (t:Nat) tk):=by
    intro r a b
    refine Xeae (hv.get' (i:=r.toNat) (b:=vs[r.toNat]'(by omega)) (by simp)) fun t e tk h => ?_
    exact ⟨t,List.mem_of_getElem? e,tk,by rw [List.getElem?_eq_getElem (by omega),h]⟩
  walk_at "s"
  refine t_assignSwap [Str.ofString "way",Str.ofString "one",Str.ofString "other"] ?_ (by rfl) (by with_unfolding_all rfl)
  walk_at "r"
  refine T.fn fun Fn => ?_
  refine t_spec (hS.ladle Fn (by omega) (by decide)) (Nat.le_trans (by decide) hr) fun v n1 h => ?_
  refine Xeaaaa h ?_; clear h; intro way z6_ w0 w6 hS1 f1; refine Xe z6_ ?_; clear z6_; intro t1 z1_; subst z1_
  have hl1:=f1.listAt up hl hsa hsp
  walk_at "r"
  refine t_lenL hl1 (by omega) fun tk => ?_
  walk_at "r"
  refine T.fn fun Fn1 => ?_
  refine t_spec (hS1.ladle Fn1 (by omega) (by omega)) (Nat.le_trans (by decide) hr) fun v n2 h => ?_
  refine Xeaaaa h ?_; clear h; intro r1 z7_ a0 a1 hS2 f2; refine Xe z7_ ?_; clear z7_; intro t2 z2_; subst z2_
  have hl2:=f2.listAt up hl1 hsa hsp
  refine Xeae (pick a0 a1) fun one m1 tk1 e1 => ?_
  refine t_item hl2 a0 e1 ?_ (by omega)
  walk_at "r"
  refine t_lenL hl2 (by omega) fun tk => ?_
  walk_at "r"
  refine T.fn fun Fn2 => ?_
  refine t_spec (hS2.ladle Fn2 (by omega) (by omega)) (Nat.le_trans (by decide) hr) fun v n3 h => ?_
  refine Xeaaaa h ?_; clear h; intro r2 z8_ b0 b1 hS3 f3; refine Xe z8_ ?_; clear z8_; intro t3 z3_; subst z3_
  have hl3:=f3.listAt up hl2 hsa hsp
  refine Xeae (pick b0 b1) fun other m2 tk2 e2 => ?_
  refine t_item hl3 b0 e2 ?_ (by omega)
  walk_at "r"
  refine t_newTuple (by simp) fun x hx hx3 => ?_
  refine t_unpackT (.head _) rfl ?_
  refine t_inOrder (t_storeI (t_inOrder (t_storeI (t_inOrder (t_storeI (t_inOrder0 ?_) (by rfl))) (by rfl))) (by rfl))
  have hS4:=hS3.ext (Ext.cons (p:=(x,tupO [.int way t1,.int one tk1,.int other tk2] 0)))
  have f4:FrP B pot n _:=f1.trans (f2.trans (f3.trans (Frame.p (Ext.f (Ext.cons (p:=(x,tupO [.int way t1,.int one tk1,.int other tk2] 0)))))))
  generalize hn4:(x,tupO [.int way t1,.int one tk1,.int other tk2] 0) :: n3 = n4 at *
  have hs4:=hS4.bank.base.sf
  refine Xe (hg one m1) fun wo G1 => ?_
  refine Xe (hg other m2) fun wt G2 => ?_
  refine Xeaeaa (id G1.wd) fun τ1 W1 k1 hk1 hw1 h31 => ?_
  refine Xeaeaa (id G2.wd) fun τ2 W2 k2 hk2 hw2 h32 => ?_
  have B1:=G1.bd
  have B2:=G2.bd
  have hlt:∀ j ∈ som,j < tms.length:=fun j hj => by refine Xe (hg j hj) fun _ G => ?_; refine Xea G.wd fun _ W _ => ?_; exact (List.getElem?_eq_some_iff.mp W).1
  walk_at "r"
  refine t_spec (width_spec hS4.bank.base W1 hk1 hw1) (Nat.le_trans (by decide) hr) fun v n' h => ?_
  refine Xae h ?_; clear h; intro z9_ t5 z10_; subst z9_; subst z10_
  iterate 2 walk_at "s"
  refine T.test (decide (way = 0 ∧ wo + wt < 7)) ?tA ?cA
  case tA =>
    walk_at "r"
    by_cases c:way = 0
    · rw [show (way == 0) = true by simpa using c]
      walk_at "r"
      refine t_spec (width_spec hS4.bank.base W2 hk2 hw2) (Nat.le_trans (by decide) hr) fun v n' h => ?_
      refine Xae h ?_; clear h; intro z11_ t6 z12_; subst z11_; subst z12_
      walk_at "r"
      by_cases c':wo + wt < 7
      · rw [decide_eq_true c']
        walk_at "r"
        exact ⟨by simp [c,c'],rfl,rfl⟩
      · rw [decide_eq_false c']
        walk_at "r"
        exact ⟨by simp [c,c'],rfl,rfl⟩
    · rw [show (way == 0) = false by simpa using c]
      walk_at "r"
      exact ⟨by simp [c],rfl,rfl⟩
  by_cases cA:way = 0 ∧ wo + wt < 7
  · rw [decide_eq_true cA]
    walk_at "r"
    refine t_spec (concat_spec hS4.bank W1 hk1 hw1 B1.1 W2 hk2 hw2 B2.1 (by omega) hz hz2) (Nat.le_trans (by decide) hr) fun v n' h => ?_
    refine Xeeaaa h ?_; clear h; intro k ws' h3 hkw hws M
    refine Xa (pre_or hws) fun p1 p2 => ?_
    refine TermMade.of (hS4.le (Nat.add_le_add_left (by decide:3 ≤ 5) q)) f4 M p1 p2 hO (by simp; exact ⟨⟨one,m1,rfl⟩,other,m2,rfl⟩) hlt fun t tms' hp e => ?_
    exact ⟨_,.cat ⟨e,k,rfl,hkw,h3⟩ rfl rfl (G1.mono hp p1) (G2.mono hp p1) (by omega)⟩
  rw [decide_eq_false cA]
  walk_at "r"
  by_cases cB:way = 1
  · rw [show (way == 1) = true by simpa using cB]
    walk_at "r"
    refine T.fn fun Fn4 => ?_
    refine t_spec (hS4.ladle Fn4 (by omega) (by omega)) (Nat.le_trans (by decide) hr) fun v n5 h => ?_
    refine Xeaaaa h ?_; clear h; intro lo z13_ l0 l1 hS5 f5; refine Xe z13_ ?_; clear z13_; intro t6 z4_; subst z4_
    have hs5:=hS5.bank.base.sf
    walk_at "r"
    refine T.fn fun Fn5 => ?_
    refine t_spec (hS5.ladle Fn5 (by omega) (by omega)) (Nat.le_trans (by decide) hr) fun v n6 h => ?_
    refine Xeaaaa h ?_; clear h; intro r z14_ r0 r1 hS6 f6; refine Xe z14_ ?_; clear z14_; intro t7 z5_; subst z5_
    have hs6:=hS6.bank.base.sf
    walk_at "r"
    refine t_spec (extract_spec hS6.bank W1 hk1 hw1 (by omega) l0 (by omega) (by omega) hz hz2) (Nat.le_trans (by decide) hr) fun v n' h => ?_
    refine Xeeaaa h ?_; clear h; intro k ws' h3 hkw hws M
    refine Xa (pre_or hws) fun p1 p2 => ?_
    refine TermMade.of (hS6.le (Nat.add_le_add_left (by decide:5 ≤ 5) q)) (f4.trans (f5.trans f6)) M p1 p2 hO (by simp; exact ⟨one,m1,rfl⟩) hlt fun t tms' hp e => ?_
    exact ⟨_,.ext ⟨e,k,rfl,hkw,h3⟩ rfl rfl rfl l0 (by omega) (by omega) (G1.mono hp p1)⟩
  rw [show (way == 1) = false by simpa using cB]
  iterate 4 walk_at "s"
  refine T.test' (decide ((way = 2 ∨ way = 3) ∧ wo < 5)) ?tC (fun n5 ex5 => ?cC)
  case tC =>
    walk_at "r"
    refine t_newTuple (by simp) fun y hy hy3 => ?_
    refine t_inTI (ys:=[2,3]) (.head _) (.cons ⟨_,rfl⟩ (.cons ⟨_,rfl⟩ .nil)) ?_
    by_cases c:way = 2 ∨ way = 3
    · rw [show ([2,3].any (· == way)) = true by rcases c with c | c <;> subst c <;> decide]
      walk_at "r"
      by_cases c':wo < 5
      · rw [decide_eq_true c']
        walk_at "r"
        exact ⟨by simp [c,c'],rfl,Ext.cons⟩
      · rw [decide_eq_false c']
        walk_at "r"
        exact ⟨by simp [c,c'],rfl,Ext.cons⟩
    · rw [show ([2,3].any (· == way)) = false by simp; omega]
      walk_at "r"
      exact ⟨by simp [c],rfl,Ext.cons⟩
  have hS5:=hS4.ext ex5
  have f5:=f4.trans (Frame.p (Ext.f ex5))
  have hs5:=hS5.bank.base.sf
  by_cases cC:(way = 2 ∨ way = 3) ∧ wo < 5
  · rw [decide_eq_true cC]
    walk_at "r"
    refine T.fn fun Fn5 => ?_
    refine t_spec (hS5.ladle Fn5 (by omega) (by decide)) (Nat.le_trans (by decide) hr) fun v n6 h => ?_
    refine Xeaaaa h ?_; clear h; intro r z15_ r0 r1 hS6 f6; refine Xe z15_ ?_; clear z15_; intro t7 z6_; subst z6_
    have hs6:=hS6.bank.base.sf
    walk_at "r"
    by_cases c2:way = 2
    · rw [show (way == 2) = true by simpa using c2]
      walk_at "r"
      refine t_spec (zero_spec hS6.bank W1 hk1 hw1 B1.1 (by omega) (by omega) hz hz2) (Nat.le_trans (by decide) hr) fun v n' h => ?_
      refine Xeeaaa h ?_; clear h; intro k ws' h3 hkw hws M
      refine Xa (pre_or hws) fun p1 p2 => ?_
      refine TermMade.of (hS6.le (Nat.add_le_add_left (by decide:4 ≤ 5) q)) (f5.trans f6) M p1 p2 hO (by simp; exact ⟨one,m1,rfl⟩) hlt fun t tms' hp e => ?_
      exact ⟨_,.zx ⟨e,k,rfl,hkw,h3⟩ rfl rfl rfl (by omega) (by omega) (G1.mono hp p1)⟩
    · rw [show (way == 2) = false by simpa using c2]
      walk_at "r"
      refine t_spec (sign_spec hS6.bank W1 hk1 hw1 B1.1 (by omega) (by omega) hz hz2) (Nat.le_trans (by decide) hr) fun v n' h => ?_
      refine Xeeaaa h ?_; clear h; intro k ws' h3 hkw hws M
      refine Xa (pre_or hws) fun p1 p2 => ?_
      refine TermMade.of (hS6.le (Nat.add_le_add_left (by decide:4 ≤ 5) q)) (f5.trans f6) M p1 p2 hO (by simp; exact ⟨one,m1,rfl⟩) hlt fun t tms' hp e => ?_
      exact ⟨_,.sx ⟨e,k,rfl,hkw,h3⟩ rfl rfl rfl (by omega) (by omega) (G1.mono hp p1)⟩
  rw [decide_eq_false cC]
  walk_at "r"
  by_cases c4:way = 4
  · rw [show (way == 4) = true by simpa using c4]
    walk_at "r"
    refine t_spec (width_spec hS5.bank.base W2 hk2 hw2) (Nat.le_trans (by decide) hr) fun v n' h => ?_
    refine Xae h ?_; clear h; intro z16_ t6 z17_; subst z16_; subst z17_
    walk_at "r"
    by_cases c5:wt = wo
    · rw [show (wt == wo) = true by simpa using c5]
      walk_at "r"
      refine Xeaaaa hS5.bank.bvd fun _ _ _ _ _ hwo => ?_
      have ek:=hwo k2 k1 wo h32 h31 (c5 ▸ hw2) hw1
      refine t_spec (two_spec hS5.bank W1 hk1 hw1 (by omega) W2 (ek ▸ hk2) (by decide) (by decide) hz) (Nat.le_trans (by decide) hr) fun v n' M => ?_
      refine TermMade.of (hS5.le (Nat.add_le_add_left (by decide:3 ≤ 5) q)) f5 M (by simp) (by omega) hO (by simp; exact ⟨⟨one,m1,rfl⟩,other,m2,rfl⟩) hlt fun t tms' hp e => ?_
      exact ⟨_,.add ⟨e,k1,rfl,hw1,h31⟩ rfl rfl (G1.mono hp (by simp)) (c5 ▸ G2.mono hp (by simp))⟩
    · rw [show (wt == wo) = false by simpa using c5]
      walk_at "r"
      refine t_spec (two_spec hS5.bank W1 hk1 hw1 (by omega) W1 hk1 (by decide) (by decide) hz) (Nat.le_trans (by decide) hr) fun v n' M => ?_
      refine TermMade.of (hS5.le (Nat.add_le_add_left (by decide:3 ≤ 5) q)) f5 M (by simp) (by omega) hO (by simp; exact ⟨one,m1,rfl⟩) hlt fun t tms' hp e => ?_
      exact ⟨_,.add ⟨e,k1,rfl,hw1,h31⟩ rfl rfl (G1.mono hp (by simp)) (G1.mono hp (by simp))⟩
  · rw [show (way == 4) = false by simpa using c4]
    walk_at "r"
    refine t_spec (one_spec hS5.bank W1 hk1 hw1 (by omega) (.inl rfl) hz) (Nat.le_trans (by decide) hr) fun v n' M => ?_
    refine TermMade.of (hS5.le (Nat.add_le_add_left (by decide:3 ≤ 5) q)) f5 M (by simp) (by omega) hO (by simp; exact ⟨one,m1,rfl⟩) hlt fun t tms' hp e => ?_
    exact ⟨_,.not ⟨e,k1,rfl,hw1,h31⟩ rfl rfl (G1.mono hp (by simp))⟩
end
inductive NumIs (tms:List Tm) (ws:List Int) (τ:Tm) (wd:Int) (xs:List Int):Int → Prop
  | num {x}:τ.op = Str.ofString "bvnum" → τ.data = .i x → NumIs tms ws τ wd xs x
  | cat {a b:Nat} {τ' wb x y}:τ.op = Str.ofString "concat" → τ.args = [(a:Int),(b:Int)] → Wd tms ws b τ' wb → 1 ≤ wb → wb ≤ 6 → xs = [x,y] → NumIs tms ws τ wd xs (x * 2 ^ wb.toNat + y)
  | ext {h l x}:τ.op = Str.ofString "extract" → τ.data = .p h l → 0 ≤ l → l ≤ 6 → xs = [x] → NumIs tms ws τ wd xs ((x.fdiv (2 ^ l.toNat)).fmod (2 ^ wd.toNat))
  | sx {a:Nat} {τ' wa x}:τ.op = Str.ofString "sign_extend" → τ.args = [(a:Int)] → Wd tms ws a τ' wa → 1 ≤ wa → wa ≤ 6 → xs = [x] → NumIs tms ws τ wd xs (x + (if x * 2 ≥ 2 ^ wa.toNat then 2 ^ wd.toNat - 2 ^ wa.toNat else 0))
  | not {x}:τ.op = Str.ofString "bvnot" → xs = [x] → NumIs tms ws τ wd xs (2 ^ wd.toNat - 1 - x)
  | sum:τ.op ≠ Str.ofString "bvnum" → τ.op ≠ Str.ofString "concat" → τ.op ≠ Str.ofString "extract" → τ.op ≠ Str.ofString "sign_extend" → τ.op ≠ Str.ofString "bvnot" → NumIs tms ws τ wd xs (xs.sum.fmod (2 ^ wd.toNat))
theorem pow_bd {k:Int} (h0:0 ≤ k) (h:k ≤ 6):(1:Int) ≤ 2 ^ k.toNat ∧ (2:Int) ^ k.toNat ≤ 64:=by
  refine Xe (Int.eq_ofNat_of_zero_le h0) fun j z1_ => ?_; subst z1_
  have:j ≤ 6:=by omega
  have:j = 0 ∨ j = 1 ∨ j = 2 ∨ j = 3 ∨ j = 4 ∨ j = 5 ∨ j = 6:=by omega
  rcases this with rfl | rfl | rfl | rfl | rfl | rfl | rfl <;> decide
theorem noPy {a b:Int} (hb:b.natAbs < 1073741824):Builtin.divisionGoesByPylong a b = false:=PyProof.noPylong_small hb
section
variable {prog:Program} {w:World} {n:Led} {B:BA} {F:Nat} {tms:List Tm} {ws:List Int}
theorem number_spec (hb:BankIn w.params n B tms ws) (up:B.Up) {t:Nat} {τ:Tm} {wd r:Int} {tk:Tok} {la:Addr} {vs:List Value} {xs:List Int} (hw:Wd tms ws t τ wd) (h1:1 ≤ wd) (h6:wd ≤ 6) (hl:ListAt n la vs) (hx:All2 IsI xs vs) (hsm:∀ x ∈ xs,0 ≤ x ∧ x < 64)
    (hn:NumIs tms ws τ wd xs r):Spec prog w 1076 [.ref B.self,.int t tk,.ref la] n 2 (fun v n' => IsI r v ∧ Ext n n'):=by
  refine sp_law_number (fun Γ hr => ?_)
  conv in (stBody S_law_number) => whnf
  have hs:=hb.sf
  refine Xaeaa (id hw) fun ht k hk hkw _ => ?_
  have hp:=pow_bd (k:=wd) (by omega) h6
  walk_at "s"
  refine t_assignSwap [Str.ofString "op",Str.ofString "wide"] ?_ (by rfl) (by with_unfolding_all rfl)
  walk_at "r"
  refine t_spec (op_spec hb ht) (Nat.le_trans (by decide) hr) fun v n' h => ?_
  refine Xae h ?_; clear h; intro z2_ t1 z3_; subst z2_; subst z3_
  walk_at "r"
  refine t_spec (width_spec hb ht hk hkw) (Nat.le_trans (by decide) hr) fun v n' h => ?_
  refine Xae h ?_; clear h; intro z4_ t2 z5_; subst z4_; subst z5_
  refine t_pow (by omega) (by omega) (by decide) fun t3 => ?_
  walk_at "r"
  refine t_newTuple (by simp) fun x hx' hx3 => ?_
  refine t_unpackT (.head _) rfl ?_
  refine t_inOrder (t_storeI (t_inOrder (t_storeI (t_inOrder0 ?_) (by rfl))) (by rfl))
  have ex:Ext n' ((x,tupO [.str τ.op t1,.int (2 ^ wd.toNat) t3] 0) :: n'):=Ext.cons
  have hb1:=hb.mono ex.b up
  have hl1:=hl.mono ex
  have hs1:=hb1.sf
  generalize hn1:(x,tupO [.str τ.op t1,.int (2 ^ wd.toNat) t3] 0) :: n' = n1 at *
  walk_at "r"
  cases hn with
  | num ho hd =>
    rw [decide_eq_true ho]
    walk_at "r"
    refine t_spec (data_spec hb1 ht) (Nat.le_trans (by decide) hr) fun v n' h => ?_
    refine Xa h ?_; clear h; intro z6_ h; subst z6_
    rw [hd] at h
    exact ⟨h,ex⟩
  | @cat a b τ' wb x y ho ha hwb b1 b6 hxs =>
    subst hxs
    refine Xeae (hx.get (i:=0) (by rfl)) fun vx g0 ux z7_ => ?_; subst z7_
    refine Xeae (hx.get (i:=1) (by rfl)) fun vy g1 uy z8_ => ?_; subst z8_
    refine Xaeaa hwb ?_; clear hwb; intro htb kb hkb hkwb _
    have hpb:=pow_bd (k:=wb) (by omega) b6
    have sx:=hsm x (by simp)
    have sy:=hsm y (by simp)
    rw [decide_eq_false (show ¬ τ.op = Str.ofString "bvnum" by rw [ho]; decide)]
    walk_at "r"
    rw [decide_eq_true ho]
    walk_at "r"
    refine t_item hl1 (by decide) (by simpa using g0) ?_ (by decide)
    walk_at "r"
    refine t_spec (args_spec hb1 ht) (Nat.le_trans (by decide) hr) fun v n' h => ?_
    refine Xaeeeaa h ?_; clear h; intro z9_ ax us e z10_ hax hus; subst z9_; subst z10_
    rw [ha] at hus
    refine Xeae (hus.get (i:=1) (by rfl)) fun va ga ua z11_ => ?_; subst z11_
    walk_at "r"
    refine t_itemT hax (by decide) (by simpa using ga) ?_ (by decide)
    walk_at "r"
    refine t_spec (width_spec hb1 htb hkb hkwb) (Nat.le_trans (by decide) hr) fun v n' h => ?_
    refine Xae h ?_; clear h; intro z12_ t4 z13_; subst z12_; subst z13_
    refine t_pow (by omega) (by omega) (by decide) fun t5 => ?_
    refine t_mul (fun t6 => ?_) (mulOk (by omega) (by omega))
    walk_at "r"
    refine t_item hl1 (by decide) (by simpa using g1) ?_ (by decide)
    walk_at "r"
    exact ⟨⟨_,rfl⟩,ex⟩
  | @ext h l x ho hd l0 l6 hxs =>
    subst hxs
    refine Xeae (hx.get (i:=0) (by rfl)) fun vx g0 ux z14_ => ?_; subst z14_
    have hpl:=pow_bd (k:=l) (by omega) l6
    have sx:=hsm x (by simp)
    rw [decide_eq_false (show ¬ τ.op = Str.ofString "bvnum" by rw [ho]; decide)]
    walk_at "r"
    rw [decide_eq_false (show ¬ τ.op = Str.ofString "concat" by rw [ho]; decide)]
    walk_at "r"
    rw [decide_eq_true ho]
    walk_at "r"
    refine t_item hl1 (by decide) (by simpa using g0) ?_ (by decide)
    walk_at "r"
    refine t_spec (data_spec hb1 ht) (Nat.le_trans (by decide) hr) fun v n' h => ?_
    refine Xa h ?_; clear h; intro z15_ h; subst z15_
    rw [hd] at h
    refine Xeeeaa h ?_; clear h; intro c us2 e2 z16_ hm2 hv2; subst z16_
    refine Xeae (hv2.get (i:=1) (by rfl)) fun v0 g0' u0 z17_ => ?_; subst z17_
    walk_at "r"
    refine t_itemT hm2 (by decide) (by simpa using g0') ?_ (by decide)
    refine t_pow (by omega) (by omega) (by decide) fun t5 => ?_
    refine t_div (by omega) (by omega) (fun t6 => ?_) (noPy (by omega))
    walk_at "r"
    refine t_mod (by omega) fun t7 => ?_
    exact ⟨⟨_,rfl⟩,ex⟩
  | @sx a τ' wa x ho ha hwa a1 a6 hxs =>
    subst hxs
    refine Xeae (hx.get (i:=0) (by rfl)) fun vx g0 ux z18_ => ?_; subst z18_
    have hpa:=pow_bd (k:=wa) (by omega) a6
    have sx:=hsm x (by simp)
    refine Xaeaa hwa ?_; clear hwa; intro hta ka hka hkwa _
    rw [decide_eq_false (show ¬ τ.op = Str.ofString "bvnum" by rw [ho]; decide)]
    walk_at "r"
    rw [decide_eq_false (show ¬ τ.op = Str.ofString "concat" by rw [ho]; decide)]
    walk_at "r"
    rw [decide_eq_false (show ¬ τ.op = Str.ofString "extract" by rw [ho]; decide)]
    walk_at "r"
    rw [decide_eq_true ho]
    walk_at "r"
    refine t_spec (args_spec hb1 ht) (Nat.le_trans (by decide) hr) fun v n' h => ?_
    refine Xaeeeaa h ?_; clear h; intro z19_ ax us e z20_ hax hus; subst z19_; subst z20_
    rw [ha] at hus
    refine Xeae (hus.get (i:=0) (by rfl)) fun va ga ua z21_ => ?_; subst z21_
    walk_at "r"
    refine t_itemT hax (by decide) (by simpa using ga) ?_ (by decide)
    walk_at "r"
    refine t_spec (width_spec hb1 hta hka hkwa) (Nat.le_trans (by decide) hr) fun v n' h => ?_
    refine Xae h ?_; clear h; intro z22_ t4 z23_; subst z22_; subst z23_
    refine t_pow (by omega) (by omega) (by decide) fun t5 => ?_
    walk_at "r"
    refine t_item hl1 (by decide) (by simpa using g0) ?_ (by decide)
    walk_at "r"
    refine t_item hl1 (by decide) (by simpa using g0) ?_ (by decide)
    walk_at "r"
    refine t_mul (fun t6 => ?_) (mulOk (by omega) (by omega))
    walk_at "r"
    by_cases c:x * 2 ≥ 2 ^ wa.toNat
    · rw [decide_eq_true c]
      walk_at "r"
      refine ⟨?_,ex⟩
      rw [if_pos c]
      exact ⟨_,rfl⟩
    · rw [decide_eq_false c]
      walk_at "r"
      refine ⟨?_,ex⟩
      rw [if_neg c]
      exact ⟨_,rfl⟩
  | @not x ho hxs =>
    subst hxs
    refine Xeae (hx.get (i:=0) (by rfl)) fun vx g0 ux z24_ => ?_; subst z24_
    rw [decide_eq_false (show ¬ τ.op = Str.ofString "bvnum" by rw [ho]; decide)]
    walk_at "r"
    rw [decide_eq_false (show ¬ τ.op = Str.ofString "concat" by rw [ho]; decide)]
    walk_at "r"
    rw [decide_eq_false (show ¬ τ.op = Str.ofString "extract" by rw [ho]; decide)]
    walk_at "r"
    rw [decide_eq_false (show ¬ τ.op = Str.ofString "sign_extend" by rw [ho]; decide)]
    walk_at "r"
    rw [decide_eq_true ho]
    walk_at "r"
    refine t_item hl1 (by decide) (by simpa using g0) ?_ (by decide)
    walk_at "r"
    exact ⟨⟨_,rfl⟩,ex⟩
  | sum o1 o2 o3 o4 o5 =>
    rw [decide_eq_false o1]
    walk_at "r"
    rw [decide_eq_false o2]
    walk_at "r"
    rw [decide_eq_false o3]
    walk_at "r"
    rw [decide_eq_false o4]
    walk_at "r"
    rw [decide_eq_false o5]
    walk_at "r"
    refine t_sum hl1 hx fun t6 => ?_
    walk_at "r"
    refine t_mod (by omega) fun t7 => ?_
    exact ⟨⟨_,rfl⟩,ex⟩
end
abbrev p2 (k:Int):Int:=2 ^ k.toNat
theorem p2_pos {k:Int}:1 ≤ p2 k:=by
  have:(0:Int) < 2 ^ k.toNat:=Int.pow_pos (by decide)
  show (1:Int) ≤ 2 ^ k.toNat
  omega
theorem p2_add {a b:Int} (ha:0 ≤ a) (hb:0 ≤ b):p2 (a + b) = p2 a * p2 b:=by
  show (2:Int) ^ (a + b).toNat = 2 ^ a.toNat * 2 ^ b.toNat
  rw [Int.toNat_add ha hb,Int.pow_add]
theorem cat_bd {x y A B:Int} (hx:0 ≤ x) (hA:x < A) (hy:0 ≤ y) (hB:y < B):0 ≤ x * B + y ∧ x * B + y < A * B:=by
  have h1:0 ≤ x * B:=Int.mul_nonneg hx (by omega)
  have h2:(x + 1) * B ≤ A * B:=Int.mul_le_mul_of_nonneg_right (by omega) (by omega)
  have h3:(x + 1) * B = x * B + B:=by rw [Int.add_mul,Int.one_mul]
  omega
inductive VRel (tms:List Tm) (ws:List Int) (tb:List (Int × Int)):Nat → Int → Int → Prop
  | app {t τ wd r}:Wd tms ws t τ wd → τ.op = Str.ofString "app" → VRel tms ws tb t wd r
  | num {t τ wd r}:Wd tms ws t τ wd → τ.op = Str.ofString "bvnum" → VRel tms ws tb t wd r
  | cat {t τ wa wb x y} {a b:Nat}:Wd tms ws t τ (wa + wb) → τ.op = Str.ofString "concat" → τ.args = [(a:Int),(b:Int)] → Good tms ws a wa → Good tms ws b wb → ((a:Int),x) ∈ tb → ((b:Int),y) ∈ tb → VRel tms ws tb t (wa + wb) (x * p2 wb + y)
  | ext {t τ h l wa x} {a:Nat}:Wd tms ws t τ (h - l + 1) → τ.op = Str.ofString "extract" → τ.args = [(a:Int)] → τ.data = .p h l → 0 ≤ l → l ≤ h → h < wa → Good tms ws a wa → ((a:Int),x) ∈ tb → VRel tms ws tb t (h - l + 1) ((x.fdiv (p2 l)).fmod (p2 (h - l + 1)))
  | zx {t τ m wa x} {a:Nat}:Wd tms ws t τ (wa + m) → τ.op = Str.ofString "zero_extend" → τ.args = [(a:Int)] → 1 ≤ m → Good tms ws a wa → ((a:Int),x) ∈ tb → VRel tms ws tb t (wa + m) x
  | sx {t τ m wa x} {a:Nat}:Wd tms ws t τ (wa + m) → τ.op = Str.ofString "sign_extend" → τ.args = [(a:Int)] → 1 ≤ m → Good tms ws a wa → ((a:Int),x) ∈ tb → VRel tms ws tb t (wa + m) (x + (if x * 2 ≥ p2 wa then p2 (wa + m) - p2 wa else 0))
  | add {t τ wd r}:Wd tms ws t τ wd → τ.op = Str.ofString "bvadd" → VRel tms ws tb t wd r
  | not {t τ wd x} {a:Nat}:Wd tms ws t τ wd → τ.op = Str.ofString "bvnot" → τ.args = [(a:Int)] → Good tms ws a wd → ((a:Int),x) ∈ tb → VRel tms ws tb t wd (p2 wd - 1 - x)
theorem VRel.mono {tms ws tb tb' t wd r} (h:∀ p ∈ tb,p ∈ tb') (x:VRel tms ws tb t wd r):VRel tms ws tb' t wd r:=by
  cases x with
  | app a b => exact .app a b
  | num a b => exact .num a b
  | cat a b c d e f g => exact .cat a b c d e (h _ f) (h _ g)
  | ext a b c d e f g i j => exact .ext a b c d e f g i (h _ j)
  | zx a b c d e f => exact .zx a b c d e (h _ f)
  | sx a b c d e f => exact .sx a b c d e (h _ f)
  | add a b => exact .add a b
  | not a b c d e => exact .not a b c d (h _ e)
def TabOk (tms:List Tm) (ws:List Int) (tb:List (Int × Int)):Prop:=∀ p ∈ tb,∃ (t:Nat) (wd:Int),p.1 = (t:Int) ∧ Good tms ws t wd ∧ 0 ≤ p.2 ∧ p.2 < p2 wd ∧ VRel tms ws tb t wd p.2
theorem TabOk.at {tms ws tb} (h:TabOk tms ws tb) {a:Nat} {x wd:Int} (hm:((a:Int),x) ∈ tb) (hg:Good tms ws a wd):0 ≤ x ∧ x < p2 wd ∧ VRel tms ws tb a wd x:=by
  refine Xeeaaaa (h _ hm) fun t wd' e hG h0 h1 hv => ?_
  have:a = t:=by have e':(a:Int) = (t:Int):=e; omega
  subst this
  refine Xe hg.wd fun _ W => ?_
  refine Xe hG.wd fun _ W' => ?_
  refine Xa (W.inj W') fun _ z1_ => ?_; subst z1_
  exact ⟨h0,h1,hv⟩
theorem TabOk.add {tms ws tb} (h:TabOk tms ws tb) {t:Nat} {wd r:Int} (hg:Good tms ws t wd) (h0:0 ≤ r) (h1:r < p2 wd) (hv:VRel tms ws tb t wd r):TabOk tms ws (tb ++ [((t:Int),r)]):=fun p hp => by
  rcases List.mem_append.mp hp with hp | hp
  · refine Xeeaaaa (h p hp) fun t' wd' e hG a b c => ?_
    exact ⟨t',wd',e,hG,a,b,c.mono fun q hq => List.mem_append_left _ hq⟩
  · simp only [List.mem_singleton] at hp
    subst hp
    exact ⟨t,wd,rfl,hg,h0,h1,hv.mono fun q hq => List.mem_append_left _ hq⟩
theorem p2_64 {k:Int} (h:k ≤ 6) (h0:0 ≤ k):p2 k ≤ 64:=(pow_bd h0 h).2
theorem num_of {tms:List Tm} {ws:List Int} {tb:List (Int × Int)} (h:TabOk tms ws tb) {t:Nat} {wd:Int} {τ:Tm} (hg:Good tms ws t wd) (hW:Wd tms ws t τ wd) (ha:∀ a ∈ τ.args,∃ x,(a,x) ∈ tb) :
    ∃ xs r,All2 (fun a x => (a,x) ∈ tb) τ.args xs ∧ (∀ x ∈ xs,0 ≤ x ∧ x < 64) ∧ NumIs tms ws τ wd xs r ∧ 0 ≤ r ∧ r < p2 wd ∧ VRel tms ws tb t wd r:=by
  have bd:=hg.bd
  have sm:∀ {a:Nat} {wa x:Int},Good tms ws a wa → ((a:Int),x) ∈ tb → 0 ≤ x ∧ x < 64 ∧ x < p2 wa:=fun hga hm => by
    refine Xaa (h.at hm hga) fun h0 h1 _ => ?_
    have:=hga.bd
    have:=p2_64 (k:=_) this.2 (by omega)
    exact ⟨h0,by omega,h1⟩
  have mm:∀ x:Int,0 ≤ x.fmod (p2 wd) ∧ x.fmod (p2 wd) < p2 wd:=fun x => by
    have:=p2_pos (k:=wd)
    exact ⟨Int.fmod_nonneg_of_pos _ (by omega),Int.fmod_lt_of_pos _ (by omega)⟩
  cases hg with
  | app w o a _ _ =>
    refine Xa (w.inj hW) fun z2_ _ => ?_; subst z2_
    refine ⟨[],_,by rw [a]; exact .nil,by simp,.sum ?_ ?_ ?_ ?_ ?_,(mm _).1,(mm _).2,.app w o⟩ <;> rw [o] <;> decide
  | num w o a d x0 x1 _ _ =>
    refine Xa (w.inj hW) fun z3_ _ => ?_; subst z3_
    exact ⟨[],_,by rw [a]; exact .nil,by simp,.num o d,x0,x1,.num w o⟩
  | @cat _ _ wa wb a b w o e ga gb _ =>
    refine Xa (w.inj hW) fun z4_ _ => ?_; subst z4_
    refine Xe (ha a (by rw [e]; simp)) fun x hx => ?_
    refine Xe (ha b (by rw [e]; simp)) fun y hy => ?_
    have sx:=sm ga hx
    have sy:=sm gb hy
    have ba:=ga.bd
    have bb:=gb.bd
    refine Xe gb.wd fun τb wb' => ?_
    have cb:=cat_bd sx.1 sx.2.2 sy.1 sy.2.2
    exact ⟨[x,y],_,by rw [e]; exact .cons hx (.cons hy .nil),by simp; omega,.cat o e wb' bb.1 bb.2 rfl,cb.1,by rw [p2_add (by omega) (by omega)]; exact cb.2,.cat w o e ga gb hx hy⟩
  | @ext _ _ hh l wa a w o e d l0 lh hw ga =>
    refine Xa (w.inj hW) fun z5_ _ => ?_; subst z5_
    refine Xe (ha a (by rw [e]; simp)) fun x hx => ?_
    have sx:=sm ga hx
    have ba:=ga.bd
    exact ⟨[x],_,by rw [e]; exact .cons hx .nil,by simp; omega,.ext o d l0 (by omega) rfl,(mm _).1,(mm _).2,.ext w o e d l0 lh hw ga hx⟩
  | @zx _ _ m' wa a w o e d m1 m6 ga =>
    refine Xa (w.inj hW) fun z6_ _ => ?_; subst z6_
    refine Xe (ha a (by rw [e]; simp)) fun x hx => ?_
    have sx:=sm ga hx
    have ba:=ga.bd
    have hp:p2 (wa + m') = p2 wa * p2 m':=p2_add (by omega) (by omega)
    have hlt:x < p2 (wa + m'):=by
      have h1:=p2_pos (k:=m')
      have h2:=p2_pos (k:=wa)
      have:p2 wa * 1 ≤ p2 wa * p2 m':=Int.mul_le_mul_of_nonneg_left h1 (by omega)
      omega
    have e1:([x].sum).fmod (2 ^ (wa + m').toNat) = x:=by
      show (x + 0).fmod (p2 (wa + m')) = x
      rw [Int.add_zero,Int.fmod_eq_emod_of_nonneg _ (by omega)]
      exact Int.emod_eq_of_lt sx.1 hlt
    refine ⟨[x],([x].sum).fmod (2 ^ (wa + m').toNat),by rw [e]; exact .cons hx .nil,by simp; omega,.sum ?_ ?_ ?_ ?_ ?_,by rw [e1]; exact sx.1,by rw [e1]; exact hlt,by rw [e1]; exact .zx w o e m1 ga hx⟩ <;> rw [o] <;> decide
  | @sx _ _ m' wa a w o e d m1 m6 ga =>
    refine Xa (w.inj hW) fun z7_ _ => ?_; subst z7_
    refine Xe (ha a (by rw [e]; simp)) fun x hx => ?_
    have sx:=sm ga hx
    have ba:=ga.bd
    refine Xe ga.wd fun τa wa' => ?_
    have hp:p2 (wa + m') = p2 wa * p2 m':=p2_add (by omega) (by omega)
    have hle:p2 wa ≤ p2 (wa + m'):=by
      have h1:=p2_pos (k:=m')
      have h2:=p2_pos (k:=wa)
      have:p2 wa * 1 ≤ p2 wa * p2 m':=Int.mul_le_mul_of_nonneg_left h1 (by omega)
      omega
    refine ⟨[x],_,by rw [e]; exact .cons hx .nil,by simp; omega,.sx o e wa' ba.1 ba.2 rfl,?_,?_,.sx w o e m1 ga hx⟩
    · show 0 ≤ x + (if x * 2 ≥ p2 wa then p2 (wa + m') - p2 wa else 0)
      split <;> omega
    · show x + (if x * 2 ≥ p2 wa then p2 (wa + m') - p2 wa else 0) < p2 (wa + m')
      split <;> omega
  | @add _ _ _ a b w o e ga gb =>
    refine Xa (w.inj hW) fun z8_ _ => ?_; subst z8_
    refine Xe (ha a (by rw [e]; simp)) fun x hx => ?_
    refine Xe (ha b (by rw [e]; simp)) fun y hy => ?_
    have sx:=sm ga hx
    have sy:=sm gb hy
    refine ⟨[x,y],_,by rw [e]; exact .cons hx (.cons hy .nil),by simp; omega,.sum ?_ ?_ ?_ ?_ ?_,(mm _).1,(mm _).2,.add w o⟩ <;> rw [o] <;> decide
  | @not _ _ _ a w o e ga =>
    refine Xa (w.inj hW) fun z9_ _ => ?_; subst z9_
    refine Xe (ha a (by rw [e]; simp)) fun x hx => ?_
    have sx:=sm ga hx
    exact ⟨[x],_,by rw [e]; exact .cons hx .nil,by simp; omega,.not o rfl,by show 0 ≤ p2 wd - 1 - x; omega,by show p2 wd - 1 - x < p2 wd; omega,.not w o e ga hx⟩
def ExtD (d:Addr) (n n':Led):Prop:=∀ a o,(a,o) ∈ n → a ≠ d → (a,o) ∈ n'
theorem ExtD.refl {d:Addr} {n:Led}:ExtD d n n:=fun _ _ h _ => h
theorem ExtD.ext {d:Addr} {n n' n'':Led} (h:ExtD d n n') (k:Ext n' n''):ExtD d n n'':=fun a o ha hd => k _ (h a o ha hd)
theorem ExtD.upd {d:Addr} {n n':Led} {o:Obj} (h:ExtD d n n'):ExtD d n (upd n' d o):=fun a b ha hd => upd_keep (h a b ha hd) hd
theorem ExtD.updI {d I:Addr} {n n':Led} {o:Obj} (h:ExtD d n n') (hI:∀ p ∈ n,p.1 < I):ExtD d n (Mine.upd n' I o):=fun a b ha hd => upd_keep (h a b ha hd) (Nat.ne_of_lt (hI _ ha))
theorem ExtD.dropI {d I:Addr} {n n':Led} (h:ExtD d n n') (hI:∀ p ∈ n,p.1 < I):ExtD d n (n'.filter (fun p => p.1 != I)):=fun a b ha hd => List.mem_filter.mpr ⟨h a b ha hd,by simpa using Nat.ne_of_lt (hI _ ha)⟩
theorem ExtD.b {B:BA} {d:Addr} {n n':Led} (h:ExtD d n n') (hd:¬ B.has d) (ht:∀ us e,(d,tupO us e) ∉ n):BSub B n n':=fun a o ha hk => by
  refine h a o ha ?_
  rintro rfl
  rcases hk with hk | ⟨us,e,rfl⟩
  · exact hd hk
  · exact ht us e ha
theorem ExtD.listAt {d:Addr} {n n':Led} (h:ExtD d n n') {l:Addr} {vs:List Value} (x:ListAt n l vs) (hl:l ≠ d):ListAt n' l vs:=by refine Xea x ?_; clear x; intro o h1 h2; exact ⟨o,h _ _ h1 hl,h2⟩
theorem ExtD.cellAt {d:Addr} {n n':Led} (h:ExtD d n n') {l:Addr} {v:Value} (x:CellAt n l v) (hl:l ≠ d):CellAt n' l v:=by refine Xea x ?_; clear x; intro o h1 h2; exact ⟨o,h _ _ h1 hl,h2⟩
theorem CellAt.mono {n n':Led} {l:Addr} {v:Value} (x:CellAt n l v) (h:Ext n n'):CellAt n' l v:=by refine Xea x ?_; clear x; intro o h1 h2; exact ⟨o,h _ h1,h2⟩
def TabAt (prog:Program) (w:World) (n:Led) (d:Addr) (tb:List (Int × Int)):Prop:=∃ kvs,IDict prog w n d kvs ∧ All2 (fun (p:Int × Int) (kv:Int × Value) => p.1 = kv.1 ∧ IsI p.2 kv.2) tb kvs
theorem TabAt.get {prog w n d tb} (h:TabAt prog w n d tb) {a x:Int} (hm:(a,x) ∈ tb):∃ kvs v,IDict prog w n d kvs ∧ All2 (fun (p:Int × Int) (kv:Int × Value) => p.1 = kv.1 ∧ IsI p.2 kv.2) tb kvs ∧ valueAt kvs a = some v ∧ IsI x v:=by
  refine Xea h ?_; clear h; intro kvs hd ha
  refine Xe (List.mem_iff_getElem?.mp hm) fun i hi => ?_
  refine Xeaa (ha.get hi) fun z1_ e r1 r2 => ?_; obtain ⟨k,v⟩:=z1_
  simp only at r1 r2
  subst r1
  refine Xaeeaaa (id hd) fun _ _ _ _ _ _ nd => ?_
  exact ⟨kvs,v,hd,ha,valueAt_of_get nd e,r2⟩
theorem tab_get {tb:List (Int × Int)} {kvs:List (Int × Value)} (nd:(kvs.map (·.1)).Nodup) (ha:All2 (fun (p:Int × Int) (kv:Int × Value) => p.1 = kv.1 ∧ IsI p.2 kv.2) tb kvs) {a x:Int} (hm:(a,x) ∈ tb):∃ v,valueAt kvs a = some v ∧ IsI x v:=by
  refine Xe (List.mem_iff_getElem?.mp hm) fun i hi => ?_
  refine Xeaa (ha.get hi) fun z2_ e r1 r2 => ?_; obtain ⟨k,v⟩:=z2_
  simp only at r1 r2
  subst r1
  exact ⟨v,valueAt_of_get nd e,r2⟩
theorem good_args {tms ws t wd τ} (G:Good tms ws t wd) (W:Wd tms ws t τ wd):τ.args.length ≤ 2:=by
  cases G with
  | app w o a _ _ => rw [(W.inj w).1,a]; simp
  | num w o a _ _ _ _ _ => rw [(W.inj w).1,a]; simp
  | cat w o a _ _ _ => rw [(W.inj w).1,a]; simp
  | ext w o a _ _ _ _ _ => rw [(W.inj w).1,a]; simp
  | zx w o a _ _ _ _ => rw [(W.inj w).1,a]; simp
  | sx w o a _ _ _ _ => rw [(W.inj w).1,a]; simp
  | add w o a _ _ => rw [(W.inj w).1,a]; simp
  | not w o a _ => rw [(W.inj w).1,a]; simp
theorem TabAt.has {prog w n d tb kvs} (hd:IDict prog w n d kvs) (ha:All2 (fun (p:Int × Int) (kv:Int × Value) => p.1 = kv.1 ∧ IsI p.2 kv.2) tb kvs) {a:Int} (h:(valueAt kvs a).isSome = true):∃ x,(a,x) ∈ tb:=by
  refine Xe (Option.isSome_iff_exists.mp h) fun v hv => ?_
  have:=List.mem_of_find?_eq_some (valueAt_find hv)
  refine Xe (List.mem_iff_getElem?.mp this) fun i hi => ?_
  refine Xeaa (ha.get' hi) fun z3_ e r1 r2 => ?_; obtain ⟨k,x⟩:=z3_
  simp only at r1
  subst r1
  exact ⟨x,List.mem_of_getElem? e⟩
theorem IDict.ext {prog w n n' d kvs} (h:IDict prog w n d kvs) (e:Ext n n'):IDict prog w n' d kvs:=by refine Xaeea h ?_; clear h; intro h0 es ep h1 r; exact ⟨h0,es,ep,e _ h1,r⟩
theorem TabAt.ext {prog w n n' d tb} (h:TabAt prog w n d tb) (e:Ext n n'):TabAt prog w n' d tb:=by refine Xea h ?_; clear h; intro kvs h1 h2; exact ⟨kvs,h1.ext e,h2⟩
theorem IDict.updI {prog w n d kvs} {I:Addr} {o:Obj} (h:IDict prog w n d kvs) (hne:d ≠ I):IDict prog w (upd n I o) d kvs:=by refine Xaeea h ?_; clear h; intro h0 es ep h1 r; exact ⟨h0,es,ep,upd_keep h1 hne,r⟩
theorem ItL.ext {n n':Led} {I l:Addr} {i:Nat} (h:ItL n I l i) (e:Ext n n'):ItL n' I l i:=by refine Xea h ?_; clear h; intro o h1 h2; exact ⟨o,e _ h1,h2⟩
theorem ItL.updD {n:Led} {I l d:Addr} {i:Nat} {o:Obj} (h:ItL n I l i) (hne:I ≠ d):ItL (upd n d o) I l i:=by refine Xea h ?_; clear h; intro x h1 h2; exact ⟨x,upd_keep h1 hne,h2⟩
theorem LCg_off_cons {I C D x:Addr} {o:Obj} {n:Led} (h:LCg.Off3 I C D n) (h1:x ≠ I) (h2:x ≠ C) (h3:x ≠ D):LCg.Off3 I C D ((x,o) :: n):=⟨⟨h1,h2,h3⟩,h⟩
section
variable {prog:Program} {w:World} {n:Led} {B:BA} {F:Nat} {tms:List Tm} {ws:List Int} {som:List Nat} {vs:List Value} {sa d:Addr}
theorem numbers_spec {tb₀:List (Int × Int)} (hb:Bank prog w n B F tms ws) (hl:ListAt n sa vs) (hv:All2 IsN som vs) (h1:som.length < 100) (hg:∀ t ∈ som,∃ wd,Good tms ws t wd)
    (hcl:∀ (i t:Nat),som[i]? = some t → (∃ x,((t:Int),x) ∈ tb₀) ∨ ∀ τ,tms[t]? = some τ → ∀ a ∈ τ.args,∃ j t',j < i ∧ som[j]? = some t' ∧ a = ((t':Nat):Int)) (htb:TabAt prog w n d tb₀) (hok:TabOk tms ws tb₀) (hlen:tb₀.length ≤ 2) (hd:¬ B.has d) (hds:d ≠ sa) :
    Spec prog w 1081 [.ref B.self,.ref sa,.ref d] n 3 (fun v n' => v = .ref d ∧ ExtD d n n' ∧ ∃ tb,TabAt prog w n' d tb ∧ TabOk tms ws tb ∧ ∀ t ∈ som,∃ x,((t:Int),x) ∈ tb):=by
  refine Spec.introC (fn_law_numbers w.params) (cd_law_numbers w.params) (fun s => BindsTo.of_eq (bi_law_numbers _ _ _)) (by kernel_rfl) (by decide +kernel) (by kernel_rfl) (by kernel_rfl) (by kernel_rfl) (fun Lc Γ cells hr hc hlt hLc => ?_)
  conv in (stBody S_law_numbers) => whnf
  refine Xea (CellsAre.one hc) fun oc z4_ hoc => ?_; subst z4_
  have hoc':oc.data = .cell (some (.ref d)):=hoc
  have hlv:=hv.length
  refine Xea (id htb) fun kvs0 hd0 ha0 => ?_
  refine Xaeea (id hd0) fun hd1 es0 ep0 hdm _ => ?_
  refine T.fn fun FnE => ?_
  obtain ⟨nE,hnE⟩:∃ nE,nE = [(Lc + 1,oc)] ++ n:=⟨_,rfl⟩
  rw [← hnE] at FnE ⊢
  have exE:Ext n nE:=by rw [hnE]; exact Ext.cons
  have hcE:CellAt nE (Lc + 1) (.ref d):=by rw [hnE]; exact ⟨oc,.head _,hoc'⟩
  have hbE:=hb.mono (exE.b (B:=B))
  have hlE:=hl.mono exE
  have htE:=htb.ext exE
  have hdE:∀ us e,(d,tupO us e) ∉ nE:=fun us e he => by
    exact absurd (congrArg Obj.cls (FnE _ _ _ he (exE _ hdm))) (by simp)
  have hdLc:@LT.lt Nat _ d Lc:=hlt _ hdm
  have up:=hb.up
  walk_at "s"
  refine t_for ?_ (by intro _; rfl)
  walk_at "r"
  refine t_iterL hlE fun I o hI hI3 hIt hcls => ?_
  have hdI:@LT.lt Nat _ d I:=hI _ (exE _ hdm)
  refine Loop.list (vs:=vs) (fun i m1 n1 => m1 (Str.ofString "bank") = some (.ref B.self) ∧ ExtD d nE n1 ∧ ItL n1 I sa i ∧ ∃ tb,TabAt prog w n1 d tb ∧ TabOk tms ws tb ∧ tb.length ≤ 2 + i ∧ (∀ p ∈ tb₀,p ∈ tb) ∧ ∀ j t,j < i → som[j]? = some t → ∃ x,((t:Int),x) ∈ tb)
    (by rfl) ⟨by rfl,ExtD.refl.ext Ext.cons,hIt,tb₀,htE.ext Ext.cons,hok,by omega,fun _ h => h,fun _ _ h => absurd h (by omega)⟩ (fun i m1 n1 h => ⟨h.2.2.1,h.2.1.listAt hlE (Ne.symm hds)⟩) ?_ ?_
  · rintro i m1 n1 v o' hvi ⟨hm,hE,_,tb,hT,hOk,hln,hsub,hall⟩ hIt' hcls'
    refine Xeae (hv.get' hvi) fun t hti tk z5_ => ?_; subst z5_
    have hti':=(List.getElem?_eq_some_iff.mp hti).1
    have hE2:=hE.updI (o:=o') hI
    refine Xea hT ?_; clear hT; intro kvs hD hA
    have hD2:=hD.updI (o:=o') (Nat.ne_of_lt hdI)
    obtain ⟨n2,hn2⟩:∃ n2,n2 = upd n1 I o':=⟨_,rfl⟩
    rw [← hn2] at hE2 hD2 hIt' ⊢
    have hb2:=hbE.mono (hE2.b hd hdE)
    have hs2:=hb2.base.sf
    have hc2:=hE2.cellAt hcE (Nat.ne_of_gt (Nat.lt_succ_of_lt hdLc))
    refine Xe (hg t (List.mem_of_getElem? hti)) fun wd G => ?_
    refine Xe G.wd fun τ W => ?_
    walk_at "r"
    refine t_nameC hc2 ?_ (by rfl) (by rfl) (by decide +kernel)
    refine t_notinI hD2 ?_
    cases hval:(valueAt kvs (t:Int)).isSome with
    | true =>
      rw [Bool.not_true]
      walk_at "r"
      refine ⟨hm,hE2,hIt',tb,⟨kvs,hD2,hA⟩,hOk,by omega,hsub,fun j t' hj e => ?_⟩
      by_cases hji:j < i
      · exact hall j t' hji e
      · have:j = i:=by omega
        subst this
        rw [hti] at e; cases e
        exact TabAt.has hD2 hA hval
    | false =>
      rw [Bool.not_false]
      walk_at "r"
      refine t_nameL (v:=.ref B.self) hm ?_ (by rfl) (by decide +kernel)
      walk_at "r"
      refine t_compT (cl':=[(Str.ofString "table",Lc + 1)]) ?_ (by with_unfolding_all rfl) (by decide +kernel) (by rfl) (by decide +kernel) (by rfl) (by intro _; rfl)
      walk_at "r"
      refine t_nameL (v:=.ref B.self) hm ?_ (by rfl) (by decide +kernel)
      walk_at "r"
      refine t_spec (args_spec hb2.base W.1) (Nat.le_trans (by decide) hr) fun v n' h => ?_
      refine Xaeeeaa h ?_; clear h; intro z6_ ax us e z7_ hax hus; subst z6_; subst z7_
      have hargs:∀ a ∈ τ.args,∃ x,(a,x) ∈ tb:=by
        rcases hcl i t hti with ⟨x,hx⟩ | hc
        · refine Xea (tab_get hD2.2.choose_spec.choose_spec.2.2.2 hA (hsub _ hx)) fun v hv1 _ => ?_
          rw [hv1] at hval; cases hval
        · intro a ha
          refine Xeeaa (hc τ W.1 a ha) fun j t' hj e1 z8_ => ?_; subst z8_
          exact hall j t' hj e1
      refine Xeeaaaaa (num_of hOk G W hargs) fun xs r hxs hsm hN r0 r1 hV => ?_
      have hl2:=good_args G W
      have hl3:=hxs.length
      have hl4:=hus.length
      have nd:=hD2.2.choose_spec.choose_spec.2.2.2
      refine ⟨rfl,ax,us,(fun i' ys n1 => Ext n' n1 ∧ All2 IsI (xs.take i') ys),rfl,.inr ⟨e,hax⟩,by omega,?step,⟨Ext.refl,by simpa using All2.nil⟩,fun _ _ _ h => .inr ⟨e,h.1 _ hax⟩,fun ys n3 D hJ hoff => ?fin⟩
      case step =>
        intro i' ys n3 v I' oI C oC D m₂ hi' hv' hJ hNs hmx hoff hIC hID hCD
        refine Xa hJ ?_; clear hJ; intro hE' hys
        refine Xeae (hus.get' hv') fun a ha1 ta z9_ => ?_; subst z9_
        refine Xea (hxs.get ha1) fun x hx1 hx2 => ?_
        refine Xea (tab_get nd hA hx2) fun v' hv1 hv2 => ?_
        have ex3:Ext n' ((I',oI) :: (C,oC) :: (D,LCg.lst ys) :: n3):=hE'.trans (Ext.cons.trans (Ext.cons.trans Ext.cons))
        walk_at "s"
        refine t_cnC (hc2.mono ex3) ?_ (by rfl) (by rfl) (by rfl) (by decide +kernel)
        refine t_cnL (.tail _ (.head _)) hNs hmx ?_ (by rfl) (by rfl) (by decide +kernel)
        refine t_getI (hD2.ext ex3) hv1 ?_
        refine ⟨rfl,n3,fun p hp => hp,hoff,hE',?_⟩
        rw [List.take_succ,hx1]
        exact hys.snoc hv2
      case fin =>
        refine Xa hJ ?_; clear hJ; intro hE' hys
        rw [List.take_of_length_le (by omega)] at hys
        have ex4:Ext n' ((D,LCg.lst ys) :: n3):=hE'.trans Ext.cons
        have hl5:ListAt ((D,LCg.lst ys) :: n3) D ys:=.of (.head _)
        obtain ⟨n4,hn4⟩:∃ n4,n4 = (D,LCg.lst ys) :: n3:=⟨_,rfl⟩
        rw [← hn4] at ex4 hl5 ⊢
        have hb4:=hb2.mono (ex4.b (B:=B))
        walk_at "r"
        refine t_spec (number_spec hb4.base up W G.bd.1 G.bd.2 hl5 hys hsm hN) (Nat.le_trans (by decide) hr) fun v n5 h => ?_
        refine Xa h ?_; clear h; intro hr1 ex5
        have ex6:=ex4.trans ex5
        refine t_nameC (hc2.mono ex6) ?_ (by rfl) (by rfl) (by decide +kernel)
        walk_at "r"
        have hv0:valueAt kvs (t:Int) = none:=by
          cases hq:valueAt kvs (t:Int) with
          | none => rfl
          | some q => rw [hq] at hval; cases hval
        have hlk:=hA.length
        refine t_setI (hD2.ext ex6) (by omega) fun es' ep' hD5 => ?_
        rw [stored_absent hv0] at hD5
        walk_at "r"
        refine ⟨hm,(hE2.ext ex6).upd,(hIt'.ext ex6).updD (Nat.ne_of_gt hdI),tb ++ [((t:Int),r)],⟨_,hD5,hA.snoc ⟨rfl,hr1⟩⟩,hOk.add G r0 r1 hV,by simp; omega,fun p hp => List.mem_append_left _ (hsub p hp),fun j t' hj e => ?_⟩
        by_cases hji:j < i
        · refine Xe (hall j t' hji e) fun x hx => ?_
          exact ⟨x,List.mem_append_left _ hx⟩
        · have:j = i:=by omega
          subst this
          rw [hti] at e; cases e
          exact ⟨r,List.mem_append_right _ (by simp)⟩
  · rintro m1 n1 ⟨hm,hE,_,tb,hT,hOk,hln,hsub,hall⟩
    have hE3:=hE.dropI hI
    have hc3:=hE3.cellAt hcE (Nat.ne_of_gt (Nat.lt_succ_of_lt hdLc))
    refine Xea hT ?_; clear hT; intro kvs z10_ hA; refine Xaeea z10_ ?_; clear z10_; intro q0 es ep q1 q2
    have q1':(d,dictO es ep) ∈ n1.filter (fun p => p.1 != I):=List.mem_filter.mpr ⟨q1,by simpa using Nat.ne_of_lt hdI⟩
    walk_at "r"
    refine t_nameC hc3 ?_ (by rfl) (by rfl) (by decide +kernel)
    refine ⟨rfl,fun a o ha hd => hE3 a o (exE _ ha) hd,tb,⟨kvs,⟨q0,es,ep,q1',q2⟩,hA⟩,hOk,fun t ht => ?_⟩
    refine Xe (List.mem_iff_getElem?.mp ht) fun j hj => ?_
    exact hall j t (by rw [← hlv]; exact (List.getElem?_eq_some_iff.mp hj).1) hj
end
theorem IsO.ext {n n':Led} {x:Option (List Int)} {v:Value} (h:IsO n x v) (e:Ext n n'):IsO n' x v:=by
  cases x with
  | none => exact h
  | some xs => refine Xeeeaa h ?_; clear h; intro a us k h1 h2 h3; exact ⟨a,us,k,h1,e _ h2,h3⟩
abbrev Lab:=Option (List Int)
def labR (cnt:Nat) (f:Nat → Lab):List Lab:=(List.range cnt).map f
theorem labR_take {cnt i:Nat} {f:Nat → Lab} (h:i < cnt):(labR cnt f).take (i + 1) = (labR cnt f).take i ++ [f i]:=by
  rw [List.take_succ]
  congr 1
  simp [labR,h]
inductive LabIs (tms:List Tm) (ws:List Int) (τ:Tm) (wd:Int):List Lab → Prop
  | cat {a b:Nat} {τa τb wa wb}:τ.op = Str.ofString "concat" → τ.args = [(a:Int),(b:Int)] → Wd tms ws a τa wa → Wd tms ws b τb wb → 1 ≤ wa → wa ≤ 6 → 1 ≤ wb → wb ≤ 6 →
      LabIs tms ws τ wd (labR wb.toNat (fun j => some [1,(j:Int)]) ++ labR wa.toNat (fun j => some [0,(j:Int)]))
  | ext {a:Nat} {τa wa h l}:τ.op = Str.ofString "extract" → τ.args = [(a:Int)] → Wd tms ws a τa wa → τ.data = .p h l → LabIs tms ws τ wd (labR wd.toNat (fun j => some [0,l + (j:Int)]))
  | wide {a:Nat} {τa wa}:τ.op = Str.ofString "bvnot" ∨ τ.op = Str.ofString "zero_extend" ∨ τ.op = Str.ofString "sign_extend" → τ.args = [(a:Int)] → Wd tms ws a τa wa → LabIs tms ws τ wd (labR wd.toNat (fun j => if (j:Int) < wa then some [0,(j:Int)] else none))
  | other {us:List Nat}:τ.op ≠ Str.ofString "concat" → τ.op ≠ Str.ofString "extract" → τ.op ≠ Str.ofString "bvnot" → τ.op ≠ Str.ofString "zero_extend" → τ.op ≠ Str.ofString "sign_extend" → τ.args = us.map (fun (a:Nat) => (a:Int)) → us.length ≤ 2 → (∀ a ∈ us,∃ τa wa,Wd tms ws a τa wa) → LabIs tms ws τ wd (labR wd.toNat (fun _ => none))
theorem LabIs.args {tms ws τ wd ls} (h:LabIs tms ws τ wd ls):∃ us:List Nat,τ.args = us.map (fun (a:Nat) => (a:Int)) ∧ us.length ≤ 2 ∧ ∀ a ∈ us,∃ τa wa,Wd tms ws a τa wa:=by
  cases h with
  | @cat a b _ _ _ _ _ e w1 w2 _ _ _ _ => exact ⟨[a,b],e,by simp,by simp; exact ⟨⟨_,_,w1⟩,⟨_,_,w2⟩⟩⟩
  | @ext a _ _ _ _ _ e w1 _ => exact ⟨[a],e,by simp,by simp; exact ⟨_,_,w1⟩⟩
  | @wide a _ _ _ e w1 => exact ⟨[a],e,by simp,by simp; exact ⟨_,_,w1⟩⟩
  | @other us _ _ _ _ _ e h1 h2 => exact ⟨us,e,h1,h2⟩
theorem widths_of {tms:List Tm} {ws:List Int}:∀ (us:List Nat),(∀ a ∈ us,∃ τa wa,Wd tms ws a τa wa) → ∃ wds:List Int,All2 (fun a wa => ∃ τa,Wd tms ws a τa wa) us wds
  | [],_ => ⟨[],.nil⟩
  | a :: us,h => by
    refine Xe (widths_of us fun b hb => h b (List.mem_cons_of_mem _ hb)) fun wds hw => ?_
    refine Xee (h a List.mem_cons_self) fun τa wa W => ?_
    exact ⟨wa :: wds,.cons ⟨τa,W⟩ hw⟩
section
variable {prog:Program} {w:World} {n:Led} {B:BA} {F:Nat} {tms:List Tm} {ws:List Int}
def LabEl {cs:Scope} {cl:List (PySem.Str × Addr)} (Γ:Cx prog w cs cl) (elt:PySem.Expr) (x:PySem.Str) (scope:Scope) (cl':List (PySem.Str × Addr)) (m:Loc) (nB:Led) (cnt:Nat) (f:Nat → Lab):Prop:=
  ∀ i n1 t I oI C oC D ys m₂,i < cnt → Ext nB n1 → LCg.NsObj oC m₂ → m₂ x = some (.int (i:Int) t) →
    T Γ (eval elt (compEnvC scope cl' C Γ.env)) m ((I,oI) :: (C,oC) :: (D,LCg.lst ys) :: n1) (fun y m' n' => m' = m ∧ ((n' = (I,oI) :: (C,oC) :: (D,LCg.lst ys) :: n1 ∧ f i = none ∧ y = .none) ∨
      ∃ z us zs,n' = (z,tupO us 0) :: (I,oI) :: (C,oC) :: (D,LCg.lst ys) :: n1 ∧ (∀ p ∈ (I,oI) :: (C,oC) :: (D,LCg.lst ys) :: n1,p.1 < z) ∧ f i = some zs ∧ y = .ref z ∧ All2 IsI zs us))
theorem LabEl.step {cs:Scope} {cl:List (PySem.Str × Addr)} {Γ:Cx prog w cs cl} {elt:PySem.Expr} {x:PySem.Str} {scope:Scope} {cl':List (PySem.Str × Addr)} {m:Loc} {nB:Led} {cnt:Nat} {f:Nat → Lab} (h:LabEl Γ elt x scope cl' m nB cnt f) :
    CStep Γ elt x scope cl' m (fun i v => ∃ t,v = .int (0 + (i:Int)) t) cnt (fun i ys n1 => Ext nB n1 ∧ All2 (IsO n1) ((labR cnt f).take i) ys):=by
  intro i ys n1 v I oI C oC D m₂ hi hv hJ hNs hmx hoff hIC hID hCD
  refine Xe hv ?_; clear hv; intro t z1_; subst z1_
  refine Xa hJ ?_; clear hJ; intro hE hys
  rw [Int.zero_add] at hmx
  refine (h i n1 t I oI C oC D ys m₂ hi hE hNs hmx).mono fun y m' n' hp => ?_
  obtain ⟨rfl,⟨rfl,hf,rfl⟩ | ⟨z,us,zs,rfl,hz,hf,rfl,hu⟩⟩:=hp
  · exact ⟨rfl,n1,fun p hp => hp,hoff,hE,by rw [labR_take hi,hf]; exact hys.snoc rfl⟩
  · have a1:=hz _ (.head _)
    have a2:=hz _ (.tail _ (.head _))
    have a3:=hz _ (.tail _ (.tail _ (.head _)))
    refine ⟨rfl,(z,tupO us 0) :: n1,fun p hp => ?_,LCg_off_cons hoff (Nat.ne_of_gt a1) (Nat.ne_of_gt a2) (Nat.ne_of_gt a3),hE.trans Ext.cons,?_⟩
    · simp only [List.mem_cons] at hp ⊢
      rcases hp with h | h | h | h | h
      · exact .inr (.inl h)
      · exact .inr (.inr (.inl h))
      · exact .inr (.inr (.inr (.inl h)))
      · exact .inl h
      · exact .inr (.inr (.inr (.inr h)))
    · rw [labR_take hi,hf]
      exact (hys.mono fun _ _ q => q.ext Ext.cons).snoc ⟨z,us,0,rfl,.head _,hu⟩
theorem t_labs {cs:Scope} {cl:List (PySem.Str × Addr)} {Γ:Cx prog w cs cl} {m:Loc} {scope:Scope} {cl':List (PySem.Str × Addr)} {elt iter:PySem.Expr} {x:PySem.Str} {px:Pos} {pos:Pos} {P:Value → Loc → Led → Prop} (f:Nat → Lab)
    (h:T Γ (eval iter Γ.env) m n (fun xv m1 n1 => m1 = m ∧ ∃ r k,xv = .ref r ∧ RangeO n1 r 0 k ∧ 0 ≤ k ∧ k < 100 ∧ LabEl Γ elt x scope cl' m n1 k.toNat f ∧ ∀ vs n2 D,Ext n1 n2 → All2 (IsO n2) (labR k.toNat f) vs → P (.ref D) m ((D,LCg.lst vs) :: n2)))
    (hclos:closureFor scope Γ.env = pure cl') (hcell:∀ y ∈ scope.names,y.2 ≠ .cell) (hkind:scope.kind = .function)
    (hnames:∀ y ∈ scope.names,y.2 = .local → scope.names.lookup y.1 = some .local) (hx:scope.names.lookup x = some .local) (hs:∀ x,foldedSetIterable iter Γ.env x = pure x) :
    T Γ (eval (.ListComp elt [⟨.Name x px,iter,[],0⟩] scope pos) Γ.env) m n P:=by
  refine t_compR (h.mono fun xv m1 n1 hp => ?_) hclos hcell hkind hnames hx hs
  refine Xaeeaaaaa hp ?_; clear hp; intro z2_ r k z3_ hR k0 k1 hE fin; subst z2_; subst z3_
  refine ⟨rfl,r,0,k,k.toNat,_,rfl,hR,by decide,by decide,by omega,by omega,by split <;> omega,by omega,hE.step,⟨Ext.refl,by simpa using All2.nil⟩,fun ys n2 D hJ _ => ?_⟩
  refine Xa hJ ?_; clear hJ; intro hE' hys
  rw [List.take_of_length_le (by simp [labR])] at hys
  exact fin ys n2 D hE' hys
theorem labels_spec (hb:BankIn w.params n B tms ws) (up:B.Up) {t:Nat} {tk:Tok} {τ:Tm} {wd:Int} {ls:List Lab} (hW:Wd tms ws t τ wd) (h1:1 ≤ wd) (h6:wd ≤ 6) (hL:LabIs tms ws τ wd ls) :
    Spec prog w 1086 [.ref B.self,.int t tk] n 2 (fun v n' => Ext n n' ∧ ∃ D vs,v = .ref D ∧ ListAt n' D vs ∧ All2 (IsO n') ls vs):=by
  refine Spec.introC (fn_law_labels w.params) (cd_law_labels w.params) (fun s => BindsTo.of_eq (bi_law_labels _ _)) (by kernel_rfl) (by decide +kernel) (by kernel_rfl) (by kernel_rfl) (by kernel_rfl) (fun Lc Γ cells hr hc hlt hLc => ?_)
  conv in (stBody S_law_labels) => whnf
  have hcs:∃ o1 o2 o3 v3,cells = [(Lc + 3,o3),(Lc + 2,o2),(Lc + 1,o1)] ∧ o1.data = .cell (some (.ref B.self)) ∧ o2.data = .cell (some (.int t tk)) ∧ o3.data = .cell v3:=by
    have hc':CellsAre _ [(Str.ofString "inner",Lc + 3),(Str.ofString "t",Lc + 2),(Str.ofString "bank",Lc + 1)] cells:=hc
    cases hc' with
    | cons e3 hc' => cases hc' with
      | cons e2 hc' => cases hc' with
        | cons e1 hc' => cases hc' with
          | nil => exact ⟨_,_,_,_,rfl,e1,e2,e3⟩
  refine Xeeeeaaa hcs ?_; clear hcs; intro o1 o2 o3 v3 z4_ e1 e2 e3; subst z4_
  have hne:∀ p ∈ n,p.1 ≠ Lc + 3:=fun p hp => Nat.ne_of_lt (Nat.lt_of_lt_of_le (hlt p hp) (Nat.le_add_right _ _))
  obtain ⟨nE,hnE⟩:∃ nE,nE = [(Lc + 3,o3),(Lc + 2,o2),(Lc + 1,o1)] ++ n:=⟨_,rfl⟩
  rw [← hnE]
  have exE:Ext n nE:=by rw [hnE]; exact Ext.cons.trans (Ext.cons.trans Ext.cons)
  have c1:CellAt nE (Lc + 1) (.ref B.self):=by rw [hnE]; exact ⟨o1,by simp,e1⟩
  have c2:CellAt nE (Lc + 2) (.int t tk):=by rw [hnE]; exact ⟨o2,by simp,e2⟩
  have c3:∃ o,(Lc + 3,o) ∈ nE ∧ o.data = .cell v3:=by rw [hnE]; exact ⟨o3,by simp,e3⟩
  have hbE:=hb.mono (exE.b (B:=B)) up
  have hsE:=hbE.sf
  refine Xeaa hL.args fun us0 ha0 hu2 hus0 => ?_
  refine Xe (widths_of us0 hus0) fun wds hwds => ?_
  walk_at "s"
  refine t_assignSwap [Str.ofString "op",Str.ofString "widths"] ?_ (by rfl) (by with_unfolding_all rfl)
  walk_at "r"
  refine t_nameC c1 ?_ (by rfl) (by rfl) (by decide +kernel)
  walk_at "r"
  refine t_nameC c2 ?_ (by rfl) (by rfl) (by decide +kernel)
  walk_at "r"
  refine t_spec (op_spec hbE hW.1) (Nat.le_trans (by decide) hr) fun v n' h => ?_
  refine Xae h ?_; clear h; intro z5_ t1 z6_; subst z5_; subst z6_
  walk_at "r"
  refine t_compT ?_ (by with_unfolding_all rfl) (by decide +kernel) (by rfl) (by decide +kernel) (by rfl) (by intro _; rfl)
  walk_at "s"
  refine t_nameC c1 ?_ (by rfl) (by rfl) (by decide +kernel)
  walk_at "r"
  refine t_nameC c2 ?_ (by rfl) (by rfl) (by decide +kernel)
  walk_at "r"
  refine t_spec (args_spec hbE hW.1) (Nat.le_trans (by decide) hr) fun v n' h => ?_
  refine Xaeeeaa h ?_; clear h; intro z7_ ax us e z8_ hax hus; subst z7_; subst z8_
  have l1:=hwds.length
  have l2:=hus.length
  have l3:τ.args.length = us0.length:=by rw [ha0]; simp
  refine ⟨rfl,ax,us,(fun i' ys n1 => Ext n' n1 ∧ All2 IsI (wds.take i') ys),rfl,.inr ⟨e,hax⟩,by omega,?step,⟨Ext.refl,by simpa using All2.nil⟩,fun _ _ _ h => .inr ⟨e,h.1 _ hax⟩,fun ys n3 D hJ hoff => ?fin⟩
  case step =>
    intro i' ys n3 v I' oI C oC D m₂ hi' hv' hJ hNs hmx hoff hIC hID hCD
    refine Xa hJ ?_; clear hJ; intro hE' hys
    refine Xeae (hus.get' hv') fun a ha1 ta z9_ => ?_; subst z9_
    rw [ha0] at ha1
    obtain ⟨a',ha2,rfl⟩:∃ a':Nat,us0[i']? = some a' ∧ a = (a':Int):=by
      rw [List.getElem?_map] at ha1
      refine Xea (Option.map_eq_some_iff.mp ha1) fun a' e1 e2 => ?_
      exact ⟨a',e1,e2.symm⟩
    refine Xeae (hwds.get ha2) fun wa hwa τa Wa => ?_
    have ex3:Ext n' ((I',oI) :: (C,oC) :: (D,LCg.lst ys) :: n3):=hE'.trans (Ext.cons.trans (Ext.cons.trans Ext.cons))
    have hb3:=hbE.mono (ex3.b (B:=B)) up
    have hs3:=hb3.sf
    walk_at "s"
    refine t_cnC (c1.mono ex3) ?_ (by rfl) (by rfl) (by rfl) (by decide +kernel)
    walk_at "r"
    refine t_cnL (.tail _ (.head _)) hNs hmx ?_ (by rfl) (by rfl) (by decide +kernel)
    walk_at "r"
    refine Xaeaa Wa ?_; clear Wa; intro wa1 ka wa2 wa3 _
    refine t_spec (width_spec hb3 wa1 wa2 wa3) (Nat.le_trans (by decide) hr) fun v n5 h => ?_
    refine Xa h ?_; clear h; intro z10_ hv5; subst z10_
    refine ⟨rfl,n3,fun p hp => hp,hoff,hE',?_⟩
    rw [List.take_succ,hwa]
    exact hys.snoc hv5
  case fin =>
    refine Xa hJ ?_; clear hJ; intro hE' hys
    rw [List.take_of_length_le (by omega)] at hys
    have ex4:Ext n' ((D,LCg.lst ys) :: n3):=hE'.trans Ext.cons
    have hl5:ListAt ((D,LCg.lst ys) :: n3) D ys:=.of (.head _)
    obtain ⟨n4,hn4⟩:∃ n4,n4 = (D,LCg.lst ys) :: n3:=⟨_,rfl⟩
    rw [← hn4] at ex4 hl5 ⊢
    walk_at "r"
    refine t_newTuple (by simp) fun x hx hx3 => ?_
    refine t_unpackT (.head _) rfl ?_
    refine t_inOrder (t_storeI (t_inOrder (t_storeI (t_inOrder0 ?_) (by rfl))) (by rfl))
    have ex5:Ext n' ((x,tupO [.str τ.op t1,.ref D] 0) :: n4):=ex4.trans Ext.cons
    have hl6:=hl5.mono (Ext.cons (p:=(x,tupO [.str τ.op t1,.ref D] 0)))
    obtain ⟨n6,hn6⟩:∃ n6,n6 = (x,tupO [.str τ.op t1,.ref D] 0) :: n4:=⟨_,rfl⟩
    rw [← hn6] at ex5 hl6 ⊢
    have hb6:=hbE.mono (ex5.b (B:=B)) up
    have hs6:=hb6.sf
    walk_at "r"
    cases hL with
    | @cat a b τa τb wa wb ho ha Wa Wb ba1 ba6 bb1 bb6 =>
      rw [ha] at ha0
      have hus0':us0 = [a,b]:=by
        match us0,ha0 with
        | [p,q],h => simp at h; refine Xa h ?_; clear h; intro h1 h2; rw [show p = a by omega,show q = b by omega]
      subst hus0'
      refine Xeae (hwds.get (i:=0) (by rfl)) fun wa' g0 _ Wa' => ?_
      refine Xeae (hwds.get (i:=1) (by rfl)) fun wb' g1 _ Wb' => ?_
      refine Xa (Wa.inj Wa') fun _ z11_ => ?_; subst z11_
      refine Xa (Wb.inj Wb') fun _ z12_ => ?_; subst z12_
      refine Xeae (hys.get g0) fun va i0 ta z13_ => ?_; subst z13_
      refine Xeae (hys.get g1) fun vb i1 tb z14_ => ?_; subst z14_
      rw [decide_eq_true ho]
      walk_at "r"
      refine t_labs (fun j => some [1,(j:Int)]) ?_ (by with_unfolding_all rfl) (by decide +kernel) (by rfl) (by decide +kernel) (by rfl) (by intro _; rfl)
      walk_at "r"
      refine t_item hl6 (by decide) (by simpa using i1) ?_ (by decide)
      walk_at "r"
      refine t_range1 fun r o hr hr3 hR hcl => ?_
      refine ⟨rfl,r,wb,rfl,hR,by omega,by omega,?_,fun vs1 n7 D1 e7 hv7 => ?_⟩
      · intro i n1 t I oI C oC D ys m₂ hi hE hNs hmx
        walk_at "r"
        refine t_cnL (.tail _ (.head _)) hNs hmx ?_ (by rfl) (by rfl) (by decide +kernel)
        walk_at "r"
        refine t_newTuple (by simp) fun z hz hz3 => ?_
        exact ⟨rfl,.inr ⟨z,_,_,rfl,hz,rfl,rfl,.cons ⟨_,rfl⟩ (.cons ⟨_,rfl⟩ .nil)⟩⟩
      have hl8:ListAt ((D1,LCg.lst vs1) :: n7) D1 vs1:=.of (.head _)
      have hv8:All2 (IsO ((D1,LCg.lst vs1) :: n7)) (labR wb.toNat fun j => some [1,(j:Int)]) vs1:=hv7.mono fun _ _ q => q.ext Ext.cons
      have ex8:Ext n6 ((D1,LCg.lst vs1) :: n7):=Ext.cons.trans (e7.trans Ext.cons)
      obtain ⟨n8,hn8⟩:∃ n8,n8 = (D1,LCg.lst vs1) :: n7:=⟨_,rfl⟩
      rw [← hn8] at hl8 hv8 ex8 ⊢
      refine t_labs (fun j => some [0,(j:Int)]) ?_ (by with_unfolding_all rfl) (by decide +kernel) (by rfl) (by decide +kernel) (by rfl) (by intro _; rfl)
      walk_at "r"
      refine t_item (hl6.mono ex8) (by decide) (by simpa using i0) ?_ (by decide)
      walk_at "r"
      refine t_range1 fun r o hr hr3 hR hcl => ?_
      refine ⟨rfl,r,wa,rfl,hR,by omega,by omega,?_,fun vs2 n9 D2 e9 hv9 => ?_⟩
      · intro i n1 t I oI C oC D ys m₂ hi hE hNs hmx
        walk_at "r"
        refine t_cnL (.tail _ (.head _)) hNs hmx ?_ (by rfl) (by rfl) (by decide +kernel)
        walk_at "r"
        refine t_newTuple (by simp) fun z hz hz3 => ?_
        exact ⟨rfl,.inr ⟨z,_,_,rfl,hz,rfl,rfl,.cons ⟨_,rfl⟩ (.cons ⟨_,rfl⟩ .nil)⟩⟩
      have e10:Ext n8 ((D2,LCg.lst vs2) :: n9):=Ext.cons.trans (e9.trans Ext.cons)
      have len1:=hv8.length
      have len2:=hv9.length
      simp [labR] at len1 len2
      refine t_addL (hl8.mono e10) (.of (.head _)) (by omega) fun Z hZ hZ3 => ?_
      exact ⟨(exE.trans (ex5.trans (ex8.trans e10))).trans Ext.cons,Z,_,rfl,.of (.head _),(hv8.mono fun _ _ q => q.ext (e10.trans Ext.cons)).append (hv9.mono fun _ _ q => q.ext (Ext.cons.trans Ext.cons))⟩
    | @ext a τa wa h l ho ha Wa hd => 
      rw [decide_eq_false (show ¬ τ.op = Str.ofString "concat" by rw [ho]; decide)]
      walk_at "r"
      rw [decide_eq_true ho]
      walk_at "r"
      refine t_labs (fun j => some [0,l + (j:Int)]) ?_ (by with_unfolding_all rfl) (by decide +kernel) (by rfl) (by decide +kernel) (by rfl) (by intro _; rfl)
      walk_at "r"
      refine t_nameC (c1.mono ex5) ?_ (by rfl) (by rfl) (by decide +kernel)
      walk_at "r"
      refine t_nameC (c2.mono ex5) ?_ (by rfl) (by rfl) (by decide +kernel)
      walk_at "r"
      refine Xaeaa hW ?_; clear hW; intro hW1 kW hW2 hW3 _
      refine t_spec (width_spec hb6 hW1 hW2 hW3) (Nat.le_trans (by decide) hr) fun v n7 h => ?_
      refine Xae h ?_; clear h; intro z15_ t7 z16_; subst z15_; subst z16_
      walk_at "r"
      refine t_range1 fun r o hr hr3 hR hcl => ?_
      refine ⟨rfl,r,wd,rfl,hR,by omega,by omega,?_,fun vs2 n9 D2 e9 hv9 => ?_⟩
      · intro i n1 t I oI C oC D ys m₂ hi hE hNs hmx
        have e11:Ext n7 ((I,oI) :: (C,oC) :: (D,LCg.lst ys) :: n1):=Ext.cons.trans (hE.trans (Ext.cons.trans (Ext.cons.trans Ext.cons)))
        have hb11:=hb6.mono (e11.b (B:=B)) up
        have hs11:=hb11.sf
        walk_at "r"
        refine t_cnC ((c1.mono ex5).mono e11) ?_ (by rfl) (by rfl) (by rfl) (by decide +kernel)
        walk_at "r"
        refine t_cnC ((c2.mono ex5).mono e11) ?_ (by rfl) (by rfl) (by rfl) (by decide +kernel)
        walk_at "r"
        refine t_spec (data_spec hb11 hW1) (by omega) fun v n12 h => ?_
        refine Xa h ?_; clear h; intro z17_ h; subst z17_
        rw [hd] at h
        refine Xeeeaa h ?_; clear h; intro c us2 e2 z18_ hm2 hv2; subst z18_
        refine Xeae (hv2.get (i:=1) (by rfl)) fun v0 g0' u0 z19_ => ?_; subst z19_
        walk_at "r"
        refine t_itemT hm2 (by decide) (by simpa using g0') ?_ (by decide)
        refine t_cnL (.tail _ (.head _)) hNs hmx ?_ (by rfl) (by rfl) (by decide +kernel)
        walk_at "r"
        refine t_newTuple (by simp) fun z hz hz3 => ?_
        exact ⟨rfl,.inr ⟨z,_,_,rfl,hz,rfl,rfl,.cons ⟨_,rfl⟩ (.cons ⟨_,rfl⟩ .nil)⟩⟩
      exact ⟨(exE.trans (ex5.trans Ext.cons)).trans (e9.trans Ext.cons),D2,vs2,rfl,.of (.head _),hv9.mono fun _ _ q => q.ext Ext.cons⟩
    | @wide a τa wa ho ha Wa => 
      rw [ha] at ha0
      have hus0':us0 = [a]:=by
        match us0,ha0 with
        | [p],h => simp at h; rw [show p = a by omega]
      subst hus0'
      refine Xeae (hwds.get (i:=0) (by rfl)) fun wa' g0 _ Wa' => ?_
      refine Xa (Wa.inj Wa') fun _ z20_ => ?_; subst z20_
      refine Xeae (hys.get g0) fun va i0 ta z21_ => ?_; subst z21_
      rw [decide_eq_false (show ¬ τ.op = Str.ofString "concat" by rcases ho with ho | ho | ho <;> rw [ho] <;> decide)]
      walk_at "r"
      rw [decide_eq_false (show ¬ τ.op = Str.ofString "extract" by rcases ho with ho | ho | ho <;> rw [ho] <;> decide)]
      walk_at "r"
      refine t_assignC (c:=Lc + 3) ?_ (by rfl) (by rfl) (by rfl)
      walk_at "r"
      refine t_newTuple (by simp) fun y hy hy3 => ?_
      refine t_inT (ys:=[Str.ofString "bvnot",Str.ofString "zero_extend",Str.ofString "sign_extend"]) (.head _) (.cons ⟨_,rfl⟩ (.cons ⟨_,rfl⟩ (.cons ⟨_,rfl⟩ .nil))) ?_
      rw [show ([Str.ofString "bvnot",Str.ofString "zero_extend",Str.ofString "sign_extend"].any (· == τ.op)) = true by rcases ho with ho | ho | ho <;> rw [ho] <;> decide]
      walk_at "r"
      refine t_item (hl6.mono Ext.cons) (by decide) (by simpa using i0) ?_ (by decide)
      generalize hn7:(y,tupO [Value.str (Str.ofString "bvnot") _,Value.str (Str.ofString "zero_extend") _,Value.str (Str.ofString "sign_extend") _] 0) :: n6 = n7
      have e7:Ext n6 n7:=hn7 ▸ Ext.cons
      refine ⟨⟨v3,by refine Xea c3 ?_; clear c3; intro q h1 h2; exact ⟨q,e7 _ (ex5 _ h1),h2⟩⟩,fun o ho' => ?_⟩
      have ex8:Ext n (upd n7 (Lc + 3) o):=fun p hp => upd_keep (e7 _ (ex5 _ (exE _ hp))) (hne p hp)
      have c1':CellAt (upd n7 (Lc + 3) o) (Lc + 1) (.ref B.self):=by refine Xea ((c1.mono ex5).mono e7) fun q h1 h2 => ?_; exact ⟨q,upd_keep h1 (by simp),h2⟩
      have c2':CellAt (upd n7 (Lc + 3) o) (Lc + 2) (.int t tk):=by refine Xea ((c2.mono ex5).mono e7) fun q h1 h2 => ?_; exact ⟨q,upd_keep h1 (by simp),h2⟩
      have c3':CellAt (upd n7 (Lc + 3) o) (Lc + 3) (.int wa _):=⟨o,upd_self,ho'⟩
      obtain ⟨n8,hn8⟩:∃ n8,n8 = upd n7 (Lc + 3) o:=⟨_,rfl⟩
      rw [← hn8] at ex8 c1' c2' c3' ⊢
      have hb8:=hb.mono (ex8.b (B:=B)) up
      have hs8:=hb8.sf
      walk_at "r"
      refine t_labs (fun j => if (j:Int) < wa then some [0,(j:Int)] else none) ?_ (by with_unfolding_all rfl) (by decide +kernel) (by rfl) (by decide +kernel) (by rfl) (by intro _; rfl)
      walk_at "r"
      refine t_nameC c1' ?_ (by rfl) (by rfl) (by decide +kernel)
      walk_at "r"
      refine t_nameC c2' ?_ (by rfl) (by rfl) (by decide +kernel)
      walk_at "r"
      refine Xaeaa hW ?_; clear hW; intro hW1 kW hW2 hW3 _
      refine t_spec (width_spec hb8 hW1 hW2 hW3) (Nat.le_trans (by decide) hr) fun v n9 h => ?_
      refine Xae h ?_; clear h; intro z22_ t7 z23_; subst z22_; subst z23_
      walk_at "r"
      refine t_range1 fun r o hr hr3 hR hcl => ?_
      refine ⟨rfl,r,wd,rfl,hR,by omega,by omega,?_,fun vs2 n10 D2 e9 hv9 => ?_⟩
      · intro i n1 t I oI C oC D ys m₂ hi hE hNs hmx
        have e11:Ext n9 ((I,oI) :: (C,oC) :: (D,LCg.lst ys) :: n1):=Ext.cons.trans (hE.trans (Ext.cons.trans (Ext.cons.trans Ext.cons)))
        walk_at "r"
        refine t_cnL (.tail _ (.head _)) hNs hmx ?_ (by rfl) (by rfl) (by decide +kernel)
        refine t_cnC (c3'.mono e11) ?_ (by rfl) (by rfl) (by rfl) (by decide +kernel)
        walk_at "r"
        by_cases hji:(i:Int) < wa
        · rw [decide_eq_true hji]
          walk_at "r"
          refine t_cnL (.tail _ (.head _)) hNs hmx ?_ (by rfl) (by rfl) (by decide +kernel)
          walk_at "r"
          refine t_newTuple (by simp) fun z hz hz3 => ?_
          exact ⟨rfl,.inr ⟨z,_,_,rfl,hz,if_pos hji,rfl,.cons ⟨_,rfl⟩ (.cons ⟨_,rfl⟩ .nil)⟩⟩
        · rw [decide_eq_false hji]
          walk_at "r"
          exact ⟨rfl,.inl ⟨rfl,if_neg hji,rfl⟩⟩
      refine ⟨(ex8.trans Ext.cons).trans (e9.trans Ext.cons),D2,vs2,rfl,.of (.head _),?_⟩
      have hv10:=hv9.mono fun _ _ q => q.ext (Ext.cons (p:=(D2,LCg.lst vs2)))
      exact hv10
    | @other us o1 o2 o3 o4 o5 ha hu1 hu2 =>
      rw [decide_eq_false o1]
      walk_at "r"
      rw [decide_eq_false o2]
      walk_at "r"
      refine t_assignC (c:=Lc + 3) ?_ (by rfl) (by rfl) (by rfl)
      walk_at "r"
      refine t_newTuple (by simp) fun y hy hy3 => ?_
      refine t_inT (ys:=[Str.ofString "bvnot",Str.ofString "zero_extend",Str.ofString "sign_extend"]) (.head _) (.cons ⟨_,rfl⟩ (.cons ⟨_,rfl⟩ (.cons ⟨_,rfl⟩ .nil))) ?_
      rw [show ([Str.ofString "bvnot",Str.ofString "zero_extend",Str.ofString "sign_extend"].any (· == τ.op)) = false by simp [Ne.symm o3,Ne.symm o4,Ne.symm o5]]
      walk_at "r"
      generalize hn7:(y,tupO [Value.str (Str.ofString "bvnot") _,Value.str (Str.ofString "zero_extend") _,Value.str (Str.ofString "sign_extend") _] 0) :: n6 = n7
      have e7:Ext n6 n7:=hn7 ▸ Ext.cons
      refine ⟨⟨v3,by refine Xea c3 ?_; clear c3; intro q h1 h2; exact ⟨q,e7 _ (ex5 _ h1),h2⟩⟩,fun o ho' => ?_⟩
      have ex8:Ext n (upd n7 (Lc + 3) o):=fun p hp => upd_keep (e7 _ (ex5 _ (exE _ hp))) (hne p hp)
      have c1':CellAt (upd n7 (Lc + 3) o) (Lc + 1) (.ref B.self):=by refine Xea ((c1.mono ex5).mono e7) fun q h1 h2 => ?_; exact ⟨q,upd_keep h1 (by simp),h2⟩
      have c2':CellAt (upd n7 (Lc + 3) o) (Lc + 2) (.int t tk):=by refine Xea ((c2.mono ex5).mono e7) fun q h1 h2 => ?_; exact ⟨q,upd_keep h1 (by simp),h2⟩
      have c3':CellAt (upd n7 (Lc + 3) o) (Lc + 3) (.int 0 _):=⟨o,upd_self,ho'⟩
      obtain ⟨n8,hn8⟩:∃ n8,n8 = upd n7 (Lc + 3) o:=⟨_,rfl⟩
      rw [← hn8] at ex8 c1' c2' c3' ⊢
      have hb8:=hb.mono (ex8.b (B:=B)) up
      have hs8:=hb8.sf
      walk_at "r"
      refine t_labs (fun j => if (j:Int) < 0 then some [0,(j:Int)] else none) ?_ (by with_unfolding_all rfl) (by decide +kernel) (by rfl) (by decide +kernel) (by rfl) (by intro _; rfl)
      walk_at "r"
      refine t_nameC c1' ?_ (by rfl) (by rfl) (by decide +kernel)
      walk_at "r"
      refine t_nameC c2' ?_ (by rfl) (by rfl) (by decide +kernel)
      walk_at "r"
      refine Xaeaa hW ?_; clear hW; intro hW1 kW hW2 hW3 _
      refine t_spec (width_spec hb8 hW1 hW2 hW3) (Nat.le_trans (by decide) hr) fun v n9 h => ?_
      refine Xae h ?_; clear h; intro z24_ t7 z25_; subst z24_; subst z25_
      walk_at "r"
      refine t_range1 fun r o hr hr3 hR hcl => ?_
      refine ⟨rfl,r,wd,rfl,hR,by omega,by omega,?_,fun vs2 n10 D2 e9 hv9 => ?_⟩
      · intro i n1 t I oI C oC D ys m₂ hi hE hNs hmx
        have e11:Ext n9 ((I,oI) :: (C,oC) :: (D,LCg.lst ys) :: n1):=Ext.cons.trans (hE.trans (Ext.cons.trans (Ext.cons.trans Ext.cons)))
        walk_at "r"
        refine t_cnL (.tail _ (.head _)) hNs hmx ?_ (by rfl) (by rfl) (by decide +kernel)
        refine t_cnC (c3'.mono e11) ?_ (by rfl) (by rfl) (by rfl) (by decide +kernel)
        walk_at "r"
        by_cases hji:(i:Int) < 0
        · rw [decide_eq_true hji]
          walk_at "r"
          refine t_cnL (.tail _ (.head _)) hNs hmx ?_ (by rfl) (by rfl) (by decide +kernel)
          walk_at "r"
          refine t_newTuple (by simp) fun z hz hz3 => ?_
          exact ⟨rfl,.inr ⟨z,_,_,rfl,hz,if_pos hji,rfl,.cons ⟨_,rfl⟩ (.cons ⟨_,rfl⟩ .nil)⟩⟩
        · rw [decide_eq_false hji]
          walk_at "r"
          exact ⟨rfl,.inl ⟨rfl,if_neg hji,rfl⟩⟩
      refine ⟨(ex8.trans Ext.cons).trans (e9.trans Ext.cons),D2,vs2,rfl,.of (.head _),?_⟩
      have hv10:=hv9.mono fun _ _ q => q.ext (Ext.cons (p:=(D2,LCg.lst vs2)))
      have e0:(fun j:Nat => if (j:Int) < 0 then some [0,(j:Int)] else (none:Lab)) = fun _ => none:=by funext j; rw [if_neg (by omega)]
      rw [e0] at hv10
      exact hv10
end
theorem All2.drop {α β:Type} {R:α → β → Prop} {as:List α} {bs:List β} (h:All2 R as bs):∀ k:Nat,All2 R (as.drop k) (bs.drop k):=by
  induction h with
  | nil => intro k; simp; exact .nil
  | cons r hh ih => intro k; cases k with
    | zero => exact .cons r hh
    | succ k => exact ih k
theorem All2.take {α β:Type} {R:α → β → Prop} {as:List α} {bs:List β} (h:All2 R as bs):∀ k:Nat,All2 R (as.take k) (bs.take k):=by
  induction h with
  | nil => intro k; simp; exact .nil
  | cons r hh ih => intro k; cases k with
    | zero => exact .nil
    | succ k => exact .cons r (ih k)
def cutOf (ls:List Lab) (lo hi:Nat):List Lab:=(ls.drop lo).take (hi + 1 - lo)
inductive DueIs (ls:List Lab) (lo hi:Nat) (args:List Int):Option (List Int) → Prop
  | whole:(cutOf ls lo hi).length = ls.length → DueIs ls lo hi args none
  | hole:(cutOf ls lo hi).length ≠ ls.length → (cutOf ls lo hi).any (·.isNone) = true → DueIs ls lo hi args none
  | odd {i0 p0}:(cutOf ls lo hi).length ≠ ls.length → (cutOf ls lo hi).any (·.isNone) = false → (cutOf ls lo hi)[0]? = some (some [i0,p0]) → cutOf ls lo hi ≠ labR (cutOf ls lo hi).length (fun j => some [i0,p0 + (j:Int)]) → DueIs ls lo hi args none
  | run {i0 p0 il pl a}:(cutOf ls lo hi).length ≠ ls.length → (cutOf ls lo hi).any (·.isNone) = false → (cutOf ls lo hi)[0]? = some (some [i0,p0]) → cutOf ls lo hi = labR (cutOf ls lo hi).length (fun j => some [i0,p0 + (j:Int)]) →
      (cutOf ls lo hi)[(cutOf ls lo hi).length - 1]? = some (some [il,pl]) → 0 ≤ i0 → i0 < 10 → args[i0.toNat]? = some a → DueIs ls lo hi args (some [pl,p0,a])
section
variable {prog:Program} {w:World} {n:Led} {B:BA} {tms:List Tm} {ws:List Int}
theorem due_spec (hb:BankIn w.params n B tms ws) (up:B.Up) {t lo hi:Nat} {tk tk1 tk2:Tok} {τ:Tm} {ls:List Lab} {la:Addr} {vs:List Value} {r:Option (List Int)} (ht:tms[t]? = some τ) (hl:ListAt n la vs) (hv:All2 (IsO n) ls vs) (h1:lo ≤ hi) (h2:hi < ls.length) (h3:ls.length < 50)
    (hD:DueIs ls lo hi τ.args r):Spec prog w 1091 [.ref B.self,.ref la,.int hi tk1,.int lo tk2,.int t tk] n 2 (fun v n' => Ext n n' ∧ IsO n' r v):=by
  refine Spec.introC (fn_law_due w.params) (cd_law_due w.params) (fun s => BindsTo.of_eq (bi_law_due _ _ _ _ _)) (by kernel_rfl) (by decide +kernel) (by kernel_rfl) (by kernel_rfl) (by kernel_rfl) (fun Lc Γ cells hr hc hlt hLc => ?_)
  conv in (stBody S_law_due) => whnf
  refine Xea (CellsAre.one hc) fun oc z1_ hoc => ?_; subst z1_
  have hne:∀ p ∈ n,p.1 ≠ Lc + 1:=fun p hp => Nat.ne_of_lt (Nat.lt_of_lt_of_le (hlt p hp) (Nat.le_add_right _ _))
  obtain ⟨nE,hnE⟩:∃ nE,nE = [(Lc + 1,oc)] ++ n:=⟨_,rfl⟩
  rw [← hnE]
  have exE:Ext n nE:=by rw [hnE]; exact Ext.cons
  have hcE:∃ v₀,∃ o,(Lc + 1,o) ∈ nE ∧ o.data = .cell v₀:=⟨_,oc,by rw [hnE]; exact .head _,hoc⟩
  have hlE:=hl.mono exE
  have hvE:=hv.mono fun _ _ q => q.ext exE
  have lv:=hv.length
  walk_at "s"
  refine t_assignC (c:=Lc + 1) ?_ (by rfl) (by rfl) (by rfl)
  refine t_slice ?_ (by intro _ _; rfl)
  walk_at "r"
  refine ⟨la,vs,lo,(hi:Int) + 1,_,_,rfl,rfl,rfl,hlE,by omega,fun D hD0 hD3 => ?_⟩
  have eP:(slicePick vs.toArray (some (lo:Int)) (some ((hi:Int) + 1)) none).toList = (vs.drop lo).take (hi + 1 - lo):=by
    have:=slicePick_run vs.toArray lo (hi + 1) (by simp; omega) (by omega)
    rw [show ((hi:Int) + 1) = ((hi + 1:Nat):Int) by omega,this]
  rw [eP]
  refine Xeea hcE ?_; clear hcE; intro v₀ oc' hoc1 hoc2
  have hoc1D:@LT.lt Nat _ (Lc + 1) D:=hD0 _ hoc1
  refine ⟨⟨v₀,oc',.tail _ hoc1,hoc2⟩,fun o ho => ?_⟩
  have hcv:All2 (IsO nE) (cutOf ls lo hi) ((vs.drop lo).take (hi + 1 - lo)):=(hvE.drop lo).take (hi + 1 - lo)
  have ex2:Ext n (upd ((D,listO ((vs.drop lo).take (hi + 1 - lo)) 0) :: nE) (Lc + 1) o):=fun p hp => upd_keep (.tail _ (exE _ hp)) (hne p hp)
  have hDl:ListAt (upd ((D,listO ((vs.drop lo).take (hi + 1 - lo)) 0) :: nE) (Lc + 1) o) D ((vs.drop lo).take (hi + 1 - lo)):=ListAt.of (upd_keep (.head _) (Nat.ne_of_gt hoc1D))
  have hc2:CellAt (upd ((D,listO ((vs.drop lo).take (hi + 1 - lo)) 0) :: nE) (Lc + 1) o) (Lc + 1) (.ref D):=⟨o,upd_self,ho⟩
  have hcv2:All2 (IsO (upd ((D,listO ((vs.drop lo).take (hi + 1 - lo)) 0) :: nE) (Lc + 1) o)) (cutOf ls lo hi) ((vs.drop lo).take (hi + 1 - lo)):=((hv.drop lo).take (hi + 1 - lo)).mono fun _ _ q => q.ext ex2
  obtain ⟨n2,hn2⟩:∃ n2,n2 = upd ((D,listO ((vs.drop lo).take (hi + 1 - lo)) 0) :: nE) (Lc + 1) o:=⟨_,rfl⟩
  rw [← hn2] at ex2 hDl hc2 hcv2 ⊢
  obtain ⟨cv,hcve⟩:∃ cv,cv = (vs.drop lo).take (hi + 1 - lo):=⟨_,rfl⟩
  rw [← hcve] at hDl hcv2
  have lc:=hcv2.length
  have lc2:(cutOf ls lo hi).length = hi + 1 - lo:=by unfold cutOf; simp; omega
  have hb2:=hb.mono (ex2.b (B:=B)) up
  have hs2:=hb2.sf
  have hl2:=hl.mono ex2
  walk_at "r"
  refine t_nameC hc2 ?_ (by rfl) (by rfl) (by decide +kernel)
  walk_at "r"
  refine t_lenL hDl (by omega) fun tk3 => ?_
  walk_at "r"
  refine t_lenL hl2 (by omega) fun tk4 => ?_
  walk_at "r"
  have eL:((cv.length:Int) == (vs.length:Int)) = decide ((cutOf ls lo hi).length = ls.length):=by
    rw [lc,lv]
    by_cases h:cv.length = vs.length
    · rw [decide_eq_true h,h]; simp
    · rw [decide_eq_false h]; simp; omega
  rw [eL]
  cases hD with
  | whole c1 =>
    rw [decide_eq_true c1]
    walk_at "r"
    exact ⟨ex2,rfl⟩
  | hole c1 c2 =>
    rw [decide_eq_false c1]
    walk_at "r"
    refine t_nameC hc2 ?_ (by rfl) (by rfl) (by decide +kernel)
    refine t_inNone hDl hcv2 ?_
    rw [c2]
    walk_at "r"
    exact ⟨ex2,rfl⟩
  | @odd i0 p0 c1 c2 c3 c4 =>
    rw [decide_eq_false c1]
    walk_at "r"
    refine t_nameC hc2 ?_ (by rfl) (by rfl) (by decide +kernel)
    refine t_inNone hDl hcv2 ?_
    rw [c2]
    walk_at "r"
    refine t_nameC hc2 ?_ (by rfl) (by rfl) (by decide +kernel)
    refine Xea (hcv2.get c3) fun vc0 gc0 hvc0 => ?_
    refine Xeeeaa hvc0 ?_; clear hvc0; intro xa xus xe z2_ xm xv; subst z2_
    refine Xeae (xv.get (i:=0) (by rfl)) fun vi0 gi0 ti0 z3_ => ?_; subst z3_
    refine Xeae (xv.get (i:=1) (by rfl)) fun vp0 gp0 tp0 z4_ => ?_; subst z4_
    refine t_labs (fun j => some [i0,p0 + (j:Int)]) ?_ (by with_unfolding_all rfl) (by decide +kernel) (by rfl) (by decide +kernel) (by rfl) (by intro _; rfl)
    walk_at "r"
    refine t_nameC hc2 ?_ (by rfl) (by rfl) (by decide +kernel)
    walk_at "r"
    refine t_lenL hDl (by omega) fun tk5 => ?_
    walk_at "r"
    refine t_range1 fun rr o' hr' hr3 hR hcl => ?_
    refine ⟨rfl,rr,cv.length,rfl,hR,by exact Int.natCast_nonneg _,by omega,?_,fun vs1 n7 D1 e7 hv7 => ?_⟩
    · intro i n1 tq I oI C oC D' ys m₂ hi hE hNs hmx
      have e11:Ext n2 ((I,oI) :: (C,oC) :: (D',LCg.lst ys) :: n1):=Ext.cons.trans (hE.trans (Ext.cons.trans (Ext.cons.trans Ext.cons)))
      walk_at "r"
      refine t_cnC (hc2.mono e11) ?_ (by rfl) (by rfl) (by rfl) (by decide +kernel)
      walk_at "r"
      refine t_item (hDl.mono e11) (by decide) (by simpa using gc0) ?_ (by decide)
      walk_at "r"
      refine t_itemT (e11 _ xm) (by decide) (by simpa using gi0) ?_ (by decide)
      walk_at "r"
      refine t_cnC (hc2.mono e11) ?_ (by rfl) (by rfl) (by rfl) (by decide +kernel)
      walk_at "r"
      refine t_item (hDl.mono e11) (by decide) (by simpa using gc0) ?_ (by decide)
      walk_at "r"
      refine t_itemT (e11 _ xm) (by decide) (by simpa using gp0) ?_ (by decide)
      refine t_cnL (.tail _ (.head _)) hNs hmx ?_ (by rfl) (by rfl) (by decide +kernel)
      walk_at "r"
      refine t_newTuple (by simp) fun z hz hz3 => ?_
      exact ⟨rfl,.inr ⟨z,_,_,rfl,hz,rfl,rfl,.cons ⟨_,rfl⟩ (.cons ⟨_,rfl⟩ .nil)⟩⟩
    have e12:Ext n2 ((D1,LCg.lst vs1) :: n7):=Ext.cons.trans (e7.trans Ext.cons)
    refine t_neL (hDl.mono e12) (.of (.head _)) (hcv2.mono fun _ _ q => q.ext e12) (hv7.mono fun _ _ q => q.ext Ext.cons) ?_
    obtain ⟨n8,hn8⟩:∃ n8,n8 = (D1,LCg.lst vs1) :: n7:=⟨_,rfl⟩
    rw [← hn8] at e12 ⊢
    have elen:((cv.length:Int)).toNat = (cutOf ls lo hi).length:=by omega
    rw [elen]
    rw [decide_eq_true c4]
    walk_at "r"
    exact ⟨ex2.trans e12,rfl⟩
  | @run i0 p0 il pl a c1 c2 c3 c4 c5 c6 c7 c8 =>
    rw [decide_eq_false c1]
    walk_at "r"
    refine t_nameC hc2 ?_ (by rfl) (by rfl) (by decide +kernel)
    refine t_inNone hDl hcv2 ?_
    rw [c2]
    walk_at "r"
    refine t_nameC hc2 ?_ (by rfl) (by rfl) (by decide +kernel)
    refine Xea (hcv2.get c3) fun vc0 gc0 hvc0 => ?_
    refine Xeeeaa hvc0 ?_; clear hvc0; intro xa xus xe z5_ xm xv; subst z5_
    refine Xeae (xv.get (i:=0) (by rfl)) fun vi0 gi0 ti0 z6_ => ?_; subst z6_
    refine Xeae (xv.get (i:=1) (by rfl)) fun vp0 gp0 tp0 z7_ => ?_; subst z7_
    refine t_labs (fun j => some [i0,p0 + (j:Int)]) ?_ (by with_unfolding_all rfl) (by decide +kernel) (by rfl) (by decide +kernel) (by rfl) (by intro _; rfl)
    walk_at "r"
    refine t_nameC hc2 ?_ (by rfl) (by rfl) (by decide +kernel)
    walk_at "r"
    refine t_lenL hDl (by omega) fun tk5 => ?_
    walk_at "r"
    refine t_range1 fun rr o' hr' hr3 hR hcl => ?_
    refine ⟨rfl,rr,cv.length,rfl,hR,by exact Int.natCast_nonneg _,by omega,?_,fun vs1 n7 D1 e7 hv7 => ?_⟩
    · intro i n1 tq I oI C oC D' ys m₂ hi hE hNs hmx
      have e11:Ext n2 ((I,oI) :: (C,oC) :: (D',LCg.lst ys) :: n1):=Ext.cons.trans (hE.trans (Ext.cons.trans (Ext.cons.trans Ext.cons)))
      walk_at "r"
      refine t_cnC (hc2.mono e11) ?_ (by rfl) (by rfl) (by rfl) (by decide +kernel)
      walk_at "r"
      refine t_item (hDl.mono e11) (by decide) (by simpa using gc0) ?_ (by decide)
      walk_at "r"
      refine t_itemT (e11 _ xm) (by decide) (by simpa using gi0) ?_ (by decide)
      walk_at "r"
      refine t_cnC (hc2.mono e11) ?_ (by rfl) (by rfl) (by rfl) (by decide +kernel)
      walk_at "r"
      refine t_item (hDl.mono e11) (by decide) (by simpa using gc0) ?_ (by decide)
      walk_at "r"
      refine t_itemT (e11 _ xm) (by decide) (by simpa using gp0) ?_ (by decide)
      refine t_cnL (.tail _ (.head _)) hNs hmx ?_ (by rfl) (by rfl) (by decide +kernel)
      walk_at "r"
      refine t_newTuple (by simp) fun z hz hz3 => ?_
      exact ⟨rfl,.inr ⟨z,_,_,rfl,hz,rfl,rfl,.cons ⟨_,rfl⟩ (.cons ⟨_,rfl⟩ .nil)⟩⟩
    have e12:Ext n2 ((D1,LCg.lst vs1) :: n7):=Ext.cons.trans (e7.trans Ext.cons)
    refine t_neL (hDl.mono e12) (.of (.head _)) (hcv2.mono fun _ _ q => q.ext e12) (hv7.mono fun _ _ q => q.ext Ext.cons) ?_
    obtain ⟨n8,hn8⟩:∃ n8,n8 = (D1,LCg.lst vs1) :: n7:=⟨_,rfl⟩
    rw [← hn8] at e12 ⊢
    have elen:((cv.length:Int)).toNat = (cutOf ls lo hi).length:=by omega
    rw [elen]
    rw [decide_eq_false (show ¬ _ from fun h => h c4)]
    have hb8:=hb2.mono (e12.b (B:=B)) up
    have hs8:=hb8.sf
    have hD8:=hDl.mono e12
    have hc8:=hc2.mono e12
    refine Xea (hcv2.get c5) fun vcl gcl hvcl => ?_
    refine Xeeeaa hvcl ?_; clear hvcl; intro ya yus ye z8_ ym yv; subst z8_
    refine Xeae (yv.get (i:=1) (by rfl)) fun vpl gpl tpl z9_ => ?_; subst z9_
    walk_at "r"
    refine t_nameC hc8 ?_ (by rfl) (by rfl) (by decide +kernel)
    walk_at "r"
    refine t_itemN hD8 (by decide) (by omega) (by decide) (by rw [show ((-1:Int) + (cv.length:Int)).toNat = (cutOf ls lo hi).length - 1 by omega]; exact gcl) ?_
    walk_at "r"
    refine t_itemT (e12 _ ym) (by decide) (by simpa using gpl) ?_ (by decide)
    walk_at "r"
    refine t_nameC hc8 ?_ (by rfl) (by rfl) (by decide +kernel)
    walk_at "r"
    refine t_item hD8 (by decide) (by simpa using gc0) ?_ (by decide)
    walk_at "r"
    refine t_itemT (e12 _ xm) (by decide) (by simpa using gp0) ?_ (by decide)
    walk_at "r"
    refine t_spec (args_spec hb8 ht) (Nat.le_trans (by decide) hr) fun v n' h => ?_
    refine Xaeeeaa h ?_; clear h; intro z10_ ax us e z11_ hax hus; subst z10_; subst z11_
    walk_at "r"
    refine t_nameC hc8 ?_ (by rfl) (by rfl) (by decide +kernel)
    walk_at "r"
    refine t_item hD8 (by decide) (by simpa using gc0) ?_ (by decide)
    walk_at "r"
    refine t_itemT (e12 _ xm) (by decide) (by simpa using gi0) ?_ (by decide)
    refine Xeae (hus.get c8) fun va ga ta z12_ => ?_; subst z12_
    refine t_itemT hax c6 ga ?_ (by omega)
    walk_at "r"
    refine t_newTuple (by simp) fun z hz hz3 => ?_
    exact ⟨(ex2.trans e12).trans Ext.cons,z,_,0,rfl,.head _,.cons ⟨_,rfl⟩ (.cons ⟨_,rfl⟩ (.cons ⟨_,rfl⟩ .nil))⟩
end
theorem pw (k:Nat):(0:Int) < 2 ^ k:=Int.pow_pos (by decide)
theorem low (k b:Int) (l w r:Nat):((k * 2 ^ (l + w + r) + b) / 2 ^ l) % 2 ^ w = (b / 2 ^ l) % 2 ^ w:=by
  have e:k * 2 ^ (l + w + r) + b = b + 2 ^ l * (2 ^ w * (2 ^ r * k)):=by
    rw [Int.pow_add,Int.pow_add,Int.add_comm,Int.mul_comm k,Int.mul_assoc,Int.mul_assoc]
  rw [e,Int.add_mul_ediv_left _ _ (Int.ne_of_gt (pw l)),Int.add_mul_emod_self_left]
theorem high (a b:Int) (n l w:Nat) (h0:0 ≤ b) (h1:b < 2 ^ n):((a * 2 ^ n + b) / 2 ^ (n + l)) % 2 ^ w = (a / 2 ^ l) % 2 ^ w:=by
  have e:(a * 2 ^ n + b) / 2 ^ n = a:=((Int.ediv_emod_unique (pw n)).mpr ⟨by rw [Int.mul_comm]; omega,h0,h1⟩).1
  rw [Int.pow_add,← Int.ediv_ediv_of_nonneg (Int.le_of_lt (pw n)),e]
theorem cutx (y:Int) (l0 l w r:Nat):((y / 2 ^ l0 % 2 ^ (l + w + r)) / 2 ^ l) % 2 ^ w = (y / 2 ^ (l0 + l)) % 2 ^ w:=by
  have e:y / 2 ^ l0 % 2 ^ (l + w + r) = (-(y / 2 ^ l0 / 2 ^ (l + w + r))) * 2 ^ (l + w + r) + y / 2 ^ l0:=by
    rw [Int.emod_def,Int.neg_mul,Int.mul_comm (y / 2 ^ l0 / 2 ^ (l + w + r))]; omega
  rw [e,low,Int.pow_add,← Int.ediv_ediv_of_nonneg (Int.le_of_lt (pw l0))]
theorem flip (y b:Int) (hb:0 < b):(-1 - y) / b = -1 - y / b ∧ (-1 - y) % b = b - 1 - y % b:=by
  have h0:=Int.emod_nonneg y (Int.ne_of_gt hb)
  have h1:=Int.emod_lt_of_pos y hb
  have h2:=Int.emod_add_mul_ediv y b
  refine (Int.ediv_emod_unique hb).mpr ⟨?_,by omega,by omega⟩
  rw [Int.mul_sub]
  omega
theorem contrary (y:Int) (l w r:Nat):((2 ^ (l + w + r) - 1 - y) / 2 ^ l) % 2 ^ w = 2 ^ w - 1 - (y / 2 ^ l) % 2 ^ w:=by
  have e:(2:Int) ^ (l + w + r) - 1 - y = 1 * 2 ^ (l + w + r) + (-1 - y):=by omega
  rw [e,low,(flip y _ (pw l)).1,(flip _ _ (pw w)).2]
def bits (x l w:Int):Int:=(x.fdiv (p2 l)).fmod (p2 w)
theorem bits_nat (x:Int) (l w:Nat):bits x l w = (x / 2 ^ l) % 2 ^ w:=by
  unfold bits p2
  rw [Int.fdiv_eq_ediv_of_nonneg _ (Int.le_of_lt (pw _)),Int.fmod_eq_emod_of_nonneg _ (Int.le_of_lt (pw _))]
  simp
theorem toN {a:Int} (h:0 ≤ a):∃ k:Nat,a = k:=⟨a.toNat,by omega⟩
theorem p2_nat (k:Nat):p2 (k:Int) = 2 ^ k:=by simp [p2]
theorem bits_low {k b l w n:Int} (hl:0 ≤ l) (hw:0 ≤ w) (h:l + w ≤ n):bits (k * p2 n + b) l w = bits b l w:=by
  refine Xe (toN hl) fun l z1_ => ?_; subst z1_
  refine Xe (toN hw) fun w z2_ => ?_; subst z2_
  refine Xe (toN (show 0 ≤ n - l - w by omega)) fun r hr => ?_
  have e:n = ((l + w + r:Nat):Int):=by omega
  rw [e,p2_nat,bits_nat,bits_nat,low]
theorem bits_high {a b l w n:Int} (hl:0 ≤ l) (hw:0 ≤ w) (hn:0 ≤ n) (h0:0 ≤ b) (h1:b < p2 n):bits (a * p2 n + b) (n + l) w = bits a l w:=by
  refine Xe (toN hl) fun l z3_ => ?_; subst z3_
  refine Xe (toN hw) fun w z4_ => ?_; subst z4_
  refine Xe (toN hn) fun n z5_ => ?_; subst z5_
  rw [p2_nat] at h1 ⊢
  rw [show (n:Int) + (l:Int) = ((n + l:Nat):Int) by omega,bits_nat,bits_nat,high _ _ _ _ _ h0 h1]
theorem bits_cut {y l0 l w n:Int} (h0:0 ≤ l0) (hl:0 ≤ l) (hw:0 ≤ w) (h:l + w ≤ n):bits ((y.fdiv (p2 l0)).fmod (p2 n)) l w = bits y (l + l0) w:=by
  refine Xe (toN h0) fun l0 z6_ => ?_; subst z6_
  refine Xe (toN hl) fun l z7_ => ?_; subst z7_
  refine Xe (toN hw) fun w z8_ => ?_; subst z8_
  refine Xe (toN (show 0 ≤ n - l - w by omega)) fun r hr => ?_
  have e:n = ((l + w + r:Nat):Int):=by omega
  rw [e,show (l:Int) + (l0:Int) = ((l0 + l:Nat):Int) by omega]
  have e2:(y.fdiv (p2 (l0:Int))).fmod (p2 ((l + w + r:Nat):Int)) = y / 2 ^ l0 % 2 ^ (l + w + r):=bits_nat y l0 (l + w + r)
  rw [e2,bits_nat,bits_nat,cutx]
theorem bits_not {y l w n:Int} (hl:0 ≤ l) (hw:0 ≤ w) (h:l + w ≤ n):bits (p2 n - 1 - y) l w = p2 w - 1 - bits y l w:=by
  refine Xe (toN hl) fun l z9_ => ?_; subst z9_
  refine Xe (toN hw) fun w z10_ => ?_; subst z10_
  refine Xe (toN (show 0 ≤ n - l - w by omega)) fun r hr => ?_
  have e:n = ((l + w + r:Nat):Int):=by omega
  rw [e,p2_nat,bits_nat,bits_nat,contrary,p2_nat]
abbrev s_ext:PySem.Str:=Str.ofString "extract"
abbrev s_cat:PySem.Str:=Str.ofString "concat"
abbrev s_zx:PySem.Str:=Str.ofString "zero_extend"
abbrev s_sx:PySem.Str:=Str.ofString "sign_extend"
abbrev s_not:PySem.Str:=Str.ofString "bvnot"
structure GInv (tms:List Tm) (ws:List Int) (τ:Tm) (wd:Int):Prop where
  ext:τ.op = s_ext → ∃ (a:Nat) (h l wa:Int),τ.args = [(a:Int)] ∧ τ.data = .p h l ∧ 0 ≤ l ∧ l ≤ h ∧ h < wa ∧ Good tms ws a wa ∧ wd = h - l + 1
  cat:τ.op = s_cat → ∃ (a b:Nat) (wa wb:Int),τ.args = [(a:Int),(b:Int)] ∧ Good tms ws a wa ∧ Good tms ws b wb ∧ wd = wa + wb
  wide:τ.op = s_zx ∨ τ.op = s_sx → ∃ (a:Nat) (m wa:Int),τ.args = [(a:Int)] ∧ 1 ≤ m ∧ Good tms ws a wa ∧ wd = wa + m
  not:τ.op = s_not → ∃ a:Nat,τ.args = [(a:Int)] ∧ Good tms ws a wd
theorem Good.inv {tms:List Tm} {ws:List Int} {u:Nat} {wd:Int} {τ:Tm} (G:Good tms ws u wd) (W:Wd tms ws u τ wd):GInv tms ws τ wd:=by
  have no:∀ {a b:PySem.Str},τ.op = a → a ≠ b → ¬ τ.op = b:=fun h k q => k (h.symm.trans q)
  cases G with
  | app w o =>
    refine Xa (W.inj w) fun z11_ _ => ?_; subst z11_
    exact ⟨fun q => absurd q (no o (by decide)),fun q => absurd q (no o (by decide)),fun q => q.elim (fun q => absurd q (no o (by decide))) fun q => absurd q (no o (by decide)),fun q => absurd q (no o (by decide))⟩
  | num w o =>
    refine Xa (W.inj w) fun z12_ _ => ?_; subst z12_
    exact ⟨fun q => absurd q (no o (by decide)),fun q => absurd q (no o (by decide)),fun q => q.elim (fun q => absurd q (no o (by decide))) fun q => absurd q (no o (by decide)),fun q => absurd q (no o (by decide))⟩
  | @cat _ _ wa wb a b w o e g1 g2 _ =>
    refine Xa (W.inj w) fun z13_ _ => ?_; subst z13_
    exact ⟨fun q => absurd q (no o (by decide)),fun _ => ⟨a,b,wa,wb,e,g1,g2,rfl⟩,fun q => q.elim (fun q => absurd q (no o (by decide))) fun q => absurd q (no o (by decide)),fun q => absurd q (no o (by decide))⟩
  | @ext _ _ h l wa a w o e d c0 c1 c2 g =>
    refine Xa (W.inj w) fun z14_ _ => ?_; subst z14_
    exact ⟨fun _ => ⟨a,h,l,wa,e,d,c0,c1,c2,g,rfl⟩,fun q => absurd q (no o (by decide)),fun q => q.elim (fun q => absurd q (no o (by decide))) fun q => absurd q (no o (by decide)),fun q => absurd q (no o (by decide))⟩
  | @zx _ _ m wa a w o e d m1 m6 g =>
    refine Xa (W.inj w) fun z15_ _ => ?_; subst z15_
    exact ⟨fun q => absurd q (no o (by decide)),fun q => absurd q (no o (by decide)),fun _ => ⟨a,m,wa,e,m1,g,rfl⟩,fun q => absurd q (no o (by decide))⟩
  | @sx _ _ m wa a w o e d m1 m6 g =>
    refine Xa (W.inj w) fun z16_ _ => ?_; subst z16_
    exact ⟨fun q => absurd q (no o (by decide)),fun q => absurd q (no o (by decide)),fun _ => ⟨a,m,wa,e,m1,g,rfl⟩,fun q => absurd q (no o (by decide))⟩
  | add w o =>
    refine Xa (W.inj w) fun z17_ _ => ?_; subst z17_
    exact ⟨fun q => absurd q (no o (by decide)),fun q => absurd q (no o (by decide)),fun q => q.elim (fun q => absurd q (no o (by decide))) fun q => absurd q (no o (by decide)),fun q => absurd q (no o (by decide))⟩
  | @not _ _ _ a w o e g =>
    refine Xa (W.inj w) fun z18_ _ => ?_; subst z18_
    exact ⟨fun q => absurd q (no o (by decide)),fun q => absurd q (no o (by decide)),fun q => q.elim (fun q => absurd q (no o (by decide))) fun q => absurd q (no o (by decide)),fun _ => ⟨a,e,g⟩⟩
structure VInv (tms:List Tm) (ws:List Int) (tb:List (Int × Int)) (τ:Tm) (wd x:Int):Prop where
  ext:τ.op = s_ext → ∃ (a:Nat) (h l y:Int),τ.args = [(a:Int)] ∧ τ.data = .p h l ∧ ((a:Int),y) ∈ tb ∧ x = (y.fdiv (p2 l)).fmod (p2 wd)
  cat:τ.op = s_cat → ∃ (a b:Nat) (wb y z:Int),τ.args = [(a:Int),(b:Int)] ∧ Good tms ws b wb ∧ ((a:Int),y) ∈ tb ∧ ((b:Int),z) ∈ tb ∧ x = y * p2 wb + z
  zx:τ.op = s_zx → ∃ (a:Nat) (y:Int),τ.args = [(a:Int)] ∧ ((a:Int),y) ∈ tb ∧ x = y
  sx:τ.op = s_sx → ∃ (a:Nat) (wa y:Int),τ.args = [(a:Int)] ∧ Good tms ws a wa ∧ ((a:Int),y) ∈ tb ∧ x = y + (if y * 2 ≥ p2 wa then p2 wd - p2 wa else 0)
  not:τ.op = s_not → ∃ (a:Nat) (y:Int),τ.args = [(a:Int)] ∧ ((a:Int),y) ∈ tb ∧ x = p2 wd - 1 - y
theorem VRel.inv {tms:List Tm} {ws:List Int} {tb:List (Int × Int)} {u:Nat} {wd x:Int} {τ:Tm} (V:VRel tms ws tb u wd x) (W:Wd tms ws u τ wd):VInv tms ws tb τ wd x:=by
  have no:∀ {a b:PySem.Str},τ.op = a → a ≠ b → ¬ τ.op = b:=fun h k q => k (h.symm.trans q)
  cases V with
  | app w o =>
    refine Xa (W.inj w) fun z19_ _ => ?_; subst z19_
    exact ⟨fun q => absurd q (no o (by decide)),fun q => absurd q (no o (by decide)),fun q => absurd q (no o (by decide)),fun q => absurd q (no o (by decide)),fun q => absurd q (no o (by decide))⟩
  | num w o =>
    refine Xa (W.inj w) fun z20_ _ => ?_; subst z20_
    exact ⟨fun q => absurd q (no o (by decide)),fun q => absurd q (no o (by decide)),fun q => absurd q (no o (by decide)),fun q => absurd q (no o (by decide)),fun q => absurd q (no o (by decide))⟩
  | @cat _ wa wb y z a b w o e g1 g2 hy hz =>
    refine Xa (W.inj w) fun z21_ _ => ?_; subst z21_
    exact ⟨fun q => absurd q (no o (by decide)),fun _ => ⟨a,b,wb,y,z,e,g2,hy,hz,rfl⟩,fun q => absurd q (no o (by decide)),fun q => absurd q (no o (by decide)),fun q => absurd q (no o (by decide))⟩
  | @ext _ h l wa y a w o e d c0 c1 c2 g hy =>
    refine Xa (W.inj w) fun z22_ _ => ?_; subst z22_
    exact ⟨fun _ => ⟨a,h,l,y,e,d,hy,rfl⟩,fun q => absurd q (no o (by decide)),fun q => absurd q (no o (by decide)),fun q => absurd q (no o (by decide)),fun q => absurd q (no o (by decide))⟩
  | @zx _ m wa y a w o e m1 g hy =>
    refine Xa (W.inj w) fun z23_ _ => ?_; subst z23_
    exact ⟨fun q => absurd q (no o (by decide)),fun q => absurd q (no o (by decide)),fun _ => ⟨a,_,e,hy,rfl⟩,fun q => absurd q (no o (by decide)),fun q => absurd q (no o (by decide))⟩
  | @sx _ m wa y a w o e m1 g hy =>
    refine Xa (W.inj w) fun z24_ _ => ?_; subst z24_
    exact ⟨fun q => absurd q (no o (by decide)),fun q => absurd q (no o (by decide)),fun q => absurd q (no o (by decide)),fun _ => ⟨a,wa,y,e,g,hy,rfl⟩,fun q => absurd q (no o (by decide))⟩
  | add w o =>
    refine Xa (W.inj w) fun z25_ _ => ?_; subst z25_
    exact ⟨fun q => absurd q (no o (by decide)),fun q => absurd q (no o (by decide)),fun q => absurd q (no o (by decide)),fun q => absurd q (no o (by decide)),fun q => absurd q (no o (by decide))⟩
  | @not _ _ y a w o e g hy =>
    refine Xa (W.inj w) fun z26_ _ => ?_; subst z26_
    exact ⟨fun q => absurd q (no o (by decide)),fun q => absurd q (no o (by decide)),fun q => absurd q (no o (by decide)),fun q => absurd q (no o (by decide)),fun _ => ⟨a,y,e,hy,rfl⟩⟩
theorem one_eq {a b:Nat} {l:List Int} (h:l = [(a:Int)]) (k:l = [(b:Int)]):a = b:=by rw [h] at k; simp at k; omega
theorem two_eq {a b c d:Nat} {l:List Int} (h:l = [(a:Int),(b:Int)]) (k:l = [(c:Int),(d:Int)]):a = c ∧ b = d:=by rw [h] at k; simp at k; omega
theorem Good.uniq {tms:List Tm} {ws:List Int} {u:Nat} {wd wd':Int} (g:Good tms ws u wd) (k:Good tms ws u wd'):wd = wd':=by
  refine Xe g.wd fun _ W => ?_
  refine Xe k.wd fun _ W' => ?_
  exact (W.inj W').2
theorem cut_step {tms:List Tm} {ws:List Int} {u:Nat} {wd h l:Int} {τ:Tm} {z:List Int} (G:Good tms ws u wd) (W:Wd tms ws u τ wd) (l0:0 ≤ l) (lh:l ≤ h) (hw:h < wd) (hC:CutIs tms ws τ h l wd (some z)) :
    ∃ (h' l':Int) (u':Nat) (wd':Int),z = [h',l',(u':Int)] ∧ Good tms ws u' wd' ∧ 0 ≤ l' ∧ l' ≤ h' ∧ h' < wd' ∧ h' - l' = h - l ∧ (u':Int) ∈ τ.args ∧
      ∀ tb x,TabOk tms ws tb → ((u:Int),x) ∈ tb → ∃ y,((u':Int),y) ∈ tb ∧ bits x l (h - l + 1) = if τ.op = s_not then p2 (h - l + 1) - 1 - bits y l' (h - l + 1) else bits y l' (h - l + 1):=by
  have gi:=G.inv W
  have vi:∀ tb x,TabOk tms ws tb → ((u:Int),x) ∈ tb → VInv tms ws tb τ wd x:=fun tb x hT hm => (hT.at hm G).2.2.inv W
  generalize hz:some z = r at hC
  cases hC with
  | whole => cases hz
  | other => cases hz
  | @ext a hh ll hn ho ha hd =>
    cases hz
    refine Xeeeeaaaaaa (gi.ext ho) fun a' h2 l2 wa e d c0 c1 c2 g z27_ => ?_; subst z27_
    rw [hd] at d; cases d
    have ea:a = (a':Int):=by rw [ha] at e; simpa using e
    subst ea
    refine ⟨h + ll,l + ll,a',wa,rfl,g,by omega,by omega,by omega,by omega,by rw [ha]; simp,fun tb x hT hm => ?_⟩
    refine Xeeeeaaa ((vi tb x hT hm).ext ho) fun a2 h3 l3 y e2 d2 hy z28_ => ?_; subst z28_
    rw [hd] at d2; cases d2
    obtain rfl:=one_eq ha e2
    exact ⟨y,hy,by rw [if_neg (by rw [ho]; decide)]; exact bits_cut c0 l0 (by omega) (by omega)⟩
  | @not a hn ho ha =>
    cases hz
    refine Xea (gi.not ho) fun a' e g => ?_
    have ea:a = (a':Int):=by rw [ha] at e; simpa using e
    subst ea
    refine ⟨h,l,a',wd,rfl,g,l0,lh,hw,rfl,by rw [ha]; simp,fun tb x hT hm => ?_⟩
    refine Xeeaa ((vi tb x hT hm).not ho) fun a2 y e2 hy z29_ => ?_; subst z29_
    obtain rfl:=one_eq ha e2
    exact ⟨y,hy,by rw [if_pos ho]; exact bits_not l0 (by omega) (by omega)⟩
  | @cat a b τ' k sb hn ho ha h1 h2 h3 =>
    refine Xeeeeaaa (gi.cat ho) fun a' b' wa wb e ga gb z30_ => ?_; subst z30_
    obtain ⟨ea,eb⟩:a = (a':Int) ∧ b = b':=by rw [ha] at e; simp at e; omega
    subst ea eb
    refine Xeaeaa gb.wd fun τb wb1 kb wb2 wb3 _ => ?_
    rw [h1] at wb1; cases wb1
    have:k = kb:=by omega
    subst this
    rw [h3] at wb3; cases wb3
    have Bb:=gb.bd
    by_cases c1:h < sb
    · rw [if_pos c1] at hz
      cases hz
      refine ⟨h,l,b,sb,rfl,gb,l0,lh,c1,rfl,by rw [ha]; simp,fun tb x hT hm => ?_⟩
      refine Xeeeeeaaaa ((vi tb x hT hm).cat ho) fun a2 b2 wb' y z e2 gb2 hy hz z31_ => ?_; subst z31_
      refine Xa (two_eq ha e2) fun z32_ z33_ => ?_; subst z32_; subst z33_
      obtain rfl:=gb.uniq gb2
      exact ⟨z,hz,by rw [if_neg (by rw [ho]; decide)]; exact bits_low l0 (by omega) (by omega)⟩
    · rw [if_neg c1] at hz
      by_cases c2:l ≥ sb
      · rw [if_pos c2] at hz
        cases hz
        refine ⟨h - sb,l - sb,a',wa,rfl,ga,by omega,by omega,by omega,by omega,by rw [ha]; simp,fun tb x hT hm => ?_⟩
        refine Xeeeeeaaaa ((vi tb x hT hm).cat ho) fun a2 b2 wb' y z e2 gb2 hy hz z34_ => ?_; subst z34_
        refine Xa (two_eq ha e2) fun z35_ z36_ => ?_; subst z35_; subst z36_
        obtain rfl:=gb.uniq gb2
        have hzb:=hT.at hz gb
        have:=bits_high (a:=y) (b:=z) (l:=l - sb) (w:=h - l + 1) (n:=sb) (by omega) (by omega) (by omega) hzb.1 hzb.2.1
        rw [show sb + (l - sb) = l by omega] at this
        exact ⟨y,hy,by rw [if_neg (by rw [ho]; decide)]; exact this⟩
      · rw [if_neg c2] at hz; cases hz
  | @wide a τ' k sa hn ho ha h1 h2 h3 =>
    refine Xeeeaaa (gi.wide ho) fun a' m wa e m1 ga z37_ => ?_; subst z37_
    obtain rfl:=one_eq ha e
    refine Xeaeaa ga.wd fun τa wa1 ka wa2 wa3 _ => ?_
    rw [h1] at wa1; cases wa1
    have:k = ka:=by omega
    subst this
    rw [h3] at wa3; cases wa3
    have Ba:=ga.bd
    by_cases c1:h < sa
    · rw [if_pos c1] at hz
      cases hz
      refine ⟨h,l,a,sa,rfl,ga,l0,lh,c1,rfl,by rw [ha]; simp,fun tb x hT hm => ?_⟩
      have hno:¬ τ.op = s_not:=by rcases ho with ho | ho <;> rw [ho] <;> decide
      rcases ho with ho | ho
      · refine Xeeaa ((vi tb x hT hm).zx ho) fun a2 y e2 hy z38_ => ?_; subst z38_
        obtain rfl:=one_eq ha e2
        exact ⟨_,hy,by rw [if_neg hno]⟩
      · refine Xeeeaaa ((vi tb x hT hm).sx ho) fun a2 wa' y e2 ga2 hy z39_ => ?_; subst z39_
        obtain rfl:=one_eq ha e2
        obtain rfl:=ga.uniq ga2
        refine ⟨y,hy,?_⟩
        rw [if_neg hno]
        have e3:y + (if y * 2 ≥ p2 sa then p2 (sa + m) - p2 sa else 0) = (if y * 2 ≥ p2 sa then p2 m - 1 else 0) * p2 sa + y:=by
          split
          · rw [p2_add (by omega) (by omega),Int.sub_mul,Int.mul_comm (p2 m)]; omega
          · omega
        rw [e3]
        exact bits_low l0 (by omega) (by omega)
    · rw [if_neg c1] at hz; cases hz
def dueK (ls:List Lab) (lo hi:Nat):Option (Option (Int × Int × Int)):=
  if (cutOf ls lo hi).length = ls.length then some none
  else if (cutOf ls lo hi).any (·.isNone) = true then some none
  else match (cutOf ls lo hi)[0]? with
    | some (some [i0,p0]) =>
      if cutOf ls lo hi = labR (cutOf ls lo hi).length (fun j => some [i0,p0 + (j:Int)]) then
        match (cutOf ls lo hi)[(cutOf ls lo hi).length - 1]? with
        | some (some [_,pl]) => some (some (pl,p0,i0))
        | _ => none
      else some none
    | _ => none
theorem dueK_none {ls:List Lab} {lo hi:Nat} {args:List Int} (h:dueK ls lo hi = some none):DueIs ls lo hi args none:=by
  unfold dueK at h
  by_cases c1:(cutOf ls lo hi).length = ls.length
  · exact .whole c1
  rw [if_neg c1] at h
  by_cases c2:(cutOf ls lo hi).any (·.isNone) = true
  · exact .hole c1 c2
  rw [if_neg c2] at h
  split at h
  · rename_i i0 p0 e0
    by_cases c3:cutOf ls lo hi = labR (cutOf ls lo hi).length (fun j => some [i0,p0 + (j:Int)])
    · rw [if_pos c3] at h
      split at h <;> cases h
    · exact .odd c1 (by cases hh:(cutOf ls lo hi).any (·.isNone) with | true => exact absurd hh c2 | false => rfl) e0 c3
  · cases h
theorem dueK_some {ls:List Lab} {lo hi:Nat} {args:List Int} {pl p0 i0 a:Int} (h:dueK ls lo hi = some (some (pl,p0,i0))) (h0:0 ≤ i0) (h1:i0 < 10) (ha:args[i0.toNat]? = some a):DueIs ls lo hi args (some [pl,p0,a]):=by
  unfold dueK at h
  by_cases c1:(cutOf ls lo hi).length = ls.length
  · rw [if_pos c1] at h; cases h
  rw [if_neg c1] at h
  by_cases c2:(cutOf ls lo hi).any (·.isNone) = true
  · rw [if_pos c2] at h; cases h
  rw [if_neg c2] at h
  split at h
  · rename_i i0' p0' e0
    by_cases c3:cutOf ls lo hi = labR (cutOf ls lo hi).length (fun j => some [i0',p0' + (j:Int)])
    · rw [if_pos c3] at h
      split at h
      · rename_i il pl' e1
        cases h
        exact .run c1 (by cases hh:(cutOf ls lo hi).any (·.isNone) with | true => exact absurd hh c2 | false => rfl) e0 c3 e1 h0 h1 ha
      · cases h
    · rw [if_neg c3] at h; cases h
  · cases h
def all7 (f:Nat → Bool):Bool:=(List.range 7).all f
theorem all7_at {f:Nat → Bool} (h:all7 f = true) {i:Nat} (hi:i < 7):f i = true:=List.all_eq_true.mp h i (List.mem_range.mpr hi)
theorem imp_of {p q:Prop} [Decidable p] [Decidable q] (h:(!decide p || decide q) = true) (hp:p):q:=by
  rw [decide_eq_true hp] at h
  simpa using h
theorem k_cat {wa wb hi lo:Nat} (h1:1 ≤ wa) (h2:1 ≤ wb) (h3:wa + wb ≤ 6) (h4:lo ≤ hi) (h5:hi < wa + wb) :
    dueK (labR wb (fun j => some [1,(j:Int)]) ++ labR wa (fun j => some [0,(j:Int)])) lo hi =
      if lo = 0 ∧ hi = wa + wb - 1 then some none else if hi < wb then some (some ((hi:Int),(lo:Int),1)) else if wb ≤ lo then some (some ((hi:Int) - (wb:Int),(lo:Int) - (wb:Int),0)) else some none:=by
  have K:all7 (fun wa => all7 fun wb => all7 fun hi => all7 fun lo => !decide (1 ≤ wa ∧ 1 ≤ wb ∧ wa + wb ≤ 6 ∧ lo ≤ hi ∧ hi < wa + wb) || decide (dueK (labR wb (fun j => some [1,(j:Int)]) ++ labR wa (fun j => some [0,(j:Int)])) lo hi =
      if lo = 0 ∧ hi = wa + wb - 1 then some none else if hi < wb then some (some ((hi:Int),(lo:Int),1)) else if wb ≤ lo then some (some ((hi:Int) - (wb:Int),(lo:Int) - (wb:Int),0)) else some none)) = true:=by decide +kernel
  exact imp_of (all7_at (all7_at (all7_at (all7_at K (by omega)) (by omega)) (by omega)) (by omega)) ⟨h1,h2,h3,h4,h5⟩
theorem k_ext {l wd hi lo:Nat} (h1:l < 7) (h2:wd < 7) (h4:lo ≤ hi) (h5:hi < wd) :
    dueK (labR wd (fun j => some [0,(l:Int) + (j:Int)])) lo hi = if lo = 0 ∧ hi = wd - 1 then some none else some (some ((hi:Int) + (l:Int),(lo:Int) + (l:Int),0)):=by
  have K:all7 (fun l => all7 fun wd => all7 fun hi => all7 fun lo => !decide (lo ≤ hi ∧ hi < wd) || decide (dueK (labR wd (fun j => some [0,(l:Int) + (j:Int)])) lo hi = if lo = 0 ∧ hi = wd - 1 then some none else some (some ((hi:Int) + (l:Int),(lo:Int) + (l:Int),0)))) = true:=by decide +kernel
  exact imp_of (all7_at (all7_at (all7_at (all7_at K (by omega)) (by omega)) (by omega)) (by omega)) ⟨h4,h5⟩
theorem k_wide {wa wd hi lo:Nat} (h1:wa < 7) (h2:wd < 7) (h4:lo ≤ hi) (h5:hi < wd) :
    dueK (labR wd (fun j => if (j:Int) < (wa:Int) then some [0,(j:Int)] else none)) lo hi = if lo = 0 ∧ hi = wd - 1 then some none else if hi < wa then some (some ((hi:Int),(lo:Int),0)) else some none:=by
  have K:all7 (fun wa => all7 fun wd => all7 fun hi => all7 fun lo => !decide (lo ≤ hi ∧ hi < wd) || decide (dueK (labR wd (fun j => if (j:Int) < (wa:Int) then some [0,(j:Int)] else none)) lo hi = if lo = 0 ∧ hi = wd - 1 then some none else if hi < wa then some (some ((hi:Int),(lo:Int),0)) else some none)) = true:=by decide +kernel
  exact imp_of (all7_at (all7_at (all7_at (all7_at K (by omega)) (by omega)) (by omega)) (by omega)) ⟨h4,h5⟩
theorem k_other {wd hi lo:Nat} (h2:wd < 7) (h4:lo ≤ hi) (h5:hi < wd):dueK (labR wd (fun _ => none)) lo hi = some none:=by
  have K:all7 (fun wd => all7 fun hi => all7 fun lo => !decide (lo ≤ hi ∧ hi < wd) || decide (dueK (labR wd (fun _ => none)) lo hi = some none)) = true:=by decide +kernel
  exact imp_of (all7_at (all7_at (all7_at K (by omega)) (by omega)) (by omega)) ⟨h4,h5⟩
theorem cut_due {tms:List Tm} {ws:List Int} {u:Nat} {wd:Int} {τ:Tm} (G:Good tms ws u wd) (W:Wd tms ws u τ wd) :
    ∃ ls:List Lab,LabIs tms ws τ wd ls ∧ ls.length = wd.toNat ∧ ∀ lo hi:Nat,lo ≤ hi → (hi:Int) < wd → ∃ r,CutIs tms ws τ hi lo wd r ∧ DueIs ls lo hi τ.args r:=by
  have bd:=G.bd
  cases G with
  | app w o a _ _ =>
    refine Xa (W.inj w) fun z1_ _ => ?_; subst z1_
    refine Xe (toN (show 0 ≤ wd by omega)) fun wn z2_ => ?_; subst z2_
    refine ⟨_,.other (us:=[]) (by rw [o]; decide) (by rw [o]; decide) (by rw [o]; decide) (by rw [o]; decide) (by rw [o]; decide) (by rw [a]; rfl) (by simp) (by simp),by simp [labR],fun lo hi h1 h2 => ⟨none,?_,dueK_none (k_other (by omega) h1 (by omega))⟩⟩
    by_cases c:(lo:Int) = 0 ∧ (hi:Int) = (wn:Int) - 1
    · exact .whole c.1 c.2
    · exact .other c (by rw [o]; decide) (by rw [o]; decide) (by rw [o]; decide) (by rw [o]; decide) (by rw [o]; decide)
  | num w o a _ _ _ _ _ =>
    refine Xa (W.inj w) fun z3_ _ => ?_; subst z3_
    refine Xe (toN (show 0 ≤ wd by omega)) fun wn z4_ => ?_; subst z4_
    refine ⟨_,.other (us:=[]) (by rw [o]; decide) (by rw [o]; decide) (by rw [o]; decide) (by rw [o]; decide) (by rw [o]; decide) (by rw [a]; rfl) (by simp) (by simp),by simp [labR],fun lo hi h1 h2 => ⟨none,?_,dueK_none (k_other (by omega) h1 (by omega))⟩⟩
    by_cases c:(lo:Int) = 0 ∧ (hi:Int) = (wn:Int) - 1
    · exact .whole c.1 c.2
    · exact .other c (by rw [o]; decide) (by rw [o]; decide) (by rw [o]; decide) (by rw [o]; decide) (by rw [o]; decide)
  | @add _ _ _ a' b' w o a ga gb =>
    refine Xa (W.inj w) fun z5_ _ => ?_; subst z5_
    refine Xe ga.wd fun τa wa => ?_
    refine Xe gb.wd fun τb wb => ?_
    refine Xe (toN (show 0 ≤ wd by omega)) fun wn z6_ => ?_; subst z6_
    refine ⟨_,.other (us:=[a',b']) (by rw [o]; decide) (by rw [o]; decide) (by rw [o]; decide) (by rw [o]; decide) (by rw [o]; decide) (by rw [a]; rfl) (by simp) (by simp; exact ⟨⟨_,_,wa⟩,⟨_,_,wb⟩⟩),by simp [labR],fun lo hi h1 h2 => ⟨none,?_,dueK_none (k_other (by omega) h1 (by omega))⟩⟩
    by_cases c:(lo:Int) = 0 ∧ (hi:Int) = (wn:Int) - 1
    · exact .whole c.1 c.2
    · exact .other c (by rw [o]; decide) (by rw [o]; decide) (by rw [o]; decide) (by rw [o]; decide) (by rw [o]; decide)
  | @cat _ _ wa wb a b w o e ga gb _ =>
    refine Xa (W.inj w) fun z7_ _ => ?_; subst z7_
    have Ba:=ga.bd
    have Bb:=gb.bd
    refine Xe ga.wd fun τa Wa => ?_
    refine Xe gb.wd fun τb Wb => ?_
    refine ⟨_,.cat o e Wa Wb Ba.1 Ba.2 Bb.1 Bb.2,by simp [labR]; omega,fun lo hi h1 h2 => ?_⟩
    refine Xaeaa (id Wb) fun tb kb hkb hwb _ => ?_
    refine Xe (toN (show 0 ≤ wa by omega)) fun an z8_ => ?_; subst z8_
    refine Xe (toN (show 0 ≤ wb by omega)) fun bn z9_ => ?_; subst z9_
    have k:=k_cat (wa:=an) (wb:=bn) (hi:=hi) (lo:=lo) (by omega) (by omega) (by omega) h1 (by omega)
    by_cases c:(lo:Int) = 0 ∧ (hi:Int) = (an:Int) + (bn:Int) - 1
    · rw [if_pos (by omega)] at k
      exact ⟨none,.whole c.1 c.2,dueK_none k⟩
    rw [if_neg (by omega)] at k
    refine ⟨_,.cat c o e tb hkb hwb,?_⟩
    by_cases c1:hi < bn
    · rw [if_pos c1] at k
      rw [if_pos (by omega)]
      exact dueK_some k (by decide) (by decide) (by rw [e]; rfl)
    rw [if_neg c1] at k
    rw [if_neg (by omega)]
    by_cases c2:bn ≤ lo
    · rw [if_pos c2] at k
      rw [if_pos (by omega)]
      exact dueK_some k (by decide) (by decide) (by rw [e]; rfl)
    · rw [if_neg c2] at k
      rw [if_neg (by omega)]
      exact dueK_none k
  | @ext _ _ h l wa a w o e d c0 c1 c2 g =>
    refine Xa (W.inj w) fun z10_ _ => ?_; subst z10_
    have Ba:=g.bd
    refine Xe g.wd fun τa Wa => ?_
    refine ⟨_,.ext o e Wa d,by simp [labR],fun lo hi h1 h2 => ?_⟩
    refine Xe (toN c0) fun ln z11_ => ?_; subst z11_
    have k:=k_ext (l:=ln) (wd:=(h - (ln:Int) + 1).toNat) (hi:=hi) (lo:=lo) (by omega) (by omega) h1 (by omega)
    by_cases c:(lo:Int) = 0 ∧ (hi:Int) = (h - (ln:Int) + 1) - 1
    · rw [if_pos (by omega)] at k
      exact ⟨none,.whole c.1 c.2,dueK_none k⟩
    rw [if_neg (by omega)] at k
    exact ⟨_,.ext c o e d,dueK_some k (by decide) (by decide) (by rw [e]; rfl)⟩
  | @zx _ _ m wa a w o e d m1 m6 g =>
    refine Xa (W.inj w) fun z12_ _ => ?_; subst z12_
    have Ba:=g.bd
    refine Xe g.wd fun τa Wa => ?_
    refine Xaeaa (id Wa) fun ta ka hka hwa _ => ?_
    refine Xe (toN (show 0 ≤ wa by omega)) fun an z13_ => ?_; subst z13_
    refine ⟨_,.wide (.inr (.inl o)) e Wa,by simp [labR],fun lo hi h1 h2 => ?_⟩
    have k:=k_wide (wa:=an) (wd:=((an:Int) + m).toNat) (hi:=hi) (lo:=lo) (by omega) (by omega) h1 (by omega)
    by_cases c:(lo:Int) = 0 ∧ (hi:Int) = ((an:Int) + m) - 1
    · rw [if_pos (by omega)] at k
      exact ⟨none,.whole c.1 c.2,dueK_none k⟩
    rw [if_neg (by omega)] at k
    refine ⟨_,.wide c (.inl o) e ta hka hwa,?_⟩
    by_cases c1:hi < an
    · rw [if_pos c1] at k
      rw [if_pos (by omega)]
      exact dueK_some k (by decide) (by decide) (by rw [e]; rfl)
    · rw [if_neg c1] at k
      rw [if_neg (by omega)]
      exact dueK_none k
  | @sx _ _ m wa a w o e d m1 m6 g =>
    refine Xa (W.inj w) fun z14_ _ => ?_; subst z14_
    have Ba:=g.bd
    refine Xe g.wd fun τa Wa => ?_
    refine Xaeaa (id Wa) fun ta ka hka hwa _ => ?_
    refine Xe (toN (show 0 ≤ wa by omega)) fun an z15_ => ?_; subst z15_
    refine ⟨_,.wide (.inr (.inr o)) e Wa,by simp [labR],fun lo hi h1 h2 => ?_⟩
    have k:=k_wide (wa:=an) (wd:=((an:Int) + m).toNat) (hi:=hi) (lo:=lo) (by omega) (by omega) h1 (by omega)
    by_cases c:(lo:Int) = 0 ∧ (hi:Int) = ((an:Int) + m) - 1
    · rw [if_pos (by omega)] at k
      exact ⟨none,.whole c.1 c.2,dueK_none k⟩
    rw [if_neg (by omega)] at k
    refine ⟨_,.wide c (.inr o) e ta hka hwa,?_⟩
    by_cases c1:hi < an
    · rw [if_pos c1] at k
      rw [if_pos (by omega)]
      exact dueK_some k (by decide) (by decide) (by rw [e]; rfl)
    · rw [if_neg c1] at k
      rw [if_neg (by omega)]
      exact dueK_none k
  | @not _ _ _ a w o e g =>
    refine Xa (W.inj w) fun z16_ _ => ?_; subst z16_
    refine Xe g.wd fun τa Wa => ?_
    refine Xe (toN (show 0 ≤ wd by omega)) fun wn z17_ => ?_; subst z17_
    refine ⟨_,.wide (.inl o) e Wa,by simp [labR],fun lo hi h1 h2 => ?_⟩
    have k:=k_wide (wa:=wn) (wd:=((wn:Int)).toNat) (hi:=hi) (lo:=lo) (by omega) (by omega) h1 (by omega)
    by_cases c:(lo:Int) = 0 ∧ (hi:Int) = (wn:Int) - 1
    · rw [if_pos (by omega)] at k
      exact ⟨none,.whole c.1 c.2,dueK_none k⟩
    rw [if_neg (by omega),if_pos (by omega)] at k
    exact ⟨_,.not c o e,dueK_some k (by decide) (by decide) (by rw [e]; rfl)⟩
section
variable {prog:Program} {w:World} {n:Led} {B:BA} {R:RA} {tms:List Tm} {ws:List Int}
theorem t_isNone {cs:Scope} {cl:List (PySem.Str × Addr)} {Γ:Cx prog w cs cl} {m:Loc} {P:Value → Loc → Led → Prop} {x:Option (List Int)} {a:Value} (hx:IsO n x a) (h:P (.bool x.isNone) m n):T Γ (compareOp .Is a .none) m n P:=fun s Q E F N q => by
  cases x with
  | none => cases hx; exact wpAny_is_self rfl (q _ m n _ _ F N h)
  | some xs => refine Xeeeaa hx ?_; clear hx; intro c us e z1_ hm _; subst z1_; exact wpAny_is_other rfl (by simp) (q _ m n _ _ F N h)
structure Chain (tms:List Tm) (ws:List Int) (t:Nat) (lo hi:Int) (i:Nat) (h l:Int) (u:Nat) (k:Int) (r:Option (List Int)):Prop where
  x:∃ wdu τu,Good tms ws u wdu ∧ Wd tms ws u τu wdu ∧ 0 ≤ l ∧ l ≤ h ∧ h < wdu ∧ CutIs tms ws τu h l wdu r
  w:h - l = hi - lo
  d:r = none ∨ u + i ≤ t
  k0:0 ≤ k
  b:∀ tb x,TabOk tms ws tb → ((t:Int),x) ∈ tb → ∃ y,((u:Int),y) ∈ tb ∧ bits x lo (hi - lo + 1) = if k % 2 = 0 then bits y l (hi - lo + 1) else p2 (hi - lo + 1) - 1 - bits y l (hi - lo + 1)
structure Locs (m:Loc) (B:BA) (R:RA) (ta:Addr) (t lo hi:Nat) (tk tk1 tk2:Tok):Prop where
  bank:m (Str.ofString "bank") = some (.ref B.self)
  rw:m (Str.ofString "rewriter") = some (.ref R.self)
  tables:m (Str.ofString "tables") = some (.ref ta)
  high:m (Str.ofString "high") = some (.int hi tk1)
  low:m (Str.ofString "low") = some (.int lo tk2)
  t:m (Str.ofString "t") = some (.int t tk)
theorem IsO.ne {h:Led} {x:Option (List Int)} {v:Value} {I:Addr} {o:Obj} (Fn:Fun h) (hx:IsO h x v) (hI:(I,o) ∈ h) (ho:o.cls ≠ .type "tuple"):∀ a,v = .ref a → @Ne Nat a I:=by
  cases x with
  | none => intro a e; cases hx; cases e
  | some xs =>
    refine Xeeeaa hx ?_; clear hx; intro c us k z2_ hm _; subst z2_
    intro a e
    cases e
    rintro rfl
    exact ho (by rw [← Fn _ _ _ hm hI])
theorem IsO.lt {h:Led} {x:Option (List Int)} {v:Value} {I:Addr} (hx:IsO h x v) (hI:∀ p ∈ h,p.1 < I):∀ a,v = .ref a → @Ne Nat a I:=by
  cases x with
  | none => intro a e; cases hx; cases e
  | some xs =>
    refine Xeeeaa hx ?_; clear hx; intro c us k z3_ hm _; subst z3_
    intro a e
    cases e
    exact Nat.ne_of_lt (hI _ hm)
theorem IsO.upd {h:Led} {x:Option (List Int)} {v:Value} {I:Addr} {o:Obj} (hx:IsO h x v) (hI:∀ a,v = .ref a → @Ne Nat a I):IsO (upd h I o) x v:=by
  cases x with
  | none => exact hx
  | some xs =>
    refine Xeeeaa hx ?_; clear hx; intro c us k z4_ hm q; subst z4_
    exact ⟨c,us,k,rfl,upd_keep hm (hI _ rfl),q⟩
theorem right_spec {t lo hi:Nat} {tk tk1 tk2:Tok} {τ:Tm} {wd:Int} {ls:List Lab} {la ta:Addr} {lvs tvs:List Value} {tbs:List (List (Int × Int))}
    (hb:BankIn w.params n B tms ws) (up:B.Up) (hR:Rw w.params n B R) (hO:Ord tms) (G:Good tms ws t wd) (W:Wd tms ws t τ wd) (h1:lo ≤ hi) (h2:(hi:Int) < wd) (ht9:t ≤ 9) (h0:∀ wd,¬ Good tms ws 0 wd)
    (hl:ListAt n la lvs) (hlv:All2 (IsO n) ls lvs) (hll:ls.length = wd.toNat) (hdue:∃ r,CutIs tms ws τ hi lo wd r ∧ DueIs ls lo hi τ.args r)
    (htl:ListAt n ta tvs) (htv:All2 (fun tb v => ∃ d,v = .ref d ∧ TabAt prog w n d tb ∧ TabOk tms ws tb ∧ ∃ x,((t:Int),x) ∈ tb) tbs tvs) :
    Spec prog w 1098 [.ref B.self,.ref R.self,.ref ta,.ref la,.int hi tk1,.int lo tk2,.int t tk] n 3 (fun v n' => v = .bool true ∧ Ext n n'):=by
  refine sp_law_is_cut_right (fun Γ hr => ?_)
  conv in (stBody S_law_is_cut_right) => whnf
  have hs:=hb.sf
  have bd:=G.bd
  refine Xea hdue ?_; clear hdue; intro r hC hD
  refine Xaeaa (id W) fun hW1 kW hW2 hW3 _ => ?_
  walk_at "s"
  refine t_assignSwap [Str.ofString "told",Str.ofString "here",Str.ofString "turns"] ?_ (by rfl) (by with_unfolding_all rfl)
  walk_at "r"
  refine t_spec (cut_spec hb hR hW1 hW2 hW3 up hC) (Nat.le_trans (by decide) hr) fun vt n1 h => ?_
  refine Xa h ?_; clear h; intro hvt e1
  walk_at "r"
  refine t_newTuple (by simp) fun hx hhx hhx3 => ?_
  walk_at "r"
  refine t_newTuple (by simp) fun x hx' hx3 => ?_
  refine t_unpackT (.head _) rfl ?_
  refine t_inOrder (t_storeI (t_inOrder (t_storeI (t_inOrder (t_storeI (t_inOrder0 ?_) (by rfl))) (by rfl))) (by rfl))
  generalize hn2:(x,tupO [vt,.ref hx,.int 0 _] 0) :: (hx,tupO [.int (hi:Int) tk1,.int (lo:Int) tk2,.int (t:Int) tk] 0) :: n1 = n2
  have e12:Ext n1 n2:=hn2 ▸ Ext.cons.trans Ext.cons
  have hh2:(hx,tupO [.int (hi:Int) tk1,.int (lo:Int) tk2,.int (t:Int) tk] 0) ∈ n2:=hn2 ▸ .tail _ (.head _)
  have e2:Ext n n2:=e1.trans e12
  have hvt2:=hvt.ext e12
  have hb2:=hb.mono (e2.b (B:=B)) up
  have hl2:=hl.mono e2
  have hlv2:=hlv.mono fun _ _ q => q.ext e2
  walk_at "r"
  refine t_spec (due_spec hb2 up hW1 hl2 hlv2 h1 (by omega) (by omega) hD) (Nat.le_trans (by decide) hr) fun vd n3 h => ?_
  refine Xa h ?_; clear h; intro e3 hvd
  have hvt3:=hvt2.ext e3
  refine t_neO hvt3 hvd ?_
  rw [decide_eq_false (show ¬ (r ≠ r) by simp)]
  walk_at "r"
  refine t_for ?_ (by intro _; rfl)
  walk_at "r"
  refine t_range1 fun rg o hrg hrg3 hRg hcl => ?_
  walk_at "r"
  refine t_iterR hRg (by decide) (by decide) (by decide) (by decide) fun I hI hI3 => ?_
  rw [if_pos (by decide)]
  have e4:Ext n3 ((I,riO 0 (9 - 0)) :: (rg,o) :: n3):=Ext.cons.trans Ext.cons
  have hI3':∀ p ∈ n3,p.1 < I:=fun p hp => hI p (.tail _ hp)
  have c0:Chain tms ws t lo hi 0 hi lo t 0 r:=⟨⟨wd,τ,G,W,by exact Int.natCast_nonneg _,by omega,h2,hC⟩,rfl,.inr (by omega),by decide,fun tb x hT hm => ⟨x,hm,by rw [if_pos (by decide)]⟩⟩
  refine Loop.range (a:=0) 9 (fun i m n1 => Locs m B R ta t lo hi tk tk1 tk2 ∧ Ext n3 n1 ∧ (I,riO (0 + i) ((9:Nat) - i)) ∈ n1 ∧ ∃ vt h l u k r hx hus he tkk,m (Str.ofString "told") = some vt ∧ m (Str.ofString "here") = some (.ref hx) ∧ m (Str.ofString "turns") = some (.int k tkk) ∧
      IsO n1 r vt ∧ (hx,tupO hus he) ∈ n1 ∧ All2 IsI [h,l,((u:Nat):Int)] hus ∧ @Ne Nat hx I ∧ (∀ a,vt = .ref a → @Ne Nat a I) ∧ Chain tms ws t lo hi i h l u k r) (by rfl)
    ⟨⟨by rfl,by rfl,by rfl,by rfl,by rfl,by rfl⟩,e4,.head _,vt,hi,lo,t,0,r,hx,_,_,_,by rfl,by rfl,by rfl,hvt3.ext e4,e4 _ (e3 _ hh2),.cons ⟨_,rfl⟩ (.cons ⟨_,rfl⟩ (.cons ⟨_,rfl⟩ .nil)),Nat.ne_of_lt (hI3' _ (e3 _ hh2)),hvt3.lt hI3',c0⟩ (fun i m1 n1 h => h.2.2.1) ?step ?done
  case step =>
    rintro i m1 n4 tl hi9 ⟨hL,hE,hIi,vt,h,l,u,k,r,hx,hus,he,tkk,m1t,m1h,m1k,hO1,hh,hu,hne,hvn,hch⟩
    have hE':Ext n3 (upd n4 I (riO (0 + (i + 1:Nat)) ((9:Nat) - (i + 1:Nat)))):=fun p hp => upd_keep (hE _ hp) (Nat.ne_of_lt (hI3' _ hp))
    have hIi':(I,riO (0 + (i + 1:Nat)) ((9:Nat) - (i + 1:Nat))) ∈ upd n4 I (riO (0 + (i + 1:Nat)) ((9:Nat) - (i + 1:Nat))):=upd_self
    have hh':(hx,tupO hus he) ∈ upd n4 I (riO (0 + (i + 1:Nat)) ((9:Nat) - (i + 1:Nat))):=upd_keep hh hne
    have hO':IsO (upd n4 I (riO (0 + (i + 1:Nat)) ((9:Nat) - (i + 1:Nat)))) r vt:=hO1.upd hvn
    obtain ⟨n5,hn5⟩:∃ n5,n5 = upd n4 I (riO (0 + (i + 1:Nat)) ((9:Nat) - (i + 1:Nat))):=⟨_,rfl⟩
    rw [← hn5] at hE' hIi' hh' hO' ⊢
    have hb5:=hb.mono ((e2.trans (e3.trans hE')).b (B:=B)) up
    have hs5:=hb5.sf
    have hR5:=hR.mono (e2.trans (e3.trans hE'))
    walk_at "r"
    refine t_nameL (v:=vt) m1t ?_ (by rfl) (by decide +kernel)
    walk_at "r"
    refine t_isNotNone hO' ?_
    cases r with
    | none =>
      rw [Option.isSome_none]
      walk_at "r"
      exact ⟨⟨hL.bank,hL.rw,hL.tables,hL.high,hL.low,hL.t⟩,hE',hIi',vt,h,l,u,k,none,hx,hus,he,tkk,m1t,m1h,m1k,hO',hh',hu,hne,hvn,⟨hch.x,hch.w,.inl rfl,hch.k0,hch.b⟩⟩
    | some z =>
      refine Xeeaaaaa hch.x fun wdu τu Gu Wu cl0 clh chw cC => ?_
      refine Xeeeeaaaaaaa (cut_step Gu Wu cl0 clh chw cC) fun h' l' u' wd' hz G' cl0' clh' chw' cw' cArg cB => ?_
      subst hz
      refine Xeeeaa hO' ?_; clear hO'; intro va zus ze z5_ zm zv; subst z5_
      refine Xeae (hu.get (i:=2) (by rfl)) fun v2 g2 t2 z6_ => ?_; subst z6_
      have hzne:@Ne Nat va I:=hvn va rfl
      refine Xeae (zv.get (i:=0) (by rfl)) fun z0 gz0 tz0 z7_ => ?_; subst z7_
      refine Xeae (zv.get (i:=1) (by rfl)) fun z1 gz1 tz1 z8_ => ?_; subst z8_
      refine Xeae (zv.get (i:=2) (by rfl)) fun z2 gz2 tz2 z9_ => ?_; subst z9_
      rw [Option.isSome_some]
      walk_at "r"
      refine t_nameL (v:=.int k tkk) m1k ?_ (by rfl) (by decide +kernel)
      walk_at "r"
      refine t_nameL (v:=.ref B.self) hL.bank ?_ (by rfl) (by decide +kernel)
      walk_at "r"
      refine t_nameL (v:=.ref hx) m1h ?_ (by rfl) (by decide +kernel)
      walk_at "r"
      refine t_itemT hh' (by decide) (by simpa using g2) ?_ (by decide)
      walk_at "r"
      refine t_spec (op_spec hb5 Wu.1) (Nat.le_trans (by decide) hr) fun v n6 hq => ?_
      refine Xae hq ?_; clear hq; intro z10_ t3 z11_; subst z10_; subst z11_
      walk_at "r"
      refine t_nameL (v:=.ref va) m1t ?_ (by rfl) (by decide +kernel)
      walk_at "r"
      refine t_nameL (v:=.ref R.self) hL.rw ?_ (by rfl) (by decide +kernel)
      walk_at "r"
      refine t_itemT zm (by decide) (by simpa using gz0) ?_ (by decide)
      walk_at "r"
      refine t_itemT zm (by decide) (by simpa using gz1) ?_ (by decide)
      walk_at "r"
      refine t_itemT zm (by decide) (by simpa using gz2) ?_ (by decide)
      walk_at "r"
      refine Xe G'.wd fun τ' W' => ?_
      refine Xaeaa (id W') fun W1' kW' W2' W3' _ => ?_
      refine Xeaa (cut_due G' W') fun _ _ _ cdue => ?_
      refine Xe (toN cl0') fun ln hln => ?_
      refine Xe (toN (show 0 ≤ h' by omega)) fun hn hhn => ?_
      refine Xea (cdue ln hn (by omega) (by omega)) fun r' hC' _ => ?_
      rw [← hln,← hhn] at hC'
      refine t_spec (cut_spec hb5 hR5 W1' W2' W3' up hC') (Nat.le_trans (by decide) hr) fun v n7 hq => ?_
      refine Xa hq ?_; clear hq; intro hv7 e7
      refine T.fn fun Fn7 => ?_
      have hlt:=hO u τu Wu.1 u' cArg
      have hd':r' = none ∨ u' + (i + 1) ≤ t:=.inr (by
        rcases hch.d with hd | hd
        · cases hd
        · omega)
      have hbits:∀ tb x,TabOk tms ws tb → ((t:Int),x) ∈ tb → ∃ y,((u':Int),y) ∈ tb ∧ bits x lo ((hi:Int) - lo + 1) =
          if (k + (if decide (τu.op = Str.ofString "bvnot") = true then 1 else 0)) % 2 = 0 then bits y l' ((hi:Int) - lo + 1) else p2 ((hi:Int) - lo + 1) - 1 - bits y l' ((hi:Int) - lo + 1):=by
        intro tb x hT hm
        refine Xea (hch.b tb x hT hm) fun y hy ey => ?_
        refine Xea (cB tb y hT hy) fun y' hy' ey' => ?_
        refine ⟨y',hy',?_⟩
        rw [ey]
        have ew:h - l + 1 = (hi:Int) - lo + 1:=by have:=hch.w; omega
        rw [ew] at ey'
        have k0:=hch.k0
        by_cases hno:τu.op = Str.ofString "bvnot"
        · rw [if_pos (show τu.op = s_not from hno)] at ey'
          rw [decide_eq_true hno,if_pos rfl,ey']
          by_cases hk:k % 2 = 0
          · rw [if_pos hk,if_neg (by omega)]
          · rw [if_neg hk,if_pos (by omega)]; omega
        · rw [if_neg (show ¬ τu.op = s_not from hno)] at ey'
          rw [decide_eq_false hno,if_neg Bool.false_ne_true,ey',Int.add_zero]
      walk_at "r"
      exact ⟨⟨hL.bank,hL.rw,hL.tables,hL.high,hL.low,hL.t⟩,hE'.trans e7,e7 _ hIi',v,h',l',u',_,r',va,zus,ze,_,by rfl,by rfl,by rfl,hv7,e7 _ zm,zv,hzne,hv7.ne Fn7 (e7 _ hIi') (by simp),
        ⟨⟨wd',τ',G',W',cl0',clh',chw',hC'⟩,by have:=hch.w; omega,hd',by have:=hch.k0; split <;> omega,hbits⟩⟩
  case done =>
    rintro m1 n4 ⟨hL,hE,hIi,vt,h,l,u,k,r,hx,hus,he,tkk,m1t,m1h,m1k,hO1,hh,hu,hne,hvn,hch⟩
    refine Xeeaaaaa hch.x fun wdu τu Gu Wu cl0 clh chw cC => ?_
    have hr0:r = none:=by
      rcases hch.d with hd | hd
      · exact hd
      · have:u = 0:=by omega
        subst this
        exact absurd Gu (h0 wdu)
    subst hr0
    have hvt0:vt = .none:=hO1
    subst hvt0
    have hE5:Ext n3 (n4.filter (fun p => p.1 != I)):=fun p hp => List.mem_filter.mpr ⟨hE _ hp,by simpa using Nat.ne_of_lt (hI3' _ hp)⟩
    have hh5:(hx,tupO hus he) ∈ n4.filter (fun p => p.1 != I):=List.mem_filter.mpr ⟨hh,by simpa using hne⟩
    obtain ⟨n5,hn5⟩:∃ n5,n5 = n4.filter (fun p => p.1 != I):=⟨_,rfl⟩
    rw [← hn5] at hE5 hh5 ⊢
    have en5:=e2.trans (e3.trans hE5)
    have bdu:=Gu.bd
    refine Xeae (hu.get (i:=0) (by rfl)) fun vh gh th z12_ => ?_; subst z12_
    refine Xeae (hu.get (i:=1) (by rfl)) fun vl gl tl z13_ => ?_; subst z13_
    refine Xeae (hu.get (i:=2) (by rfl)) fun vu gu tu z14_ => ?_; subst z14_
    have cw:=hch.w
    have k0:=hch.k0
    walk_at "r"
    refine t_nameL (v:=.int hi tk1) hL.high ?_ (by rfl) (by decide +kernel)
    refine t_nameL (v:=.int lo tk2) hL.low ?_ (by rfl) (by decide +kernel)
    walk_at "r"
    refine t_pow (by omega) (by omega) (by decide) fun tw => ?_
    walk_at "s"
    refine t_for ?_ (by intro _; rfl)
    refine t_nameL (v:=.ref ta) hL.tables ?_ (by rfl) (by decide +kernel)
    refine t_iterL (htl.mono en5) fun I2 o2 hJ hJ3 hIt hcls => ?_
    refine Loop.list (vs:=tvs) (fun i m n6 => Locs m B R ta t lo hi tk tk1 tk2 ∧ m (Str.ofString "wide") = some (.int (2 ^ ((hi:Int) - lo + 1).toNat) tw) ∧ m (Str.ofString "told") = some .none ∧ m (Str.ofString "here") = some (.ref hx) ∧ m (Str.ofString "turns") = some (.int k tkk) ∧ Ext n5 n6 ∧ ItL n6 I2 ta i) (by rfl)
      ⟨⟨hL.bank,hL.rw,hL.tables,hL.high,hL.low,hL.t⟩,by rfl,m1t,m1h,m1k,Ext.cons,hIt⟩ (fun i m n6 hq => ⟨hq.2.2.2.2.2.2,htl.mono (en5.trans hq.2.2.2.2.2.1)⟩) ?step2 ?done2
    case step2 =>
      rintro i m2 n6 v o3 hvi ⟨hL2,m2w,m2t,m2h,m2k,hE6,hIt6⟩ hIt7 hcls3
      refine Xeaeaaae (htv.get' hvi) fun tb _ d z15_ hTa hTo xt hxt => ?_; subst z15_
      have hE7:Ext n5 (upd n6 I2 o3):=fun p hp => upd_keep (hE6 _ hp) (Nat.ne_of_lt (hJ _ hp))
      obtain ⟨n7,hn7⟩:∃ n7,n7 = upd n6 I2 o3:=⟨_,rfl⟩
      rw [← hn7] at hE7 hIt7 ⊢
      refine Xea (hch.b tb xt hTo hxt) fun y hy eb => ?_
      refine Xea (hTa.ext (en5.trans hE7)) fun kvs hDk hAk => ?_
      have nd:=hDk.2.choose_spec.choose_spec.2.2.2
      refine Xeae (tab_get nd hAk hxt) fun vx hvx txx z16_ => ?_; subst z16_
      refine Xeae (tab_get nd hAk hy) fun vy hvy tyy z17_ => ?_; subst z17_
      refine Xaa (hTo.at hxt G) fun x0 x1 _ => ?_
      refine Xaa (hTo.at hy Gu) fun y0 y1 _ => ?_
      have px:=p2_64 (k:=wd) bd.2 (by omega)
      have py:=p2_64 (k:=wdu) bdu.2 (by omega)
      have q1:=pow_bd (k:=(lo:Int)) (Int.natCast_nonneg _) (by omega)
      have q2:=pow_bd (k:=l) (by omega) (by omega)
      have q3:=pow_bd (k:=(hi:Int) - lo + 1) (by omega) (by omega)
      have q4:=pow_bd (k:=h - l + 1) (by omega) (by omega)
      have hh7:=hE7 _ hh5
      walk_at "s"
      refine t_assignSwap [Str.ofString "one",Str.ofString "other"] ?_ (by rfl) (by with_unfolding_all rfl)
      walk_at "r"
      refine t_nameL (v:=.int t tk) hL2.t ?_ (by rfl) (by decide +kernel)
      refine t_getI hDk hvx ?_
      walk_at "r"
      refine t_nameL (v:=.int lo tk2) hL2.low ?_ (by rfl) (by decide +kernel)
      refine t_pow (Int.natCast_nonneg _) (by omega) (by decide) fun t8 => ?_
      refine t_div (by omega) (by omega) (fun t9 => ?_) (noPy (by omega))
      refine t_nameL (v:=.int (2 ^ ((hi:Int) - lo + 1).toNat) tw) m2w ?_ (by rfl) (by decide +kernel)
      refine t_mod (by omega) fun t10 => ?_
      walk_at "r"
      refine t_nameL (v:=.ref hx) m2h ?_ (by rfl) (by decide +kernel)
      walk_at "r"
      refine t_itemT hh7 (by decide) (by simpa using gu) ?_ (by decide)
      refine t_getI hDk hvy ?_
      walk_at "r"
      refine t_nameL (v:=.ref hx) m2h ?_ (by rfl) (by decide +kernel)
      walk_at "r"
      refine t_itemT hh7 (by decide) (by simpa using gl) ?_ (by decide)
      refine t_pow (by omega) (by omega) (by decide) fun t11 => ?_
      refine t_div (by omega) (by omega) (fun t12 => ?_) (noPy (by omega))
      walk_at "r"
      refine t_nameL (v:=.ref hx) m2h ?_ (by rfl) (by decide +kernel)
      walk_at "r"
      refine t_itemT hh7 (by decide) (by simpa using gh) ?_ (by decide)
      walk_at "r"
      refine t_nameL (v:=.ref hx) m2h ?_ (by rfl) (by decide +kernel)
      walk_at "r"
      refine t_itemT hh7 (by decide) (by simpa using gl) ?_ (by decide)
      walk_at "r"
      refine t_pow (by omega) (by omega) (by decide) fun t13 => ?_
      refine t_mod (by omega) fun t14 => ?_
      walk_at "r"
      refine t_newTuple (by simp) fun z hz hz3 => ?_
      refine t_unpackT (.head _) rfl ?_
      refine t_inOrder (t_storeI (t_inOrder (t_storeI (t_inOrder0 ?_) (by rfl))) (by rfl))
      have ea:(xt.fdiv (2 ^ (lo:Int).toNat)).fmod (2 ^ ((hi:Int) - lo + 1).toNat) = bits xt lo ((hi:Int) - lo + 1):=rfl
      have eo:(y.fdiv (2 ^ l.toNat)).fmod (2 ^ (h - l + 1).toNat) = bits y l ((hi:Int) - lo + 1):=by rw [show h - l + 1 = (hi:Int) - lo + 1 by omega]; rfl
      have ew:(2:Int) ^ ((hi:Int) - lo + 1).toNat = p2 ((hi:Int) - lo + 1):=rfl
      walk_at "r"
      refine t_nameL (v:=.int k tkk) m2k ?_ (by rfl) (by decide +kernel)
      walk_at "r"
      refine t_mod (by decide) fun t15 => ?_
      walk_at "r"
      rw [Int.fmod_eq_emod_of_nonneg k (by decide)]
      by_cases hk:k % 2 = 0
      · rw [if_pos hk] at eb
        rw [show (k % 2 == 0) = true by simpa using hk]
        walk_at "r"
        rw [show ((xt.fdiv (2 ^ (lo:Int).toNat)).fmod (2 ^ ((hi:Int) - lo + 1).toNat) != (y.fdiv (2 ^ l.toNat)).fmod (2 ^ (h - l + 1).toNat)) = false by rw [ea,eo,eb]; simp]
        walk_at "r"
        exact ⟨⟨hL2.bank,hL2.rw,hL2.tables,hL2.high,hL2.low,hL2.t⟩,m2w,m2t,m2h,m2k,hE7.trans Ext.cons,hIt7.ext Ext.cons⟩
      · rw [if_neg hk] at eb
        rw [show (k % 2 == 0) = false by simpa using hk]
        walk_at "r"
        refine t_nameL (v:=.int (2 ^ ((hi:Int) - lo + 1).toNat) tw) m2w ?_ (by rfl) (by decide +kernel)
        walk_at "r"
        rw [show ((xt.fdiv (2 ^ (lo:Int).toNat)).fmod (2 ^ ((hi:Int) - lo + 1).toNat) != 2 ^ ((hi:Int) - lo + 1).toNat - 1 - (y.fdiv (2 ^ l.toNat)).fmod (2 ^ (h - l + 1).toNat)) = false by rw [ea,eo,eb,ew]; simp]
        walk_at "r"
        exact ⟨⟨hL2.bank,hL2.rw,hL2.tables,hL2.high,hL2.low,hL2.t⟩,m2w,m2t,m2h,m2k,hE7.trans Ext.cons,hIt7.ext Ext.cons⟩
    case done2 =>
      rintro m2 n6 ⟨hL2,m2w,m2t,m2h,m2k,hE6,hIt6⟩
      walk_at "r"
      refine t_nameL (v:=.none) m2t ?_ (by rfl) (by decide +kernel)
      walk_at "r"
      refine t_isNone (x:=none) rfl ?_
      exact ⟨rfl,fun p hp => List.mem_filter.mpr ⟨hE6 _ (en5 _ hp),by simpa using Nat.ne_of_lt (hJ _ (en5 _ hp))⟩⟩
end
section
variable {prog:Program} {w:World} {cs:Scope} {cl:List (PySem.Str × Addr)} {Γ:Cx prog w cs cl} {m:Loc} {n:Led}
theorem upd_Upd {n:Led} {d:Addr} {o o':Obj}:Upd d o o' ((d,o) :: n.filter (fun p => p.1 != d)) (upd n d o'):=Upd.head fun p hp => by
  refine Xa (List.mem_filter.mp hp) fun _ h2 => ?_
  simpa using h2
theorem t_setattr {x C dx:Addr} {es:List DictEntry} {k:Nat} {name:PySem.Str} {v:Value} {P:Unit → Loc → Led → Prop} (h1:(x,instObj C dx) ∈ n) (h2:(dx,dictOf es k) ∈ n)
    (hs:findIn (K w.params) (.ref C) "__setattr__" = some (some (.builtin "object.__setattr__"))) (hp:plainOver (K w.params) C = true) (ht:takerIn (K w.params) C name = some none) (hh:hasDictIn (K w.params) C = true) (hl:(getL name es).isSome = true)
    (hz:∀ tk,(putL name (PyData.keyHash w.params name) (.str name tk) v es).length ≤ 1000)
    (h:∀ tk,P () m (upd n dx (dictOf (putL name (PyData.keyHash w.params name) (.str name tk) v es) (putN name es k)))):T Γ (setAttr (.ref x) name v) m n P:=
  fun s Q E F N q => by
    have N0:News Γ.h₀ Γ.L s.heap ((dx,dictOf es k) :: n.filter (fun p => p.1 != dx)):=fun p hp => by
      rcases List.mem_cons.mp hp with rfl | hp
      · exact N _ h2
      · exact N _ (List.mem_filter.mp hp).1
    exact set_dict F Γ.X N0 (InstAt.of_news N h1 h2) rfl hs hp ht hh hl rfl upd_Upd (hz _) fun h' F' N' => q _ m _ _ _ F' N' (h _)
theorem t_assignA {o:PySem.Expr} {attr:PySem.Str} {pos' pos:Pos} {value:PySem.Expr} {P:Flow → Loc → Led → Prop}
    (h:T Γ (eval value Γ.env) m n (cK Γ (eval o Γ.env) (fun v ov => setAttr ov attr v) (nK P)))
    (hs:swapsWith value (some (.Attribute o attr pos')) pos.line Γ.env = pure false):T Γ (exec (.Assign [.Attribute o attr pos'] value pos) Γ.env) m n P:=
  fun s Q E F N q => plainObj_wpAny_Assign_Attribute (h s _ E F N fun a m1 n1 h1 tk1 F1 N1 p => p _ _ E F1 N1 fun b m2 n2 h2 tk2 F2 N2 p => p _ _ E F2 N2 fun c m3 n3 h3 tk3 F3 N3 p => q _ m3 n3 _ _ F3 N3 p) hs
theorem t_callWithT0 {pos:Pos} {C:Addr} {P:Value → Loc → Led → Prop} {env:Env} (hk:keepIn (K w.params) (.ref C) = true) (h:T Γ (call (.ref C) ([] ++ [])) m n P):T Γ (callWith pos (.ref C) [] (backTo pos (starEach [] env)) []) m n P:=t_callWith0 hk h
def CSpec (prog:Program) (w:World) (f:Addr) (args:List Value) (n:Led) (rem:Nat) (Post:Value → Led → Prop):Prop:=
  ∀ (cs:Scope) (cl:List (PySem.Str × Addr)) (Γ:Cx prog w cs cl) (m:Loc) (s:Shared) (R:Result → Shared → Prop),rem ≤ Γ.rem → Fr Γ.h₀ Γ.L s.heap m → News Γ.h₀ Γ.L s.heap n →
    (∀ v n' h' tk',Fr Γ.h₀ Γ.L h' m → News Γ.h₀ Γ.L h' n' → Post v n' → R (.ok (.ret v)) { s with heap:=h',toks:=tk' }) → codeAny (model prog w) Γ.A (.call (.ref f) ⟨args,[]⟩) R s
theorem t_class {C fI:Addr} {args:List Value} {rem:Nat} {P:Value → Loc → Led → Prop} (hm:makesIn (K w.params) C = true) (hi:findIn (K w.params) (.ref C) "__init__" = some (some (.ref fI))) (hf:isFn (K w.params) (.ref fI) = true) (hr:rem + 1 ≤ Γ.rem)
    (h:∀ x dx,(∀ p ∈ n,p.1 < dx) → dx < x → ∃ Post,CSpec prog w fI (.ref x :: args) ((x,instObj C dx) :: (dx,dictOf [] 0) :: n) rem Post ∧ ∀ v n',Post v n' → v = .none ∧ P (.ref x) m n'):T Γ (call (.ref C) args) m n P:=
  fun s Q E F N q => call_cls F Γ.X N hm hi hf fun x dx h' F' N' l1 l2 => by
    refine Xea (h x dx l1 l2) fun Post sp k => ?_
    have hd:=Γ.hd
    have hu:=Γ.hu
    have eu:(Γ.A.under (.builtin "type.__call__" ⟨.ref C :: args,[]⟩)).units ≤ Γ.A.units + 12:=by
      show Γ.A.units + (Code.builtin "type.__call__" ⟨.ref C :: args,[]⟩).cUnits ≤ _
      have:(Code.builtin "type.__call__" ⟨.ref C :: args,[]⟩).cUnits ≤ 12:=by
        have e:(Code.builtin "type.__call__" ⟨.ref C :: args,[]⟩).cUnits = 1:=by kernel_rfl
        omega
      omega
    refine sp cs cl { Γ with A:=Γ.A.under (.builtin "type.__call__" ⟨.ref C :: args,[]⟩),rem:=rem,hA:=Γ.hA,hh:=Γ.hh,hd:=by show Γ.A.depth + 1 + 4 * rem + 2 < _; omega,hu:=by show (Γ.A.under (.builtin "type.__call__" ⟨.ref C :: args,[]⟩)).units + 16 * rem + 8 < _; omega } m { s with heap:=h' } _ (Nat.le_refl _) F' N' fun v n' h2 tk2 F2 N2 hp => ?_
    refine Xa (k v n' hp) fun z1_ hP => ?_; subst z1_
    exact ⟨rfl,q _ _ _ _ _ F2 N2 hP⟩
theorem CSpec.intro {f:Addr} {args:List Value} {n:Led} {rem:Nat} {Post:Value → Led → Prop} {oc:Value} {od:Option Addr} {osl:Array (Option Value)} {name qual:PySem.Str} {params:Arguments} {body:List Stmt} {scope:Scope} {dV kV doc pm cdv ct:Value} {an:Option Addr} {binds:List (PySem.Str × Value)}
    (ho:(K w.params).lookup f = some ⟨oc,od,.func (fnOf name qual params body scope dV kV doc pm an cdv ct),osl⟩) (hcd:codeIn (K w.params) cdv qual = true)
    (hbind:∀ s,BindsTo s (fnOf name qual params body scope dV kV doc pm an cdv ct) ⟨args,[]⟩ binds) (hloc:∀ y ∈ binds,scope.names.lookup y.1 = some .local)
    (hco:scope.isCoroutine = false) (hgen:scope.isGenerator = false) (hk:scope.kind = .function) (hcell:∀ x ∈ scope.names,x.2 ≠ .cell)
    (h:∀ Γ:Cx prog w scope [],rem ≤ Γ.rem → T Γ (execs body Γ.env) (fun y => binds.reverse.lookup y) n (poK Post)) :
    CSpec prog w f args n (rem + 1) Post:=by
  intro cs cl Γ m s R hr F N q
  have hd:=Γ.hd
  have hu:=Γ.hu
  refine code_def Γ.B F Γ.X N Γ.Tp Γ.hA rfl Γ.hk ho hcd (by omega) (hbind s) hloc (fun g L' h₁ FG F' N' B' X' T' => ?_) hco hgen hk hcell
  exact h { cn:=qual,fa:=f,cd:=cdv,A₀:=Γ.A,A:=Γ.A.deeper (envX qual scope L' f cdv []),base:=Γ.base,outer:=Γ.env :: Γ.outer,h₀:=g,L:=L',p:=Γ.p,loose:=Γ.loose,mean:=Γ.mean,mg:=Γ.mg,mb:=Γ.mb,rem:=rem,
            B:=B',X:=X',Tp:=T',hA:=Around.frames_deeper Γ.hA,hh:=Γ.hh,hk:=hk,hd:=by show Γ.A.depth + 1 + 4 * rem + 2 < _; omega,hu:=by show Γ.A.units + 3 + 16 * rem + 8 < _; omega } (Nat.le_refl _) _ _ _ F' N'
    fun fl m' n' h' tk' F'' N'' p => ⟨L',m',n',F'',N'',fun F3 N3 => q _ n' h' tk' F3 N3 p⟩
end
section
variable {prog:Program} {w:World} {n:Led} {B:BA}
theorem true_attr (P:Params) (B:BA):getL "true_number" (bankD P B) = some (some (.int 1 (B.tk 13))):=by kernel_rfl
theorem false_attr (P:Params) (B:BA):getL "false_number" (bankD P B) = some (some (.int 2 (B.tk 15))):=by kernel_rfl
theorem at_true (P:Params):findIn (K P) (.ref 734) "true_number" = some none:=by kernel_rfl
theorem pa_true (P:Params):plainGet (K P) 734 "true_number" = true:=by kernel_rfl
theorem at_false (P:Params):findIn (K P) (.ref 734) "false_number" = some none:=by kernel_rfl
theorem pa_false (P:Params):plainGet (K P) 734 "false_number" = true:=by kernel_rfl
theorem ma_rw (P:Params):makesIn (K P) 1053 = true:=by kernel_rfl
theorem in_rw (P:Params):findIn (K P) (.ref 1053) "__init__" = some (some (.ref 750)):=by kernel_rfl
theorem ma_tb (P:Params):makesIn (K P) 734 = true:=by kernel_rfl
theorem in_tb (P:Params):findIn (K P) (.ref 734) "__init__" = some (some (.ref 633)):=by kernel_rfl
theorem sa_rw (P:Params):findIn (K P) (.ref 1053) "__setattr__" = some (some (.builtin "object.__setattr__")):=by kernel_rfl
theorem po_rw (P:Params):plainOver (K P) 1053 = true:=by kernel_rfl
theorem ta_bank (P:Params):takerIn (K P) 1053 "bank" = some none:=by kernel_rfl
theorem ta_yes (P:Params):takerIn (K P) 1053 "yes" = some none:=by kernel_rfl
theorem ta_no (P:Params):takerIn (K P) 1053 "no" = some none:=by kernel_rfl
theorem ta_known (P:Params):takerIn (K P) 1053 "known" = some none:=by kernel_rfl
theorem sa_tb (P:Params):findIn (K P) (.ref 734) "__setattr__" = some (some (.builtin "object.__setattr__")):=by kernel_rfl
theorem po_tb (P:Params):plainOver (K P) 734 = true:=by kernel_rfl
end
section
variable {prog:Program} {w:World} {n:Led} {B:BA} {F:Nat} {tms:List Tm} {ws:List Int}
theorem true_spec (hs:Self w.params n B):Spec prog w 383 [.ref B.self] n 1 (fun v n' => n' = n ∧ v = .int 1 (B.tk 13)):=by
  refine sp_true_term (fun Γ hr => ?_)
  conv in (stBody S_true_term) => whnf
  walk_at "r"
  exact t_getattr hs.self hs.dict (pa_true _) (hd_bank _) (at_true _) rfl (true_attr _ _) rfl ⟨rfl,rfl⟩
theorem false_spec (hs:Self w.params n B):Spec prog w 390 [.ref B.self] n 1 (fun v n' => n' = n ∧ v = .int 2 (B.tk 15)):=by
  refine sp_false_term (fun Γ hr => ?_)
  conv in (stBody S_false_term) => whnf
  walk_at "r"
  exact t_getattr hs.self hs.dict (pa_false _) (hd_bank _) (at_false _) rfl (false_attr _ _) rfl ⟨rfl,rfl⟩
theorem t_dict0 {cs:Scope} {cl:List (PySem.Str × Addr)} {Γ:Cx prog w cs cl} {m:Loc} {pos:Pos} {P:Value → Loc → Led → Prop} {env:Env} (h:∀ x,(∀ p ∈ n,p.1 < x) → 3 < x → P (.ref x) m ((x,dictO #[] 0) :: n)):T Γ (eval (.Dict [] [] pos) env) m n P:=
  fun s Q E F N q => wpAny_Dict_empty (by
    refine Xa (push_led F N (dictO #[] 0)) fun F' N' => ?_
    exact q _ m _ _ _ F' N' (h _ (fun p hp => Heap.lt_size (N p hp).1) (Γ.lo F)))
theorem t_setA {cs:Scope} {cl:List (PySem.Str × Addr)} {Γ:Cx prog w cs cl} {m:Loc} {x C dx:Addr} {es:List DictEntry} {k:Nat} {name:PySem.Str} {v:Value} {P:Unit → Loc → Led → Prop} (h1:(x,instObj C dx) ∈ n) (h2:(dx,dictOf es k) ∈ n) (hne:x ≠ dx)
    (hs:findIn (K w.params) (.ref C) "__setattr__" = some (some (.builtin "object.__setattr__"))) (hp:plainOver (K w.params) C = true) (ht:takerIn (K w.params) C name = some none) (hh:hasDictIn (K w.params) C = true) (hl:(getL name es).isSome = true)
    (hz:∀ tk,(putL name (PyData.keyHash w.params name) (.str name tk) v es).length ≤ 1000)
    (h:∀ tk n',(x,instObj C dx) ∈ n' → (dx,dictOf (putL name (PyData.keyHash w.params name) (.str name tk) v es) (putN name es k)) ∈ n' → ExtD dx n n' → P () m n'):T Γ (setAttr (.ref x) name v) m n P:=
  t_setattr h1 h2 hs hp ht hh hl hz fun tk => h tk _ (upd_keep h1 hne) upd_self (ExtD.refl.upd)
theorem Self.extD {d:Addr} {n':Led} (h:Self w.params n B) (e:ExtD d n n') (h1:B.self ≠ d) (h2:B.dict ≠ d):Self w.params n' B:=⟨e _ _ h.self h1,e _ _ h.dict h2⟩
theorem ExtD.trans {d:Addr} {n n' n'':Led} (h:ExtD d n n') (k:ExtD d n' n''):ExtD d n n'':=fun a o ha hd => k a o (h a o ha hd) hd
theorem cs_rwinit {v0 v1:Value} {rem:Nat} {Post:Value → Led → Prop}
    (h:∀ Γ:Cx prog w sc_rwinit [],rem ≤ Γ.rem → T Γ (execs (stBody S_rwinit) Γ.env) (fun y => ([(Str.ofString "bank",v1),(Str.ofString "self",v0)]:List (PySem.Str × Value)).lookup y) n (poK Post)):CSpec prog w 750 [v0,v1] n (rem + 1) Post:=
  CSpec.intro (fn_rwinit w.params) (cd_rwinit w.params) (fun s => BindsTo.of_eq (bi_rwinit v0 v1)) (lo_rwinit v0 v1) (by kernel_rfl) (by kernel_rfl) (by kernel_rfl) ce_rwinit h
theorem rwinit_spec {x dx:Addr} (hs:Self w.params n B) (hx:(x,instObj 1053 dx) ∈ n) (hd:(dx,dictOf [] 0) ∈ n) (hne:x ≠ dx) (h1:B.self ≠ dx) (h2:B.dict ≠ dx) :
    CSpec prog w 750 [.ref x,.ref B.self] n 2 (fun v n' => v = .none ∧ ExtD dx n n' ∧ ∃ R:RA,R.self = x ∧ Rw w.params n' B R):=by
  refine cs_rwinit (fun Γ hr => ?_)
  conv in (stBody S_rwinit) => whnf
  walk_at "s"
  refine t_assignA ?_ (by with_unfolding_all rfl)
  walk_at "r"
  refine t_setA hx hd hne (sa_rw _) (po_rw _) (ta_bank _) (hd_rw _) (by rfl) (fun _ => (by decide:(1:Nat) ≤ 1000)) fun tk1 n1 hx1 hd1 e1 => ?_
  have hs1:=hs.extD e1 h1 h2
  walk_at "s"
  refine t_assignA ?_ (by with_unfolding_all rfl)
  walk_at "r"
  refine t_method hs1.self hs1.dict (pg_true_term _) (fi_true_term _) (if_true_term _) (gl_true_term _ _) ?_
  refine t_callWith0 (kp_true_term _) ?_
  refine t_spec (true_spec hs1) (Nat.le_trans (by decide) hr) fun v n' h => ?_
  refine Xa h ?_; clear h; intro z1_ z2_; subst z1_; subst z2_
  walk_at "r"
  refine t_setA hx1 hd1 hne (sa_rw _) (po_rw _) (ta_yes _) (hd_rw _) (by rfl) (fun _ => (by decide:(2:Nat) ≤ 1000)) fun tk2 n2 hx2 hd2 e2 => ?_
  have hs2:=hs1.extD e2 h1 h2
  walk_at "s"
  refine t_assignA ?_ (by with_unfolding_all rfl)
  walk_at "r"
  refine t_method hs2.self hs2.dict (pg_false_term _) (fi_false_term _) (if_false_term _) (gl_false_term _ _) ?_
  refine t_callWith0 (kp_false_term _) ?_
  refine t_spec (false_spec hs2) (Nat.le_trans (by decide) hr) fun v n' h => ?_
  refine Xa h ?_; clear h; intro z3_ z4_; subst z3_; subst z4_
  walk_at "r"
  refine t_setA hx2 hd2 hne (sa_rw _) (po_rw _) (ta_no _) (hd_rw _) (by rfl) (fun _ => (by decide:(3:Nat) ≤ 1000)) fun tk3 n3 hx3 hd3 e3 => ?_
  walk_at "s"
  refine t_assignA ?_ (by with_unfolding_all rfl)
  refine t_dict0 fun kn hkn hkn3 => ?_
  walk_at "r"
  refine t_setA (.tail _ hx3) (.tail _ hd3) hne (sa_rw _) (po_rw _) (ta_known _) (hd_rw _) (by rfl) (fun _ => (by decide:(4:Nat) ≤ 1000)) fun tk4 n4 hx4 hd4 e4 => ?_
  walk_at "r"
  refine ⟨rfl,e1.trans (e2.trans (e3.trans fun a o ha hd => e4 a o (.tail _ ha) hd)),⟨x,dx,kn,fun i => match i with | 0 => tk1 | 1 => tk2 | 2 => tk3 | _ => tk4,.int 1 (B.tk 13),.int 2 (B.tk 15),4⟩,rfl,hx4,hd4⟩
end
section
variable {prog:Program} {w:World} {n:Led} {B:BA}
theorem t_appendE {cs:Scope} {cl:List (PySem.Str × Addr)} {Γ:Cx prog w cs cl} {m:Loc} {P:Value → Loc → Led → Prop} {l:Addr} {vs:List Value} {e:Nat} {x:Value} (hm:(l,listO vs e) ∈ n) (hz:vs.length < 2 ^ 20) (h:∀ n',(l,listO (vs ++ [x]) (e + 1)) ∈ n' → ExtD l n n' → P .none m n'):T Γ (call (.builtin "list.append") [.ref l,x]) m n P:=
  t_append hm hz (h _ upd_self ExtD.refl.upd)
theorem make_core {es:List DictEntry} {k:Nat} {xs:List (Tm × Addr × Value)} {vo va vs vd:List Value} {eo ea es' ed:Nat} {v0 v2 v3:Value} {a:Addr} {τ:Tm}
    (hself:(B.self,instObj 734 B.dict) ∈ n) (hdict:(B.dict,dictOf es k) ∈ n)
    (g1:getL "numbers" es = some (some (.ref B.numbers))) (g2:getL "term_ops" es = some (some (.ref B.ops))) (g3:getL "term_args" es = some (some (.ref B.args))) (g4:getL "term_sorts" es = some (some (.ref B.sorts))) (g5:getL "term_datas" es = some (some (.ref B.datas)))
    (nd:[B.self,B.dict,B.ops,B.args,B.sorts,B.datas,B.numbers].Nodup) (mo:(B.ops,listO vo eo) ∈ n) (ma:(B.args,listO va ea) ∈ n) (ms:(B.sorts,listO vs es') ∈ n) (md:(B.datas,listO vd ed) ∈ n) (hd:KDict prog w n B.numbers xs)
    (hf:atKey xs τ = none) (hx:xs.length < 100) (l1:vo.length < 100) (l2:va.length < 100) (l3:vs.length < 100) (l4:vd.length < 100)
    (h0:IsS τ.op v0) (h1:IsK n τ.args a) (h2:IsI τ.sort v2) (h3:IsD n τ.data v3) (hw:τ.wf) :
    Spec prog w 348 [.ref B.self,v0,.ref a,v2,v3] n 1 (fun v n' => IsI vo.length v ∧ (B.ops,listO (vo ++ [v0]) (eo + 1)) ∈ n' ∧ (B.args,listO (va ++ [.ref a]) (ea + 1)) ∈ n' ∧ (B.sorts,listO (vs ++ [v2]) (es' + 1)) ∈ n' ∧ (B.datas,listO (vd ++ [v3]) (ed + 1)) ∈ n' ∧
      (∃ x,KDict prog w n' B.numbers (xs ++ [(τ,x,v)])) ∧ ∀ b o,(b,o) ∈ n → b ∉ [B.ops,B.args,B.sorts,B.datas,B.numbers] → (b,o) ∈ n'):=by
  refine sp_make (fun Γ hr => ?_)
  conv in (stBody S_make) => whnf
  walk_at "r"
  refine t_newTuple (by simp) fun x hx hx3 => ?_
  walk_at "r"
  refine t_getattr (.tail _ hself) (.tail _ hdict) (pa_numbers _) (hd_bank _) (at_numbers _) rfl g1 rfl ?_
  refine Xaeeaaa (id hd) fun hd0 ds dp hdm hd2 hd3 hd4 => ?_
  have hk:keyIn ((x,tupO [v0,Value.ref a,v2,v3] 0) :: n) τ x:=⟨v0,a,v2,v3,0,.head _,h0,h1.mono (B:=B) Ext.cons.b,h2,h3.mono (B:=B) Ext.cons.b,hw⟩
  have hd1:KDict prog w ((x,tupO [v0,Value.ref a,v2,v3] 0) :: n) B.numbers xs:=⟨hd0,ds,dp,.tail _ hdm,hd2,fun y hy => (hd3 y hy).mono (B:=B) Ext.cons.b,hd4⟩
  refine t_getM (.tail _ hdm) ?_
  walk_at "r"
  refine t_dget hd1 hk ?_
  rw [hf]
  simp only [Option.map_none,Option.getD_none]
  simp only [List.nodup_cons,List.mem_cons,List.not_mem_nil,or_false,not_or,List.nodup_nil,and_true,not_false_eq_true] at nd
  refine Xaaaaa nd ?_; clear nd; intro z1_ z2_ z3_ z4_ z5_ z6; refine Xaaaaa z1_ ?_; clear z1_; intro p1 p2 p3 p4 p5 p6; refine Xaaaa z2_ ?_; clear z2_; intro q2 q3 q4 q5 q6; refine Xaaa z3_ ?_; clear z3_; intro r3 r4 r5 r6; refine Xaa z4_ ?_; clear z4_; intro u4 u5 u6; refine Xa z5_ ?_; clear z5_; intro w5 w6
  refine T.fn fun Fn => ?_
  walk_at "r"
  refine kT (by rfl) ?_
  walk_at "r"
  refine t_getattr (.tail _ hself) (.tail _ hdict) (pa_ops _) (hd_bank _) (at_ops _) rfl g2 rfl ?_
  walk_at "r"
  refine t_len (.tail _ mo) (by omega) fun tk => ?_
  walk_at "r"
  refine t_getattr (.tail _ hself) (.tail _ hdict) (pa_ops _) (hd_bank _) (at_ops _) rfl g2 rfl ?_
  refine t_appendM (.tail _ mo) ?_
  walk_at "r"
  refine t_appendE (.tail _ mo) (by omega) fun n2 k2 e2 => ?_
  walk_at "r"
  refine t_getattr (e2 _ _ (.tail _ hself) p2) (e2 _ _ (.tail _ hdict) q2) (pa_args _) (hd_bank _) (at_args _) rfl g3 rfl ?_
  refine t_appendM (e2 _ _ (.tail _ ma) (Ne.symm r3)) ?_
  walk_at "r"
  refine t_appendE (e2 _ _ (.tail _ ma) (Ne.symm r3)) (by omega) fun n3 k3 e3 => ?_
  walk_at "r"
  refine t_getattr (e3 _ _ (e2 _ _ (.tail _ hself) p2) p3) (e3 _ _ (e2 _ _ (.tail _ hdict) q2) q3) (pa_sorts _) (hd_bank _) (at_sorts _) rfl g4 rfl ?_
  have ms3:=e3 _ _ (e2 _ _ (.tail _ ms) (Ne.symm r4)) (Ne.symm u4)
  refine t_appendM ms3 ?_
  walk_at "r"
  refine t_appendE ms3 (by omega) fun n4 k4 e4 => ?_
  walk_at "r"
  refine t_getattr (e4 _ _ (e3 _ _ (e2 _ _ (.tail _ hself) p2) p3) p4) (e4 _ _ (e3 _ _ (e2 _ _ (.tail _ hdict) q2) q3) q4) (pa_datas _) (hd_bank _) (at_datas _) rfl g5 rfl ?_
  have md4:=e4 _ _ (e3 _ _ (e2 _ _ (.tail _ md) (Ne.symm r5)) (Ne.symm u5)) (Ne.symm w5)
  refine t_appendM md4 ?_
  walk_at "r"
  refine t_appendE md4 (by omega) fun n5 k5 e5 => ?_
  walk_at "r"
  have e25:∀ b o,(b,o) ∈ (x,tupO [v0,Value.ref a,v2,v3] 0) :: n → b ≠ B.ops → b ≠ B.args → b ≠ B.sorts → b ≠ B.datas → (b,o) ∈ n5:=fun b o hb c1 c2 c3 c4 => e5 _ _ (e4 _ _ (e3 _ _ (e2 _ _ hb c1) c2) c3) c4
  have tne:∀ {c:Addr} {us:List Value} {q:Nat},(c,tupO us q) ∈ (x,tupO [v0,Value.ref a,v2,v3] 0) :: n → (c,tupO us q) ∈ n5:=fun {c us q} hc =>
    e25 _ _ hc (Fn.ne hc (.tail _ mo) (ne_cls (by simp))) (Fn.ne hc (.tail _ ma) (ne_cls (by simp))) (Fn.ne hc (.tail _ ms) (ne_cls (by simp))) (Fn.ne hc (.tail _ md) (ne_cls (by simp)))
  have keyU:∀ {t:Tm} {c:Addr},keyIn ((x,tupO [v0,Value.ref a,v2,v3] 0) :: n) t c → keyIn n5 t c:=by
    intro t c hc
    refine Xeeeeeaaaaa hc ?_; clear hc; intro y0 b y2 y3 e c1 c2 z6_ c4 c5 c6; refine Xeea z6_ ?_; clear z6_; intro us e' c3 c3'
    refine ⟨y0,b,y2,y3,e,tne c1,c2,⟨us,e',tne c3,c3'⟩,c4,?_,c6⟩
    cases hdat:t.data with
    | i z => rw [hdat] at c5; exact c5
    | p z z' => rw [hdat] at c5; refine Xeeeaa c5 ?_; clear c5; intro c us e z7_ hc hv; subst z7_; exact ⟨c,us,e,rfl,tne hc,hv⟩
  have hd5:KDict prog w n5 B.numbers xs:=⟨hd0,ds,dp,e25 _ _ (.tail _ hdm) (Ne.symm r6) (Ne.symm u6) (Ne.symm w6) (Ne.symm z6),hd2,fun y hy => keyU ((hd3 y hy).mono (B:=B) Ext.cons.b),hd4⟩
  refine t_getattr (e25 _ _ (.tail _ hself) p2 p3 p4 p5) (e25 _ _ (.tail _ hdict) q2 q3 q4 q5) (pa_numbers _) (hd_bank _) (at_numbers _) rfl g1 rfl ?_
  walk_at "r"
  refine t_dset hd5 (keyU hk) (by omega) hf fun es6 ep6 hd6 => ?_
  walk_at "r"
  refine ⟨⟨tk,rfl⟩,upd_keep (e5 _ _ (e4 _ _ (e3 _ _ k2 r3) r4) r5) r6,upd_keep (e5 _ _ (e4 _ _ k3 u4) u5) u6,upd_keep (e5 _ _ k4 w5) w6,upd_keep k5 z6,⟨x,hd6⟩,fun b o hb hn => ?_⟩
  simp only [List.mem_cons,List.not_mem_nil,or_false,not_or] at hn
  exact upd_keep (e25 _ _ (.tail _ hb) hn.1 hn.2.1 hn.2.2.1 hn.2.2.2.1) hn.2.2.2.2
end
section
variable {prog:Program} {w:World} {n:Led}
theorem cs_init {v0:Value} {rem:Nat} {Post:Value → Led → Prop}
    (h:∀ Γ:Cx prog w sc_init [],rem ≤ Γ.rem → T Γ (execs (stBody S_init) Γ.env) (fun y => ([(Str.ofString "self",v0)]:List (PySem.Str × Value)).lookup y) n (poK Post)):CSpec prog w 215 [v0] n (rem + 1) Post:=
  CSpec.intro (fn_init w.params) (cd_init w.params) (fun s => BindsTo.of_eq (bi_init v0)) (lo_init v0) (by kernel_rfl) (by kernel_rfl) (by kernel_rfl) ce_init h
theorem ta_names (P:Params):takerIn (K P) 734 "sort_names" = some none:=by kernel_rfl
theorem ta_widths (P:Params):takerIn (K P) 734 "sort_widths" = some none:=by kernel_rfl
theorem ta_fnames (P:Params):takerIn (K P) 734 "fun_names" = some none:=by kernel_rfl
theorem ta_fargs (P:Params):takerIn (K P) 734 "fun_args" = some none:=by kernel_rfl
theorem ta_fres (P:Params):takerIn (K P) 734 "fun_results" = some none:=by kernel_rfl
theorem ta_fresh (P:Params):takerIn (K P) 734 "fresh_count" = some none:=by kernel_rfl
theorem ta_ops (P:Params):takerIn (K P) 734 "term_ops" = some none:=by kernel_rfl
theorem ta_args (P:Params):takerIn (K P) 734 "term_args" = some none:=by kernel_rfl
theorem ta_sorts (P:Params):takerIn (K P) 734 "term_sorts" = some none:=by kernel_rfl
theorem ta_datas (P:Params):takerIn (K P) 734 "term_datas" = some none:=by kernel_rfl
theorem ta_numbers (P:Params):takerIn (K P) 734 "numbers" = some none:=by kernel_rfl
theorem ta_true (P:Params):takerIn (K P) 734 "true_number" = some none:=by kernel_rfl
theorem ta_false (P:Params):takerIn (K P) 734 "false_number" = some none:=by kernel_rfl
theorem ta_bvn (P:Params):takerIn (K P) 734 "bv_numbers" = some none:=by kernel_rfl
def τ0:Tm:=⟨Str.ofString "",[],0,.i 0⟩
def τT:Tm:=⟨Str.ofString "true",[],0,.i 0⟩
def τF:Tm:=⟨Str.ofString "false",[],0,.i 0⟩
def bankE (P:Params) (B:BA):List DictEntry:=(bankD P B).take 13
structure Core (prog:Program) (w:World) (n:Led) (B:BA):Prop where
  self:(B.self,instObj 734 B.dict) ∈ n
  dict:(B.dict,dictOf (bankE w.params B) 13) ∈ n
  ops:∃ vs e,(B.ops,listO vs e) ∈ n ∧ All2 (fun (t:Tm) v => IsS t.op v) [τ0,τT,τF] vs
  args:∃ vs e,(B.args,listO vs e) ∈ n ∧ All2 (fun (t:Tm) v => IsT n t.args v) [τ0,τT,τF] vs
  sorts:∃ vs e,(B.sorts,listO vs e) ∈ n ∧ All2 (fun (t:Tm) v => IsI t.sort v) [τ0,τT,τF] vs
  datas:∃ vs e,(B.datas,listO vs e) ∈ n ∧ All2 (fun (t:Tm) v => IsD n t.data v) [τ0,τT,τF] vs
  widths:∃ vs e,(B.widths,listO vs e) ∈ n ∧ All2 IsI [0,0,0] vs
  nums:∃ xs,KDict prog w n B.numbers xs ∧ (∀ x ∈ xs,∃ i:Nat,IsI i x.2.2 ∧ 0 < i ∧ [τ0,τT,τF][i]? = some x.1) ∧ xs.length < 3
  names:∃ vs e,(B.names,listO vs e) ∈ n ∧ vs.length = 3
  fnames:∃ vs e,(B.fnames,listO vs e) ∈ n ∧ vs.length ≤ 0
  fargs:∃ vs e,(B.fargs,listO vs e) ∈ n ∧ vs.length ≤ 0
  fres:∃ vs e,(B.fres,listO vs e) ∈ n ∧ vs.length ≤ 0
  up:∀ z,@LT.lt Nat _ B.numbers z → BA.Up { B with bvn:=z }
theorem nodup7 {x dx a b c d e:Addr} (h0:@LT.lt Nat _ dx x) (h1:@LT.lt Nat _ x a) (h2:@LT.lt Nat _ a b) (h3:@LT.lt Nat _ b c) (h4:@LT.lt Nat _ c d) (h5:@LT.lt Nat _ d e):[x,dx,a,b,c,d,e].Nodup:=by
  simp only [List.nodup_cons,List.mem_cons,List.not_mem_nil,or_false,not_or,List.nodup_nil,and_true,not_false_eq_true]
  refine ⟨⟨ane ?_,ane ?_,ane ?_,ane ?_,ane ?_,ane ?_⟩,⟨ane ?_,ane ?_,ane ?_,ane ?_,ane ?_⟩,⟨ane ?_,ane ?_,ane ?_,ane ?_⟩,⟨ane ?_,ane ?_,ane ?_⟩,⟨ane ?_,ane ?_⟩,ane ?_⟩ <;> omega
theorem keep5 {n n':Led} {a b c d e:Addr} (h2:@LT.lt Nat _ a b) (h3:@LT.lt Nat _ b c) (h4:@LT.lt Nat _ c d) (h5:@LT.lt Nat _ d e) (k:∀ x o,(x,o) ∈ n → x ∉ [a,b,c,d,e] → (x,o) ∈ n')
    {x:Addr} {o:Obj} (h:(x,o) ∈ n) (s:@LT.lt Nat _ x a ∨ (@LT.lt Nat _ a x ∧ @LT.lt Nat _ x b) ∨ @LT.lt Nat _ e x):(x,o) ∈ n':=by
  refine k x o h ?_
  simp only [List.mem_cons,List.not_mem_nil,or_false,not_or]
  exact ⟨ane (by omega),ane (by omega),ane (by omega),ane (by omega),ane (by omega)⟩
theorem KDict.extD {prog:Program} {w:World} {n n':Led} {d dx:Addr} {es:List DictEntry} {k:Nat} {xs} (h:KDict prog w n d xs) (Fn:Fun n) (hx:(dx,dictOf es k) ∈ n) (hd:d ≠ dx) (e:ExtD dx n n'):KDict prog w n' d xs:=
  h.mono (B:=⟨d,d,d,d,d,d,d,d,d,d,d,d,d,fun _ => 0,0⟩) (fun a o ha hk => e a o ha (by
    rintro rfl
    rcases hk with hk | ⟨us,q,hk⟩
    · exact hd (Nat.le_antisymm hk.1 hk.2)
    · exact absurd (congrArg Obj.cls ((Fn _ _ _ hx ha).trans hk)) (by simp))) ⟨Nat.le_refl _,Nat.le_refl _⟩
theorem KDict.ext {prog:Program} {w:World} {n n':Led} {d:Addr} {xs} (h:KDict prog w n d xs) (e:Ext n n'):KDict prog w n' d xs:=h.mono (B:=⟨d,d,d,d,d,d,d,d,d,d,d,d,d,fun _ => 0,0⟩) e.b ⟨Nat.le_refl _,Nat.le_refl _⟩
theorem atKey_one {k k':Tm} {a:Addr} {v:Value} (h:k' ≠ k):atKey [(k',a,v)] k = none:=by
  unfold atKey
  rw [List.find?_cons_of_neg (by simpa using h)]
  rfl
theorem init_spec {x dx:Addr} (hx:(x,instObj 734 dx) ∈ n) (hd:(dx,dictOf [] 0) ∈ n) (hlt:@LT.lt Nat _ dx x):CSpec prog w 215 [.ref x] n 3 (fun v n' => v = .none ∧ ExtD dx n n' ∧ ∃ B:BA,B.self = x ∧ B.dict = dx ∧ Core prog w n' B):=by
  have hne:x ≠ dx:=Nat.ne_of_gt hlt
  refine cs_init (fun Γ hr => ?_)
  conv in (stBody S_init) => whnf
  walk_at "s"
  refine t_assignA ?_ (by with_unfolding_all rfl)
  walk_at "r"
  refine t_newList (by simp) fun l0 hl0 hl03 => ?_
  walk_at "r"
  refine t_setA (.tail _ hx) (.tail _ hd) hne (sa_tb _) (po_tb _) (ta_names _) (hd_bank _) (by rfl) (fun _ => (by decide:(1:Nat) ≤ 1000)) fun k0 n0 hx0 hd0 e0 => ?_
  walk_at "s"
  refine t_assignA ?_ (by with_unfolding_all rfl)
  walk_at "r"
  refine t_newList (by simp) fun l1 hl1 hl13 => ?_
  walk_at "r"
  refine t_setA (.tail _ hx0) (.tail _ hd0) hne (sa_tb _) (po_tb _) (ta_widths _) (hd_bank _) (by rfl) (fun _ => (by decide:(2:Nat) ≤ 1000)) fun k1 n1 hx1 hd1 e1 => ?_
  walk_at "s"
  refine t_assignA ?_ (by with_unfolding_all rfl)
  walk_at "r"
  refine t_newList (by simp) fun l2 hl2 hl23 => ?_
  walk_at "r"
  refine t_setA (.tail _ hx1) (.tail _ hd1) hne (sa_tb _) (po_tb _) (ta_fnames _) (hd_bank _) (by rfl) (fun _ => (by decide:(3:Nat) ≤ 1000)) fun k2 n2 hx2 hd2 e2 => ?_
  walk_at "s"
  refine t_assignA ?_ (by with_unfolding_all rfl)
  walk_at "r"
  refine t_newList (by simp) fun l3 hl3 hl33 => ?_
  walk_at "r"
  refine t_setA (.tail _ hx2) (.tail _ hd2) hne (sa_tb _) (po_tb _) (ta_fargs _) (hd_bank _) (by rfl) (fun _ => (by decide:(4:Nat) ≤ 1000)) fun k3 n3 hx3 hd3 e3 => ?_
  walk_at "s"
  refine t_assignA ?_ (by with_unfolding_all rfl)
  walk_at "r"
  refine t_newList (by simp) fun l4 hl4 hl43 => ?_
  walk_at "r"
  refine t_setA (.tail _ hx3) (.tail _ hd3) hne (sa_tb _) (po_tb _) (ta_fres _) (hd_bank _) (by rfl) (fun _ => (by decide:(5:Nat) ≤ 1000)) fun k4 n4 hx4 hd4 e4 => ?_
  walk_at "s"
  refine t_assignA ?_ (by with_unfolding_all rfl)
  walk_at "r"
  refine t_setA hx4 hd4 hne (sa_tb _) (po_tb _) (ta_fresh _) (hd_bank _) (by rfl) (fun _ => (by decide:(6:Nat) ≤ 1000)) fun k5 n5 hx5 hd5 e5 => ?_
  walk_at "s"
  refine t_assignA ?_ (by with_unfolding_all rfl)
  walk_at "r"
  refine t_newList (by simp) fun l6 hl6 hl63 => ?_
  walk_at "r"
  refine t_setA (.tail _ hx5) (.tail _ hd5) hne (sa_tb _) (po_tb _) (ta_ops _) (hd_bank _) (by rfl) (fun _ => (by decide:(7:Nat) ≤ 1000)) fun k6 n6 hx6 hd6 e6 => ?_
  walk_at "s"
  refine t_assignA ?_ (by with_unfolding_all rfl)
  walk_at "r"
  refine t_newTuple (by simp) fun a7 ha7 ha73 => ?_
  walk_at "r"
  refine t_newList (by simp) fun l7 hl7 hl73 => ?_
  walk_at "r"
  refine t_setA (.tail _ (.tail _ hx6)) (.tail _ (.tail _ hd6)) hne (sa_tb _) (po_tb _) (ta_args _) (hd_bank _) (by rfl) (fun _ => (by decide:(8:Nat) ≤ 1000)) fun k7 n7 hx7 hd7 e7 => ?_
  walk_at "s"
  refine t_assignA ?_ (by with_unfolding_all rfl)
  walk_at "r"
  refine t_newList (by simp) fun l8 hl8 hl83 => ?_
  walk_at "r"
  refine t_setA (.tail _ hx7) (.tail _ hd7) hne (sa_tb _) (po_tb _) (ta_sorts _) (hd_bank _) (by rfl) (fun _ => (by decide:(9:Nat) ≤ 1000)) fun k8 n8 hx8 hd8 e8 => ?_
  walk_at "s"
  refine t_assignA ?_ (by with_unfolding_all rfl)
  walk_at "r"
  refine t_newList (by simp) fun l9 hl9 hl93 => ?_
  walk_at "r"
  refine t_setA (.tail _ hx8) (.tail _ hd8) hne (sa_tb _) (po_tb _) (ta_datas _) (hd_bank _) (by rfl) (fun _ => (by decide:(10:Nat) ≤ 1000)) fun k9 n9 hx9 hd9 e9 => ?_
  walk_at "s"
  refine t_assignA ?_ (by with_unfolding_all rfl)
  refine t_dict0 fun l10 hl10 hl103 => ?_
  walk_at "r"
  refine t_setA (.tail _ hx9) (.tail _ hd9) hne (sa_tb _) (po_tb _) (ta_numbers _) (hd_bank _) (by rfl) (fun _ => (by decide:(11:Nat) ≤ 1000)) fun k10 n10 hx10 hd10 e10 => ?_
  walk_at "s"
  refine t_assignA ?_ (by with_unfolding_all rfl)
  walk_at "r"
  refine t_method hx10 hd10 (pg_make _) (fi_make _) (if_make _) (by rfl) ?_
  walk_at "r"
  refine t_newTuple (by simp) fun b1 hb1 hb13 => ?_
  walk_at "r"
  have f1:ExtD dx n0 n1:=fun a o h hd => e1 a o (.tail _ h) hd
  have f2:ExtD dx n1 n2:=fun a o h hd => e2 a o (.tail _ h) hd
  have f3:ExtD dx n2 n3:=fun a o h hd => e3 a o (.tail _ h) hd
  have f4:ExtD dx n3 n4:=fun a o h hd => e4 a o (.tail _ h) hd
  have f5:ExtD dx n4 n5:=e5
  have f6:ExtD dx n5 n6:=fun a o h hd => e6 a o (.tail _ h) hd
  have f7:ExtD dx n6 n7:=fun a o h hd => e7 a o (.tail _ (.tail _ h)) hd
  have f8:ExtD dx n7 n8:=fun a o h hd => e8 a o (.tail _ h) hd
  have f9:ExtD dx n8 n9:=fun a o h hd => e9 a o (.tail _ h) hd
  have f10:ExtD dx n9 n10:=fun a o h hd => e10 a o (.tail _ h) hd
  have c0:@LT.lt Nat _ dx l0:=hl0 _ (hd)
  have c1:@LT.lt Nat _ dx l1:=hl1 _ (hd0)
  have c2:@LT.lt Nat _ dx l2:=hl2 _ (hd1)
  have c3:@LT.lt Nat _ dx l3:=hl3 _ (hd2)
  have c4:@LT.lt Nat _ dx l4:=hl4 _ (hd3)
  have c6:@LT.lt Nat _ dx l6:=hl6 _ (hd5)
  have c7:@LT.lt Nat _ dx l7:=hl7 _ (.tail _ hd6)
  have c8:@LT.lt Nat _ dx l8:=hl8 _ (hd7)
  have c9:@LT.lt Nat _ dx l9:=hl9 _ (hd8)
  have c10:@LT.lt Nat _ dx l10:=hl10 _ (hd9)
  have m0:=e0 _ _ (.head _) (Nat.ne_of_gt c0)
  have m1:=e1 _ _ (.head _) (Nat.ne_of_gt c1)
  have m2:=e2 _ _ (.head _) (Nat.ne_of_gt c2)
  have m3:=e3 _ _ (.head _) (Nat.ne_of_gt c3)
  have m4:=e4 _ _ (.head _) (Nat.ne_of_gt c4)
  have m6:=e6 _ _ (.head _) (Nat.ne_of_gt c6)
  have m7:=e7 _ _ (.head _) (Nat.ne_of_gt c7)
  have m8:=e8 _ _ (.head _) (Nat.ne_of_gt c8)
  have m9:=e9 _ _ (.head _) (Nat.ne_of_gt c9)
  have m10:=e10 _ _ (.head _) (Nat.ne_of_gt c10)
  have m5:=f5 _ _ m4 (Nat.ne_of_gt c4)
  have u0:@LT.lt Nat _ x l0:=hl0 _ hx
  have u1:@LT.lt Nat _ l0 l1:=hl1 _ (m0)
  have u2:@LT.lt Nat _ l1 l2:=hl2 _ (m1)
  have u3:@LT.lt Nat _ l2 l3:=hl3 _ (m2)
  have u4:@LT.lt Nat _ l3 l4:=hl4 _ (m3)
  have u6:@LT.lt Nat _ l4 l6:=hl6 _ (m5)
  have u7:@LT.lt Nat _ l6 l7:=hl7 _ (.tail _ (m6))
  have u8:@LT.lt Nat _ l7 l8:=hl8 _ (m7)
  have u9:@LT.lt Nat _ l8 l9:=hl9 _ (m8)
  have u10:@LT.lt Nat _ l9 l10:=hl10 _ (m9)
  have g9:ExtD dx n9 n10:=f10
  have g8:ExtD dx n8 n10:=f9.trans g9
  have g7:ExtD dx n7 n10:=f8.trans g8
  have g6:ExtD dx n6 n10:=f7.trans g7
  have g5:ExtD dx n5 n10:=f6.trans g6
  have g4:ExtD dx n4 n10:=f5.trans g5
  have g3:ExtD dx n3 n10:=f4.trans g4
  have g2:ExtD dx n2 n10:=f3.trans g3
  have g1:ExtD dx n1 n10:=f2.trans g2
  have g0:ExtD dx n0 n10:=f1.trans g1
  have M0:=g0 _ _ m0 (Nat.ne_of_gt c0)
  have M1:=g1 _ _ m1 (Nat.ne_of_gt c1)
  have M2:=g2 _ _ m2 (Nat.ne_of_gt c2)
  have M3:=g3 _ _ m3 (Nat.ne_of_gt c3)
  have M4:=g4 _ _ m4 (Nat.ne_of_gt c4)
  have M6:=g6 _ _ m6 (Nat.ne_of_gt c6)
  have M7:=g7 _ _ m7 (Nat.ne_of_gt c7)
  have M8:=g8 _ _ m8 (Nat.ne_of_gt c8)
  have M9:=g9 _ _ m9 (Nat.ne_of_gt c9)
  have M10:=m10
  have ma7:(a7,tupO [] 0) ∈ n10:=g7 _ _ (e7 _ _ (.tail _ (.head _)) (Nat.ne_of_gt (ha7 _ hd6))) (Nat.ne_of_gt (ha7 _ hd6))
  have p1:@LT.lt Nat _ x l6:=Nat.lt_trans u0 (Nat.lt_trans u1 (Nat.lt_trans u2 (Nat.lt_trans u3 (Nat.lt_trans u4 u6))))
  have p3:@LT.lt Nat _ 3 l6:=hl63
  have nd:[x,dx,l6,l7,l8,l9,l10].Nodup:=nodup7 hlt p1 u7 u8 u9 u10
  have N10:∀ {n:Led},(l10,dictO #[] 0) ∈ n → KDict prog w n l10 []:=fun h => ⟨Nat.ne_of_gt (by omega),#[],0,h,rfl,fun _ h => (nomatch h),.nil⟩
  have lt1:(1:Nat) < 100:=by decide
  have lt2:(2:Nat) < 100:=by decide
  refine t_spec (make_core (B:=⟨x,dx,l0,l1,l2,l3,l4,l6,l7,l8,l9,l10,0,fun _ => 0,0⟩) (τ:=τT) (xs:=[]) (.tail _ hx10) (.tail _ hd10) (by rfl) (by rfl) (by rfl) (by rfl) (by rfl) nd (.tail _ M6) (.tail _ M7) (.tail _ M8) (.tail _ M9) (N10 (.tail _ M10)) (by rfl) (by decide) lt1 lt1 lt1 lt1 ⟨_,rfl⟩ ⟨[],0,.head _,.nil⟩ ⟨_,rfl⟩ ⟨_,rfl⟩ (wf_i (by decide +kernel))) (Nat.le_trans (by decide) hr) fun v1 nA h => ?_
  refine Xaaaaaa h ?_; clear h; intro z1_ A6 A7 A8 A9 z2_ keep; refine Xe z1_ ?_; clear z1_; intro tA z1_; subst z1_; refine Xe z2_ ?_; clear z2_; intro kx kd
  have q0:@LT.lt Nat _ l10 b1:=hb1 _ M10
  have q6:@LT.lt Nat _ l6 a7:=ha7 _ m6
  have q7:@LT.lt Nat _ a7 l7:=hl7 _ (.head _)
  have p2:=Nat.lt_trans hlt p1
  have kA:∀ {b:Addr} {o:Obj},(b,o) ∈ (b1,tupO [] 0) :: n10 → @LT.lt Nat _ b l6 ∨ (@LT.lt Nat _ l6 b ∧ @LT.lt Nat _ b l7) ∨ @LT.lt Nat _ l10 b → (b,o) ∈ nA:=fun h s => keep5 u7 u8 u9 u10 keep h s
  have o4:@LT.lt Nat _ l4 l6:=u6
  have o3:=Nat.lt_trans u4 o4
  have o2:=Nat.lt_trans u3 o3
  have o1:=Nat.lt_trans u2 o2
  have o0:=Nat.lt_trans u1 o1
  have bA:=kA (.head _) (.inr (.inr q0))
  have cA:=kA (.tail _ ma7) (.inr (.inl ⟨q6,q7⟩))
  have xA:=kA (.tail _ hx10) (.inl p1)
  have dA:=kA (.tail _ hd10) (.inl p2)
  have A0:=kA (.tail _ M0) (.inl o0)
  have A1:=kA (.tail _ M1) (.inl o1)
  have A2:=kA (.tail _ M2) (.inl o2)
  have A3:=kA (.tail _ M3) (.inl o3)
  have A4:=kA (.tail _ M4) (.inl o4)
  walk_at "r"
  refine T.fn fun FnA => ?_
  refine t_setA xA dA hne (sa_tb _) (po_tb _) (ta_true _) (hd_bank _) (by rfl) (fun _ => (by decide:(12:Nat) ≤ 1000)) fun k11 nB xB dB eB => ?_
  walk_at "s"
  refine t_assignA ?_ (by with_unfolding_all rfl)
  walk_at "r"
  refine t_method xB dB (pg_make _) (fi_make _) (if_make _) (by rfl) ?_
  walk_at "r"
  refine t_newTuple (by simp) fun b2 hb2 hb23 => ?_
  walk_at "r"
  have B0:=eB _ _ A0 (Nat.ne_of_gt c0)
  have B1:=eB _ _ A1 (Nat.ne_of_gt c1)
  have B2:=eB _ _ A2 (Nat.ne_of_gt c2)
  have B3:=eB _ _ A3 (Nat.ne_of_gt c3)
  have B4:=eB _ _ A4 (Nat.ne_of_gt c4)
  have B6:=eB _ _ A6 (Nat.ne_of_gt c6)
  have B7:=eB _ _ A7 (Nat.ne_of_gt c7)
  have B8:=eB _ _ A8 (Nat.ne_of_gt c8)
  have B9:=eB _ _ A9 (Nat.ne_of_gt c9)
  have bB:=eB _ _ bA (Nat.ne_of_gt (Nat.lt_trans c10 q0))
  have cB:=eB _ _ cA (Nat.ne_of_gt (Nat.lt_trans c6 q6))
  refine Xaeea (id kd) fun _ _ _ mA _ => ?_
  have mB:=eB _ _ mA (Nat.ne_of_gt c10)
  have r0:@LT.lt Nat _ l10 b2:=hb2 _ mB
  have r1:@LT.lt Nat _ b1 b2:=hb2 _ bB
  have kdB:KDict prog w ((b2,tupO [] 0) :: nB) l10 [(τT,kx,.int (1:Nat) tA)]:=KDict.ext (KDict.extD kd FnA dA (Nat.ne_of_gt c10) eB) Ext.cons
  refine t_spec (make_core (B:=⟨x,dx,l0,l1,l2,l3,l4,l6,l7,l8,l9,l10,0,fun _ => 0,0⟩) (τ:=τF) (.tail _ xB) (.tail _ dB) (by rfl) (by rfl) (by rfl) (by rfl) (by rfl) nd (.tail _ B6) (.tail _ B7) (.tail _ B8) (.tail _ B9) kdB (atKey_one (by decide +kernel)) lt1 lt2 lt2 lt2 lt2 ⟨_,rfl⟩ ⟨[],0,.head _,.nil⟩ ⟨_,rfl⟩ ⟨_,rfl⟩ (wf_i (by decide +kernel))) (Nat.le_trans (by decide) hr) fun v2 nC h => ?_
  refine Xaaaaaa h ?_; clear h; intro z3_ C6 C7 C8 C9 z4_ keep2; refine Xe z3_ ?_; clear z3_; intro tB z2_; subst z2_; refine Xe z4_ ?_; clear z4_; intro ky ke
  have kC:∀ {b:Addr} {o:Obj},(b,o) ∈ (b2,tupO [] 0) :: nB → @LT.lt Nat _ b l6 ∨ (@LT.lt Nat _ l6 b ∧ @LT.lt Nat _ b l7) ∨ @LT.lt Nat _ l10 b → (b,o) ∈ nC:=fun h s => keep5 u7 u8 u9 u10 keep2 h s
  have cC:=kC (.tail _ cB) (.inr (.inl ⟨q6,q7⟩))
  have bC:=kC (.tail _ bB) (.inr (.inr q0))
  have eC:=kC (.head _) (.inr (.inr r0))
  have xC:=kC (.tail _ xB) (.inl p1)
  have dC:=kC (.tail _ dB) (.inl p2)
  have C0:=kC (.tail _ B0) (.inl o0)
  have C1:=kC (.tail _ B1) (.inl o1)
  have C2:=kC (.tail _ B2) (.inl o2)
  have C3:=kC (.tail _ B3) (.inl o3)
  have C4:=kC (.tail _ B4) (.inl o4)
  walk_at "r"
  refine T.fn fun FnC => ?_
  refine t_setA xC dC hne (sa_tb _) (po_tb _) (ta_false _) (hd_bank _) (by rfl) (fun _ => (by decide:(13:Nat) ≤ 1000)) fun k12 nD xD dD eD => ?_
  walk_at "r"
  have D0:=eD _ _ C0 (Nat.ne_of_gt c0)
  have D1:=eD _ _ C1 (Nat.ne_of_gt c1)
  have D2:=eD _ _ C2 (Nat.ne_of_gt c2)
  have D3:=eD _ _ C3 (Nat.ne_of_gt c3)
  have D4:=eD _ _ C4 (Nat.ne_of_gt c4)
  have D6:=eD _ _ C6 (Nat.ne_of_gt c6)
  have D7:=eD _ _ C7 (Nat.ne_of_gt c7)
  have D8:=eD _ _ C8 (Nat.ne_of_gt c8)
  have D9:=eD _ _ C9 (Nat.ne_of_gt c9)
  have aD:=eD _ _ cC (Nat.ne_of_gt (Nat.lt_trans c6 q6))
  have bD:=eD _ _ bC (Nat.ne_of_gt (Nat.lt_trans c10 q0))
  have cD:=eD _ _ eC (Nat.ne_of_gt (Nat.lt_trans c10 r0))
  have kD:=KDict.extD ke FnC dC (Nat.ne_of_gt c10) eD
  refine ⟨rfl,fun a o ha hd' => ?_,⟨x,dx,l0,l1,l2,l3,l4,l6,l7,l8,l9,l10,0,fun i => match i with | 0 => k0 | 1 => k1 | 2 => k2 | 3 => k3 | 4 => k4 | 5 => k5 | 6 => _ | 7 => k6 | 8 => k7 | 9 => k8 | 10 => k9 | 11 => k10 | 12 => k11 | 13 => tA | 14 => k12 | _ => tB,14⟩,rfl,rfl,⟨xD,dD,⟨_,_,D6,.cons ⟨_,rfl⟩ (.cons ⟨_,rfl⟩ (.cons ⟨_,rfl⟩ .nil))⟩,⟨_,_,D7,.cons ⟨_,_,_,rfl,aD,.nil⟩ (.cons ⟨_,_,_,rfl,bD,.nil⟩ (.cons ⟨_,_,_,rfl,cD,.nil⟩ .nil))⟩,
    ⟨_,_,D8,.cons ⟨_,rfl⟩ (.cons ⟨_,rfl⟩ (.cons ⟨_,rfl⟩ .nil))⟩,⟨_,_,D9,.cons ⟨_,rfl⟩ (.cons ⟨_,rfl⟩ (.cons ⟨_,rfl⟩ .nil))⟩,⟨_,_,D1,.cons ⟨_,rfl⟩ (.cons ⟨_,rfl⟩ (.cons ⟨_,rfl⟩ .nil))⟩,⟨_,kD,?_,(by decide:(2:Nat) < 3)⟩,⟨_,_,D0,rfl⟩,⟨_,_,D2,Nat.le_refl _⟩,⟨_,_,D3,Nat.le_refl _⟩,⟨_,_,D4,Nat.le_refl _⟩,fun z hz => ⟨hlt,u0,u1,u2,u3,u4,u6,u7,u8,u9,u10,hz⟩⟩⟩
  · have ha0:@LT.lt Nat _ a l6:=Nat.lt_trans (hl0 _ ha) o0
    exact eD _ _ (kC (.tail _ (eB _ _ (kA (.tail _ (g0 _ _ (e0 _ _ (.tail _ ha) hd') hd')) (.inl ha0)) hd')) (.inl ha0)) hd'
  · intro z hz
    rcases List.mem_cons.mp hz with rfl | hz
    · exact ⟨1,⟨_,rfl⟩,by decide,rfl⟩
    · rw [List.mem_singleton.mp hz]
      exact ⟨2,⟨_,rfl⟩,by decide,rfl⟩
end
noncomputable def S_tinit:Stmt:=subP (stmP 33) 0
noncomputable def sc_tinit:Scope:=stScope S_tinit
abbrev tq:PySem.Str:=Str.ofString "TermBank.__init__"
abbrev clT:List (PySem.Str × Addr):=[("__class__",621)]
theorem fn_tinit (P:Params):(K P).lookup 633 = some ⟨.type "function",none,.func (ksFn (stName S_tinit) tq (stArgs S_tinit) (stBody S_tinit) sc_tinit .none .none .none (.str (Str.ofString "minismt.terms") (nat_lit 337)) none (.ref 632) (.ref 626) 621),#[]⟩:=by kernel_rfl
theorem cd_tinit (P:Params):codeIn (K P) (.ref 632) tq = true:=by kernel_rfl
theorem bi_tinit (v0:Value):bindArgs (ksFn (stName S_tinit) tq (stArgs S_tinit) (stBody S_tinit) sc_tinit .none .none .none (.str (Str.ofString "minismt.terms") (nat_lit 337)) none (.ref 632) (.ref 626) 621) ⟨[v0],[]⟩ = pure [(Str.ofString "self",v0)]:=by kernel_rfl
theorem lo_tinit (v0:Value):∀ y ∈ ([(Str.ofString "self",v0)]:List (PySem.Str × Value)),sc_tinit.names.lookup y.1 = some .local:=by
  have h:(([(Str.ofString "self",v0)]:List (PySem.Str × Value)).all fun x => decide (sc_tinit.names.lookup x.1 = some .local)) = true:=by kernel_rfl
  exact locs h
theorem ce_tinit:∀ x ∈ sc_tinit.names,x.2 ≠ .cell:=by decide +kernel
section
variable {prog:Program} {w:World} {n:Led}
theorem cs_tinit {v0:Value} {rem:Nat} {Post:Value → Led → Prop}
    (h:∀ (L:Addr) (Γ:Cx prog w sc_tinit clT),rem ≤ Γ.rem → Γ.env = ksEnv tq sc_tinit Γ.L 633 (.ref 632) 621 → ∀ (s:Shared) (Q:Flow → Shared → Prop) (E:Value → Shared → Prop),Fr Γ.h₀ Γ.L s.heap (fun y => ([(Str.ofString "self",v0)]:List (PySem.Str × Value)).lookup y) → News Γ.h₀ Γ.L s.heap n →
      (∀ fl m' n' h' tk',Fr Γ.h₀ Γ.L h' m' → News Γ.h₀ Γ.L h' n' → Post (match fl with | .ret v => v | _ => .none) n' → Q fl { s with heap:=h',toks:=tk' }) →
      _root_.PySem.wpAt (model prog w) Γ.A (.func (stBody S_tinit) Γ.env) (execs (stBody S_tinit) Γ.env) Q E s):CSpec prog w 633 [v0] n (rem + 1) Post:=by
  intro cs cl Γ m s R hr F N q
  have hd:=Γ.hd
  have hu:=Γ.hu
  refine ks_code_super Γ.B F Γ.X N Γ.Tp Γ.hA rfl Γ.hk (fn_tinit w.params) (cd_tinit w.params) (by omega) (BindsTo.of_eq (bi_tinit v0)) (lo_tinit v0) (fun g L' h₁ FG F' N' B' X' T' lt => ?_) ce_tinit (by kernel_rfl) (by kernel_rfl) (by kernel_rfl)
  exact h L' { cn:=tq,fa:=633,cd:=.ref 632,A₀:=Γ.A,A:=Γ.A.deeper (envX tq sc_tinit L' 633 (.ref 632) clT),base:=Γ.base,outer:=Γ.env :: Γ.outer,h₀:=g,L:=L',p:=Γ.p,loose:=Γ.loose,mean:=Γ.mean,mg:=Γ.mg,mb:=Γ.mb,rem:=rem,B:=B',X:=X',Tp:=T',hA:=Around.frames_deeper Γ.hA,hh:=Γ.hh,hk:=(by kernel_rfl),hd:=by show Γ.A.depth + 1 + 4 * rem + 2 < _; omega,hu:=by show Γ.A.units + 3 + 16 * rem + 8 < _; omega } (Nat.le_refl _) rfl _ _ _ F' N'
    fun fl m' n' h' tk' F'' N'' p => ⟨L',m',n',F'',N'',fun F3 N3 => q _ n' h' tk' F3 N3 p⟩
noncomputable def coT:Array Value:=Array.mk [(.str (Str.ofString "__init__") (995)),(.str (Str.ofString "TermBank.__init__") (996)),(.str (Str.ofString "/claim/cut.py") (997)),(.int (.ofNat (328)) (0)),(.int (.ofNat (1)) (0)),(.int (.ofNat (0)) (0)),(.int (.ofNat (0)) (0)),(.int (.ofNat (3)) (0)),(.ref (627)),(.bool true),(.int (.ofNat (181)) (0)),(.ref (628)),.none,(.ref (629)),(.ref (630)),(.ref (631)),(.int (.ofNat (1000)) (0)),(.int (.ofNat (328)) (0)),(.str (Str.ofString "/claim/cut.py") (1001))]
theorem co_tinit (P:Params):(K P).lookup 632 = some ⟨.type "code",none,.fields coT,#[]⟩:=by kernel_rfl
theorem ce_tb (P:Params):(K P).lookup 621 = some ⟨.type "cell",none,.cell (some (.ref 734)),#[]⟩:=by kernel_rfl
noncomputable def cdTB (P:Params):ClassData:=((clsIn (K P) 734).getD default)
theorem cl_tb (P:Params):clsIn (K P) 734 = some (cdTB P):=by kernel_rfl
theorem tinit_spec {x dx:Addr} (hfile:((prog.main.file:PySem.Str) == (Str.ofString "/claim/cut.py")) = true) (htop:(prog.main.scope.names.lookup ("super":PySem.Str)).isSome = false)
    (hx:(x,instObj 734 dx) ∈ n) (hd:(dx,dictOf [] 0) ∈ n) (hlt:@LT.lt Nat _ dx x):CSpec prog w 633 [.ref x] n 5 (fun v n' => v = .none ∧ ExtD dx n n' ∧ ∃ B:BA,B.self = x ∧ B.dict = dx ∧ Bank prog w n' B 0 [τ0,τT,τF] [0,0,0]):=by
  refine cs_tinit (fun L Γ hr henv s Q E F N q => ?_)
  conv in (stBody S_tinit) => whnf
  conv in (execs (stBody S_tinit) _) => arg 1; whnf
  refine ks_wpAt_execs_cons ?_
  refine ks_wpAt_Expr_any ?_ (by rfl) (by rfl)
  refine ks_wpAt_MethodCall (pl:=?pl) ?_ (by rfl)
  rw [henv]
  refine ks_node F Γ.X N Γ.Tp (fn_tinit w.params) (by rfl) (by rfl) (InstAt.of_news N hx hd) (co_tinit _) (by rfl) hfile (ce_tb _) (cl_tb _) (by kernel_rfl) (by kernel_rfl) (by decide +kernel) (by kernel_rfl) (by kernel_rfl) (by kernel_rfl) (by kernel_rfl) htop (by kernel_rfl) fun so h1 F1 N1 l1 => ?_
  refine ks_method F1 Γ.X N1 (.head _) (InstAt.of_news N1 (.tail _ hx) (.tail _ hd)) (by kernel_rfl) (f2:=215) (by kernel_rfl) (by kernel_rfl) (by decide +kernel) fun q2 h2 F2 N2 l2 => ?_
  refine callWith_M0 (methP N2 (.head _) (Γ.X.keeps F2.keep)) (by kernel_rfl) ?_
  refine call_meth N2 (.head _) ?_
  have sp:=init_spec (prog:=prog) (w:=w) (n:=(q2,methodObj (.ref 215) (.ref x)) :: (so,ks_superObj 734 x 734) :: n) (.tail _ (.tail _ hx)) (.tail _ (.tail _ hd)) hlt
  refine sp _ _ Γ _ { s with heap:=h2,toks:=s.toks + 1 } _ (Nat.le_trans (by decide) hr) F2 N2 fun v n3 h3 tk3 F3 N3 hp => ?_
  refine Xaaeaa hp ?_; clear hp; intro z1_ e3 B z2_ z3_ hC; subst z1_; subst z2_; subst z3_
  show _root_.PySem.wpAt _ _ _ _ _ _ _
  refine wpAt_of_wpAny ?_
  rw [← henv]
  refine (?_:T Γ _ _ n3 _) _ _ E F3 N3 q
  have hne:B.self ≠ B.dict:=Nat.ne_of_gt hlt
  walk_at "s"
  refine t_assignA ?_ (by with_unfolding_all rfl)
  refine t_dict0 fun z hz hz3 => ?_
  walk_at "r"
  refine T.fn fun Fz => ?_
  refine t_setA (.tail _ hC.self) (.tail _ hC.dict) hne (sa_tb _) (po_tb _) (ta_bvn _) (hd_bank _) (by rfl) (fun _ => (by decide:(14:Nat) ≤ 1000)) fun tk4 n4 hx4 hd4 e4 => ?_
  walk_at "r"
  have uz:=hC.up z
  refine Xeaa hC.nums fun xs kd kd2 kd3 => ?_
  refine Xaeea (id kd) fun _ _ _ nm _ => ?_
  obtain ⟨u0,u1,u2,u3,u4,u5,u6,u7,u8,u9,u10,u11⟩:=id (uz (hz _ nm))
  simp only at u0 u1 u2 u3 u4 u5 u6 u7 u8 u9 u10 u11
  have v1:=Nat.lt_trans u0 u1
  have v2:=Nat.lt_trans v1 u2
  have v3:=Nat.lt_trans v2 u3
  have v4:=Nat.lt_trans v3 u4
  have v5:=Nat.lt_trans v4 u5
  have v6:=Nat.lt_trans v5 u6
  have v7:=Nat.lt_trans v6 u7
  have v8:=Nat.lt_trans v7 u8
  have v9:=Nat.lt_trans v8 u9
  have v10:=Nat.lt_trans v9 u10
  have v11:=Nat.lt_trans v10 u11
  have k:∀ {a:Addr} {o:Obj},(a,o) ∈ n3 → @LT.lt Nat _ B.dict a → (a,o) ∈ n4:=fun h l => e4 _ _ (.tail _ h) (Nat.ne_of_gt l)
  have bs:BSub ⟨z,z,z,z,z,z,z,z,z,z,z,z,z,fun _ => 0,0⟩ n3 n4:=fun a o ha hk => e4 a o (.tail _ ha) (by
    rintro rfl
    rcases hk with hk | ⟨us,q,hk⟩
    · exact absurd (hz _ ha) (Nat.not_lt.mpr hk.1)
    · exact absurd (congrArg Obj.cls ((Fz _ _ _ (.tail _ hC.dict) (.tail _ ha)).trans hk)) (by simp))
  refine Xeea hC.ops fun vo eo mo ao => ?_
  refine Xeea hC.args fun va ea ma aa => ?_
  refine Xeea hC.sorts fun vs es ms as => ?_
  refine Xeea hC.datas fun vd ed md ad => ?_
  refine Xeea hC.widths fun vw ew mw aw => ?_
  refine Xeea hC.names fun w1 x1 y1 z1 => ?_
  refine Xeea hC.fnames fun w2 x2 y2 z2 => ?_
  refine Xeea hC.fargs fun w3 x3 y3 z3 => ?_
  refine Xeea hC.fres fun w4 x4 y4 z4 => ?_
  refine ⟨rfl,fun a o ha hd' => e4 _ _ (.tail _ (e3 _ _ (.tail _ (.tail _ ha)) hd')) hd',{ B with bvn:=z,tk:=fun i => match i with | 16 => tk4 | i => B.tk i,ep:=14 },rfl,rfl,⟨⟨hx4,hd4,⟨vo,eo,k mo v6,ao⟩,⟨va,ea,k ma v7,aa.mono fun _ _ x => x.mono bs⟩,⟨vs,es,k ms v8,as⟩,⟨vd,ed,k md v9,ad.mono fun _ _ x => x.mono bs⟩,⟨vw,ew,k mw v2,aw⟩,(by decide:(3:Nat) < 1000),(by decide:(3:Nat) < 1000)⟩,
    ⟨xs,KDict.extD (KDict.ext kd Ext.cons) Fz (.tail _ hC.dict) (Nat.ne_of_gt v10) e4,kd2,kd3⟩,⟨[],⟨Nat.ne_of_gt (Nat.lt_trans (by decide:1 < 3) hz3),#[],0,e4 _ _ (.head _) (Nat.ne_of_gt v11),?_,?_,.nil⟩,fun _ h => (nomatch h),Nat.le_refl _,?_,?_⟩,⟨w1,x1,k y1 v1,z1⟩,⟨w2,x2,k y2 v3,z2⟩,⟨w3,x3,k y3 v4,z3⟩,⟨w4,x4,k y4 v5,z4⟩,⟨u0,u1,u2,u3,u4,u5,u6,u7,u8,u9,u10,u11⟩⟩⟩
  · exact fun e h => by simp at h
  · exact .nil
  · exact fun k wd h3 e => absurd (List.getElem?_eq_some_iff.mp e).1 (Nat.not_lt.mpr h3)
  · exact fun k k' wd h3 h3' e e' => absurd (List.getElem?_eq_some_iff.mp e).1 (Nat.not_lt.mpr h3)
end
noncomputable def S_law:Stmt:=stmP 46
noncomputable def sc_law:Scope:=stScope S_law
noncomputable def stPos:Stmt → Pos
  | .FunctionDef _ _ _ _ _ _ _ _ _ p => p
  | _ => default
noncomputable def dLaw:DefRec:=⟨Str.ofString "law",stArgs S_law,stBody S_law,sc_law,stPos S_law⟩
noncomputable abbrev lawR:RowW:=PySem.Challenge.rw_rg0226_04.row.toRowW
def LawSpec:Prop:=∀ (w:World) (L:Addr) (Γ:Cx PySem.Challenge.pw_rg0226_04 w sc_law (cellsFrom (L + 1) sc_law.names [])) (cells:Led) (l:Addr) (vs:List Value) (ns:List Int),20 ≤ Γ.rem → 3 < L →
  CellsAre (bindC (fun x => sc_law.names.lookup x) [(Str.ofString "script",.ref l)] fun _ => none) (cellsFrom (L + 1) sc_law.names []) cells →
  Γ.h₀.IsList l vs.toArray → IntsAre vs ns → ns.length ≤ 63 →
  T Γ (execs (stBody S_law) Γ.env) (bindL (fun x => sc_law.names.lookup x) [(Str.ofString "script",.ref l)] fun _ => none) cells (fun fl m' n' => fl = .ret (.bool true))
theorem bi_law (pm cd doc v0:Value):bindArgs (docDef dLaw.name dLaw.params dLaw.body dLaw.scope pm cd doc) ⟨[v0],[]⟩ = pure [(Str.ofString "script",v0)]:=by kernel_rfl
theorem lo_law (v0:Value):∀ y ∈ ([(Str.ofString "script",v0)]:List (PySem.Str × Value)),dLaw.scope.names.lookup y.1 = some .local:=by
  have h:(([(Str.ofString "script",v0)]:List (PySem.Str × Value)).all fun x => decide (dLaw.scope.names.lookup x.1 = some .local)) = true:=by kernel_rfl
  exact locs h
theorem law_walk (H:LawSpec):WalkO (vw PySem.Challenge.pw_rg0226_04) loose (XL (vw PySem.Challenge.pw_rg0226_04) []) (Hook.says (kHook K Ka Ke)) lawR dLaw [] fun f vs => PySem.call f vs:=by
  intro w s₀ s₁ mg mb G Y fa o pm cd doc dV kV ho hd hcd hD hmg hg args vals as hpre hlay hrd hwl hlo
  have KX:=kIn_of Y
  refine Ground.open G ?_
  intro T B D TE TW
  have hcond:=(pre_splitW hpre).2
  have hsh:=(pre_splitW hpre).1
  have he:=Dflts.none hD (by kernel_rfl); subst he; have he:=Dflts.noKw hD; subst he
  refine Xeea (based_of_top T (d:=dLaw) (by kernel_rfl) hmg ho hd) fun _ _ he B0 => ?_
  wrow_args hpre hlay hrd hwl hlo
  refine enter_call ?_
  rename_i ns _ _ _ _ _ _ _ l vs _ hL _ _ _ hI _ hn _
  refine call_cellsN (binds:=[(Str.ofString "script",.ref l)]) (by decide) ho (fd_plain hd) (Top.nolimit T) hcd (bi_law pm cd doc _) (fun x hx => .inl (lo_law _ x hx)) (by decide +kernel) (fun h₁ tk₁ cells F N0 X0 => ?_) (by kernel_rfl) (by kernel_rfl) (by kernel_rfl)
  have K0:=below_caller (Top.heap T)
  refine H w s₁.heap.objs.size { cn:=dLaw.name,fa:=fa,cd:=cd,A₀:=callerA,A:=callerA.deeper (envOfC dLaw.name dLaw.scope s₁.heap.objs.size fa cd),base:=s₁.heap,outer:=[],h₀:=s₁.heap,L:=s₁.heap.objs.size,p:=_,loose:=_,mean:=_,mg:=mg,mb:=mb,rem:=20,B:=K0,X:=KX,Tp:=T,hA:=?_,hh:=?_,hk:=?_,hd:=?_,hu:=?_ } cells l vs ns (Nat.le_refl _) ?_ X0 hL hI (by omega) _ _ _ F N0 fun fl m' n' h' tk' F' N' hf => ?_
  · exact Around.frames_deeper rfl
  · rfl
  · kernel_rfl
  · show callerA.depth + 1 + 4 * 20 + 2 < recursionLimit; decide +kernel
  · show callerA.units + 3 + 16 * 20 + 8 < cLine; decide +kernel
  · refine Xeeea T.g fun o3 _ _ h3 _ => ?_
    exact Heap.lt_size h3
  · subst hf
    exact goodWG_reads B0 F' (AllBare.of_eq hg) (raisesW_false (by wrow_none_raised)) (.bool true) unshared_nil (postW_of (by wrow_shape) (by wtm_val) (by w_fin)) rfl
theorem law_holds (H:LawSpec):PySem.Challenge.rw_rg0226_04.Holds:=
  holds_law said fun said' => holds_open (q:=vw PySem.Challenge.pw_rg0226_04) (loose:=loose) (Xt:=fun s => xlAt (vw PySem.Challenge.pw_rg0226_04) [] s && recOk [] s) (XP:=XL (vw PySem.Challenge.pw_rg0226_04) []) (Yf:=Hook.obs (kHook K Ka Ke)) (Ya:=Hook.val (kHook K Ka Ke)) (YP:=Hook.says (kHook K Ka Ke)) (N:=nat_lit 13750) (d:=dLaw) (kwd:=[]) left (Hook.of (kHook K Ka Ke)) (Hook.keeps (kHook K Ka Ke)) (fun s e => xl_of s (Bool.and_eq_true_iff.mp e).1) XL.keeps (by kernel_rfl) (by kernel_rfl) (by kernel_rfl) (fun s e => recFacts_of (Bool.and_eq_true_iff.mp e).2) (by kernel_rfl) said' (by kernel_rfl) ⟨rfl,rfl,rfl,rfl,rfl,by decide +kernel⟩ (by w_witness2) (law_walk H)
abbrev prg:Program:=PySem.Challenge.pw_rg0226_04
noncomputable def lawS (i:Nat):Stmt:=(stBody S_law).getD i (.Pass default)
noncomputable abbrev clL (L:Addr):List (PySem.Str × Addr):=cellsFrom (L + 1) sc_law.names []
theorem cl_law (L:Addr):clL L = [(Str.ofString "some",L + 3),(Str.ofString "bank",L + 2),(Str.ofString "pot",L + 1)]:=by kernel_rfl
theorem law_body:stBody S_law = [lawS 0,lawS 1,lawS 2,lawS 3,lawS 4,lawS 5,lawS 6,lawS 7,lawS 8,lawS 9]:=by kernel_rfl
def PU (n:Led) (d:Addr):Prop:=∃ o,(d,o) ∈ n ∧ o.data = .cell none
section
variable {w:World} {L:Addr} {Γ:Cx prg w sc_law (clL L)} {m:Loc} {n:Led}
theorem t_sliceTo0 {value hi:PySem.Expr} {p pos:Pos} {P:Value → Loc → Led → Prop} {env:Env}
    (h:T Γ (eval value env) m n (fun o m1 n1 => T Γ (eval hi env) m1 n1 (fun u m3 n3 =>
      ∃ (b:Addr) (vs:List Value) (y:Int) (t':Tok),o = .ref b ∧ u = .int y t' ∧ Γ.h₀.IsList b vs.toArray ∧ vs.length < 2 ^ 20 ∧ ∀ D,(∀ p ∈ n3,p.1 < D) → 3 < D → P (.ref D) m3 ((D,listO (slicePick vs.toArray none (some y) none).toList 0) :: n3))))
    (ht:∀ b r,letTemporaryGo value (.ref b) r = pure ()):T Γ (eval (.Subscript value (.Slice none (some hi) none p) pos) env) m n P:=
  fun s Q E F N q => Subscript_ (h s _ E F N fun a m1 n1 h1 tk1 F1 N1 p1 => wpAny_Slice (wpAny_pure (p1 _ _ E F1 N1 fun u m3 n3 h3 tk3 F3 N3 p3 => by
    refine Xeeeeaaaa p3 ?_; clear p3; intro b vs y t' z1_ z2_ z3_ hz k; subst z1_; subst z2_; refine Xea z3_ ?_; clear z3_; intro o he hr
    refine wpAny_pure ?_
    refine slice_list F3 N3 ⟨o,F3.keep _ _ he,hr⟩ .none (.int y t') (fun h' F' N' => q _ m3 _ _ _ F' (by simpa using N') (k _ (fun p hp => Nat.lt_succ_of_lt (Heap.lt_size (N3 p hp).1)) (Nat.lt_succ_of_lt (Γ.lo F3)))) (by with_unfolding_all rfl) (ht b) (by rw [sizeLine_eq]; simp; omega))))
theorem ints_mem {vs:List Value} {ns:List Int} (h:IntsAre vs ns):∀ v ∈ vs,∃ k t,v = .int k t:=by
  induction h with
  | nil => exact fun _ h => nomatch h
  | cons n t _ ih =>
    intro v hv
    rcases List.mem_cons.mp hv with rfl | hv
    · exact ⟨n,t,rfl⟩
    · exact ih v hv
theorem off1_ne {D:Addr} {l:Led} (h:LCg.Off1 D l):∀ p ∈ l,@Ne Nat p.1 D:=by
  induction l with
  | nil => exact fun p hp => nomatch hp
  | cons q r ih =>
    intro p hp
    rcases List.mem_cons.mp hp with e | hp
    · rw [e]; exact h.1
    · exact ih h.2 p hp
structure L1 (w:World) (n:Led) (L:Addr) (B:BA) (pot:Addr):Prop where
  st:St prg w n B 0 pot 0 [τ0,τT,τF] [0,0,0]
  cp:CellAt n (L + 1) (.ref pot)
  cb:CellAt n (L + 2) (.ref B.self)
  cs:PU n (L + 3)
  lc:@LT.lt Nat _ (L + 3) pot
  lp:@LT.lt Nat _ pot B.dict
theorem stmt0 {l:Addr} {vs:List Value} {ns:List Int} (hr:20 ≤ Γ.rem) (hm:m (Str.ofString "script") = some (.ref l)) (h1:PU n (L + 1)) (h2:PU n (L + 2)) (h3:PU n (L + 3)) (hL:3 < L)
    (hl:Γ.h₀.IsList l vs.toArray) (hi:IntsAre vs ns) (hn:vs.length < 1000):T Γ (exec (lawS 0) Γ.env) m n (fun fl m' n' => fl = .next ∧ m' = m ∧ ∃ B pot,L1 w n' L B pot):=by
  conv in (lawS 0) => whnf
  refine t_assignTup ?_ (by rfl) (by with_unfolding_all rfl)
  walk_at "r"
  refine t_compL (cl':=[]) ?_ (by with_unfolding_all rfl) (by decide +kernel) (by rfl) (by decide +kernel) (by rfl) (by intro _; rfl)
  refine t_sliceTo0 ?_ (by intro _ _; rfl)
  refine t_nameL (v:=.ref l) hm ?_ (by rfl) (by decide +kernel)
  walk_at "r"
  refine ⟨l,vs,40,_,rfl,rfl,hl,by omega,fun D hD hD3 => ?_⟩
  rw [show slicePick vs.toArray none (some 40) none = (vs.take 40).toArray from slicePick_upto' vs.toArray 40]
  refine ⟨rfl,D,vs.take 40,(fun i ys n1 => Ext ((D,listO (vs.take 40) 0) :: n) n1 ∧ (∀ v ∈ ys,∃ k t,v = .int k t) ∧ ys.length = i),rfl,.of (.head _),by rw [List.length_take]; omega,?step,⟨Ext.refl,fun _ h => (nomatch h),rfl⟩,fun _ _ _ h => .of (h.1 _ (.head _)),?fin⟩
  case step =>
    intro i ys n3 v I oI C oC D' m₂ hi' hv' hJ hNs hmx hoff hIC hID hCD
    refine Xee (ints_mem hi v (List.mem_of_mem_take (List.mem_of_getElem? hv'))) fun k t z4_ => ?_; subst z4_
    walk_at "r"
    refine t_cnB (v:=.type "int") (by kernel_rfl) (by boot_fast) (by decide +kernel) ?_ (by rfl) (by rfl) (by decide +kernel)
    walk_at "r"
    refine t_cnL (.tail _ (.head _)) hNs hmx ?_ (by rfl) (by rfl) (by decide +kernel)
    walk_at "r"
    refine t_mod (by decide) fun t3 => ?_
    refine ⟨rfl,n3,fun p hp => hp,hoff,hJ.1,fun v hv => ?_,by simp [hJ.2.2]⟩
    rcases List.mem_append.mp hv with hv | hv
    · exact hJ.2.1 v hv
    · exact ⟨_,_,List.mem_singleton.mp hv⟩
  case fin =>
    intro ys n3 ca hJ hoff
    refine Xaa hJ ?_; clear hJ; intro hE hys hyl
    walk_at "r"
    refine t_newList (by simp) fun pot hp hp3 => ?_
    walk_at "r"
    refine t_callWithT0 (by kernel_rfl) ?_
    refine t_class (rem:=5) (ma_tb _) (in_tb _) (by kernel_rfl) (Nat.le_trans (by decide) hr) fun x dx hdx hlt => ⟨_,tinit_spec (by kernel_rfl) (by kernel_rfl) (.head _) (.tail _ (.head _)) hlt,fun v n' h => ?_⟩
    refine Xaaeaa h ?_; clear h; intro z5_ hE2 B z6_ z7_ hB; subst z5_; subst z6_; subst z7_
    refine ⟨rfl,?_⟩
    walk_at "r"
    refine t_newTuple (by simp) fun tu htu htu3 => ?_
    have hE3:∀ p ∈ n,p ∈ (tu,tupO [.ref pot,.ref B.self] 0) :: n':=fun p hp' => .tail _ (hE2 _ _ (.tail _ (.tail _ (.tail _ (.tail _ (hE _ (.tail _ hp')))))) (Nat.ne_of_lt (hdx _ (.tail _ (.tail _ (hE _ (.tail _ hp')))))))
    refine Xea h1 ?_; clear h1; intro o1 m1 d1
    refine Xea h2 ?_; clear h2; intro o2 m2 d2
    refine Xea h3 ?_; clear h3; intro o3 m3 d3
    have cap:@LT.lt Nat _ ca pot:=hp _ (.head _)
    have potd:@LT.lt Nat _ pot B.dict:=hdx _ (.head _)
    have l3p:@LT.lt Nat _ (L + 3) pot:=hp _ (.tail _ (hE _ (.tail _ m3)))
    have ca1:@Ne Nat ca (L + 1):=Ne.symm (off1_ne hoff _ (hE _ (.tail _ m1)))
    have ca2:@Ne Nat ca (L + 2):=Ne.symm (off1_ne hoff _ (hE _ (.tail _ m2)))
    refine t_unpackA (.head _) ?_ (by rfl) (by rfl)
    refine T.fn fun Fn0 => ?_
    refine t_inOrder (t_toCell (c:=L + 1) ⟨o1,hE3 _ m1,d1⟩ (by kernel_rfl) (fun o1' e1 => ?_) (by rfl))
    refine T.fn fun Fn1 => ?_
    refine t_inOrder (t_toCell (c:=L + 2) ⟨o2,upd_keep (hE3 _ m2) (ane (by omega)),d2⟩ (by kernel_rfl) (fun o2' e2 => ?_) (by rfl))
    refine t_inOrder0 ⟨rfl,rfl,B,pot,?_⟩
    have nt:∀ {o:Obj} {v},o.data = .cell v → ∀ us e,o ≠ tupO us e:=fun h us e he => by rw [he] at h; cases h
    have b1:BSub B n' ((tu,tupO [.ref pot,.ref B.self] 0) :: n'):=Ext.cons.b
    have b2:=BSub.upd (B:=B) (o':=o1') Fn0 (hE3 _ m1) (nt d1) (fun h => absurd h.1 (by omega))
    have b3:=BSub.upd (B:=B) (o':=o2') Fn1 (upd_keep (o:=o1') (hE3 _ m2) (ane (by omega))) (nt d2) (fun h => absurd h.1 (by omega))
    have tr:∀ {a:Addr} {o:Obj},(a,o) ∈ n' → @Ne Nat a (L + 1) → @Ne Nat a (L + 2) → (a,o) ∈ upd (upd ((tu,tupO [.ref pot,.ref B.self] 0) :: n') (L + 1) o1') (L + 2) o2':=fun h a b => upd_keep (upd_keep (.tail _ h) a) b
    have pn:(pot,listO [.ref ca,.int 0 _] 0) ∈ n':=hE2 _ _ (.tail _ (.tail _ (.head _))) (Nat.ne_of_lt potd)
    have cn:(ca,LCg.lst ys) ∈ n':=hE2 _ _ (.tail _ (.tail _ (.tail _ (.head _)))) (Nat.ne_of_lt (Nat.lt_trans cap potd))
    have m3':(L + 3,o3) ∈ n':=hE2 _ _ (.tail _ (.tail _ (.tail _ (.tail _ (hE _ (.tail _ m3)))))) (Nat.ne_of_lt (Nat.lt_trans l3p potd))
    have hyl':ys.length ≤ 1000:=by rw [hyl,List.length_take]; omega
    exact ⟨⟨hB.mono (b1.trans (b2.trans b3)),⟨ca,⟨ys,0,_,.of (tr pn (by omega) (by omega)),Int.le_refl _,Int.le_refl _,.of (tr cn ca1 ca2),hys,by omega,Nat.ne_of_lt cap⟩,fun h => absurd h.1 (by omega)⟩,fun h => absurd h.1 (by omega)⟩,
      ⟨_,upd_keep upd_self (ane (by omega)),e1⟩,⟨_,upd_self,e2⟩,⟨o3,tr m3' (by omega) (by omega),d3⟩,l3p,potd⟩
end
structure L2 (w:World) (n:Led) (L:Addr) (B:BA) (R:RA) (F:Nat) (pot:Addr) (q:Nat) (tms:List Tm) (ws:List Int):Prop where
  st:St prg w n B F pot q tms ws
  cp:CellAt n (L + 1) (.ref pot)
  cb:CellAt n (L + 2) (.ref B.self)
  rw:Rw w.params n B R
  lc:@LT.lt Nat _ (L + 3) pot
  lp:@LT.lt Nat _ pot B.dict
  l1:@LT.lt Nat _ B.bvn R.dict
  l2:@LT.lt Nat _ R.dict R.self
theorem FrP.cell {B:BA} (u:B.Up) {pot c:Addr} {n n':Led} (f:FrP B pot n n') {v:Value} (h:CellAt n c v) (hc:@LT.lt Nat _ c pot) (hp:@LT.lt Nat _ pot B.dict):CellAt n' c v:=by
  refine Xea h ?_; clear h; intro o h1 h2
  exact ⟨o,f _ _ h1 (fun e => absurd (BA.mut_has u e).1 (Nat.not_le.mpr (Nat.lt_trans hc hp))) (Nat.ne_of_lt hc),h2⟩
theorem FrP.far {B:BA} (u:B.Up) {pot a:Addr} {n n':Led} (f:FrP B pot n n') {o:Obj} (h:(a,o) ∈ n) (ha:@LT.lt Nat _ B.bvn a) (hp:@LT.lt Nat _ pot a):(a,o) ∈ n':=
  f _ _ h (fun e => absurd (BA.mut_has u e).2 (Nat.not_le.mpr ha)) (Nat.ne_of_gt hp)
theorem BA.Up.db {B:BA} (u:B.Up):@LT.lt Nat _ B.dict B.bvn:=by
  exact u.lt 0 12 rfl
section
variable {w:World} {L:Addr} {Γ:Cx prg w sc_law (clL L)} {m:Loc} {n:Led} {B:BA} {R:RA} {F:Nat} {pot:Addr} {q:Nat} {tms:List Tm} {ws:List Int}
theorem L2.step {n':Led} {F' q':Nat} {tms' ws'} (h:L2 w n L B R F pot q tms ws) (f:FrP B pot n n') (hS:St prg w n' B F' pot q' tms' ws'):L2 w n' L B R F' pot q' tms' ws':=by
  obtain ⟨st,cp,cb,⟨r1,r2⟩,lc,lp,l1,l2⟩:=h
  have u:=st.bank.up
  have d:=u.db
  exact ⟨hS,f.cell u cp (by omega) lp,f.cell u cb (by omega) lp,⟨f.far u r1 (by omega) (by omega),f.far u r2 l1 (by omega)⟩,lc,lp,l1,l2⟩
theorem stmt1 (hr:20 ≤ Γ.rem) (h:L1 w n L B pot):T Γ (exec (lawS 1) Γ.env) m n (fun fl m' n' => fl = .next ∧ ∃ R,m' = (upL m (Str.ofString "rewriter") (.ref R.self)) ∧ PU n' (L + 3) ∧ L2 w n' L B R 0 pot 0 [τ0,τT,τF] [0,0,0]):=by
  refine T.fn' ?_
  conv in (lawS 1) => whnf
  obtain ⟨st,cp,cb,cs,lc,lp⟩:=h
  have u:=st.bank.up
  have d:=u.db
  have hs:=st.bank.base.sf
  walk_at "r"
  refine t_callWith (by kernel_rfl) ?_ (by rfl) (by rfl)
  walk_at "r"
  refine t_nameC cb ?_ (by rfl) (by rfl) (by decide +kernel)
  walk_at "r"
  refine Xea (id st.bank.bvd) fun _ z1_ _ => ?_; refine Xaeea z1_ ?_; clear z1_; intro _ _ _ bm _
  refine t_class (rem:=2) (ma_rw _) (in_rw _) (by kernel_rfl) (Nat.le_trans (by decide) hr) fun x dx hdx hlt => ⟨_,rwinit_spec ⟨.tail _ (.tail _ hs.self),.tail _ (.tail _ hs.dict)⟩ (.head _) (.tail _ (.head _)) (Nat.ne_of_gt hlt) (Nat.ne_of_lt (hdx _ hs.self)) (Nat.ne_of_lt (hdx _ hs.dict)),fun v n' hv => ?_⟩
  refine Xaaea hv ?_; clear hv; intro z2_ hE R z3_ hR; subst z2_; subst z3_
  refine ⟨rfl,fun Fn => ⟨rfl,R,rfl,?_⟩⟩
  have ex:Ext n n':=fun p hp => hE _ _ (.tail _ (.tail _ hp)) (Nat.ne_of_lt (hdx _ hp))
  have hxn:=hE _ _ (.head _) (Nat.ne_of_gt hlt)
  have e:R.dict = dx:=by have:=congrArg Obj.dict (Fn _ _ _ hR.self hxn); exact Option.some.inj this
  subst e
  refine Xea cs ?_; clear cs; intro o c1 c2
  exact ⟨⟨o,ex _ c1,c2⟩,⟨st.ext ex,cp.mono ex,cb.mono ex,hR,lc,lp,hdx _ bm,hlt⟩⟩
end
structure Som (n:Led) (tms:List Tm) (ws:List Int) (R:RA) (sa:Addr) (som:List Nat):Prop where
  la:∃ vs e,(sa,listO vs e) ∈ n ∧ All2 IsN som vs
  good:∀ t ∈ som,∃ wd,Good tms ws t wd
  ord:Ord tms
  cl:∀ (i t:Nat),som[i]? = some t → i < 2 ∨ ∀ τ,tms[t]? = some τ → ∀ a ∈ τ.args,∃ j t',j < i ∧ som[j]? = some t' ∧ a = ((t':Nat):Int)
  far:@LT.lt Nat _ R.self sa
  z:tms[0]? = some τ0
  tl:tms.length ≤ 3 + som.length
  wl:ws.length ≤ 4 + som.length
  s0:∃ t0 t1 t2 r,som = t0 :: t1 :: t2 :: r ∧ Good tms ws t0 3 ∧ Good tms ws t1 2 ∧ Good tms ws t2 3 ∧ (∃ τ,Wd tms ws t0 τ 3 ∧ τ.op = Str.ofString "app") ∧ ∃ τ,Wd tms ws t1 τ 2 ∧ τ.op = Str.ofString "app"
section
variable {w:World} {L:Addr} {Γ:Cx prg w sc_law (clL L)} {m:Loc} {n:Led} {B:BA} {R:RA} {F:Nat} {pot:Addr} {q:Nat} {tms:List Tm} {ws:List Int}
theorem L2.extD {n':Led} (h:L2 w n L B R F pot q tms ws) (Fn:Fun n) {c:Addr} {o:Obj} (e:ExtD c n n') (hm:(c,o) ∈ n) (hs:∀ vs e,o.data ≠ .seq vs e) (h1:@Ne Nat c (L + 1)) (h2:@Ne Nat c (L + 2)) (h3:@Ne Nat c R.self) (h4:@Ne Nat c R.dict) (hb:¬ B.has c):L2 w n' L B R F pot q tms ws:=by
  obtain ⟨st,⟨o1,c1,d1⟩,⟨o2,c2,d2⟩,⟨r1,r2⟩,lc,lp,l1,l2⟩:=h
  refine Xea st.pt fun ca z1_ g6 => ?_; refine Xeeeaaaa z1_ ?_; clear z1_; intro vs a t g1 g2 g3 g4 g5
  have ne:∀ {l:Addr} {us:List Value},ListAt n l us → l ≠ c:=fun ⟨oo,q1,q2,e,q3⟩ => Fn.ne q1 hm (fun he => by rw [he] at q3; exact hs _ _ q3)
  have nt:∀ us e,(c,tupO us e) ∉ n:=fun us e he => hs us.toArray e (by rw [Fn _ _ _ hm he])
  exact ⟨⟨st.bank.mono (e.b hb nt),⟨ca,⟨vs,a,t,e.listAt g1 (ne g1),g2,g3,e.listAt g4 (ne g4),g5⟩,g6⟩,st.out⟩,⟨o1,e _ _ c1 (ane h1.symm),d1⟩,⟨o2,e _ _ c2 (ane h2.symm),d2⟩,⟨e _ _ r1 (ane h3.symm),e _ _ r2 (ane h4.symm)⟩,lc,lp,l1,l2⟩
theorem L2.cell (h:L2 w n L B R F pot q tms ws) (Fn:Fun n) {o o':Obj} {v:Option Value} (hm:(L + 3,o) ∈ n) (hd:o.data = .cell v):L2 w (upd n (L + 3) o') L B R F pot q tms ws:=by
  have d:=h.st.bank.up.db
  have:=h.lc
  have:=h.lp
  have:=h.l1
  have:=h.l2
  exact h.extD Fn ExtD.refl.upd hm (fun _ _ he => by rw [hd] at he; cases he) (by omega) (by omega) (by omega) (by omega) (fun hh => absurd hh.1 (by omega))
theorem pre_orT {tms tms':List Tm} {τ:Tm} (h:tms' = tms ∨ tms' = tms ++ [τ]):tms <+: tms' ∧ tms'.length ≤ tms.length + 1:=by rcases h with rfl | rfl <;> simp
theorem FrP.pu {B:BA} (u:B.Up) {pot c:Addr} {n n':Led} (f:FrP B pot n n') (h:PU n c) (hc:@LT.lt Nat _ c pot) (hp:@LT.lt Nat _ pot B.dict):PU n' c:=by
  refine Xea h ?_; clear h; intro o h1 h2
  exact ⟨o,f _ _ h1 (fun e => absurd (BA.mut_has u e).1 (Nat.not_le.mpr (Nat.lt_trans hc hp))) (Nat.ne_of_lt hc),h2⟩
theorem stmt2 (hr:20 ≤ Γ.rem) (hp:PU n (L + 3)) (h:L2 w n L B R 0 pot 0 [τ0,τT,τF] [0,0,0]):T Γ (exec (lawS 2) Γ.env) m n (fun fl m' n' => fl = .next ∧ m' = m ∧ ∃ sa tms ws som,L2 w n' L B R 2 pot 1 tms ws ∧ CellAt n' (L + 3) (.ref sa) ∧ Som n' tms ws R sa som ∧ som.length = 3):=by
  conv in (lawS 2) => whnf
  refine t_assignC (c:=L + 3) ?_ (by kernel_rfl) (by with_unfolding_all rfl) (by rfl)
  refine T.fn' ?_
  have hs:=h.st.bank.base.sf
  walk_at "r"
  refine t_nameC h.cb ?_ (by rfl) (by rfl) (by decide +kernel)
  walk_at "r"
  refine t_nameC h.cb ?_ (by rfl) (by rfl) (by decide +kernel)
  walk_at "r"
  refine t_spec (sort_spec h.st.bank (by decide) (by decide) (by decide)) (Nat.le_trans (by decide) hr) fun v n1 hv => ?_
  refine Xeeaaaaa hv ?_; clear hv; intro k1 ws1 z2_ k13 hw1 hws1 hb1 f1; refine Xe z2_ ?_; clear z2_; intro tk1 z1_; subst z1_
  have h1:=h.step f1.p (h.st.frame f1 hb1)
  have hs1:=h1.st.bank.base.sf
  walk_at "r"
  refine t_spec (fresh_spec h1.st.bank (by decide) (by decide)) (Nat.le_trans (by decide) hr) fun v n2 hv => ?_
  refine Xeeeaaaaa hv ?_; clear hv; intro f0 i0 tms1 z3_ p0 e0 ht1 hb2 f2; refine Xe z3_ ?_; clear z3_; intro tk0 z2_; subst z2_
  have h2:=h1.step f2.p (h1.st.frame f2 hb2)
  have hs2:=h2.st.bank.base.sf
  refine Xa (pre_orT ht1) fun pt1 lt1 => ?_
  refine Xa (pre_or hws1) fun pw1 lw1 => ?_
  simp only [List.length_cons,List.length_nil] at lt1 lw1
  walk_at "r"
  refine t_nameC h2.cb ?_ (by rfl) (by rfl) (by decide +kernel)
  walk_at "r"
  refine t_nameC h2.cb ?_ (by rfl) (by rfl) (by decide +kernel)
  walk_at "r"
  refine t_spec (sort_spec h2.st.bank (by decide) (by decide) (by omega)) (Nat.le_trans (by decide) hr) fun v n3 hv => ?_
  refine Xeeaaaaa hv ?_; clear hv; intro k2 ws2 z4_ k23 hw2 hws2 hb3 f3; refine Xe z4_ ?_; clear z4_; intro tk2 z3_; subst z3_
  have h3:=h2.step f3.p (h2.st.frame f3 hb3)
  have hs3:=h3.st.bank.base.sf
  refine Xa (pre_or hws2) fun pw2 lw2 => ?_
  walk_at "r"
  refine t_spec (fresh_spec h3.st.bank (by decide) (by omega)) (Nat.le_trans (by decide) hr) fun v n4 hv => ?_
  refine Xeeeaaaaa hv ?_; clear hv; intro f1' i1 tms2 z5_ p1 e1 ht2 hb4 f4; refine Xe z5_ ?_; clear z5_; intro tk3 z4_; subst z4_
  have h4:=h3.step f4.p (h3.st.frame f4 hb4)
  have hs4:=h4.st.bank.base.sf
  refine Xa (pre_orT ht2) fun pt2 lt2 => ?_
  walk_at "r"
  refine t_nameC h4.cb ?_ (by rfl) (by rfl) (by decide +kernel)
  walk_at "r"
  refine t_nameC h4.cp ?_ (by rfl) (by rfl) (by decide +kernel)
  walk_at "r"
  refine T.fn fun Fn4 => ?_
  refine t_spec (h4.st.ladle Fn4 (by decide) (by decide)) (Nat.le_trans (by decide) hr) fun v n5 hv => ?_
  refine Xeaaaa hv ?_; clear hv; intro r z6_ r0 r1 hS5 f5; refine Xe z6_ ?_; clear z6_; intro tk4 z5_; subst z5_
  have h5:=h4.step f5 hS5
  walk_at "r"
  refine t_spec (num_spec h5.st.bank (by decide) (by decide) (by omega) (by omega)) (Nat.le_trans (by decide) hr) fun v n6 hv => ?_
  refine Xeeaaaeeaaaaa hv ?_; clear hv; intro k3 ws3 k33 hw3 hws3 i2 tms3 z7_ p2' e2 ht3 hb6 f6; refine Xe z7_ ?_; clear z7_; intro tk5 z6_; subst z6_
  have h6:=h5.step f6.p (h5.st.frame f6 hb6)
  refine Xa (pre_orT ht3) fun pt3 lt3 => ?_
  refine Xa (pre_or hws3) fun pw3 lw3 => ?_
  walk_at "r"
  refine t_newList (by simp) fun sa hsa hsa3 => ?_
  have fA:FrP B pot n n6:=f1.p.trans (f2.p.trans (f3.p.trans (f4.p.trans (f5.trans f6.p))))
  have u:=h.st.bank.up
  refine Xea (fA.pu u hp h.lc h.lp) fun o6 m6 d6 => ?_
  refine Xea (id h6.st.bank.bvd) fun _ z8_ _ => ?_; refine Xaeea z8_ ?_; clear z8_; intro _ _ _ bm _
  intro Fn7
  refine ⟨⟨_,o6,.tail _ m6,d6⟩,fun o ho => ⟨rfl,rfl,?_⟩⟩
  have db:=h.st.bank.up.db
  have sab:@LT.lt Nat _ R.self sa:=hsa _ h6.rw.self
  have W0:Wd tms3 ws3 i0 _ 3:=⟨pre_get (pt2.trans pt3) e0,k1,rfl,pre_get (pw2.trans pw3) hw1,k13⟩
  have W1:Wd tms3 ws3 i1 _ 2:=⟨pre_get pt3 e1,k2,rfl,pre_get pw3 hw2,k23⟩
  have G0:Good tms3 ws3 i0 3:=.app W0 rfl rfl (by decide) (by decide)
  have G1:Good tms3 ws3 i1 2:=.app W1 rfl rfl (by decide) (by decide)
  have e8:(1 * 2 ^ Int.toNat 3:Int) = 8:=by decide
  have G2:Good tms3 ws3 i2 3:=.num (x:=r.fmod (1 * 2 ^ Int.toNat 3)) ⟨e2,k3,rfl,hw3,k33⟩ rfl rfl rfl (by rw [e8]; exact Int.fmod_nonneg_of_pos _ (by decide)) (by rw [e8]; exact Int.fmod_lt_of_pos _ (by decide)) (by decide) (by decide)
  have O0:Ord [τ0,τT,τF]:=by
    have z:∀ τ ∈ [τ0,τT,τF],τ.args = []:=by
      intro τ hτ
      simp only [List.mem_cons,List.not_mem_nil,or_false] at hτ
      rcases hτ with rfl | rfl | rfl <;> rfl
    intro i τ e a ha
    rw [z τ (List.mem_of_getElem? e)] at ha
    exact nomatch ha
  have O3:Ord tms3:=by
    have a1:Ord tms1:=by rcases ht1 with rfl | rfl; exact O0; exact O0.snoc fun a h => nomatch h
    have a2:Ord tms2:=by rcases ht2 with rfl | rfl; exact a1; exact a1.snoc fun a h => nomatch h
    rcases ht3 with rfl | rfl; exact a2; exact a2.snoc fun a h => nomatch h
  refine ⟨sa,tms3,ws3,[i0,i1,i2],(h6.step (Ext.cons.f.p) (h6.st.ext Ext.cons)).cell Fn7 (.tail _ m6) d6,⟨o,upd_self,ho⟩,⟨⟨_,_,upd_keep (.head _) (ane (by have:=h.lc; have:=h.lp; have:=h.l1; have:=h6.l2; omega)),.cons ⟨_,rfl⟩ (.cons ⟨_,rfl⟩ (.cons ⟨_,rfl⟩ .nil))⟩,?_,O3,?_,sab,pre_get (pt1.trans (pt2.trans pt3)) rfl,by simp only [List.length_cons,List.length_nil]; omega,by simp only [List.length_cons,List.length_nil]; omega,⟨i0,i1,i2,[],rfl,G0,G1,G2,⟨_,W0,rfl⟩,⟨_,W1,rfl⟩⟩⟩,rfl⟩
  · intro t ht
    simp only [List.mem_cons,List.not_mem_nil,or_false] at ht
    rcases ht with rfl | rfl | rfl
    · exact ⟨_,G0⟩
    · exact ⟨_,G1⟩
    · exact ⟨_,G2⟩
  · intro i t e
    by_cases hi:i < 2
    · exact .inl hi
    · have hi2:i = 2:=by
        have:=(List.getElem?_eq_some_iff.mp e).1
        simp only [List.length_cons,List.length_nil] at this
        omega
      subst hi2
      refine .inr fun τ e' a ha => ?_
      cases e
      rw [e2] at e'; cases e'
      exact nomatch ha
end
section
variable {w:World} {L:Addr} {Γ:Cx prg w sc_law (clL L)} {m:Loc} {n:Led} {B:BA} {R:RA} {F:Nat} {pot sa:Addr} {q:Nat} {tms:List Tm} {ws:List Int}
theorem L2.append (h:L2 w n L B R F pot q tms ws) (Fn:Fun n) {vs:List Value} {e:Nat} {k:Int} {t:Tok} (hm:(sa,listO vs e) ∈ n) (hv:∀ v ∈ vs,∃ k t,v = .int k t) (hz:vs.length < 1000) (hf:@LT.lt Nat _ B.bvn sa) (h3:@Ne Nat sa R.self) (h4:@Ne Nat sa R.dict) :
    L2 w (upd n sa (listO (vs ++ [.int k t]) (e + 1))) L B R F pot q tms ws:=by
  obtain ⟨st,⟨o1,c1,d1⟩,⟨o2,c2,d2⟩,⟨r1,r2⟩,lc,lp,l1,l2⟩:=h
  have db:=st.bank.up.db
  refine Xea st.pt fun ca z1_ g8 => ?_; refine Xeeeaaaaaa z1_ ?_; clear z1_; intro us a tk g1 g2 g3 g4 g5 g6 g7
  have hp:pot ≠ sa:=ane (by omega)
  refine ⟨⟨st.bank.mono (BSub.upd Fn hm (fun us e he => absurd (congrArg Obj.cls he) (by simp)) (fun hh => absurd hh.2 (by omega))),⟨ca,?_,g8⟩,st.out⟩,⟨o1,upd_keep c1 (ane (by omega)),d1⟩,⟨o2,upd_keep c2 (ane (by omega)),d2⟩,⟨upd_keep r1 (ane h3.symm),upd_keep r2 (ane h4.symm)⟩,lc,lp,l1,l2⟩
  by_cases hc:ca = sa
  · subst hc
    refine ⟨vs ++ [.int k t],a,tk,g1.upd hp,g2,g3,.of upd_self,fun v hv' => ?_,by simp; omega,g7⟩
    rcases List.mem_append.mp hv' with hv' | hv'
    · exact hv v hv'
    · exact ⟨_,_,List.mem_singleton.mp hv'⟩
  · exact ⟨us,a,tk,g1.upd hp,g2,g3,g4.upd hc,g5,g6,g7⟩
theorem Fun.cons {n:Led} (h:Fun n) {I:Addr} {o:Obj} (hI:∀ p ∈ n,p.1 < I):Fun ((I,o) :: n):=fun a x y h1 h2 => by
  rcases List.mem_cons.mp h1 with e1 | h1
  · rcases List.mem_cons.mp h2 with e2 | h2
    · cases e1; cases e2; rfl
    · cases e1; exact absurd (hI _ h2) (Nat.lt_irrefl _)
  · rcases List.mem_cons.mp h2 with e2 | h2
    · cases e2; exact absurd (hI _ h1) (Nat.lt_irrefl _)
    · exact h _ _ _ h1 h2
theorem IsN.ints {som:List Nat} {vs:List Value} (h:All2 IsN som vs):∀ v ∈ vs,∃ k t,v = .int k t:=by
  intro v hv
  refine Xe (List.mem_iff_getElem?.mp hv) fun i hi => ?_
  refine Xeae (h.get' hi) fun a _ t e => ?_
  exact ⟨_,t,e⟩
theorem som_snoc {som:List Nat} {tms':List Tm} {t:Nat} (hg:∀ t ∈ som,∃ wd,Good tms ws t wd)
    (hc:∀ (i t:Nat),som[i]? = some t → i < 2 ∨ ∀ τ,tms[t]? = some τ → ∀ a ∈ τ.args,∃ j t',j < i ∧ som[j]? = some t' ∧ a = ((t':Nat):Int))
    (pt:tms <+: tms') (ha:∀ τ,tms'[t]? = some τ → ∀ a ∈ τ.args,∃ j ∈ som,a = (j:Int)) :
    ∀ (i t':Nat),(som ++ [t])[i]? = some t' → i < 2 ∨ ∀ τ,tms'[t']? = some τ → ∀ a ∈ τ.args,∃ j t'',j < i ∧ (som ++ [t])[j]? = some t'' ∧ a = ((t'':Nat):Int):=by
  intro i t' e
  have L:∀ {j x:Nat},som[j]? = some x → (som ++ [t])[j]? = some x:=fun h => by rw [List.getElem?_append_left (List.getElem?_eq_some_iff.mp h).1]; exact h
  by_cases hi:i < som.length
  · rw [List.getElem?_append_left hi] at e
    rcases hc i t' e with h | h
    · exact .inl h
    · refine .inr fun τ e' a h' => ?_
      refine Xe (hg t' (List.mem_of_getElem? e)) fun wd g => ?_
      refine Xea g.wd fun τ1 w1 _ => ?_
      have:=pre_get pt w1
      rw [e'] at this; cases this
      refine Xeeaa (h τ w1 a h') fun j x h1 h2 h3 => ?_
      exact ⟨j,x,h1,L h2,h3⟩
  · have hil:i = som.length:=by
      have:=(List.getElem?_eq_some_iff.mp e).1
      rw [List.length_append] at this
      simp only [List.length_cons,List.length_nil] at this
      omega
    subst hil
    rw [List.getElem?_append_right (Nat.le_refl _),Nat.sub_self] at e
    cases e
    refine .inr fun τ e' a h' => ?_
    refine Xea (ha τ e' a h') fun j hj hja => ?_
    refine Xe (List.mem_iff_getElem?.mp hj) fun k hk => ?_
    exact ⟨k,j,(List.getElem?_eq_some_iff.mp hk).1,L hk,hja⟩
theorem stmt3 (hr:20 ≤ Γ.rem) {som:List Nat} (hmr:m (Str.ofString "rewriter") = some (.ref R.self)) (h:L2 w n L B R 2 pot 1 tms ws) (hcs:CellAt n (L + 3) (.ref sa)) (hS:Som n tms ws R sa som) (h3:som.length = 3) :
    T Γ (exec (lawS 3) Γ.env) m n (fun fl m' n' => fl = .next ∧ m' (Str.ofString "rewriter") = some (.ref R.self) ∧ ∃ q tms ws som,q ≤ 30 ∧ L2 w n' L B R 2 pot q tms ws ∧ CellAt n' (L + 3) (.ref sa) ∧ Som n' tms ws R sa som ∧ som.length ≤ 7):=by
  conv in (lawS 3) => whnf
  have db:=h.st.bank.up.db
  have hlc:=h.lc
  have hlp:=h.lp
  have hl1:=h.l1
  have hl2:=h.l2
  have u:=h.st.bank.up
  refine t_for ?_ (by intro _; rfl)
  walk_at "r"
  refine t_nameC h.cp ?_ (by rfl) (by rfl) (by decide +kernel)
  walk_at "r"
  refine T.fn fun Fn => ?_
  refine t_spec (h.st.ladle Fn (by decide) (by decide)) (Nat.le_trans (by decide) hr) fun v n1 hv => ?_
  refine Xeaaaa hv ?_; clear hv; intro r z2_ r0 r1 hS1 f1; refine Xe z2_ ?_; clear z2_; intro tk z1_; subst z1_
  have h1:=h.step f1 hS1
  refine Xeea hS.la fun sv se sm sv2 => ?_
  have sm1:=f1.far u sm (by have:=hS.far; omega) (by have:=hS.far; omega)
  walk_at "r"
  refine t_range1 fun rg o hrg hrg3 hRg hcl => ?_
  obtain ⟨cnt,hcnt⟩:∃ cnt:Nat,2 + r = cnt:=⟨(2 + r).toNat,by omega⟩
  rw [hcnt] at hRg
  refine T.fn fun FnR => ?_
  refine t_iterR hRg (by decide) (by decide) (by omega) (by omega) fun I hI hI3 => ?_
  rw [if_pos (by omega)]
  rw [show (cnt:Int) - 0 = ((cnt:Nat):Int) - ((0:Nat):Int) by omega]
  have fr1:Ext n1 ((I,riO 0 (((cnt:Nat):Int) - ((0:Nat):Int))) :: (rg,o) :: n1):=Ext.cons.trans Ext.cons
  have hI1:∀ p ∈ n1,p.1 < I:=fun p hp => hI p (.tail _ hp)
  have c1:=f1.cell u hcs hlc hlp
  have R1I:@LT.lt Nat _ R.self I:=hI1 _ h1.rw.self
  have saI:@LT.lt Nat _ sa I:=hI1 _ sm1
  have hfar:=hS.far
  refine Loop.range (a:=0) cnt (fun i m n1 => m (Str.ofString "rewriter") = some (.ref R.self) ∧ (I,riO (0 + i) ((cnt:Nat) - (i:Int))) ∈ n1 ∧ ∃ q tms ws som,q ≤ 2 + 5 * i ∧ L2 w n1 L B R 2 pot q tms ws ∧ CellAt n1 (L + 3) (.ref sa) ∧ Som n1 tms ws R sa som ∧ som.length = 3 + i ∧ Fun n1) (by rfl)
    ⟨hmr,.head _,2,tms,ws,som,Nat.le_refl _,h1.step fr1.f.p (h1.st.ext fr1),c1.mono fr1,⟨⟨sv,se,fr1 _ sm1,sv2⟩,hS.good,hS.ord,hS.cl,hS.far,hS.z,hS.tl,hS.wl,hS.s0⟩,h3,FnR.cons hI⟩ (fun i m1 n1 h => h.2.1) ?step ?done
  case done =>
    rintro m1 n2 ⟨hm1,hIi,q,tms,ws,som,hq,hL,hc,hS,hl,Fn2⟩
    have eD:ExtD I n2 (n2.filter (fun p => p.1 != I)):=fun a o h hn => List.mem_filter.mpr ⟨h,by simpa using hn⟩
    refine Xeea hS.la fun sv se sm sv2 => ?_
    exact ⟨rfl,hm1,q,tms,ws,som,by omega,hL.extD Fn2 eD hIi (fun _ _ he => by cases he) (ane (by omega)) (ane (by omega)) (ane (by omega)) (ane (by omega)) (fun hh => absurd hh.2 (by omega)),eD.cellAt hc (ane (by omega)),⟨⟨sv,se,eD _ _ sm (ane (by omega)),sv2⟩,hS.good,hS.ord,hS.cl,hS.far,hS.z,hS.tl,hS.wl,hS.s0⟩,by omega⟩
  case step =>
    rintro i m1 n2 tl hi9 ⟨hm1,hIi,q,tms,ws,som,hq,hL,hc,hS,hl,Fn2⟩
    refine Xeea hS.la fun sv se sm sv2 => ?_
    obtain ⟨o',ho'⟩:∃ o',o' = riO (0 + (i + 1:Nat)) ((cnt:Nat) - ((i + 1:Nat):Int)):=⟨_,rfl⟩
    rw [← ho']
    have eD:ExtD I n2 (upd n2 I o'):=ExtD.refl.upd
    have hL3:L2 w (upd n2 I o') L B R 2 pot q tms ws:=hL.extD Fn2 eD hIi (fun _ _ he => by cases he) (ane (by omega)) (ane (by omega)) (ane (by omega)) (ane (by omega)) (fun hh => absurd hh.2 (by omega))
    have sm3:=eD _ _ sm (ane (by omega))
    have hc3:=eD.cellAt hc (ane (by omega))
    have hI3:(I,o') ∈ upd n2 I o':=upd_self
    generalize upd n2 I o' = n3 at *
    have hs:=hL3.st.bank.base.sf
    have htl:=hS.tl
    have hwl:=hS.wl
    have svl:=sv2.length
    refine T.fn' ?_
    walk_at "r"
    refine t_nameC hc3 ?_ (by rfl) (by rfl) (by decide +kernel)
    walk_at "r"
    refine t_nameC hL3.cp ?_ (by rfl) (by rfl) (by decide +kernel)
    walk_at "r"
    refine t_nameC hL3.cb ?_ (by rfl) (by rfl) (by decide +kernel)
    walk_at "r"
    refine t_nameC hc3 ?_ (by rfl) (by rfl) (by decide +kernel)
    walk_at "r"
    refine t_spec (term_spec hL3.st (.of sm3) sv2 hS.good (by omega) (by omega) (by omega) (fun hh => absurd hh.2 (by omega)) (ane (by omega)) hS.ord (by omega) (by omega)) (Nat.le_trans (by decide) hr) fun v n4 hv => ?_
    refine Xeeeaaaaaaaaa hv ?_; clear hv; intro t tms' ws' z3_ hS4 f4 pt pw lt lw z4_ O ha; refine Xe z3_ ?_; clear z3_; intro tk z2_; subst z2_; refine Xe z4_ ?_; clear z4_; intro wd G
    have hL4:=hL3.step f4 hS4
    have sm4:=f4.far u sm3 (by omega) (by omega)
    have hc4:=f4.cell u hc3 hlc hlp
    have hI4:=f4.far u hI3 (by omega) (by omega)
    walk_at "r"
    refine T.fn fun Fn4 => ?_
    refine t_append sm4 (by omega) ?_
    walk_at "r"
    intro Fn5
    have sne:∀ {a:Addr},@Ne Nat a sa → a ≠ sa:=fun h => h
    refine Xea hc4 ?_; clear hc4; intro oc oc1 oc2
    refine ⟨hm1,upd_keep hI4 (ane (by omega)),q + 5,tms',ws',som ++ [t],by omega,hL4.append Fn4 sm4 (IsN.ints sv2) (by omega) (by omega) (ane (by omega)) (ane (by omega)),⟨oc,upd_keep oc1 (ane (by omega)),oc2⟩,⟨⟨_,_,upd_self,sv2.snoc ⟨tk,rfl⟩⟩,?_,O,?_,hS.far,pre_get pt hS.z,?_,?_,?_⟩,?_,Fn5⟩
    · intro t' ht'
      rcases List.mem_append.mp ht' with ht' | ht'
      · refine Xe (hS.good t' ht') fun wd' g => ?_
        exact ⟨wd',g.mono pt pw⟩
      · exact ⟨wd,List.mem_singleton.mp ht' ▸ G⟩
    · exact som_snoc hS.good hS.cl pt ha
    · rw [List.length_append]; simp only [List.length_cons,List.length_nil]; omega
    · rw [List.length_append]; simp only [List.length_cons,List.length_nil]; omega
    · refine Xeeeeaaaaaea hS.s0 fun t0 t1 t2 r' z5_ g0 g1 g2 z6_ τ2 w2 o2 => ?_; subst z5_; refine Xea z6_ ?_; clear z6_; intro τ1 w1 o1
      exact ⟨t0,t1,t2,r' ++ [t],rfl,g0.mono pt pw,g1.mono pt pw,g2.mono pt pw,⟨τ1,w1.mono pt pw,o1⟩,τ2,w2.mono pt pw,o2⟩
    · rw [List.length_append]; simp only [List.length_cons,List.length_nil]; omega
end
section
variable {prog:Program} {w:World} {cs:Scope} {cl:List (PySem.Str × Addr)} {Γ:Cx prog w cs cl} {m:Loc} {n:Led}
theorem IDict.nil {n:Led} {d:Addr} (hd:3 < d) (h:(d,dictO #[] 0) ∈ n):IDict prog w n d []:=⟨Nat.ne_of_gt (Nat.lt_trans (by decide:1 < 3) hd),#[],0,h,fun e h => by simp at h,.nil,.nil⟩
theorem t_dict2 {k1 k2 v1 v2:PySem.Expr} {pos:Pos} {env:Env} {P:Value → Loc → Led → Prop}
    (h:∀ d,(∀ p ∈ n,p.1 < d) → 3 < d → T Γ (eval k1 env) m ((d,dictO #[] 0) :: n) (fun a1 m1 n1 => T Γ (eval v1 env) m1 n1 (fun b1 m2 n2 => T Γ (eval k2 env) m2 n2 (fun a2 m3 n3 => T Γ (eval v2 env) m3 n3 (fun b2 m4 n4 =>
      ∃ x y t u,a1 = .int x t ∧ a2 = .int y u ∧ x ≠ y ∧ (d,dictO #[] 0) ∈ n4 ∧ ∀ es ep,IDict prog w (upd n4 d (dictO es ep)) d [(x,b1),(y,b2)] → P (.ref d) m4 (upd n4 d (dictO es ep))))))) :
    T Γ (eval (.Dict [some k1,some k2] [v1,v2] pos) env) m n P:=fun s Q E F N q => by
  refine Xa (push_led F N (dictO #[] 0)) fun F0 N0 => ?_
  have hd3:=Γ.lo F
  refine wpAny_Dict_walk (knd:=iK prog w) rfl rfl (by simp) (show (2:Nat) ≤ 15 by decide) ?_
  refine pairTrees_cons_walk (h _ (fun p hp => Heap.lt_size (N p hp).1) hd3 { s with heap:=s.heap.push (dictO #[] 0) } _ E F0 N0 fun a1 m1 n1 h1 tk1 F1 N1 p => p _ _ E F1 N1 fun b1 m2 n2 h2 tk2 F2 N2 p =>
    pairTrees_cons_walk (p _ _ E F2 N2 fun a2 m3 n3 h3 tk3 F3 N3 p => p _ _ E F3 N3 fun b2 m4 n4 h4 tk4 F4 N4 p => pairTrees_nil_walk ?_))
  refine Xeeeeaaaa p ?_; clear p; intro x y t u z1_ z2_ hne hm k; subst z1_; subst z2_
  have hD:=(IDict.nil (prog:=prog) (w:=w) hd3 hm).at N4
  refine ⟨[(x,b1),(y,b2)],⟨isI_int ⟨t,rfl⟩,rfl,isI_int ⟨u,rfl⟩,rfl,trivial⟩,hD,fun h' hd' hs => ?_⟩
  have e:merged [] [(x,b1),(y,b2)] = [(x,b1),(y,b2)]:=by
    show stored (stored [] x b1) y b2 = _
    have e1:stored ([]:List (Int × Value)) x b1 = [(x,b1)]:=stored_absent (kvs:=[]) rfl b1
    rw [e1]
    exact stored_absent (by simp [valueAt,hne]) b2
  rw [e] at hd'
  refine Xeeeaaaaa hd' ?_; clear hd'; intro o es' ep' ho hx hdt g1 g2 g3
  refine Xa (led_dict F4 N4 hm hs ho hx hdt) fun F' N' => ?_
  exact q _ m4 _ _ _ F' N' (k es' ep' ⟨Nat.ne_of_gt (Nat.lt_trans (by decide:1 < 3) hd3),es',ep',upd_self,g1,g2,g3⟩)
end
section
variable {prog:Program} {w:World} {cs:Scope} {cl:List (PySem.Str × Addr)} {Γ:Cx prog w cs cl} {m:Loc} {n:Led} {scope:Scope} {cl':List (PySem.Str × Addr)}
theorem t_assignCompR {elt iter:PySem.Expr} {x y:PySem.Str} {px py:Pos} {pos spos:Pos} {P:Flow → Loc → Led → Prop}
    (h:T Γ (eval iter Γ.env) m n (fun xv m1 n1 => m1 = m ∧ ∃ r a b cnt J,xv = .ref r ∧ RangeO n1 r a b ∧ -(2 ^ 62) ≤ a ∧ a < 2 ^ 62 ∧ -(2 ^ 62) ≤ b ∧ b < 2 ^ 62 ∧ (if a < b then b - a else 0) = ((cnt:Nat):Int) ∧ cnt < 2 ^ 20 ∧ CStep Γ elt x scope cl' m (fun i v => ∃ t,v = .int (a + (i:Int)) t) cnt J ∧ J 0 [] n1 ∧ ∀ ys n2 D,J cnt ys n2 → LCg.Off1 D n2 → P .next (fun z => if z = y then some (.ref D) else m z) ((D,LCg.lst ys) :: n2)))
    (hsw:swapsWith (.ListComp elt [⟨.Name x px,iter,[],0⟩] scope pos) (some (.Name y py)) spos.line Γ.env = pure true)
    (hclos:closureFor scope Γ.env = pure cl') (hcell:∀ y ∈ scope.names,y.2 ≠ .cell) (hkind:scope.kind = .function)
    (hnames:∀ y ∈ scope.names,y.2 = .local → scope.names.lookup y.1 = some .local) (hx:scope.names.lookup x = some .local) (hy:cs.names.lookup y = some .local) (hs:∀ x,foldedSetIterable iter Γ.env x = pure x) :
    T Γ (exec (.Assign [.Name y py] (.ListComp elt [⟨.Name x px,iter,[],0⟩] scope pos) spos) Γ.env) m n P:=fun s Q E F N q =>
  LCg.Assign_ListComp_U F rfl hsw hclos hcell hkind hnames hx hy (by show (cs.kind == .class || (cs.kind == .module && _)) = false; rw [Γ.hk]; rfl) (h s _ E F N fun xv m1 n1 h1 tk1 F1 N1 p => by
    refine Xaeeeeeaaaaaaaaaa p ?_; clear p; intro z3_ r a b cnt J z4_ hl a1 a2 b1 b2 hc hz st hJ fin; subst z3_; subst z4_
    refine Xeee hl ?_; clear hl; intro t u v hm
    refine .inr ⟨r,a,b,t,u,v,cnt,n1,rfl,Γ.hh,F1,N1,(N1 _ hm).1,small_one a1 a2 b1 b2,by rw [rangeSize_one]; exact hc,by rw [sizeLine_eq]; omega,fun s₂ hs₂ => ?_⟩
    refine Xe hs₂ ?_; clear hs₂; intro g z5_; subst z5_
    have:=st.rest (S:=fun _ => True) (fun i ys n1 hJ => trivial)
      (Fin:=LCg.FinA Γ.h₀ Γ.L m1 { s with heap:=g,toks:=tk1 } y Q) (fun ys n2 hJ D h2 tk2 F2 N2 off => q _ _ _ h2 tk2 F2 N2 (fin ys n2 D hJ off)) { s with heap:=g,toks:=tk1 } cnt 0 [] n1 (by omega) hJ
    exact this) hs
end
structure L4 (w:World) (n:Led) (L:Addr) (B:BA) (R:RA) (pot ca:Addr) (q:Nat) (tms:List Tm) (ws:List Int) (sa:Addr) (som:List Nat):Prop where
  bank:Bank prg w n B 2 tms ws
  pt:Pot n pot ca q
  hca:¬ B.has ca
  cp:CellAt n (L + 1) (.ref pot)
  cb:CellAt n (L + 2) (.ref B.self)
  cs:CellAt n (L + 3) (.ref sa)
  rw:Rw w.params n B R
  la:∃ vs e,(sa,listO vs e) ∈ n ∧ All2 IsN som vs
  lc:@LT.lt Nat _ (L + 3) pot
  lp:@LT.lt Nat _ pot B.dict
  l1:@LT.lt Nat _ B.bvn R.dict
  l2:@LT.lt Nat _ R.dict R.self
  far:@LT.lt Nat _ R.self sa
section
variable {w:World} {L:Addr} {Γ:Cx prg w sc_law (clL L)} {m:Loc} {n n':Led} {B:BA} {R:RA} {pot ca sa:Addr} {q q':Nat} {tms:List Tm} {ws:List Int} {som:List Nat}
theorem L4.of (h:L2 w n L B R 2 pot q tms ws) (hc:CellAt n (L + 3) (.ref sa)) (hS:Som n tms ws R sa som):∃ ca,L4 w n L B R pot ca q tms ws sa som:=by
  refine Xea h.st.pt fun ca p hca => ?_
  exact ⟨ca,h.st.bank,p,hca,h.cp,h.cb,hc,h.rw,hS.la,h.lc,h.lp,h.l1,h.l2,hS.far⟩
theorem L4.ext (h:L4 w n L B R pot ca q tms ws sa som) (e:Ext n n'):L4 w n' L B R pot ca q tms ws sa som:=by
  refine Xeea h.la fun vs k a b => ?_
  exact ⟨h.bank.mono e.b,h.pt.mono e,h.hca,h.cp.mono e,h.cb.mono e,h.cs.mono e,h.rw.mono e,⟨vs,k,e _ a,b⟩,h.lc,h.lp,h.l1,h.l2,h.far⟩
theorem L4.ladle (h:L4 w n L B R pot ca q tms ws sa som) (Fn:Fun n) {N:Led} {o:Obj} (hP:Pot (upd N pot o) pot ca q'):L4 w (upd n pot o) L B R pot ca q' tms ws sa som:=by
  have db:=h.bank.up.db
  have lc:=h.lc
  have lp:=h.lp
  have l1:=h.l1
  have l2:=h.l2
  have far:=h.far
  refine Xeeeaaaaaa h.pt fun vs0 a0 t0 z6_ _ _ g4 g5 g6 g7 => ?_; refine Xeaae z6_ ?_; clear z6_; intro o0 m0 c0 e0 d0
  refine Xeeeaaaaaa hP ?_; clear hP; intro vs a t z7_ p2 p3 p4 p5 p6 p7; refine Xeaae z7_ ?_; clear z7_; intro o1 m1 c1 e1 d1
  have e:o1 = o:=by
    rcases List.mem_cons.mp m1 with e | hh
    · cases e; rfl
    · have:=(List.mem_filter.mp hh).2
      simp at this
  subst e
  refine Xeea h.la fun us k la lb => ?_
  refine Xea h.cp fun x1 y1 z1 => ?_
  refine Xea h.cb fun x2 y2 z2 => ?_
  refine Xea h.cs fun x3 y3 z3 => ?_
  obtain ⟨r1,r2⟩:=h.rw
  exact ⟨h.bank.mono (BSub.upd Fn m0 (fun us e he => by rw [he] at c0; exact absurd c0 (by simp)) (fun hh => absurd hh.1 (by omega))),⟨vs0,a,t,⟨o1,upd_self,c1,e1,d1⟩,p2,p3,g4.upd g7,g5,g6,g7⟩,h.hca,⟨x1,upd_keep y1 (ane (by omega)),z1⟩,⟨x2,upd_keep y2 (ane (by omega)),z2⟩,⟨x3,upd_keep y3 (ane (by omega)),z3⟩,
    ⟨upd_keep r1 (ane (by omega)),upd_keep r2 (ane (by omega))⟩,⟨us,k,upd_keep la (ane (by omega)),lb⟩,lc,lp,l1,l2,far⟩
theorem upd_mono {a b:Led} {d:Addr} {o:Obj} (h:∀ p ∈ a,p ∈ b):∀ p ∈ upd a d o,p ∈ upd b d o:=fun p hp => by
  rcases List.mem_cons.mp hp with rfl | hp
  · exact .head _
  · refine Xa (List.mem_filter.mp hp) fun h1 h2 => ?_
    exact .tail _ (List.mem_filter.mpr ⟨h _ h1,h2⟩)
def TabV (w:World) (n:Led) (R:RA) (tms:List Tm) (ws:List Int) (som:List Nat) (tb:List (Int × Int)) (v:Value):Prop:=
  ∃ d,v = .ref d ∧ @LT.lt Nat _ R.self d ∧ TabAt prg w n d tb ∧ TabOk tms ws tb ∧ ∀ t ∈ som,∃ x,((t:Int),x) ∈ tb
theorem TabAt.mem {d:Addr} {tb} (h:TabAt prg w n d tb):∃ es ep,(d,dictO es ep) ∈ n:=by refine Xea h ?_; clear h; intro _ z8_ _; refine Xaeea z8_ ?_; clear z8_; intro _ es ep h _; exact ⟨es,ep,h⟩
theorem TabAt.to {d:Addr} {tb} (h:TabAt prg w n d tb) (k:∀ es ep,(d,dictO es ep) ∈ n → (d,dictO es ep) ∈ n'):TabAt prg w n' d tb:=by refine Xea h ?_; clear h; intro kvs z9_ h2; refine Xaeea z9_ ?_; clear z9_; intro h0 es ep h1 r; exact ⟨kvs,⟨h0,es,ep,k _ _ h1,r⟩,h2⟩
theorem TabV.to {tb v} (h:TabV w n R tms ws som tb v) (k:∀ d es ep,@LT.lt Nat _ R.self d → (d,dictO es ep) ∈ n → (d,dictO es ep) ∈ n'):TabV w n' R tms ws som tb v:=by
  refine Xeaaa h ?_; clear h; intro d h1 h2 h3 h4
  exact ⟨d,h1,h2,h3.to fun es ep hm => k d es ep h2 hm,h4⟩
theorem off3_of {I C D:Addr}:∀ {l:Led},(∀ p ∈ l,@Ne Nat p.1 I ∧ @Ne Nat p.1 C ∧ @Ne Nat p.1 D) → LCg.Off3 I C D l:=by
  intro l
  induction l with
  | nil => exact fun _ => trivial
  | cons p r ih => exact fun h => ⟨h p (.head _),ih fun q hq => h q (.tail _ hq)⟩
theorem upd_addr {n:Led} {d:Addr} {o o':Obj} (hm:(d,o') ∈ n) {p:Addr × Obj} (h:p ∈ upd n d o):∃ o,(p.1,o) ∈ n:=by
  rcases List.mem_cons.mp h with rfl | h
  · exact ⟨_,hm⟩
  · exact ⟨_,(List.mem_filter.mp h).1⟩
theorem Bank.mut_mem {F:Nat} (hb:Bank prg w n B F tms ws):∀ a ∈ B.mut,∃ o,(a,o) ∈ n:=by
  refine Xeea hb.names fun _ _ h1 _ => ?_
  refine Xeea hb.base.widths fun _ _ h2 _ => ?_
  refine Xeea hb.fnames fun _ _ h3 _ => ?_
  refine Xeea hb.fargs fun _ _ h4 _ => ?_
  refine Xeea hb.fres fun _ _ h5 _ => ?_
  refine Xeea hb.base.ops fun _ _ h6 _ => ?_
  refine Xeea hb.base.args fun _ _ h7 _ => ?_
  refine Xeea hb.base.sorts fun _ _ h8 _ => ?_
  refine Xeea hb.base.datas fun _ _ h9 _ => ?_
  refine Xea hb.nums fun _ z10_ _ => ?_; refine Xaeea z10_ ?_; clear z10_; intro _ _ _ h10 _
  refine Xea hb.bvd fun _ z11_ _ => ?_; refine Xaeea z11_ ?_; clear z11_; intro _ _ _ h11 _
  intro a ha
  unfold BA.mut at ha
  simp only [List.mem_cons,List.not_mem_nil,or_false] at ha
  rcases ha with rfl | rfl | rfl | rfl | rfl | rfl | rfl | rfl | rfl | rfl | rfl <;> first | exact ⟨_,h1⟩ | exact ⟨_,h2⟩ | exact ⟨_,h3⟩ | exact ⟨_,h4⟩ | exact ⟨_,h5⟩ | exact ⟨_,h6⟩ | exact ⟨_,h7⟩ | exact ⟨_,h8⟩ | exact ⟨_,h9⟩ | exact ⟨_,h10⟩ | exact ⟨_,h11⟩
theorem stmt4 (hr:20 ≤ Γ.rem) (hL:L4 w n L B R pot ca q tms ws sa som) (hS:Som n tms ws R sa som) (hq:q ≤ 100) (hsl:som.length ≤ 7) (hmr:m (Str.ofString "rewriter") = some (.ref R.self)) :
    T Γ (exec (lawS 4) Γ.env) m n (fun fl m' n' => fl = .next ∧ ∃ ta tvs tbs q',m' = (upL m (Str.ofString "tables") (.ref ta)) ∧ L4 w n' L B R pot ca q' tms ws sa som ∧ ta ∉ B.mut ∧ (ta,listO tvs 2) ∈ n' ∧ All2 (TabV w n' R tms ws som) tbs tvs):=by
  conv in (lawS 4) => whnf
  refine t_assignCompR (cl':=[(Str.ofString "some",L + 3),(Str.ofString "pot",L + 1),(Str.ofString "bank",L + 2)]) ?_ (by with_unfolding_all rfl) (by with_unfolding_all rfl) (by decide +kernel) (by rfl) (by decide +kernel) (by rfl) (by rfl) (by intro _; rfl)
  walk_at "r"
  refine t_range1 fun rg o hrg hrg3 hRg hcl => ?_
  have hL1:=hL.ext (Ext.cons (p:=(rg,o)))
  refine ⟨rfl,rg,0,2,2,(fun i ys n1 => ∃ q' tbs,q' ≤ q + 2 * i ∧ L4 w n1 L B R pot ca q' tms ws sa som ∧ tbs.length = i ∧ All2 (TabV w n1 R tms ws som) tbs ys),rfl,hRg,by decide,by decide,by decide,by decide,rfl,by decide,?step,⟨q,[],Nat.le_refl _,hL1,rfl,.nil⟩,?fin⟩
  case step =>
    intro i ys n1 v I oI C oC D m₂ hi hv hJ hNs hmx hoff hIC hID hCD
    refine Xeeaaa hJ ?_; clear hJ; intro q' tbs hq' hL hl hT
    have far:=hL.far
    have lc:=hL.lc
    have lp:=hL.lp
    have l1:=hL.l1
    have l2:=hL.l2
    have db:=hL.bank.up.db
    obtain ⟨N0,hN0⟩:∃ N0,N0 = (I,oI) :: (C,oC) :: (D,LCg.lst ys) :: n1:=⟨_,rfl⟩
    have ex0:Ext n1 N0:=hN0 ▸ (Ext.cons.trans (Ext.cons.trans Ext.cons))
    have iN:(I,oI) ∈ N0:=hN0 ▸ .head _
    have cN:(C,oC) ∈ N0:=hN0 ▸ .tail _ (.head _)
    have dN:(D,LCg.lst ys) ∈ N0:=hN0 ▸ .tail _ (.tail _ (.head _))
    rw [← hN0]
    have hL0:=hL.ext ex0
    refine T.fn fun Fn0 => ?_
    have Fn1:Fun n1:=fun a o o' h h' => Fn0 a o o' (ex0 _ h) (ex0 _ h')
    refine Xeeea (id hL.pt) fun _ _ _ z12_ _ => ?_; refine Xea z12_ ?_; clear z12_; intro op pm _
    refine Xeea (id hL.la) fun _ _ sm1 _ => ?_
    refine Xeeeeaaaaaea (id hS.s0) fun t0 t1 t2 r hsom G0 G1 G2 z13_ τ1' w1 o1 => ?_; refine Xea z13_ ?_; clear z13_; intro τ0' w0 o0
    have hne:(t0:Int) ≠ (t1:Int):=fun e => by
      have e':t0 = t1:=by omega
      subst e'
      refine Xe G0.wd fun _ w0' => ?_
      refine Xe G1.wd fun _ w1' => ?_
      exact absurd (w0'.inj w1').2 (by decide)
    walk_at "s"
    refine t_cnG (ns_law_numbers _) ?_ (by rfl) (by rfl) (by decide +kernel)
    walk_at "r"
    refine t_cnC hL0.cb ?_ (by rfl) (by rfl) (by rfl) (by decide +kernel)
    walk_at "r"
    refine t_cnC hL0.cs ?_ (by rfl) (by rfl) (by rfl) (by decide +kernel)
    walk_at "r"
    refine t_dict2 fun d hd hd3 => ?_
    have hLa:=hL0.ext (Ext.cons (p:=(d,dictO #[] 0)))
    have sad:@LT.lt Nat _ sa d:=hd _ (ex0 _ sm1)
    refine T.fn fun Fna => ?_
    walk_at "r"
    refine t_cnC hLa.cs ?_ (by rfl) (by rfl) (by rfl) (by decide +kernel)
    walk_at "r"
    refine Xeea hLa.la fun sv se sm sv2 => ?_
    refine Xeae (sv2.get (i:=0) (a:=t0) (by rw [hsom]; rfl)) fun _ e0 tk0 z14_ => ?_; subst z14_
    refine t_item (.of sm) (by decide) e0 ?_ (by decide)
    walk_at "r"
    refine t_cnG (ns_law_ladle _) ?_ (by rfl) (by rfl) (by decide +kernel)
    walk_at "r"
    refine t_cnC hLa.cp ?_ (by rfl) (by rfl) (by rfl) (by decide +kernel)
    walk_at "r"
    refine t_spec (ladle_spec hLa.pt (by omega) (by decide)) (Nat.le_trans (by decide) hr) fun v Nb hv => ?_
    refine Xaeaa hv ?_; clear hv; intro z15_ ob hob z16_ hPb; refine Xeaa z15_ ?_; clear z15_; intro x0 z1_ x00 x08; obtain ⟨tx,rfl⟩:=z1_; subst z16_
    have hLb:=hLa.ladle Fna hPb
    have hMb:=hL0.ladle Fn0 hPb
    have hKb:=hL.ladle Fn1 hPb
    refine T.fn fun Fnb => ?_
    walk_at "r"
    refine t_cnC hLb.cs ?_ (by rfl) (by rfl) (by rfl) (by decide +kernel)
    walk_at "r"
    refine Xeea hLb.la fun sv' se' sm' sv2' => ?_
    refine Xeae (sv2'.get (i:=1) (a:=t1) (by rw [hsom]; rfl)) fun _ e1 tk1 z17_ => ?_; subst z17_
    refine t_item (.of sm') (by decide) e1 ?_ (by decide)
    walk_at "r"
    refine t_cnG (ns_law_ladle _) ?_ (by rfl) (by rfl) (by decide +kernel)
    walk_at "r"
    refine t_cnC hLb.cp ?_ (by rfl) (by rfl) (by rfl) (by decide +kernel)
    walk_at "r"
    refine t_spec (ladle_spec hLb.pt (by omega) (by decide)) (Nat.le_trans (by decide) hr) fun v Nc hv => ?_
    refine Xaeaa hv ?_; clear hv; intro z18_ oc hoc z19_ hPc; refine Xeaa z18_ ?_; clear z18_; intro x1 z2_ x10 x14; obtain ⟨ty,rfl⟩:=z2_; subst z19_
    have FnMb:Fun (upd N0 pot ob):=fun a o o' h h' => Fnb a o o' (upd_mono Ext.cons _ h) (upd_mono Ext.cons _ h')
    have FnKb:Fun (upd n1 pot ob):=fun a o o' h h' => FnMb a o o' (upd_mono ex0 _ h) (upd_mono ex0 _ h')
    have hMc:=hMb.ladle FnMb hPc
    have hKc:=hKb.ladle FnKb hPc
    have dp:@Ne Nat d pot:=by omega
    refine ⟨_,_,_,_,rfl,rfl,hne,upd_keep (upd_keep (.head _) (ane dp)) (ane dp),fun es ep hDict => ?_⟩
    obtain ⟨N4,hN4⟩:∃ N4,N4 = upd (upd (upd ((d,dictO #[] 0) :: N0) pot ob) pot oc) d (dictO es ep):=⟨_,rfl⟩
    have ex4:Ext (upd (upd N0 pot ob) pot oc) N4:=fun p hp => by
      have hlt:p.1 < d:=by
        refine Xe (upd_addr upd_self hp) fun _ h1 => ?_
        refine Xe (upd_addr (ex0 _ pm) h1) fun _ h2 => ?_
        have:=hd _ h2
        exact this
      rw [hN4]
      exact upd_keep (upd_mono (upd_mono Ext.cons) _ hp) (Nat.ne_of_lt hlt)
    have hL4:=hMc.ext ex4
    rw [← hN4] at hDict ⊢
    refine Xeea hL4.la fun sw sf sn sn2 => ?_
    have tb0:TabAt prg w N4 d [((t0:Int),x0),((t1:Int),x1)]:=⟨_,hDict,.cons ⟨rfl,_,rfl⟩ (.cons ⟨rfl,_,rfl⟩ .nil)⟩
    have ok0:TabOk tms ws [((t0:Int),x0),((t1:Int),x1)]:=by
      intro p hp
      rcases List.mem_cons.mp hp with rfl | hp
      · exact ⟨t0,3,rfl,G0,x00,x08,.app w0 o0⟩
      · rw [List.mem_singleton.mp hp]
        exact ⟨t1,2,rfl,G1,x10,x14,.app w1 o1⟩
    walk_at "r"
    refine t_spec (numbers_spec (tb₀:=[((t0:Int),x0),((t1:Int),x1)]) hL4.bank (.of sn) sn2 (by omega) hS.good (fun i t e => ?hcl) tb0 ok0 (Nat.le_refl 2) (fun hh => absurd hh.2 (by omega)) (ane (by omega))) (Nat.le_trans (by decide) hr) fun v N5 hv => ?_
    case hcl =>
      rcases hS.cl i t e with h | h
      · rw [hsom] at e
        match i,h,e with
        | 0,_,e => cases e; exact .inl ⟨x0,.head _⟩
        | 1,_,e => cases e; exact .inl ⟨x1,.tail _ (.head _)⟩
      · exact .inr h
    refine Xaaeaa hv ?_; clear hv; intro z20_ e5 tb z21_ ok all; subst z20_; refine Xea z21_ ?_; clear z21_; intro kvs z3_ k2; obtain ⟨k0,es',ep',k1,kr⟩:=z3_
    have keep:∀ p ∈ upd (upd N0 pot ob) pot oc,p ∈ N5:=fun p hp => e5 _ _ (ex4 _ hp) (by
      refine Xe (upd_addr upd_self hp) fun _ h1 => ?_
      refine Xe (upd_addr (ex0 _ pm) h1) fun _ h2 => ?_
      have:=hd _ h2
      exact Nat.ne_of_lt this)
    have om:=hoff.mem _ pm
    have keep0:∀ {a:Addr} {o:Obj},(a,o) ∈ N0 → @Ne Nat pot a → (a,o) ∈ N5:=fun h hn => keep _ (upd_keep (upd_keep h (ane hn.symm)) (ane hn.symm))
    refine ⟨rfl,(d,dictO es' ep') :: upd (upd n1 pot ob) pot oc,fun p hp => ?_,⟨⟨Nat.ne_of_gt (hd _ iN),Nat.ne_of_gt (hd _ cN),Nat.ne_of_gt (hd _ dN)⟩,off3_of fun p hp => ?_⟩,q' + 1 + 1,tbs ++ [tb],by omega,hKc.ext Ext.cons,by simp [hl],?_⟩
    · rcases List.mem_cons.mp hp with rfl | hp
      · exact keep0 iN om.1
      · rcases List.mem_cons.mp hp with rfl | hp
        · exact keep0 cN om.2.1
        · rcases List.mem_cons.mp hp with rfl | hp
          · exact keep0 dN om.2.2
          · rcases List.mem_cons.mp hp with rfl | hp
            · exact k1
            · exact keep _ (upd_mono (upd_mono ex0) _ hp)
    · refine Xe (upd_addr upd_self hp) fun _ h1 => ?_
      refine Xe (upd_addr pm h1) fun _ h2 => ?_
      have:=hoff.mem _ h2
      exact this
    · refine (hT.mono fun tb v h => h.to fun d0 es ep h1 h2 => .tail _ (upd_keep (upd_keep h2 (ane (by omega))) (ane (by omega)))).snoc ⟨d,rfl,by omega,⟨kvs,⟨k0,es',ep',.head _,kr⟩,k2⟩,ok,all⟩
  case fin =>
    intro ys n2 D hJ hoff
    refine Xeeaaa hJ ?_; clear hJ; intro q' tbs hq' hL hl hT
    have hyl:=hT.length
    have e:LCg.lst ys = listO ys 2:=by show listO ys ys.length = _; rw [← hyl,hl]
    rw [e]
    refine ⟨rfl,D,ys,tbs,q',rfl,hL.ext Ext.cons,fun hm => ?_,.head _,hT.mono fun tb v h => h.to fun _ _ _ _ h => .tail _ h⟩
    refine Xe (hL.bank.mut_mem _ hm) fun _ h1 => ?_
    exact absurd rfl (off1_ne hoff _ h1)
end
theorem t_frame {prog:Program} {w:World} {cs:Scope} {cl:List (PySem.Str × Addr)} {Γ:Cx prog w cs cl} {m:Loc} {n N0:Led} {P:Value → Loc → Led → Prop} {f:Addr} {args:List Value} {rem:Nat} {Post:Value → Led → Prop} {oc:Value} {od:Option Addr} {osl:Array (Option Value)} {name qual:PySem.Str} {params:Arguments} {body:List Stmt} {scope:Scope} {dV kV doc pm cdv ct:Value} {an:Option Addr} {binds:List (PySem.Str × Value)}
    (ho:(K w.params).lookup f = some ⟨oc,od,.func (fnOf name qual params body scope dV kV doc pm an cdv ct),osl⟩) (hcd:codeIn (K w.params) cdv qual = true)
    (hbind:∀ s,BindsTo s (fnOf name qual params body scope dV kV doc pm an cdv ct) ⟨args,[]⟩ binds) (hloc:∀ y ∈ binds,scope.names.lookup y.1 = some .local)
    (hco:scope.isCoroutine = false) (hgen:scope.isGenerator = false) (hk:scope.kind = .function) (hcell:∀ x ∈ scope.names,x.2 ≠ .cell)
    (h:∀ Γ:Cx prog w scope [],rem ≤ Γ.rem → T Γ (execs body Γ.env) (fun y => binds.reverse.lookup y) n (poK Post))
    (hr:rem + 1 ≤ Γ.rem) (hsub:∀ p ∈ n,p ∈ N0)
    (k:∀ v n2 N2,Post v n2 → (∀ p ∈ n2,p ∈ N2) → (∀ p ∈ N0,(∀ q ∈ n,q.1 ≠ p.1) → p ∈ N2 ∧ ∀ q ∈ n2,q.1 ≠ p.1) → P v m N2):T Γ (call (.ref f) args) m N0 P:=by
  intro s Q E F N q
  have hd:=Γ.hd
  have hu:=Γ.hu
  have Nn:News Γ.h₀ Γ.L s.heap n:=fun p hp => N p (hsub p hp)
  refine wpAny_call ?_
  refine Xaaa (groundX (R:=fun (r:Result) s' => match r with | .ok (.ret v) => Q v s' | .ok _ => False | .error e => E e s') Γ.B F Nn Γ.hA rfl Γ.hk) fun FG BG st lv => ?_
  refine codeAny_call_def (fd:=fnOf name qual params body scope dV kV doc pm an cdv ct) (body:=body) (binds:=binds) (by omega) ((Γ.X.keeps F.keep) _ _ ho) rfl (Γ.Tp.nolimit.keeps F.keep) (codeRec_of (Γ.X.keeps F.keep) hcd) rfl (hbind s) hcell hloc (fun h₁ hns hk₁ => ?_) hco hgen hk
  have hid:∀ {p:Addr × Obj},p ∈ N0 → (∀ q ∈ n,q.1 ≠ p.1) → (hideAll s.heap (n.map (·.1))).get? p.1 = some p.2:=fun hp hn => hideAll_get _ (N _ hp).1 (fun hm => by
    refine Xea (List.mem_map.mp hm) fun q hq e => ?_
    exact hn q hq e)
  refine wpAny_mono ?_ (fun fl s' (hl:LeaveK Γ.h₀ Γ.L m _ _ (match fl with | .ret v => v | _ => .none) s') => lv _ _ hl) fun _ _ y => y
  refine h { cn:=qual,fa:=f,cd:=cdv,A₀:=Γ.A,A:=Γ.A.deeper (envX qual scope s.heap.objs.size f cdv []),base:=Γ.base,outer:=Γ.env :: Γ.outer,h₀:=hideAll s.heap (n.map (·.1)),L:=s.heap.objs.size,p:=Γ.p,loose:=Γ.loose,mean:=Γ.mean,mg:=Γ.mg,mb:=Γ.mb,rem:=rem,B:=BG,X:=Γ.X.keeps (fun b o e => st b o e),Tp:=Γ.Tp.keeps (fun b o e => st b o e),hA:=Around.frames_deeper Γ.hA,hh:=Γ.hh,hk:=hk,hd:=by show Γ.A.depth + 1 + 4 * rem + 2 < _; omega,hu:=by show Γ.A.units + 3 + 16 * rem + 8 < _; omega }
    (Nat.le_refl _) _ _ _ ⟨hns,fun b o e => hk₁ b o (of_hideAll _ e),Nat.le_of_eq (hideAll_size _ _)⟩ (fun p hp => ⟨hk₁ _ _ (Nn p hp).1,Nat.ne_of_lt (Heap.lt_size (Nn p hp).1),hideAll_none _ (List.mem_map_of_mem hp)⟩)
    (fun fl m' n2 h' tk' F'' N'' p => ⟨s.heap.objs.size,m',n2,F'',N'',fun F3 N3 => ?_⟩)
  refine q _ m (n2 ++ N0.filter (fun p => decide (∀ q ∈ n,q.1 ≠ p.1))) h' tk' F3 (fun p hp => ?_) (k _ n2 _ p (fun p hp => List.mem_append_left _ hp) fun p hp hn => ⟨List.mem_append_right _ (List.mem_filter.mpr ⟨hp,by simpa using hn⟩),fun q hq e => ?_⟩)
  · rcases List.mem_append.mp hp with hp | hp
    · exact N3 p hp
    · refine Xa (List.mem_filter.mp hp) fun h1 h2 => ?_
      exact ⟨F''.keep _ _ (hid h1 (by simpa using h2)),(N p h1).2⟩
  · have h1:=hid hp hn
    have h2:=(N'' q hq).2.2
    rw [e,h1] at h2
    cases h2
def RestOk (tms:List Tm) (ws:List Int) (r:Nat):Prop:=∃ τ,Wd tms ws r τ 3 ∧ (τ.op = Str.ofString "bvneg" ∨ SAME.any (· == τ.op) = true)
theorem RestOk.mono {tms tms':List Tm} {ws:List Int} {r:Nat} (h:RestOk tms ws r) (p:tms <+: tms'):RestOk tms' ws r:=by refine Xea h ?_; clear h; intro τ W o; exact ⟨τ,W.mono p (List.prefix_refl _),o⟩
theorem same_op:∀ op ∈ SAME,SAME.any (· == op) = true ∧ op ≠ Str.ofString "extract":=by decide +kernel
section
variable {w:World} {L:Addr} {Γ:Cx prg w sc_law (clL L)} {m:Loc} {n n':Led} {B:BA} {R:RA} {pot ca sa:Addr} {q q':Nat} {tms tms':List Tm} {ws:List Int} {som:List Nat}
theorem Frame.at {n n':Led} {B:BA} (u:B.Up) (f:Frame B n n') {a:Addr} {o:Obj} (h:(a,o) ∈ n) (hf:@LT.lt Nat _ a B.dict ∨ @LT.lt Nat _ B.bvn a):(a,o) ∈ n':=
  f _ _ h fun hm => by
    have:=BA.mut_has u hm
    rcases hf with hf | hf
    · exact absurd this.1 (Nat.not_le.mpr hf)
    · exact absurd this.2 (Nat.not_le.mpr hf)
theorem L4.frame (h:L4 w n L B R pot ca q tms ws sa som) (f:Frame B n n') (hB:Bank prg w n' B 2 tms' ws):L4 w n' L B R pot ca q tms' ws sa som:=by
  have u:=h.bank.up
  have db:=u.db
  have lc:=h.lc
  have lp:=h.lp
  have l1:=h.l1
  have l2:=h.l2
  have far:=h.far
  refine Xeeeaaaa h.pt fun vs a t g1 g2 g3 g4 g5 => ?_
  refine Xea h.cp fun x1 y1 z1 => ?_
  refine Xea h.cb fun x2 y2 z2 => ?_
  refine Xea h.cs fun x3 y3 z3 => ?_
  obtain ⟨r1,r2⟩:=h.rw
  refine Xeea h.la fun us k la lb => ?_
  exact ⟨hB,⟨vs,a,t,f.listAt u g1 (fun hh => absurd hh.1 (by omega)),g2,g3,f.listAt u g4 h.hca,g5⟩,h.hca,⟨x1,f.at u y1 (.inl (by omega)),z1⟩,⟨x2,f.at u y2 (.inl (by omega)),z2⟩,⟨x3,f.at u y3 (.inl (by omega)),z3⟩,⟨f.at u r1 (.inr (by omega)),f.at u r2 (.inr l1)⟩,⟨us,k,f.at u la (.inr (by omega)),lb⟩,lc,lp,l1,l2,far⟩
theorem stmt5 (hr:20 ≤ Γ.rem) (hL:L4 w n L B R pot ca q tms ws sa som) (hS:Som n tms ws R sa som) (hsl:som.length ≤ 7) :
    T Γ (exec (lawS 5) Γ.env) m n (fun fl m' n' => fl = .next ∧ ∃ re rvs rs tms',m' = (upL m (Str.ofString "rest") (.ref re)) ∧ L4 w n' L B R pot ca q tms' ws sa som ∧ Frame B n n' ∧ tms <+: tms' ∧ tms'.length ≤ 30 ∧ Ord tms' ∧ (re,listO rvs 0) ∈ n' ∧ All2 IsN rs rvs ∧ rs.length ≤ 30 ∧ ∀ r ∈ rs,RestOk tms' ws r):=by
  conv in (lawS 5) => whnf
  refine t_assign ?_ (by with_unfolding_all rfl) (by rfl)
  have hs:=hL.bank.base.sf
  have u:=hL.bank.up
  have db:=u.db
  have lp:=hL.lp
  have l1:=hL.l1
  have l2:=hL.l2
  have far:=hL.far
  have tl:=hS.tl
  refine Xeeeeaaaaaea (id hS.s0) fun t0 t1 t2 r hsom G0 G1 G2 z1_ τ1' w1 o1 => ?_; refine Xea z1_ ?_; clear z1_; intro τ0' w0 o0
  refine Xe G2.wd fun τ2' w2 => ?_
  refine Xaeaa (id w0) fun w01 k0 w02 w03 w04 => ?_
  refine Xaeaa (id w2) fun w21 k2 w22 w23 w24 => ?_
  refine Xeaaaa (id hL.bank.bvd) fun _ _ _ _ _ wok => ?_
  obtain rfl:k0 = k2:=wok _ _ _ w04 w24 w03 w23
  refine Xeea hL.la fun sv se sm sv2 => ?_
  refine Xeae (sv2.get (i:=0) (a:=t0) (by rw [hsom]; rfl)) fun _ e0 tk0 z2_ => ?_; subst z2_
  have t0l:=(List.getElem?_eq_some_iff.mp w01).1
  have t2l:=(List.getElem?_eq_some_iff.mp w21).1
  walk_at "r"
  refine t_nameC hL.cb ?_ (by rfl) (by rfl) (by decide +kernel)
  walk_at "r"
  refine t_nameC hL.cs ?_ (by rfl) (by rfl) (by decide +kernel)
  walk_at "r"
  refine t_item (.of sm) (by decide) e0 ?_ (by decide)
  walk_at "r"
  refine t_spec (one_spec hL.bank w01 w02 w03 (by decide) (.inr rfl) (by omega)) (Nat.le_trans (by decide) hr) fun v n1 hv => ?_
  refine Xeeaaaaa hv ?_; clear hv; intro i1 tms1 z3_ p1 e1 ht1 hb1 f1; refine Xe z3_ ?_; clear z3_; intro tk1 z1_; subst z1_
  have hL1:=hL.frame f1 hb1
  refine Xa (pre_orT ht1) fun pt1 lt1 => ?_
  walk_at "r"
  refine t_newList (by simp) fun l hl hl3 => ?_
  have O1:Ord tms1:=by
    rcases ht1 with rfl | rfl
    · exact hS.ord
    · exact hS.ord.snoc fun a h => by rw [List.mem_singleton.mp h]; omega
  obtain ⟨n2,hn2⟩:∃ n2,n2 = (l,listO [.int (i1:Int) tk1] 0) :: n1:=⟨_,rfl⟩
  have ex2:Ext n1 n2:=hn2 ▸ Ext.cons
  have ln2:(l,listO [.int (i1:Int) tk1] 0) ∈ n2:=hn2 ▸ .head _
  rw [← hn2]
  have hL2:=hL1.ext ex2
  have sal:@LT.lt Nat _ sa l:=by
    refine Xeea hL1.la fun _ _ z _ => ?_
    exact hl _ z
  refine t_compT (cl':=[(Str.ofString "some",L + 3),(Str.ofString "bank",L + 2)]) ?_ (by with_unfolding_all rfl) (by decide +kernel) (by rfl) (by decide +kernel) (by rfl) (by intro _; rfl)
  walk_at "r"
  refine ⟨rfl,199,SAMEv,(fun i ys n1 => ∃ tms' rs,L4 w n1 L B R pot ca q tms' ws sa som ∧ Frame B n2 n1 ∧ tms1 <+: tms' ∧ tms'.length ≤ tms.length + 1 + i ∧ Ord tms' ∧ rs.length = i ∧ All2 IsN rs ys ∧ ∀ r ∈ rs,RestOk tms' ws r),rfl,.inl ⟨_,Γ.X _ _ (same_at _),rfl,0,rfl⟩,by decide,?step,⟨tms1,[],hL2,Frame.refl,List.prefix_refl _,lt1,O1,rfl,.nil,fun _ h => nomatch h⟩,fun _ _ _ _ => .inl ⟨_,Γ.X _ _ (same_at _),rfl,0,rfl⟩,?fin⟩
  case step =>
    intro i ys n3 v I oI C oC D m₂ hi hv hJ hNs hmx hoff hIC hID hCD
    refine Xeeaaaaaaa hJ ?_; clear hJ; intro tms' rs hL3 f3 pt3 lt3 O3 rl ry ro
    refine Xeae (same_all.get' hv) fun op hop tko z4_ => ?_; subst z4_
    refine Xa (same_op op (List.mem_of_getElem? hop)) fun so1 so2 => ?_
    have hi10:i < 10:=hi
    obtain ⟨N0,hN0⟩:∃ N0,N0 = (I,oI) :: (C,oC) :: (D,LCg.lst ys) :: n3:=⟨_,rfl⟩
    have ex0:Ext n3 N0:=hN0 ▸ (Ext.cons.trans (Ext.cons.trans Ext.cons))
    have iN:(I,oI) ∈ N0:=hN0 ▸ .head _
    have cN:(C,oC) ∈ N0:=hN0 ▸ .tail _ (.head _)
    have dN:(D,LCg.lst ys) ∈ N0:=hN0 ▸ .tail _ (.tail _ (.head _))
    rw [← hN0]
    have hL0:=hL3.ext ex0
    have hs0:=hL0.bank.base.sf
    refine Xeea hL0.la fun sw sf sn sw2 => ?_
    refine Xeae (sw2.get (i:=0) (a:=t0) (by rw [hsom]; rfl)) fun _ e0 tk0 z5_ => ?_; subst z5_
    refine Xeae (sw2.get (i:=2) (a:=t2) (by rw [hsom]; rfl)) fun _ e2 tk2 z6_ => ?_; subst z6_
    walk_at "r"
    refine t_cnC hL0.cb ?_ (by rfl) (by rfl) (by rfl) (by decide +kernel)
    walk_at "r"
    refine t_cnL cN hNs hmx ?_ (by rfl) (by rfl) (by decide +kernel)
    walk_at "r"
    refine t_cnC hL0.cs ?_ (by rfl) (by rfl) (by rfl) (by decide +kernel)
    walk_at "r"
    refine t_item (.of sn) (by decide) e0 ?_ (by decide)
    walk_at "r"
    refine t_cnC hL0.cs ?_ (by rfl) (by rfl) (by rfl) (by decide +kernel)
    walk_at "r"
    refine t_item (.of sn) (by decide) e2 ?_ (by decide)
    walk_at "r"
    have W0:=w0.mono (pt1.trans pt3) (List.prefix_refl ws)
    have W2:=w2.mono (pt1.trans pt3) (List.prefix_refl ws)
    refine t_frame (n:=n3) (fn_bv_two _) (cd_bv_two _) (fun s => BindsTo.of_eq (bi_bv_two _ _ _ _)) (lo_bv_two _ _ _ _) (by kernel_rfl) (by kernel_rfl) (by kernel_rfl) ce_bv_two (two_body hL3.bank W0.1 w02 w03 (by decide) W2.1 w22 so1 so2 (by omega)) (Nat.le_trans (by decide) hr) ex0 fun v n4 N4 hv hsub hrest => ?_
    refine Xeeaaaaa hv ?_; clear hv; intro i2 tms2 z7_ p2' e4 ht4 hb4 f4; refine Xe z7_ ?_; clear z7_; intro tk4 z2_; subst z2_
    refine Xa (pre_orT ht4) fun pt4 lt4 => ?_
    have om:=hoff.mem
    refine Xa (hrest _ iN fun p hp => (om p hp).1) fun hI1 hI2 => ?_
    refine Xa (hrest _ cN fun p hp => (om p hp).2.1) fun hC1 hC2 => ?_
    refine Xa (hrest _ dN fun p hp => (om p hp).2.2) fun hD1 hD2 => ?_
    refine ⟨rfl,n4,fun p hp => ?_,off3_of fun p hp => ⟨hI2 p hp,hC2 p hp,hD2 p hp⟩,tms2,rs ++ [i2],hL3.frame f4 hb4,f3.trans f4,pt3.trans pt4,by omega,?_,by simp [rl],ry.snoc ⟨tk4,rfl⟩,fun r hr' => ?_⟩
    · rcases List.mem_cons.mp hp with rfl | hp
      · exact hI1
      · rcases List.mem_cons.mp hp with rfl | hp
        · exact hC1
        · rcases List.mem_cons.mp hp with rfl | hp
          · exact hD1
          · exact hsub _ hp
    · rcases ht4 with rfl | rfl
      · exact O3
      · have:=(List.getElem?_eq_some_iff.mp W0.1).1
        have:=(List.getElem?_eq_some_iff.mp W2.1).1
        refine O3.snoc fun a h => ?_
        rcases List.mem_cons.mp h with rfl | h
        · omega
        · rw [List.mem_singleton.mp h]; omega
    · rcases List.mem_append.mp hr' with hr' | hr'
      · exact (ro r hr').mono pt4
      · rw [List.mem_singleton.mp hr']
        exact ⟨_,⟨e4,k0,rfl,w03,w04⟩,.inr so1⟩
  case fin =>
    intro ys n3 D hJ hoff
    refine Xeeaaaaaaa hJ ?_; clear hJ; intro tms' rs hL3 f3 pt3 lt3 O3 rl ry ro
    have rl':rs.length = 10:=rl
    have yl:=ry.length
    have ln3:=f3.at u ln2 (.inr (by omega))
    refine t_addL (.of (.tail _ ln3)) (.of (.head _)) (by simp; omega) fun x hx hx3 => ?_
    have ex3:Ext n3 ((x,listO ([Value.int (i1:Int) tk1] ++ ys) 0) :: (D,LCg.lst ys) :: n3):=Ext.cons.trans Ext.cons
    refine ⟨rfl,x,_,i1 :: rs,tms',rfl,hL3.ext ex3,f1.trans (ex2.f.trans (f3.trans ex3.f)),pt1.trans pt3,by omega,O3,.head _,.cons ⟨tk1,rfl⟩ ry,by simp; omega,fun r hr' => ?_⟩
    rcases List.mem_cons.mp hr' with rfl | hr'
    · exact ⟨_,⟨pre_get pt3 e1,k0,rfl,w03,w04⟩,.inl rfl⟩
    · exact ro r hr'
end
theorem VRel.monoT {tms tms':List Tm} {ws ws':List Int} {tb t wd r} (h:tms <+: tms') (k:ws <+: ws') (x:VRel tms ws tb t wd r):VRel tms' ws' tb t wd r:=by
  cases x with
  | app a b => exact .app (a.mono h k) b
  | num a b => exact .num (a.mono h k) b
  | cat a b c d e f g => exact .cat (a.mono h k) b c (d.mono h k) (e.mono h k) f g
  | ext a b c d e f g i j => exact .ext (a.mono h k) b c d e f g (i.mono h k) j
  | zx a b c d e f => exact .zx (a.mono h k) b c d (e.mono h k) f
  | sx a b c d e f => exact .sx (a.mono h k) b c d (e.mono h k) f
  | add a b => exact .add (a.mono h k) b
  | not a b c d e => exact .not (a.mono h k) b c (d.mono h k) e
theorem TabOk.monoT {tms tms':List Tm} {ws ws':List Int} {tb} (h:tms <+: tms') (k:ws <+: ws') (x:TabOk tms ws tb):TabOk tms' ws' tb:=fun p hp => by
  refine Xeeaaaa (x p hp) fun t wd e G a b V => ?_
  exact ⟨t,wd,e,G.mono h k,a,b,V.monoT h k⟩
section
variable {prog:Program} {w:World} {cs:Scope} {cl:List (PySem.Str × Addr)} {Γ:Cx prog w cs cl} {m:Loc} {n:Led}
theorem t_sliceFrom {value lo:PySem.Expr} {p pos:Pos} {P:Value → Loc → Led → Prop} {env:Env}
    (h:T Γ (eval value env) m n (fun o m1 n1 => T Γ (eval lo env) m1 n1 (fun u m3 n3 =>
      ∃ (b:Addr) (vs:List Value) (y:Int) (t':Tok),o = .ref b ∧ u = .int y t' ∧ ListAt n3 b vs ∧ vs.length < 2 ^ 20 ∧ ∀ D,(∀ p ∈ n3,p.1 < D) → 3 < D → P (.ref D) m3 ((D,listO (slicePick vs.toArray (some y) none none).toList 0) :: n3))))
    (ht:∀ b r,letTemporaryGo value (.ref b) r = pure ()):T Γ (eval (.Subscript value (.Slice (some lo) none none p) pos) env) m n P:=
  fun s Q E F N q => Subscript_ (h s _ E F N fun a m1 n1 h1 tk1 F1 N1 p1 => wpAny_Slice (p1 _ _ E F1 N1 fun u m3 n3 h3 tk3 F3 N3 p3 => wpAny_pure (by
    refine Xeeeeaaaa p3 ?_; clear p3; intro b vs y t' z1_ z2_ hm hz k; subst z1_; subst z2_
    refine wpAny_pure ?_
    refine slice_list F3 N3 (hm.at N3) (.int y t') .none (fun h' F' N' => q _ m3 _ _ _ F' (by simpa using N') (k _ (fun p hp => Nat.lt_succ_of_lt (Heap.lt_size (N3 p hp).1)) (Nat.lt_succ_of_lt (Γ.lo F3)))) (by with_unfolding_all rfl) (ht b) (by rw [sizeLine_eq]; simp; omega))))
end
theorem ext_updI {n n':Led} {I:Addr} {o:Obj} (h:Ext n n') (hI:∀ p ∈ n,p.1 < I):Ext n (upd n' I o):=fun p hp => upd_keep (h _ hp) (Nat.ne_of_lt (hI _ hp))
theorem ext_dropI {n n':Led} {I:Addr} (h:Ext n n') (hI:∀ p ∈ n,p.1 < I):Ext n (n'.filter (fun p => p.1 != I)):=fun p hp => List.mem_filter.mpr ⟨h _ hp,by simpa using Nat.ne_of_lt (hI _ hp)⟩
structure Fix (w:World) (n:Led) (L:Addr) (B:BA) (R:RA) (sa:Addr) (som:List Nat) (ta:Addr) (tvs:List Value) (tbs:List (List (Int × Int))) (re:Addr) (rvs:List Value) (rs:List Nat) (tms:List Tm) (ws:List Int):Prop where
  bank:BankIn w.params n B tms ws
  cb:CellAt n (L + 2) (.ref B.self)
  cs:CellAt n (L + 3) (.ref sa)
  rw:Rw w.params n B R
  la:∃ vs e,(sa,listO vs e) ∈ n ∧ All2 IsN som vs
  lt:(ta,listO tvs 2) ∈ n
  tv:All2 (TabV w n R tms ws som) tbs tvs
  lr:(re,listO rvs 0) ∈ n
  rv:All2 IsN rs rvs
structure Names (m:Loc) (R:RA) (ta re:Addr) (sz:Value):Prop where
  a:m (Str.ofString "rewriter") = some (.ref R.self)
  b:m (Str.ofString "tables") = some (.ref ta)
  c:m (Str.ofString "rest") = some (.ref re)
  d:m (Str.ofString "size") = some sz
section
variable {w:World} {L:Addr} {Γ:Cx prg w sc_law (clL L)} {m:Loc} {n n':Led} {B:BA} {R:RA} {pot ca sa:Addr} {q q':Nat} {tms tms':List Tm} {ws:List Int} {som:List Nat} {ta:Addr} {tvs:List Value} {tbs:List (List (Int × Int))} {re:Addr} {rvs:List Value} {rs:List Nat} {sz:Value}
theorem Fix.ext (h:Fix w n L B R sa som ta tvs tbs re rvs rs tms ws) (up:B.Up) (e:Ext n n'):Fix w n' L B R sa som ta tvs tbs re rvs rs tms ws:=by
  refine Xeea h.la fun vs k a b => ?_
  exact ⟨h.bank.mono e.b up,h.cb.mono e,h.cs.mono e,h.rw.mono e,⟨vs,k,e _ a,b⟩,e _ h.lt,h.tv.mono fun _ _ x => x.to fun _ _ _ _ hm => e _ hm,e _ h.lr,h.rv⟩
theorem stmt6 (hr:20 ≤ Γ.rem) (hF:Fix w n L B R sa som ta tvs tbs re rvs rs tms ws):T Γ (exec (lawS 6) Γ.env) m n (fun fl m' n' => fl = .next ∧ n' = n ∧ ∃ v,IsI (tms.length - 1) v ∧ m' = (upL m (Str.ofString "size") v)):=by
  conv in (lawS 6) => whnf
  have hs:=hF.bank.sf
  walk_at "r"
  refine t_nameC hF.cb ?_ (by rfl) (by rfl) (by decide +kernel)
  walk_at "r"
  refine t_spec (size_spec hF.bank) (Nat.le_trans (by decide) hr) fun v n' h => ?_
  refine Xa h ?_; clear h; intro z3_ h; subst z3_
  exact ⟨rfl,rfl,v,h,rfl⟩
theorem stmt9 (hr:20 ≤ Γ.rem) (hF:Fix w n L B R sa som ta tvs tbs re rvs rs tms ws) (hm:m (Str.ofString "size") = some sz) (hz:IsI (tms.length - 1) sz):T Γ (exec (lawS 9) Γ.env) m n (fun fl m' n' => fl = .ret (.bool true)):=by
  conv in (lawS 9) => whnf
  have hs:=hF.bank.sf
  refine Xe hz ?_; clear hz; intro tz z4_; subst z4_
  walk_at "r"
  refine t_nameC hF.cb ?_ (by rfl) (by rfl) (by decide +kernel)
  walk_at "r"
  refine t_spec (size_spec hF.bank) (Nat.le_trans (by decide) hr) fun v n' h => ?_
  refine Xae h ?_; clear h; intro z5_ t z6_; subst z5_; subst z6_
  refine t_nameL hm ?_ (by rfl) (by decide +kernel)
  walk_at "r"
  rw [show ((tms.length:Int) - 1 == (tms.length:Int) - 1) = true by simp]
end
section
variable {w:World} {L:Addr} {Γ:Cx prg w sc_law (clL L)} {m:Loc} {n n':Led} {B:BA} {R:RA} {pot ca sa:Addr} {q q':Nat} {tms tms':List Tm} {ws:List Int} {som:List Nat} {ta:Addr} {tvs:List Value} {tbs:List (List (Int × Int))} {re:Addr} {rvs:List Value} {rs:List Nat} {sz:Value}
theorem riO_eq {a b:Int} (h:0 ≤ b - a) (hlt:a < b):riO a (if a < b then b - a else 0) = riO (a + ((0:Nat):Int)) ((((b - a).toNat:Nat):Int) - ((0:Nat):Int)):=by
  rw [if_pos hlt,show a + ((0:Nat):Int) = a by omega,show (((b - a).toNat:Nat):Int) - ((0:Nat):Int) = b - a by omega]
theorem stmt7 (hr:20 ≤ Γ.rem) (up:B.Up) (hF:Fix w n L B R sa som ta tvs tbs re rvs rs tms ws) (hN:Names m R ta re sz) (hO:Ord tms) (hg:∀ t ∈ som,t ≤ 9 ∧ ∃ wd,Good tms ws t wd) (hz:∀ wd,¬ Good tms ws 0 wd) (hsl:som.length ≤ 7) :
    T Γ (exec (lawS 7) Γ.env) m n (fun fl m' n' => fl = .next ∧ Ext n n' ∧ Names m' R ta re sz):=by
  conv in (lawS 7) => whnf
  refine Xeea hF.la fun sv se sm sv2 => ?_
  have svl:=sv2.length
  refine t_for ?_ (by intro _; rfl)
  refine t_sliceFrom ?_ (by intro _ _; rfl)
  refine t_nameC hF.cs ?_ (by rfl) (by rfl) (by decide +kernel)
  walk_at "r"
  refine ⟨sa,sv,1,_,rfl,rfl,.of sm,by omega,fun D hD hD3 => ?_⟩
  rw [show slicePick sv.toArray (some 1) none none = (sv.drop 1).toArray from slicePick_from' sv.toArray 1]
  refine t_iterL (.of (.head _)) fun I o hI hI3 hIt hcls => ?_
  obtain ⟨nb,hnb⟩:∃ nb,nb = (D,listO (sv.drop 1).toArray.toList 0) :: n:=⟨_,rfl⟩
  have exb:Ext n nb:=hnb ▸ Ext.cons
  have Dm:ListAt nb D (sv.drop 1):=hnb ▸ .of (.head _)
  rw [← hnb] at hI hIt ⊢
  refine Loop.list (vs:=sv.drop 1) (fun i m1 n1 => Names m1 R ta re sz ∧ Ext nb n1 ∧ ItL n1 I D i) (by rfl) ⟨hN,Ext.cons,hIt⟩ (fun i m1 n1 h => ⟨h.2.2,Dm.mono h.2.1⟩) ?step ?done
  case done =>
    rintro m1 n1 ⟨h1,h2,_⟩
    exact ⟨rfl,exb.trans (ext_dropI h2 hI),h1⟩
  case step =>
    rintro i m1 n1 v o' hvi ⟨hN1,hE1,_⟩ hIt' hcls'
    refine Xeae ((sv2.drop 1).get' hvi) fun t hti tk z1_ => ?_; subst z1_
    have hts:t ∈ som:=List.mem_of_mem_drop (List.mem_of_getElem? hti)
    refine Xae (hg t hts) fun t9 wd G => ?_
    refine Xe G.wd fun τ W => ?_
    have bd:=G.bd
    refine Xeaa (cut_due G W) fun ls hL hll hdue => ?_
    refine Xaeaa (id W) fun W1 k W2 W3 W4 => ?_
    obtain ⟨n2,hn2⟩:∃ n2,n2 = upd n1 I o':=⟨_,rfl⟩
    rw [← hn2] at hIt' ⊢
    have hE2:Ext nb n2:=hn2 ▸ ext_updI hE1 hI
    have hF2:=hF.ext up (exb.trans hE2)
    have hs:=hF2.bank.sf
    walk_at "r"
    refine t_nameC hF2.cb ?_ (by rfl) (by rfl) (by decide +kernel)
    walk_at "r"
    refine t_spec (labels_spec hF2.bank up W bd.1 bd.2 hL) (Nat.le_trans (by decide) hr) fun v n3 hv => ?_
    refine Xaeeaa hv ?_; clear hv; intro e3 la lvs z2_ hla hlv; subst z2_
    have hF3:=hF2.ext up e3
    have hs3:=hF3.bank.sf
    walk_at "r"
    refine t_for ?_ (by intro _; rfl)
    walk_at "r"
    refine t_nameC hF3.cb ?_ (by rfl) (by rfl) (by decide +kernel)
    walk_at "r"
    refine t_spec (width_spec hF3.bank W1 W2 W3) (Nat.le_trans (by decide) hr) fun v n' h => ?_
    refine Xae h ?_; clear h; intro z3_ tw z4_; subst z3_; subst z4_
    walk_at "r"
    refine t_range1 fun rg ro hrg hrg3 hRg hrc => ?_
    refine t_iterR hRg (by decide) (by decide) (by omega) (by omega) fun I2 hI2 hI23 => ?_
    rw [riO_eq (by omega) (by omega)]
    obtain ⟨n4,hn4⟩:∃ n4,n4 = (rg,ro) :: n':=⟨_,rfl⟩
    have ex4:Ext n' n4:=hn4 ▸ Ext.cons
    obtain ⟨c2,hc2⟩:∃ c2:Nat,(wd - 0).toNat = c2:=⟨_,rfl⟩
    rw [← hn4] at hI2 ⊢
    rw [hc2]
    refine Loop.range (a:=0) c2 (fun j m2 n2 => Names m2 R ta re sz ∧ m2 (Str.ofString "t") = some (.int (t:Nat) tk) ∧ m2 (Str.ofString "labels") = some (.ref la) ∧ Ext n4 n2 ∧ (I2,riO (0 + j) ((c2:Nat) - (j:Int))) ∈ n2) (by rfl) ⟨⟨hN1.a,hN1.b,hN1.c,hN1.d⟩,rfl,rfl,Ext.cons,.head _⟩ (fun i m1 n1 h => h.2.2.2.2) ?step2 ?done2
    case done2 =>
      rintro m2 n5 ⟨hN2,_,_,hE5,_⟩
      have e5:=e3.trans (ex4.trans (ext_dropI hE5 hI2))
      walk_at "r"
      exact ⟨hN2,hE2.trans e5,hIt'.ext e5⟩
    case step2 =>
      rintro j m2 n5 tl hj ⟨hN2,mt,ml,hE5,hIi⟩
      obtain ⟨n6,hn6⟩:∃ n6,n6 = upd n5 I2 (riO (0 + (j + 1:Nat)) ((c2:Nat) - ((j + 1:Nat):Int))):=⟨_,rfl⟩
      have hE6:Ext n4 n6:=hn6 ▸ ext_updI hE5 hI2
      have hI6:(I2,riO (0 + (j + 1:Nat)) ((c2:Nat) - ((j + 1:Nat):Int))) ∈ n6:=hn6 ▸ upd_self
      rw [← hn6,show (0:Int) + (j:Int) = ((j:Nat):Int) by omega]
      have hF6:=hF3.ext up (ex4.trans hE6)
      have hs6:=hF6.bank.sf
      walk_at "s"
      refine t_for ?_ (by intro _; rfl)
      walk_at "r"
      refine t_nameC hF6.cb ?_ (by rfl) (by rfl) (by decide +kernel)
      walk_at "r"
      refine t_nameL (v:=.int (t:Nat) tk) mt ?_ (by rfl) (by decide +kernel)
      walk_at "r"
      refine t_spec (width_spec hF6.bank W1 W2 W3) (Nat.le_trans (by decide) hr) fun v n' h => ?_
      refine Xae h ?_; clear h; intro z5_ tw2 z6_; subst z5_; subst z6_
      walk_at "r"
      refine t_range2 fun rg2 ro2 hrg2 hrg23 hRg2 hrc2 => ?_
      refine t_iterR hRg2 (by omega) (by omega) (by omega) (by omega) fun I3 hI3' hI33 => ?_
      rw [riO_eq (by omega) (by omega)]
      obtain ⟨n7,hn7⟩:∃ n7,n7 = (rg2,ro2) :: n':=⟨_,rfl⟩
      have ex7:Ext n' n7:=hn7 ▸ Ext.cons
      obtain ⟨c3,hc3⟩:∃ c3:Nat,(wd - (j:Int)).toNat = c3:=⟨_,rfl⟩
      rw [← hn7] at hI3' ⊢
      rw [hc3]
      refine Loop.range (a:=(j:Int)) c3 (fun k m3 n3 => Names m3 R ta re sz ∧ m3 (Str.ofString "t") = some (.int (t:Nat) tk) ∧ m3 (Str.ofString "labels") = some (.ref la) ∧ m3 (Str.ofString "low") = some (.int (j:Nat) tl) ∧ Ext n7 n3 ∧ (I3,riO ((j:Int) + k) ((c3:Nat) - (k:Int))) ∈ n3) (by rfl) ⟨⟨hN2.a,hN2.b,hN2.c,hN2.d⟩,mt,ml,rfl,Ext.cons,.head _⟩ (fun i m1 n1 h => h.2.2.2.2.2) ?step3 ?done3
      case done3 =>
        rintro m3 n8 ⟨hN3,mt3,ml3,_,hE8,_⟩
        have e8:=ex7.trans (ext_dropI hE8 hI3')
        walk_at "r"
        exact ⟨hN3,mt3,ml3,hE6.trans e8,e8 _ hI6⟩
      case step3 =>
        rintro k' m3 n8 th hk ⟨hN3,mt3,ml3,mlo,hE8,hIi3⟩
        obtain ⟨n9,hn9⟩:∃ n9,n9 = upd n8 I3 (riO ((j:Int) + (k' + 1:Nat)) ((c3:Nat) - ((k' + 1:Nat):Int))):=⟨_,rfl⟩
        have hE9:Ext n7 n9:=hn9 ▸ ext_updI hE8 hI3'
        have hI9:(I3,riO ((j:Int) + (k' + 1:Nat)) ((c3:Nat) - ((k' + 1:Nat):Int))) ∈ n9:=hn9 ▸ upd_self
        rw [← hn9,show (j:Int) + (k':Int) = ((j + k':Nat):Int) by omega]
        have e9:=ex4.trans (hE6.trans (ex7.trans hE9))
        have hF9:=hF3.ext up e9
        walk_at "r"
        refine t_true_plain ?_ (by rfl)
        walk_at "r"
        refine t_nameC hF9.cb ?_ (by rfl) (by rfl) (by decide +kernel)
        walk_at "r"
        refine t_nameL (v:=.ref R.self) hN3.a ?_ (by rfl) (by decide +kernel)
        walk_at "r"
        refine t_nameL (v:=.ref ta) hN3.b ?_ (by rfl) (by decide +kernel)
        walk_at "r"
        refine t_nameL (v:=.ref la) ml3 ?_ (by rfl) (by decide +kernel)
        walk_at "r"
        refine t_nameL (v:=.int (j:Nat) tl) mlo ?_ (by rfl) (by decide +kernel)
        walk_at "r"
        refine t_nameL (v:=.int (t:Nat) tk) mt3 ?_ (by rfl) (by decide +kernel)
        walk_at "r"
        refine t_spec (right_spec hF9.bank up hF9.rw hO G W (by omega) (by omega) t9 hz (hla.mono e9) (hlv.mono fun _ _ q => q.ext e9) hll (hdue _ _ (by omega) (by omega)) (.of hF9.lt) (hF9.tv.mono fun tb v h => by refine Xeaaaa h ?_; clear h; intro d h1 _ h3 h4 h5; exact ⟨d,h1,h3,h4,h5 t hts⟩)) (Nat.le_trans (by decide) hr) fun v n10 hv => ?_
        refine Xa hv ?_; clear hv; intro z7_ e10; subst z7_
        walk_at "r"
        refine kF (b:=!true) Bool.false_ne_true ?_
        walk_at "r"
        exact ⟨⟨hN3.a,hN3.b,hN3.c,hN3.d⟩,mt3,ml3,mlo,hE9.trans e10,e10 _ hI9⟩
end
theorem same_not:∀ op ∈ (Str.ofString "bvneg" :: SAME),op ≠ Str.ofString "extract" ∧ op ≠ Str.ofString "bvnot" ∧ op ≠ Str.ofString "concat" ∧ op ≠ Str.ofString "zero_extend" ∧ op ≠ Str.ofString "sign_extend":=by decide +kernel
theorem RestOk.cut {tms:List Tm} {ws:List Int} {τ:Tm} {hi lo wd:Int} (h:τ.op = Str.ofString "bvneg" ∨ SAME.any (· == τ.op) = true):CutIs tms ws τ hi lo wd none:=by
  have hm:τ.op ∈ (Str.ofString "bvneg" :: SAME):=by
    rcases h with h | h
    · rw [h]; exact .head _
    · refine Xea (List.any_eq_true.mp h) fun x hx e => ?_
      rw [← beq_iff_eq.mp e]; exact .tail _ hx
  refine Xaaaa (same_not _ hm) fun a b c d e => ?_
  by_cases hc:lo = 0 ∧ hi = wd - 1
  · exact .whole hc.1 hc.2
  · exact .other hc a b c d e
section
variable {w:World} {L:Addr} {Γ:Cx prg w sc_law (clL L)} {m:Loc} {n n':Led} {B:BA} {R:RA} {pot ca sa:Addr} {q q':Nat} {tms tms':List Tm} {ws:List Int} {som:List Nat} {ta:Addr} {tvs:List Value} {tbs:List (List (Int × Int))} {re:Addr} {rvs:List Value} {rs:List Nat} {sz:Value}
theorem stmt8 (hr:20 ≤ Γ.rem) (up:B.Up) (hF:Fix w n L B R sa som ta tvs tbs re rvs rs tms ws) (hN:Names m R ta re sz) (hg:∀ r ∈ rs,RestOk tms ws r) :
    T Γ (exec (lawS 8) Γ.env) m n (fun fl m' n' => fl = .next ∧ Ext n n' ∧ Names m' R ta re sz):=by
  conv in (lawS 8) => whnf
  refine t_for ?_ (by intro _; rfl)
  refine t_nameL (v:=.ref re) hN.c ?_ (by rfl) (by decide +kernel)
  refine t_iterL (.of hF.lr) fun I o hI hI3 hIt hcls => ?_
  refine Loop.list (vs:=rvs) (fun i m1 n1 => Names m1 R ta re sz ∧ Ext n n1 ∧ ItL n1 I re i) (by rfl) ⟨hN,Ext.cons,hIt⟩ (fun i m1 n1 h => ⟨h.2.2,.of (h.2.1 _ hF.lr)⟩) ?step ?done
  case done =>
    rintro m1 n1 ⟨h1,h2,_⟩
    exact ⟨rfl,ext_dropI h2 hI,h1⟩
  case step =>
    rintro i m1 n1 v o' hvi ⟨hN1,hE1,_⟩ hIt' hcls'
    refine Xeae (hF.rv.get' hvi) fun t hti tk z1_ => ?_; subst z1_
    refine Xea (hg t (List.mem_of_getElem? hti)) fun τ W ho => ?_
    refine Xaeaa (id W) fun W1 k W2 W3 W4 => ?_
    obtain ⟨n2,hn2⟩:∃ n2,n2 = upd n1 I o':=⟨_,rfl⟩
    rw [← hn2] at hIt' ⊢
    have hE2:Ext n n2:=hn2 ▸ ext_updI hE1 hI
    have hF2:=hF.ext up hE2
    walk_at "r"
    refine t_for ?_ (by intro _; rfl)
    walk_at "r"
    refine t_range1 fun rg ro hrg hrg3 hRg hrc => ?_
    refine t_iterR hRg (by decide) (by decide) (by decide) (by decide) fun I2 hI2 hI23 => ?_
    rw [riO_eq (by decide) (by decide)]
    obtain ⟨n4,hn4⟩:∃ n4,n4 = (rg,ro) :: n2:=⟨_,rfl⟩
    have ex4:Ext n2 n4:=hn4 ▸ Ext.cons
    rw [← hn4] at hI2 ⊢
    refine Loop.range (a:=0) 3 (fun j m2 n2 => Names m2 R ta re sz ∧ m2 (Str.ofString "t") = some (.int (t:Nat) tk) ∧ Ext n4 n2 ∧ (I2,riO (0 + j) ((3:Nat) - (j:Int))) ∈ n2) (by rfl) ⟨⟨hN1.a,hN1.b,hN1.c,hN1.d⟩,rfl,Ext.cons,.head _⟩ (fun i m1 n1 h => h.2.2.2) ?step2 ?done2
    case done2 =>
      rintro m2 n5 ⟨hN2,_,hE5,_⟩
      have e5:=ex4.trans (ext_dropI hE5 hI2)
      walk_at "r"
      exact ⟨hN2,hE2.trans e5,hIt'.ext e5⟩
    case step2 =>
      rintro j m2 n5 tl hj ⟨hN2,mt,hE5,hIi⟩
      obtain ⟨n6,hn6⟩:∃ n6,n6 = upd n5 I2 (riO (0 + (j + 1:Nat)) ((3:Nat) - ((j + 1:Nat):Int))):=⟨_,rfl⟩
      have hE6:Ext n4 n6:=hn6 ▸ ext_updI hE5 hI2
      have hI6:(I2,riO (0 + (j + 1:Nat)) ((3:Nat) - ((j + 1:Nat):Int))) ∈ n6:=hn6 ▸ upd_self
      rw [← hn6,show (0:Int) + (j:Int) = ((j:Nat):Int) by omega]
      walk_at "s"
      refine t_for ?_ (by intro _; rfl)
      walk_at "r"
      refine t_range2 fun rg2 ro2 hrg2 hrg23 hRg2 hrc2 => ?_
      refine t_iterR hRg2 (by omega) (by omega) (by decide) (by decide) fun I3 hI3' hI33 => ?_
      rw [riO_eq (by omega) (by omega)]
      obtain ⟨n7,hn7⟩:∃ n7,n7 = (rg2,ro2) :: n6:=⟨_,rfl⟩
      have ex7:Ext n6 n7:=hn7 ▸ Ext.cons
      obtain ⟨c3,hc3⟩:∃ c3:Nat,(3 - (j:Int)).toNat = c3:=⟨_,rfl⟩
      rw [← hn7] at hI3' ⊢
      rw [hc3]
      refine Loop.range (a:=(j:Int)) c3 (fun k m3 n3 => Names m3 R ta re sz ∧ m3 (Str.ofString "t") = some (.int (t:Nat) tk) ∧ m3 (Str.ofString "low") = some (.int (j:Nat) tl) ∧ Ext n7 n3 ∧ (I3,riO ((j:Int) + k) ((c3:Nat) - (k:Int))) ∈ n3) (by rfl) ⟨⟨hN2.a,hN2.b,hN2.c,hN2.d⟩,mt,rfl,Ext.cons,.head _⟩ (fun i m1 n1 h => h.2.2.2.2) ?step3 ?done3
      case done3 =>
        rintro m3 n8 ⟨hN3,mt3,_,hE8,_⟩
        have e8:=ex7.trans (ext_dropI hE8 hI3')
        walk_at "r"
        exact ⟨hN3,mt3,hE6.trans e8,e8 _ hI6⟩
      case step3 =>
        rintro k' m3 n8 th hk ⟨hN3,mt3,mlo,hE8,hIi3⟩
        obtain ⟨n9,hn9⟩:∃ n9,n9 = upd n8 I3 (riO ((j:Int) + (k' + 1:Nat)) ((c3:Nat) - ((k' + 1:Nat):Int))):=⟨_,rfl⟩
        have hE9:Ext n7 n9:=hn9 ▸ ext_updI hE8 hI3'
        have hI9:(I3,riO ((j:Int) + (k' + 1:Nat)) ((c3:Nat) - ((k' + 1:Nat):Int))) ∈ n9:=hn9 ▸ upd_self
        rw [← hn9]
        have hF9:=hF2.ext up (ex4.trans (hE6.trans (ex7.trans hE9)))
        have hR9:=hF9.rw
        walk_at "r"
        refine t_nameL (v:=.ref R.self) hN3.a ?_ (by rfl) (by decide +kernel)
        walk_at "r"
        refine t_nameL (v:=.int (j:Nat) tl) mlo ?_ (by rfl) (by decide +kernel)
        walk_at "r"
        refine t_nameL (v:=.int (t:Nat) tk) mt3 ?_ (by rfl) (by decide +kernel)
        walk_at "r"
        refine t_spec (cut_spec hF9.bank hR9 W1 W2 W3 up (RestOk.cut ho)) (Nat.le_trans (by decide) hr) fun v n10 hv => ?_
        refine Xa hv ?_; clear hv; intro hv e10
        walk_at "r"
        refine t_isNotNone hv ?_
        rw [Option.isSome_none]
        walk_at "r"
        exact ⟨⟨hN3.a,hN3.b,hN3.c,hN3.d⟩,mt3,mlo,hE9.trans e10,e10 _ hI9⟩
end
theorem law_spec:LawSpec:=by
  intro w L Γ cells l vs ns hr hL3 hc hl hi hn
  have hcl:CellsAre (bindC (fun x => sc_law.names.lookup x) [(Str.ofString "script",.ref l)] fun _ => none) [(Str.ofString "some",L + 3),(Str.ofString "bank",L + 2),(Str.ofString "pot",L + 1)] cells:=cl_law L ▸ hc
  have hcells:PU cells (L + 1) ∧ PU cells (L + 2) ∧ PU cells (L + 3):=by
    cases hcl with
    | @cons _ _ o3 _ _ d3 r =>
      cases r with
      | @cons _ _ o2 _ _ d2 r =>
        cases r with
        | @cons _ _ o1 _ _ d1 r =>
          exact ⟨⟨o1,.tail _ (.tail _ (.head _)),d1.trans (by kernel_rfl)⟩,⟨o2,.tail _ (.head _),d2.trans (by kernel_rfl)⟩,⟨o3,.head _,d3.trans (by kernel_rfl)⟩⟩
  have hvl:vs.length = ns.length:=by
    clear hl
    induction hi with
    | nil => rfl
    | cons n t _ ih => simp at hn ⊢; exact ih (by omega)
  rw [law_body]
  refine t_execs_cons ((stmt0 hr (by kernel_rfl) hcells.1 hcells.2.1 hcells.2.2 hL3 hl hi (by omega)).mono fun fl m1 n1 h => ?_)
  refine Xaaee h ?_; clear h; intro z1_ z2_ B pot h1; subst z1_; subst z2_
  refine t_execs_cons ((stmt1 hr h1).mono fun fl m2 n2 h => ?_)
  refine Xaeaa h ?_; clear h; intro z3_ R z4_ hp h2; subst z3_; subst z4_
  refine t_execs_cons ((stmt2 hr hp h2).mono fun fl m3 n3 h => ?_)
  refine Xaaeeeeaaa h ?_; clear h; intro z5_ z6_ sa tms ws som h3 hcs hS hl3; subst z5_; subst z6_
  refine t_execs_cons ((stmt3 hr (by rfl) h3 hcs hS hl3).mono fun fl m4 n4 h => ?_)
  refine Xaaeeeeaaaa h ?_; clear h; intro z7_ hmr q tms ws som hq h4 hcs hS hsl; subst z7_
  refine Xe (L4.of h4 hcs hS) fun ca h4 => ?_
  refine t_execs_cons ((stmt4 hr h4 hS (by omega) hsl hmr).mono fun fl m5 n5 h => ?_)
  refine Xaeeeeaaaa h ?_; clear h; intro z8_ ta tvs tbs q' z9_ h5 hta hlt htv; subst z8_; subst z9_
  have hS:Som n5 tms ws R sa som:=⟨h5.la,hS.good,hS.ord,hS.cl,hS.far,hS.z,hS.tl,hS.wl,hS.s0⟩
  refine t_execs_cons ((stmt5 hr h5 hS hsl).mono fun fl m6 n6 h => ?_)
  refine Xaeeeeaaaaaaaaa h ?_; clear h; intro z10_ re rvs rs tms' z11_ h6 f6 pt ltms O6 hre hrv hrl hro; subst z10_; subst z11_
  have up:=h6.bank.up
  have l1:=h6.l1
  have l2:=h6.l2
  have pw:ws <+: ws:=List.prefix_refl _
  have hF:Fix w n6 L B R sa som ta tvs tbs re rvs rs tms' ws:=⟨h6.bank.base,h6.cb,h6.cs,h6.rw,h6.la,f6 _ _ hlt hta,htv.mono fun tb v hv => by
    refine Xeaaaa (hv.to (n':=n6) fun d es ep hd hm => f6.at up hm (.inr (by omega))) fun d e hd hT ok al => ?_
    exact ⟨d,e,hd,hT,ok.monoT pt pw,al⟩,hre,hrv⟩
  have hz:∀ wd,¬ Good tms' ws 0 wd:=fun wd G => by
    refine Xeaeaa G.wd fun τ a k b _ c => ?_
    have:=pre_get pt hS.z
    rw [a] at this
    cases this
    have e:τ0.sort = 0:=rfl
    rw [e] at b
    omega
  have htl:=hS.tl
  have hg:∀ t ∈ som,t ≤ 9 ∧ ∃ wd,Good tms' ws t wd:=fun t ht => by
    refine Xe (hS.good t ht) fun wd G => ?_
    refine Xea G.wd fun _ a _ => ?_
    have:=(List.getElem?_eq_some_iff.mp a).1
    exact ⟨by omega,wd,G.mono pt pw⟩
  refine t_execs_cons ((stmt6 hr hF).mono fun fl m7 n7 h => ?_)
  refine Xaaea h ?_; clear h; intro z12_ z13_ v hv z14_; subst z12_; subst z13_; subst z14_
  have hN:Names (upL (upL (upL m4 (Str.ofString "tables") (.ref ta)) (Str.ofString "rest") (.ref re)) (Str.ofString "size") v) R ta re v:=⟨hmr,rfl,rfl,rfl⟩
  refine t_execs_cons ((stmt7 hr up hF hN O6 hg hz hsl).mono fun fl m8 n8 h => ?_)
  refine Xaa h ?_; clear h; intro z15_ e8 hN8; subst z15_
  have hF8:=hF.ext up e8
  refine t_execs_cons ((stmt8 hr up hF8 hN8 hro).mono fun fl m9 n9 h => ?_)
  refine Xaa h ?_; clear h; intro z16_ e9 hN9; subst z16_
  refine t_execs_cons ((stmt9 hr (hF8.ext up e9) hN9.d hv).mono fun fl m10 n10 h => ?_)
  subst h
  rfl
end Mine
theorem PySem.Challenge.cw_rg0226_04_holds : PySem.Challenge.rw_rg0226_04.Holds := by
  exact Mine.law_holds Mine.law_spec
