import PyProof.Rows.All
import Wide.All
import OpenK.AllK
import Wide.FinOn
import PySem.Challenge.RW_sa0603_01
open PySem PySem.W PyProof.Rows
set_option Elab.async false
set_option linter.all false
set_option genSizeOf false
set_option bootstrap.genMatcherCode false
set_option maxRecDepth 100000
namespace HD
noncomputable def dS:Stmt:=.Break ⟨0,0,0,0⟩
noncomputable def sP (k:Nat):Stmt:=PySem.Challenge.pw_sa0603_01.main.body.getD k dS
noncomputable def cut (k n:Nat):List Stmt:=(PySem.Challenge.pw_sa0603_01.main.body.drop k).take n
noncomputable def fA:Stmt→Arguments
 | .FunctionDef _ a _ _ _ _ _ _ _ _=>a
 | _=>⟨[],[],none,[],[],none,[]⟩
noncomputable def fB:Stmt→List Stmt
 | .FunctionDef _ _ b _ _ _ _ _ _ _=>b
 | .ClassDef _ _ _ b _ _ _ _ _ _ _=>b
 | _=>[]
noncomputable def fS:Stmt→Scope
 | .FunctionDef _ _ _ _ _ _ s _ _ _=>s
 | .ClassDef _ _ _ _ _ _ s _ _ _ _=>s
 | _=>PySem.Challenge.pw_sa0603_01.main.scope
noncomputable def mS (s:Stmt) (k:Nat):Stmt:=(fB s).getD k dS
noncomputable def t0:String:=PySem.W.SL.s14018661285674007319x4
noncomputable def s0:Str:=⟨⟨[95,95,110,97,109,101,95,95]⟩⟩
noncomputable def c0:Value:=.str s0 165
noncomputable def s1:Str:=⟨⟨[115,110,111,98,111,108,46,116,114,105,97,108]⟩⟩
noncomputable def c1:Value:=.str s1 1042
noncomputable def s2:Str:=⟨⟨[95,95,100,111,99,95,95]⟩⟩
noncomputable def s3:Str:=⟨⟨[95,95,112,97,99,107,97,103,101,95,95]⟩⟩
noncomputable def s4:Str:=⟨⟨[95,95,108,111,97,100,101,114,95,95]⟩⟩
noncomputable def t1:String:=PySem.W.SL.s7097527257260152453x26
noncomputable def s5:Str:=⟨⟨[95,95,115,112,101,99,95,95]⟩⟩
noncomputable def s6:Str:=⟨⟨[95,95,97,110,110,111,116,97,116,105,111,110,115,95,95]⟩⟩
noncomputable def s7:Str:=⟨⟨[95,95,98,117,105,108,116,105,110,115,95,95]⟩⟩
noncomputable def s8:Str:=⟨⟨[95,95,102,105,108,101,95,95]⟩⟩
noncomputable def s9:Str:=⟨⟨[47,99,108,97,105,109,47,99,117,116,46,112,121]⟩⟩
noncomputable def s10:Str:=⟨⟨[95,95,99,97,99,104,101,100,95,95]⟩⟩
noncomputable def s11:Str:=⟨⟨[79,78,69]⟩⟩
noncomputable def s12:Str:=⟨⟨[111,110,101]⟩⟩
noncomputable def s13:Str:=⟨⟨[87,65,89,83]⟩⟩
noncomputable def s14:Str:=⟨⟨[119,97,121,115]⟩⟩
noncomputable def s15:Str:=⟨⟨[83,80,76,73,84]⟩⟩
noncomputable def s16:Str:=⟨⟨[115,112,108,105,116]⟩⟩
noncomputable def s17:Str:=⟨⟨[74,85,77,80]⟩⟩
noncomputable def s18:Str:=⟨⟨[106,117,109,112]⟩⟩
noncomputable def s19:Str:=⟨⟨[77,65,82,75]⟩⟩
noncomputable def s20:Str:=⟨⟨[109,97,114,107]⟩⟩
noncomputable def s21:Str:=⟨⟨[78,65,77,69]⟩⟩
noncomputable def s22:Str:=⟨⟨[110,97,109,101]⟩⟩
noncomputable def s23:Str:=⟨⟨[83,69,84]⟩⟩
noncomputable def s24:Str:=⟨⟨[115,101,116]⟩⟩
noncomputable def s25:Str:=⟨⟨[71,65,73,78]⟩⟩
noncomputable def s26:Str:=⟨⟨[103,97,105,110]⟩⟩
noncomputable def s27:Str:=⟨⟨[80,76,65,67,69]⟩⟩
noncomputable def s28:Str:=⟨⟨[112,108,97,99,101]⟩⟩
noncomputable def s29:Str:=⟨⟨[65,83,75]⟩⟩
noncomputable def s30:Str:=⟨⟨[97,115,107]⟩⟩
noncomputable def s31:Str:=⟨⟨[70,69,78,67,69]⟩⟩
noncomputable def s32:Str:=⟨⟨[102,101,110,99,101]⟩⟩
noncomputable def s33:Str:=⟨⟨[70,65,73,76]⟩⟩
noncomputable def c2:List Nat:=[102,97,105,108]
noncomputable def s34:Str:=⟨⟨c2⟩⟩
noncomputable def s35:Str:=⟨⟨[65,66,79,82,84]⟩⟩
noncomputable def s36:Str:=⟨⟨[97,98,111,114,116]⟩⟩
noncomputable def s37:Str:=⟨⟨[83,85,67,67,69,69,68]⟩⟩
noncomputable def s38:Str:=⟨⟨[115,117,99,99,101,101,100]⟩⟩
noncomputable def s39:Str:=⟨⟨[68,79,78,69]⟩⟩
noncomputable def c3:List Nat:=[100,111,110,101]
noncomputable def s40:Str:=⟨⟨c3⟩⟩
noncomputable def s41:Str:=⟨⟨[80,85,84]⟩⟩
noncomputable def s42:Str:=⟨⟨[112,117,116]⟩⟩
noncomputable def s43:Str:=⟨⟨[69,77,73,84]⟩⟩
noncomputable def c4:List Nat:=[101,109,105,116]
noncomputable def s44:Str:=⟨⟨c4⟩⟩
noncomputable def s45:Str:=⟨⟨[79,80,69,78]⟩⟩
noncomputable def s46:Str:=⟨⟨[111,112,101,110]⟩⟩
noncomputable def s47:Str:=⟨⟨[83,72,85,84]⟩⟩
noncomputable def s48:Str:=⟨⟨[115,104,117,116]⟩⟩
noncomputable def s49:Str:=⟨⟨[77,69,69,84]⟩⟩
noncomputable def s50:Str:=⟨⟨[109,101,101,116]⟩⟩
noncomputable def s51:Str:=⟨⟨[83,73,78,71,76,69]⟩⟩
noncomputable def s52:Str:=⟨⟨[65,76,79,78,69]⟩⟩
noncomputable def s53:Str:=⟨⟨[114,111,119,95,111,102]⟩⟩
noncomputable def s54:Str:=⟨⟨[105,115,95,112,108,97,105,110,95,116,101,120,116]⟩⟩
noncomputable def s55:Str:=⟨⟨[119,105,116,104,95,116,101,120,116,115,95,106,111,105,110,101,100]⟩⟩
noncomputable def s56:Str:=⟨⟨[80,97,116,116,101,114,110,67,111,100,101]⟩⟩
noncomputable def s57:Str:=⟨⟨[115,116,114,97,105,103,104,116,101,110,101,100]⟩⟩
noncomputable def c5:List Nat:=[99,111,109,112,105,108,101,95,112,97,116,116,101,114,110]
noncomputable def s58:Str:=⟨⟨c5⟩⟩
noncomputable def s59:Str:=⟨⟨[83,110,111,98,111,108,69,114,114,111,114]⟩⟩
noncomputable def s60:Str:=⟨⟨[70,97,105,108,117,114,101]⟩⟩
noncomputable def s61:Str:=⟨⟨[80,97,116,116,101,114,110]⟩⟩
noncomputable def s62:Str:=⟨⟨[68,101,108,97,121,101,100]⟩⟩
noncomputable def s63:Str:=⟨⟨[105,115,95,102,97,105,108]⟩⟩
noncomputable def s64:Str:=⟨⟨[102,105,116,115]⟩⟩
noncomputable def s65:Str:=⟨⟨[119,104,111,108,101,95,111,102,95,116,101,120,116]⟩⟩
noncomputable def s66:Str:=⟨⟨[116,101,120,116,95,111,102,95,119,104,111,108,101]⟩⟩
noncomputable def s67:Str:=⟨⟨[116,111,95,119,104,111,108,101]⟩⟩
noncomputable def s68:Str:=⟨⟨[116,111,95,116,101,120,116]⟩⟩
noncomputable def s69:Str:=⟨⟨[110,101,101,100,95,116,101,120,116]⟩⟩
noncomputable def s70:Str:=⟨⟨[67,79,85,78,84,69,68]⟩⟩
noncomputable def s71:Str:=⟨⟨[83,73,71,78,69,68]⟩⟩
noncomputable def s72:Str:=⟨⟨[87,73,68,84,72,95,79,70,95,67,79,85,78,84]⟩⟩
noncomputable def s73:Str:=⟨⟨[112,108,97,105,110,95,99,111,117,110,116]⟩⟩
noncomputable def s74:Str:=⟨⟨[112,108,97,105,110,95,115,105,103,110,115]⟩⟩
noncomputable def s75:Str:=⟨⟨[112,97,116,116,101,114,110,95,111,102]⟩⟩
noncomputable def s76:Str:=⟨⟨[105,115,95,100,101,108,97,121,101,100]⟩⟩
noncomputable def s77:Str:=⟨⟨[115,101,116,116,108,101,100]⟩⟩
noncomputable def s78:Str:=⟨⟨[79,80,69,78,73,78,71]⟩⟩
noncomputable def s79:Str:=⟨⟨[40]⟩⟩
noncomputable def s80:Str:=⟨⟨[67,76,79,83,73,78,71]⟩⟩
noncomputable def s81:Str:=⟨⟨[41]⟩⟩
noncomputable def s82:Str:=⟨⟨[99,104,97,114,115,95,101,110,100]⟩⟩
noncomputable def s83:Str:=⟨⟨[108,101,110,95,101,110,100]⟩⟩
noncomputable def c6:List Nat:=[112,111,115,95,101,110,100]
noncomputable def s84:Str:=⟨⟨c6⟩⟩
noncomputable def s85:Str:=⟨⟨[114,112,111,115,95,101,110,100]⟩⟩
noncomputable def c7:List Nat:=[116,97,98,95,101,110,100]
noncomputable def s86:Str:=⟨⟨c7⟩⟩
noncomputable def s87:Str:=⟨⟨[114,116,97,98,95,101,110,100]⟩⟩
noncomputable def s88:Str:=⟨⟨[114,101,109,95,101,110,100]⟩⟩
noncomputable def c8:List Nat:=[97,110,121,95,97,116]
noncomputable def s89:Str:=⟨⟨c8⟩⟩
noncomputable def s90:Str:=⟨⟨[110,111,116,97,110,121,95,97,116]⟩⟩
noncomputable def s91:Str:=⟨⟨[114,117,110,95,101,110,100]⟩⟩
noncomputable def s92:Str:=⟨⟨[115,112,97,110,95,101,110,100]⟩⟩
noncomputable def s93:Str:=⟨⟨[98,114,101,97,107,95,101,110,100]⟩⟩
noncomputable def s94:Str:=⟨⟨[97,114,98,95,101,110,100,115]⟩⟩
noncomputable def s95:Str:=⟨⟨[98,97,108,95,101,110,100]⟩⟩
noncomputable def s96:Str:=⟨⟨[98,97,108,95,101,110,100,115]⟩⟩
noncomputable def s97:Str:=⟨⟨[111,110,101,95,101,110,100]⟩⟩
noncomputable def s98:Str:=⟨⟨[112,108,97,105,110,95,101,110,100]⟩⟩
noncomputable def s99:Str:=⟨⟨[101,110,100,115,95,111,102]⟩⟩
noncomputable def s100:Str:=⟨⟨[77,69,84]⟩⟩
noncomputable def s101:Str:=⟨⟨[70,65,73,76,69,68]⟩⟩
noncomputable def s102:Str:=⟨⟨[79,86,69,82]⟩⟩
noncomputable def s103:Str:=⟨⟨[87,97,121]⟩⟩
noncomputable def s104:Str:=⟨⟨[77,97,116,99,104]⟩⟩
noncomputable def s105:Str:=⟨⟨[110,97,109,101,100,95,114,111,119,115]⟩⟩
noncomputable def s106:Str:=⟨⟨[109,97,116,99,104,95,111,114,100,101,114,115]⟩⟩
noncomputable def s107:Str:=⟨⟨[109,97,116,99,104,95,99,111,109,112,105,108,101,100]⟩⟩
noncomputable def s108:Str:=⟨⟨[80,108,97,105,110,72,111,115,116]⟩⟩
noncomputable def s109:Str:=⟨⟨[76,79,83,84]⟩⟩
noncomputable def s110:Str:=⟨⟨[108,111,115,116]⟩⟩
noncomputable def s111:Str:=⟨⟨[109,97,116,99,104,95,112,108,97,105,110]⟩⟩
noncomputable def t2:String:=PySem.W.SL.s2766695959194262286x5
noncomputable def s112:Str:=⟨⟨[99,104,97,114,115]⟩⟩
noncomputable def s113:Str:=⟨⟨[108,101,110]⟩⟩
noncomputable def s114:Str:=⟨⟨[112,111,115]⟩⟩
noncomputable def s115:Str:=⟨⟨[114,112,111,115]⟩⟩
noncomputable def s116:Str:=⟨⟨[116,97,98]⟩⟩
noncomputable def s117:Str:=⟨⟨[114,116,97,98]⟩⟩
noncomputable def s118:Str:=⟨⟨[97,110,121]⟩⟩
noncomputable def s119:Str:=⟨⟨[110,111,116,97,110,121]⟩⟩
noncomputable def s120:Str:=⟨⟨[115,112,97,110]⟩⟩
noncomputable def s121:Str:=⟨⟨[98,114,101,97,107]⟩⟩
noncomputable def s122:Str:=⟨⟨[114,101,109]⟩⟩
noncomputable def o51:Obj:=⟨.type t2,none,.seq #[.str s112 229,.str s113 230,.str s114 231,.str s115 232,.str s116 233,.str s117 234,.str s118 235,.str s119 236,.str s120 237,.str s121 238,.str s122 239] 0,#[]⟩
noncomputable def c9:Obj:=⟨.type t2,none,.seq #[] 0,#[]⟩
noncomputable def s123:Str:=⟨⟨[80,97,116,116,101,114,110,67,111,100,101,46,112,117,116]⟩⟩
noncomputable def s124:Str:=⟨⟨[115,101,108,102]⟩⟩
noncomputable def c10:List Nat:=[110,111,100,101]
noncomputable def s125:Str:=⟨⟨c10⟩⟩
noncomputable def c11:Arguments:=fA (mS (sP 26) 2)
noncomputable def s126:Str:=⟨⟨[119,97,105,116,105,110,103]⟩⟩
noncomputable def s127:Str:=⟨⟨[119,111,114,100]⟩⟩
noncomputable def s128:Str:=⟨⟨[116,111,108,100]⟩⟩
noncomputable def c12:List Nat:=[98,101,103,117,110]
noncomputable def s131:Str:=⟨⟨c12⟩⟩
noncomputable def c15:List Nat:=[98,111,117,110,100]
noncomputable def s132:Str:=⟨⟨c15⟩⟩
noncomputable def c17:List Stmt:=fB (mS (sP 26) 2)
noncomputable def c18:FuncBody:=.stmts c17
noncomputable def c27:Scope:=fS (mS (sP 26) 2)
noncomputable def o101:Obj:=⟨.none,none,.func ⟨s42,s123,c11,c18,c27,0,[],.none,.none,.none,.none,none,.none,.none,0⟩,#[]⟩
noncomputable def c28:List Nat:=[95,95,105,110,105,116,95,95]
noncomputable def s133:Str:=⟨⟨c28⟩⟩
noncomputable def s134:Str:=⟨⟨[83,110,111,98,111,108,69,114,114,111,114,46,95,95,105,110,105,116,95,95]⟩⟩
noncomputable def s135:Str:=⟨⟨[110,117,109,98,101,114]⟩⟩
noncomputable def s136:Str:=⟨⟨[]⟩⟩
noncomputable def c29:Arguments:=fA (mS (sP 30) 0)
noncomputable def c31:List Stmt:=fB (mS (sP 30) 0)
noncomputable def c32:FuncBody:=.stmts c31
noncomputable def s139:Str:=⟨⟨[95,95,99,108,97,115,115,95,95]⟩⟩
noncomputable def c34:Scope:=fS (mS (sP 30) 0)
noncomputable def o168:Obj:=⟨.none,none,.func ⟨s133,s134,c29,c32,c34,0,[],.none,.none,.none,.none,none,.none,.none,0⟩,#[]⟩
noncomputable def s140:Str:=⟨⟨[118,97,108,117,101]⟩⟩
noncomputable def s141:Str:=⟨⟨[107,105,110,100]⟩⟩
noncomputable def c35:Arguments:=fA (sP 46)
noncomputable def c36:List Nat:=[116,101,120,116]
noncomputable def s142:Str:=⟨⟨c36⟩⟩
noncomputable def c37:List Stmt:=fB (sP 46)
noncomputable def c38:FuncBody:=.stmts c37
noncomputable def c42:Scope:=fS (sP 46)
noncomputable def o304:Obj:=⟨.none,none,.func ⟨s74,s74,c35,c38,c42,0,[],.none,.none,.none,.none,none,.none,.none,0⟩,#[]⟩
noncomputable def c43:Obj:=⟨.none,none,.fields #[],#[]⟩
noncomputable def t3:String:=PySem.W.SL.s7174869446012820540x8
noncomputable def s143:Str:=⟨⟨[115,117,98,106,101,99,116]⟩⟩
noncomputable def s144:Str:=⟨⟨[97,116]⟩⟩
noncomputable def c44:Arguments:=fA (sP 67)
noncomputable def s145:Str:=⟨⟨[102,111,117,110,100]⟩⟩
noncomputable def s146:Str:=⟨⟨[101,110,100]⟩⟩
noncomputable def c46:List Stmt:=fB (sP 67)
noncomputable def c47:FuncBody:=.stmts c46
noncomputable def c52:Scope:=fS (sP 67)
noncomputable def s148:Str:=⟨⟨[115,110,111,98,111,108,46,112,114,105,109,105,116,105,118,101,115]⟩⟩
noncomputable def c53:Value:=.str s148 605
noncomputable def o434:Obj:=⟨.type t3,none,.func ⟨s96,s96,c44,c47,c52,3,[],.none,.none,.none,c53,none,.ref 382,.none,0⟩,#[]⟩
noncomputable def t4:String:=PySem.W.SL.s11030030927630378310x26
noncomputable def t5:String:=PySem.W.SL.s4860613602091757760x24
noncomputable def o238:Obj:=⟨.type t4,none,.fields #[.builtin t5,.ref 187],#[]⟩
noncomputable def t6:String:=PySem.W.SL.s5856160107412720595x4
noncomputable def o370:Obj:=⟨.type t6,none,.fields #[.str s87 656,.str s87 657,.str s9 658,.int 224 0,.int 3 0,.int 0 0,.int 0 0,.int 3 0,.ref 314,.bool .true,.int 181 0,.ref 315,.none,.ref 316,.ref 317,.ref 318,.int 663 0,.int 224 0,.str s9 664],#[]⟩
noncomputable def s149:Str:=⟨⟨[105,115,95,97,110,99,104,111,114,101,100]⟩⟩
noncomputable def s150:Str:=⟨⟨[104,111,115,116]⟩⟩
noncomputable def s151:Str:=⟨⟨[98,101,103,105,110]⟩⟩
noncomputable def o634:Obj:=⟨.type t2,none,.seq #[.str s125 1049,.str s143 1050,.str s149 1051,.str s150 1052,.str s151 1053,.str s145 1054] 0,#[]⟩
noncomputable def c55:BT:=.node o238 (.node o370 (.node o634 .nil .nil) .nil) (.node c9 .nil .nil)
noncomputable def t7:String:=PySem.W.SL.s14755015743595814543x17
noncomputable def s152:Str:=⟨⟨[95,95,100,105,99,116,95,95]⟩⟩
noncomputable def t8:String:=PySem.W.SL.s6511155373996960695x17
noncomputable def t9:String:=PySem.W.SL.s12411053484034534018x21
noncomputable def o133:Obj:=⟨.type t7,none,.fields #[.str s152 350,.ref 94,.builtin t8,.builtin t9],#[]⟩
noncomputable def o204:Obj:=⟨.type t2,none,.seq #[.str s124 446,.str s125 447] 0,#[]⟩
noncomputable def s153:Str:=⟨⟨[80,108,97,105,110,72,111,115,116,46,95,95,105,110,105,116,95,95]⟩⟩
noncomputable def o602:Obj:=⟨.type t6,none,.fields #[.str s133 994,.str s153 995,.str s9 996,.int 439 0,.int 4 0,.int 0 0,.int 0 0,.int 3 0,.ref 538,.bool .true,.int 181 0,.ref 539,.none,.ref 540,.ref 541,.ref 542,.int 1001 0,.int 439 0,.str s9 1002],#[]⟩
noncomputable def c57:List Nat:=[115,105,103,110,115]
noncomputable def s154:Str:=⟨⟨c57⟩⟩
noncomputable def o402:Obj:=⟨.type t2,none,.seq #[.str s143 704,.str s144 705,.str s154 706,.str s146 707] 0,#[]⟩
noncomputable def c58:List Nat:=[101,110,100,101,100]
noncomputable def s155:Str:=⟨⟨c58⟩⟩
noncomputable def s156:Str:=⟨⟨[77,97,116,99,104,46,101,110,100,101,100]⟩⟩
noncomputable def s157:Str:=⟨⟨[111,114,100,101,114]⟩⟩
noncomputable def s158:Str:=⟨⟨[119,97,121]⟩⟩
noncomputable def c59:Arguments:=fA (mS (sP 76) 5)
noncomputable def s159:Str:=⟨⟨[109,97,114,107,115]⟩⟩
noncomputable def c60:List Nat:=[97,115,115,105,103,110]
noncomputable def s160:Str:=⟨⟨c60⟩⟩
noncomputable def s161:Str:=⟨⟨[110,97,109,101,100]⟩⟩
noncomputable def c61:List Stmt:=fB (mS (sP 76) 5)
noncomputable def c62:FuncBody:=.stmts c61
noncomputable def c69:Scope:=fS (mS (sP 76) 5)
noncomputable def o534:Obj:=⟨.none,none,.func ⟨s155,s156,c59,c62,c69,0,[],.none,.none,.none,.none,none,.none,.none,0⟩,#[]⟩
noncomputable def o85:Obj:=⟨.type t2,none,.seq #[.str s124 288] 0,#[]⟩
noncomputable def c70:Arguments:=fA (sP 48)
noncomputable def c71:List Stmt:=fB (sP 48)
noncomputable def c72:FuncBody:=.stmts c71
noncomputable def c75:Scope:=fS (sP 48)
noncomputable def s164:Str:=⟨⟨[115,110,111,98,111,108,46,110,111,100,101,115]⟩⟩
noncomputable def c76:Value:=.str s164 547
noncomputable def o320:Obj:=⟨.type t3,none,.func ⟨s76,s76,c70,c72,c75,3,[],.none,.none,.none,c76,none,.ref 270,.none,0⟩,#[]⟩
noncomputable def o518:Obj:=⟨.type t2,none,.seq #[.str s124 875,.str s157 876,.str s158 877,.str s127 878] 0,#[]⟩
noncomputable def o152:Obj:=⟨.type t6,none,.fields #[.str s58 367,.str s58 368,.str s9 369,.int 116 0,.int 1 0,.int 0 0,.int 0 0,.int 3 0,.ref 106,.bool .true,.int 181 0,.ref 107,.none,.ref 108,.ref 109,.ref 110,.int 372 0,.int 116 0,.str s9 373],#[]⟩
noncomputable def o222:Obj:=⟨.none,none,.fields #[.int 136 0,.int 4 0,.ref 183],#[]⟩
noncomputable def t10:String:=PySem.W.SL.s4290257624100764138x5
noncomputable def o484:Obj:=⟨.type t10,none,.fields #[.ref 428,.ref 428,.ref 428],#[]⟩
noncomputable def o288:Obj:=⟨.type t6,none,.fields #[.str s69 539,.str s69 540,.str s9 541,.int 169 0,.int 1 0,.int 0 0,.int 0 0,.int 3 0,.ref 234,.bool .true,.int 181 0,.ref 235,.none,.ref 236,.ref 237,.ref 238,.int 544 0,.int 169 0,.str s9 545],#[]⟩
noncomputable def c79:Arguments:=fA (sP 65)
noncomputable def c80:List Stmt:=fB (sP 65)
noncomputable def c81:FuncBody:=.stmts c80
noncomputable def c84:Scope:=fS (sP 65)
noncomputable def o418:Obj:=⟨.none,none,.func ⟨s94,s94,c79,c81,c84,0,[],.none,.none,.none,.none,none,.none,.none,0⟩,#[]⟩
noncomputable def c85:List Nat:=[109,101,116,95,111,102,116,101,110]
noncomputable def s167:Str:=⟨⟨c85⟩⟩
noncomputable def s168:Str:=⟨⟨[77,97,116,99,104,46,109,101,116,95,111,102,116,101,110]⟩⟩
noncomputable def c86:List Nat:=[101,110,100,115]
noncomputable def s169:Str:=⟨⟨c86⟩⟩
noncomputable def c87:Arguments:=fA (mS (sP 76) 7)
noncomputable def s170:Str:=⟨⟨[112,99]⟩⟩
noncomputable def c88:List Nat:=[111,116,104,101,114]
noncomputable def s171:Str:=⟨⟨c88⟩⟩
noncomputable def c89:List Nat:=[99,111,112,105,101,100]
noncomputable def s172:Str:=⟨⟨c89⟩⟩
noncomputable def s173:Str:=⟨⟨[104,105,115,116,111,114,121]⟩⟩
noncomputable def c91:List Stmt:=fB (mS (sP 76) 7)
noncomputable def c92:FuncBody:=.stmts c91
noncomputable def c95:Scope:=fS (mS (sP 76) 7)
noncomputable def s174:Str:=⟨⟨[115,110,111,98,111,108,46,112,97,116,116,101,114,110,95,109,97,99,104,105,110,101]⟩⟩
noncomputable def c96:Value:=.str s174 778
noncomputable def o550:Obj:=⟨.type t3,none,.func ⟨s167,s168,c87,c92,c95,3,[],.none,.none,.none,c96,none,.ref 494,.none,0⟩,#[]⟩
noncomputable def c97:Arguments:=fA (sP 23)
noncomputable def s175:Str:=⟨⟨[112,97,114,116]⟩⟩
noncomputable def c100:List Stmt:=fB (sP 23)
noncomputable def c101:FuncBody:=.stmts c100
noncomputable def c103:Scope:=fS (sP 23)
noncomputable def s176:Str:=⟨⟨[115,110,111,98,111,108,46,99,111,109,112,105,108,101,95,112,97,116,116,101,114,110]⟩⟩
noncomputable def c104:Value:=.str s176 187
noncomputable def o59:Obj:=⟨.type t3,none,.func ⟨s53,s53,c97,c101,c103,3,[],.none,.none,.none,c104,none,.ref 22,.none,0⟩,#[]⟩
noncomputable def t11:String:=PySem.W.SL.s10062305145149207511x16
noncomputable def t12:String:=PySem.W.SL.s17162191345867700912x4
noncomputable def c105:Obj:=⟨.type t4,none,.fields #[.builtin t11,.type t12],#[]⟩
noncomputable def o176:Obj:=⟨.type t4,none,.fields #[.builtin t5,.ref 132],#[]⟩
noncomputable def o312:Obj:=⟨.type t6,none,.fields #[.str s75 581,.str s75 582,.str s9 583,.int 190 0,.int 1 0,.int 0 0,.int 0 0,.int 3 0,.ref 258,.bool .true,.int 181 0,.ref 259,.none,.ref 260,.ref 261,.ref 262,.int 586 0,.int 190 0,.str s9 587],#[]⟩
noncomputable def c106:List Nat:=[111,114,100,101,114,115]
noncomputable def s177:Str:=⟨⟨c106⟩⟩
noncomputable def s178:Str:=⟨⟨[104,111,119]⟩⟩
noncomputable def o576:Obj:=⟨.type t2,none,.seq #[.str s177 960,.str s143 961,.str s149 962,.str s150 963,.str s151 964,.str s178 965,.str s158 966] 0,#[]⟩
noncomputable def c107:Arguments:=fA (sP 59)
noncomputable def c108:List Stmt:=fB (sP 59)
noncomputable def c109:FuncBody:=.stmts c108
noncomputable def c110:Scope:=fS (sP 59)
noncomputable def o378:Obj:=⟨.type t3,none,.func ⟨s88,s88,c107,c109,c110,3,[],.none,.none,.none,c53,none,.ref 326,.none,0⟩,#[]⟩
noncomputable def c112:Arguments:=fA (sP 27)
noncomputable def s179:Str:=⟨⟨[103,111,97,108]⟩⟩
noncomputable def c114:List Stmt:=fB (sP 27)
noncomputable def c115:FuncBody:=.stmts c114
noncomputable def c120:Scope:=fS (sP 27)
noncomputable def o144:Obj:=⟨.none,none,.func ⟨s57,s57,c112,c115,c120,0,[],.none,.none,.none,.none,none,.none,.none,0⟩,#[]⟩
noncomputable def o212:Obj:=⟨.type t7,none,.fields #[.str s152 453,.ref 166,.builtin t8,.builtin t9],#[]⟩
noncomputable def o344:Obj:=⟨.type t2,none,.seq #[.str s144 633,.str s28 634] 0,#[]⟩
noncomputable def c121:List Nat:=[118,97,108,117,101,95,111,102]
noncomputable def s180:Str:=⟨⟨c121⟩⟩
noncomputable def s181:Str:=⟨⟨[80,108,97,105,110,72,111,115,116,46,118,97,108,117,101,95,111,102]⟩⟩
noncomputable def s182:Str:=⟨⟨[116,114,101,101]⟩⟩
noncomputable def c122:Arguments:=fA (mS (sP 81) 1)
noncomputable def c124:List Nat:=[118,97,108,117,101,115]
noncomputable def s183:Str:=⟨⟨c124⟩⟩
noncomputable def c125:List Stmt:=fB (mS (sP 81) 1)
noncomputable def c126:FuncBody:=.stmts c125
noncomputable def c128:Scope:=fS (mS (sP 81) 1)
noncomputable def s186:Str:=⟨⟨[115,110,111,98,111,108,46,104,111,115,116,115]⟩⟩
noncomputable def c129:Value:=.str s186 980
noncomputable def o610:Obj:=⟨.type t3,none,.func ⟨s180,s181,c122,c126,c128,3,[],.none,.none,.none,c129,none,.ref 550,.none,0⟩,#[]⟩
noncomputable def s187:Str:=⟨⟨[87,97,121,46,99,111,112,105,101,100]⟩⟩
noncomputable def c130:Arguments:=fA (mS (sP 75) 1)
noncomputable def s188:Str:=⟨⟨[99,97,108,108,115]⟩⟩
noncomputable def c131:List Stmt:=fB (mS (sP 75) 1)
noncomputable def c132:FuncBody:=.stmts c131
noncomputable def c135:Scope:=fS (mS (sP 75) 1)
noncomputable def o476:Obj:=⟨.none,none,.func ⟨s172,s187,c130,c132,c135,0,[],.none,.none,.none,.none,none,.none,.none,0⟩,#[]⟩
noncomputable def c137:Arguments:=fA (sP 39)
noncomputable def c138:List Stmt:=fB (sP 39)
noncomputable def c139:FuncBody:=.stmts c138
noncomputable def c142:Scope:=fS (sP 39)
noncomputable def o280:Obj:=⟨.none,none,.func ⟨s68,s68,c137,c139,c142,0,[],.none,.none,.none,.none,none,.none,.none,0⟩,#[]⟩
noncomputable def s191:Str:=⟨⟨[77,97,116,99,104,46,111,116,104,101,114]⟩⟩
noncomputable def o542:Obj:=⟨.type t6,none,.fields #[.str s171 906,.str s191 907,.str s9 908,.int 383 0,.int 3 0,.int 0 0,.int 0 0,.int 3 0,.ref 482,.bool .true,.int 181 0,.ref 483,.none,.ref 484,.ref 485,.ref 486,.int 913 0,.int 383 0,.str s9 914],#[]⟩
noncomputable def o125:Obj:=⟨.type t2,none,.seq #[.str s124 341,.str s127 342,.str s169 343,.str s144 344] 0,#[]⟩
noncomputable def o594:Obj:=⟨.none,none,.fields #[.int 439 0,.int 4 0,.ref 543,.int 447 0,.int 4 0,.ref 550,.int 452 0,.int 4 0,.ref 557,.int 459 0,.int 4 0,.ref 564],#[]⟩
noncomputable def s192:Str:=⟨⟨[95,95,109,111,100,117,108,101,95,95]⟩⟩
noncomputable def s193:Str:=⟨⟨[95,95,113,117,97,108,110,97,109,101,95,95]⟩⟩
noncomputable def c143:Value:=.str s103 794
noncomputable def s194:Str:=⟨⟨[95,95,102,105,114,115,116,108,105,110,101,110,111,95,95]⟩⟩
noncomputable def s195:Str:=⟨⟨[95,95,115,116,97,116,105,99,95,97,116,116,114,105,98,117,116,101,115,95,95]⟩⟩
noncomputable def o460:Params→Obj:=fun x0=>⟨.type t0,none,.dict #[⟨PyData.keyHash x0 s192,.str s192 793,c96⟩,⟨PyData.keyHash x0 s193,.str s193 795,c143⟩,⟨PyData.keyHash x0 s194,.str s194 797,.int 299 796⟩,⟨PyData.keyHash x0 s133,.str s133 810,.ref 418⟩,⟨PyData.keyHash x0 s172,.str s172 818,.ref 425⟩,⟨PyData.keyHash x0 s195,.str s195 825,.ref 426⟩] 6,#[]⟩
noncomputable def c144:List Nat:=[108,101,102,116]
noncomputable def s196:Str:=⟨⟨c144⟩⟩
noncomputable def o262:Obj:=⟨.type t2,none,.seq #[.str s135 518,.str s196 519,.str s145 520] 0,#[]⟩
noncomputable def o160:Obj:=⟨.type t6,none,.fields #[.str s59 379,.str s59 380,.str s9 381,.int 122 0,.int 0 0,.int 0 0,.int 0 0,.int 0 0,.ref 117,.bool .false,.int 181 0,.ref 118,.none,.none,.none,.none,.int 382 0,.int 122 0,.str s9 383],#[]⟩
noncomputable def s197:Str:=⟨⟨[68,101,108,97,121,101,100,46,95,95,105,110,105,116,95,95]⟩⟩
noncomputable def o230:Obj:=⟨.type t6,none,.fields #[.str s133 472,.str s197 473,.str s9 474,.int 136 0,.int 2 0,.int 0 0,.int 0 0,.int 3 0,.ref 178,.bool .true,.int 181 0,.ref 179,.none,.ref 180,.ref 181,.ref 182,.int 477 0,.int 136 0,.str s9 478],#[]⟩
noncomputable def c145:Arguments:=fA (sP 57)
noncomputable def c146:List Stmt:=fB (sP 57)
noncomputable def c147:FuncBody:=.stmts c146
noncomputable def c149:Scope:=fS (sP 56)
noncomputable def o362:Obj:=⟨.none,none,.func ⟨s86,s86,c145,c147,c149,0,[],.none,.none,.none,.none,none,.none,.none,0⟩,#[]⟩
noncomputable def c150:List Nat:=[115,116,101,112]
noncomputable def s198:Str:=⟨⟨c150⟩⟩
noncomputable def s199:Str:=⟨⟨[95,95,119,101,97,107,114,101,102,95,95]⟩⟩
noncomputable def o626:Params→Obj:=fun x0=>⟨.type t0,none,.dict #[⟨PyData.keyHash x0 s192,.str s192 989,c129⟩,⟨PyData.keyHash x0 s194,.str s194 993,.int 437 992⟩,⟨PyData.keyHash x0 s133,.str s133 1003,.ref 544⟩,⟨PyData.keyHash x0 s180,.str s180 1011,.ref 551⟩,⟨PyData.keyHash x0 s160,.str s160 1020,.ref 558⟩,⟨PyData.keyHash x0 s198,.str s198 1027,.ref 565⟩,⟨PyData.keyHash x0 s195,.str s195 1034,.ref 566⟩,⟨PyData.keyHash x0 s152,.str s152 1036,.ref 569⟩,⟨PyData.keyHash x0 s199,.str s199 1038,.ref 570⟩,⟨PyData.keyHash x0 s2,.str s2 1039,.none⟩] 4,#[]⟩
noncomputable def t13:String:=PySem.W.SL.s658472552662922059x5
noncomputable def o494:Obj:=⟨.type t13,none,.plain,#[some (.ref 438),some (.ref 3),some (.ref 435),none,some c96,none,some (.ref 0)]⟩
noncomputable def u1:Params→BT:=fun x0=>.node o230 (.node o362 (.node (o626 x0) .nil .nil) .nil) (.node o494 .nil .nil)
noncomputable def o426:Obj:=⟨.type t6,none,.fields #[.str s95 729,.str s95 730,.str s9 731,.int 245 0,.int 2 0,.int 0 0,.int 0 0,.int 3 0,.ref 370,.bool .true,.int 181 0,.ref 371,.none,.ref 372,.ref 373,.ref 374,.int 735 0,.int 245 0,.str s9 736],#[]⟩
noncomputable def o558:Obj:=⟨.type t2,none,.seq #[.str s173 937,.str s150 938,.str s143 939] 0,#[]⟩
noncomputable def o55:Obj:=⟨.type t2,none,.seq #[.str s125 249,.str s141 250,.str s145 251,.str s126 252,.str s175 253] 0,#[]⟩
noncomputable def s200:Str:=⟨⟨[112,97,114,116,115]⟩⟩
noncomputable def c151:Arguments:=fA (sP 25)
noncomputable def c154:List Stmt:=fB (sP 25)
noncomputable def c155:FuncBody:=.stmts c154
noncomputable def c157:Scope:=fS (sP 25)
noncomputable def o71:Obj:=⟨.none,none,.func ⟨s55,s55,c151,c155,c157,0,[],.none,.none,.none,.none,none,.none,.none,0⟩,#[]⟩
noncomputable def s201:Str:=⟨⟨[115,110,111,98,111,108,46,118,97,108,117,101,115]⟩⟩
noncomputable def c158:Value:=.str s201 375
noncomputable def o172:Params→Obj:=fun x0=>⟨.type t0,none,.dict #[⟨PyData.keyHash x0 s192,.str s192 384,c158⟩,⟨PyData.keyHash x0 s194,.str s194 388,.int 122 387⟩,⟨PyData.keyHash x0 s133,.str s133 399,.ref 129⟩,⟨PyData.keyHash x0 s195,.str s195 402,.ref 130⟩,⟨PyData.keyHash x0 s199,.str s199 405,.ref 133⟩,⟨PyData.keyHash x0 s2,.str s2 406,.none⟩] 4,#[]⟩
noncomputable def o572:Obj:=⟨.type t6,none,.fields #[.str s105 948,.str s105 949,.str s9 950,.int 419 0,.int 1 0,.int 0 0,.int 0 0,.int 3 0,.ref 510,.bool .true,.int 181 0,.ref 511,.none,.ref 512,.ref 513,.ref 514,.int 954 0,.int 419 0,.str s9 955],#[]⟩
noncomputable def o374:Obj:=⟨.type t2,none,.seq #[.str s143 669] 0,#[]⟩
noncomputable def c159:Arguments:=fA (sP 84)
noncomputable def s202:Str:=⟨⟨[109,97,116,99,104,95,97,116]⟩⟩
noncomputable def c160:List Stmt:=fB (sP 84)
noncomputable def c161:FuncBody:=.stmts c160
noncomputable def c165:Scope:=fS (sP 84)
noncomputable def o638:Obj:=⟨.type t3,none,.func ⟨s111,s111,c159,c161,c165,3,[],.none,.none,.none,c1,none,.ref 578,.none,0⟩,#[]⟩
noncomputable def s203:Str:=⟨⟨[114,117,110]⟩⟩
noncomputable def s204:Str:=⟨⟨[77,97,116,99,104,46,114,117,110]⟩⟩
noncomputable def c166:Arguments:=fA (mS (sP 76) 1)
noncomputable def c168:List Nat:=[119,97,121,95,98,97,99,107]
noncomputable def s205:Str:=⟨⟨c168⟩⟩
noncomputable def c169:List Stmt:=fB (mS (sP 76) 1)
noncomputable def c170:FuncBody:=.stmts c169
noncomputable def c174:Scope:=fS (mS (sP 76) 1)
noncomputable def o506:Obj:=⟨.none,none,.func ⟨s203,s204,c166,c170,c174,0,[],.none,.none,.none,.none,none,.none,.none,0⟩,#[]⟩
noncomputable def c175:BT:=.node c9 (.node o374 (.node o638 .nil .nil) .nil) (.node o506 .nil .nil)
noncomputable def s206:Str:=⟨⟨[80,97,116,116,101,114,110,46,95,95,105,110,105,116,95,95]⟩⟩
noncomputable def c176:Arguments:=fA (mS (sP 32) 0)
noncomputable def c177:List Stmt:=fB (mS (sP 32) 0)
noncomputable def c178:FuncBody:=.stmts c177
noncomputable def c179:Scope:=fS (mS (sP 32) 0)
noncomputable def o208:Obj:=⟨.type t3,none,.func ⟨s133,s206,c176,c178,c179,3,[],.none,.none,.none,c158,none,.ref 162,.none,0⟩,#[]⟩
noncomputable def o340:Obj:=⟨.type t6,none,.fields #[.str s83 621,.str s83 622,.str s9 623,.int 216 0,.int 3 0,.int 0 0,.int 0 0,.int 3 0,.ref 286,.bool .true,.int 181 0,.ref 287,.none,.ref 288,.ref 289,.ref 290,.int 627 0,.int 216 0,.str s9 628],#[]⟩
noncomputable def o606:Obj:=⟨.type t2,none,.seq #[.str s124 1007,.str s182 1008] 0,#[]⟩
noncomputable def c181:Arguments:=fA (sP 63)
noncomputable def c182:List Stmt:=fB (sP 63)
noncomputable def c183:FuncBody:=.stmts c182
noncomputable def c186:Scope:=fS (sP 63)
noncomputable def o406:Obj:=⟨.type t3,none,.func ⟨s92,s92,c181,c183,c186,3,[],.none,.none,.none,c53,none,.ref 354,.none,0⟩,#[]⟩
noncomputable def s207:Str:=⟨⟨[80,97,116,116,101,114,110,67,111,100,101,46,95,95,105,110,105,116,95,95]⟩⟩
noncomputable def c187:Arguments:=fA (mS (sP 26) 0)
noncomputable def c188:List Stmt:=fB (mS (sP 26) 0)
noncomputable def c189:FuncBody:=.stmts c188
noncomputable def c190:Scope:=fS (mS (sP 26) 0)
noncomputable def o89:Obj:=⟨.type t3,none,.func ⟨s133,s207,c187,c189,c190,3,[],.none,.none,.none,c104,none,.ref 50,.none,0⟩,#[]⟩
noncomputable def c191:List Nat:=[114,101,112,101,97,116]
noncomputable def s208:Str:=⟨⟨c191⟩⟩
noncomputable def s209:Str:=⟨⟨[80,97,116,116,101,114,110,67,111,100,101,46,114,101,112,101,97,116]⟩⟩
noncomputable def o121:Obj:=⟨.type t6,none,.fields #[.str s208 328,.str s209 329,.str s9 330,.int 90 0,.int 2 0,.int 0 0,.int 0 0,.int 3 0,.ref 78,.bool .true,.int 181 0,.ref 79,.none,.ref 80,.ref 81,.ref 82,.int 335 0,.int 90 0,.str s9 336],#[]⟩
noncomputable def t14:String:=PySem.W.SL.s10220274742760427390x26
noncomputable def o190:Obj:=⟨.type t7,none,.fields #[.str s199 426,.ref 145,.builtin t14,.none],#[]⟩
noncomputable def o456:Obj:=⟨.type t6,none,.fields #[.str s99 767,.str s99 768,.str s9 769,.int 286 0,.int 4 0,.int 0 0,.int 0 0,.int 3 0,.ref 398,.bool .true,.int 181 0,.ref 399,.none,.ref 400,.ref 401,.ref 402,.int 775 0,.int 286 0,.str s9 776],#[]⟩
noncomputable def o258:Obj:=⟨.type t6,none,.fields #[.str s65 504,.str s65 505,.str s9 506,.int 142 0,.int 2 0,.int 0 0,.int 0 0,.int 3 0,.ref 206,.bool .true,.int 181 0,.ref 207,.none,.ref 208,.ref 209,.ref 210,.int 512 0,.int 142 0,.str s9 513],#[]⟩
noncomputable def c193:Arguments:=fA (sP 61)
noncomputable def c194:List Stmt:=fB (sP 61)
noncomputable def c195:FuncBody:=.stmts c194
noncomputable def c196:Scope:=fS (sP 60)
noncomputable def o390:Obj:=⟨.none,none,.func ⟨s90,s90,c193,c195,c196,0,[],.none,.none,.none,.none,none,.none,.none,0⟩,#[]⟩
noncomputable def s210:Str:=⟨⟨[77,97,116,99,104,46,100,111,110,101]⟩⟩
noncomputable def c197:Arguments:=fA (mS (sP 76) 3)
noncomputable def c198:List Nat:=[109,101,116,95,111,110,99,101]
noncomputable def s211:Str:=⟨⟨c198⟩⟩
noncomputable def c200:List Stmt:=fB (mS (sP 76) 3)
noncomputable def c201:FuncBody:=.stmts c200
noncomputable def c206:Scope:=fS (mS (sP 76) 3)
noncomputable def o522:Obj:=⟨.type t3,none,.func ⟨s40,s210,c197,c201,c206,3,[],.none,.none,.none,c96,none,.ref 466,.none,0⟩,#[]⟩
noncomputable def c207:Value:=.str s59 385
noncomputable def s212:Str:=⟨⟨[95,95,99,108,97,115,115,99,101,108,108,95,95]⟩⟩
noncomputable def o156:Params→Obj:=fun x0=>⟨.type t0,none,.dict #[⟨PyData.keyHash x0 s192,.str s192 384,c158⟩,⟨PyData.keyHash x0 s193,.str s193 386,c207⟩,⟨PyData.keyHash x0 s194,.str s194 388,.int 122 387⟩,⟨PyData.keyHash x0 s133,.str s133 399,.ref 129⟩,⟨PyData.keyHash x0 s195,.str s195 402,.ref 130⟩,⟨PyData.keyHash x0 s212,.str s212 403,.ref 116⟩] 6,#[]⟩
noncomputable def s213:Str:=⟨⟨[80,108,97,105,110,72,111,115,116,46,115,116,101,112]⟩⟩
noncomputable def c208:Arguments:=fA (mS (sP 81) 3)
noncomputable def s214:Str:=⟨⟨[115,116,101,112,115]⟩⟩
noncomputable def s215:Str:=⟨⟨[108,105,109,105,116]⟩⟩
noncomputable def c209:List Stmt:=fB (mS (sP 81) 3)
noncomputable def c210:FuncBody:=.stmts c209
noncomputable def c211:Scope:=fS (mS (sP 81) 3)
noncomputable def o622:Obj:=⟨.none,none,.func ⟨s198,s213,c208,c210,c211,0,[],.none,.none,.none,.none,none,.none,.none,0⟩,#[]⟩
noncomputable def c212:Value:=.str s104 841
noncomputable def c213:List Nat:=[97,115,107,101,100]
noncomputable def s216:Str:=⟨⟨c213⟩⟩
noncomputable def o490:Params→Obj:=fun x0=>⟨.type t0,none,.dict #[⟨PyData.keyHash x0 s192,.str s192 840,c96⟩,⟨PyData.keyHash x0 s193,.str s193 842,c212⟩,⟨PyData.keyHash x0 s194,.str s194 844,.int 311 843⟩,⟨PyData.keyHash x0 s133,.str s133 853,.ref 446⟩,⟨PyData.keyHash x0 s203,.str s203 864,.ref 453⟩,⟨PyData.keyHash x0 s205,.str s205 871,.ref 460⟩,⟨PyData.keyHash x0 s40,.str s40 881,.ref 467⟩,⟨PyData.keyHash x0 s211,.str s211 893,.ref 474⟩,⟨PyData.keyHash x0 s155,.str s155 905,.ref 481⟩,⟨PyData.keyHash x0 s171,.str s171 915,.ref 488⟩,⟨PyData.keyHash x0 s167,.str s167 926,.ref 495⟩,⟨PyData.keyHash x0 s216,.str s216 936,.ref 502⟩,⟨PyData.keyHash x0 s195,.str s195 940,.ref 503⟩] 13,#[]⟩
noncomputable def u3:Params→BT:=fun x0=>.node c43 (.node c9 (.node o622 .nil .nil) .nil) (.node (o490 x0) .nil .nil)
noncomputable def o292:Obj:=⟨.type t2,none,.seq #[.int 64 560] 0,#[]⟩
noncomputable def o81:Obj:=⟨.type t6,none,.fields #[.str s56 275,.str s56 276,.str s9 277,.int 45 0,.int 0 0,.int 0 0,.int 0 0,.int 0 0,.ref 41,.bool .false,.int 181 0,.ref 42,.none,.none,.none,.none,.int 278 0,.int 45 0,.str s9 279],#[]⟩
noncomputable def c214:List Nat:=[99,104,111,105,99,101]
noncomputable def s217:Str:=⟨⟨c214⟩⟩
noncomputable def s218:Str:=⟨⟨[80,97,116,116,101,114,110,67,111,100,101,46,99,104,111,105,99,101]⟩⟩
noncomputable def c215:Arguments:=fA (mS (sP 26) 4)
noncomputable def c217:List Stmt:=fB (mS (sP 26) 4)
noncomputable def c218:FuncBody:=.stmts c217
noncomputable def c221:Scope:=fS (mS (sP 26) 4)
noncomputable def o113:Obj:=⟨.none,none,.func ⟨s217,s218,c215,c218,c221,0,[],.none,.none,.none,.none,none,.none,.none,0⟩,#[]⟩
noncomputable def o316:Obj:=⟨.type t2,none,.seq #[.str s128 592] 0,#[]⟩
noncomputable def c222:Arguments:=fA (sP 78)
noncomputable def c223:List Stmt:=fB (sP 78)
noncomputable def c224:FuncBody:=.stmts c223
noncomputable def c225:Scope:=fS (sP 78)
noncomputable def o580:Obj:=⟨.type t3,none,.func ⟨s106,s106,c222,c224,c225,3,[],.none,.none,.none,c96,none,.ref 522,.none,0⟩,#[]⟩
noncomputable def c226:Arguments:=fA (sP 69)
noncomputable def c228:List Stmt:=fB (sP 69)
noncomputable def c229:FuncBody:=.stmts c228
noncomputable def c230:Scope:=fS (sP 69)
noncomputable def o448:Obj:=⟨.none,none,.func ⟨s98,s98,c226,c229,c230,0,[],.none,.none,.none,.none,none,.none,.none,0⟩,#[]⟩
noncomputable def s219:Str:=⟨⟨[119,105,100,116,104]⟩⟩
noncomputable def c231:Arguments:=fA (sP 35)
noncomputable def c232:List Stmt:=fB (sP 35)
noncomputable def c233:FuncBody:=.stmts c232
noncomputable def c235:Scope:=fS (sP 35)
noncomputable def o250:Obj:=⟨.none,none,.func ⟨s64,s64,c231,c233,c235,0,[],.none,.none,.none,.none,none,.none,.none,0⟩,#[]⟩
noncomputable def s220:Str:=⟨⟨[77,97,116,99,104,46,119,97,121,95,98,97,99,107]⟩⟩
noncomputable def o514:Obj:=⟨.type t6,none,.fields #[.str s205 865,.str s220 866,.str s9 867,.int 333 0,.int 1 0,.int 0 0,.int 0 0,.int 3 0,.ref 454,.bool .true,.int 181 0,.ref 455,.none,.ref 456,.ref 457,.ref 458,.int 869 0,.int 333 0,.str s9 870],#[]⟩
noncomputable def c237:Arguments:=fA (sP 55)
noncomputable def c238:List Stmt:=fB (sP 55)
noncomputable def c239:FuncBody:=.stmts c238
noncomputable def c240:Scope:=fS (sP 55)
noncomputable def o348:Obj:=⟨.type t3,none,.func ⟨s84,s84,c237,c239,c240,3,[],.none,.none,.none,c53,none,.ref 298,.none,0⟩,#[]⟩
noncomputable def o480:Params→Obj:=fun x0=>⟨.type t0,none,.dict #[⟨PyData.keyHash x0 s192,.str s192 793,c96⟩,⟨PyData.keyHash x0 s194,.str s194 797,.int 299 796⟩,⟨PyData.keyHash x0 s133,.str s133 810,.ref 418⟩,⟨PyData.keyHash x0 s172,.str s172 818,.ref 425⟩,⟨PyData.keyHash x0 s195,.str s195 825,.ref 426⟩,⟨PyData.keyHash x0 s152,.str s152 827,.ref 429⟩,⟨PyData.keyHash x0 s199,.str s199 829,.ref 430⟩,⟨PyData.keyHash x0 s2,.str s2 830,.none⟩] 4,#[]⟩
noncomputable def o546:Obj:=⟨.type t2,none,.seq #[.str s124 919,.str s158 920,.str s169 921,.str s146 922,.str s171 923] 0,#[]⟩
noncomputable def s221:Str:=⟨⟨[80,97,116,116,101,114,110,67,111,100,101,46,98,111,117,110,100]⟩⟩
noncomputable def c241:Arguments:=fA (mS (sP 26) 6)
noncomputable def c243:List Stmt:=fB (mS (sP 26) 6)
noncomputable def c244:FuncBody:=.stmts c243
noncomputable def c245:Scope:=fS (mS (sP 26) 6)
noncomputable def o129:Obj:=⟨.type t3,none,.func ⟨s132,s221,c241,c244,c245,3,[],.none,.none,.none,c104,none,.ref 90,.none,0⟩,#[]⟩
noncomputable def o200:Obj:=⟨.type t6,none,.fields #[.str s61 433,.str s61 434,.str s9 435,.int 130 0,.int 0 0,.int 0 0,.int 0 0,.int 0 0,.ref 153,.bool .false,.int 181 0,.ref 154,.none,.none,.none,.none,.int 436 0,.int 130 0,.str s9 437],#[]⟩
noncomputable def c246:Arguments:=fA (sP 53)
noncomputable def c247:List Stmt:=fB (sP 53)
noncomputable def c248:FuncBody:=.stmts c247
noncomputable def c249:Scope:=fS (sP 53)
noncomputable def o332:Obj:=⟨.none,none,.func ⟨s82,s82,c246,c248,c249,0,[],.none,.none,.none,.none,none,.none,.none,0⟩,#[]⟩
noncomputable def o464:Obj:=⟨.type t13,none,.plain,#[some (.ref 410),some (.ref 3),some (.ref 407),none,some c96,none,some (.ref 0)]⟩
noncomputable def c251:Arguments:=fA (sP 37)
noncomputable def c252:List Stmt:=fB (sP 37)
noncomputable def c253:FuncBody:=.stmts c252
noncomputable def c255:Scope:=fS (sP 37)
noncomputable def o266:Obj:=⟨.type t3,none,.func ⟨s66,s66,c251,c253,c255,3,[],.none,.none,.none,c158,none,.ref 218,.none,0⟩,#[]⟩
noncomputable def o398:Obj:=⟨.type t6,none,.fields #[.str s91 691,.str s91 692,.str s9 693,.int 233 0,.int 4 0,.int 0 0,.int 0 0,.int 3 0,.ref 342,.bool .true,.int 181 0,.ref 343,.none,.ref 344,.ref 345,.ref 346,.int 698 0,.int 233 0,.str s9 699],#[]⟩
noncomputable def o164:Obj:=⟨.type t2,none,.seq #[.str s139 393] 0,#[]⟩
noncomputable def t15:String:=PySem.W.SL.s2742458400755230247x6
noncomputable def c256:Value:=.str s62 468
noncomputable def t16:String:=PySem.W.SL.s11443829558043349243x14
noncomputable def o234:Obj:=⟨.type t12,none,.cls ⟨s62,[.type t15],[.ref 187,.type t15],186,s62,.true,[],[],.false,none,.false⟩,#[none,none,some (.str s62 460),some c256,some (.builtin t16),some (.bool .true)]⟩
noncomputable def o630:Obj:=⟨.type t10,none,.fields #[.ref 568,.ref 568,.ref 568],#[]⟩
noncomputable def c257:BT:=.node o234 (.node c43 (.node o630 .nil .nil) .nil) (.node c9 .nil .nil)
noncomputable def o430:Obj:=⟨.type t2,none,.seq #[.str s143 741,.str s144 742,.str s145 743,.str s146 744] 0,#[]⟩
noncomputable def o562:Obj:=⟨.type t7,none,.fields #[.str s199 943,.ref 505,.builtin t14,.none],#[]⟩
noncomputable def o69:Obj:=⟨.type t2,none,.seq #[.str s200 267,.str s145 268,.str s175 269] 0,#[]⟩
noncomputable def o103:Obj:=⟨.type t3,none,.func ⟨s42,s123,c11,c18,c27,3,[],.none,.none,.none,c104,none,.ref 64,.none,0⟩,#[]⟩
noncomputable def o170:Obj:=⟨.type t3,none,.func ⟨s133,s134,c29,c32,c34,3,[(s139,116)],.ref 121,.none,.none,c158,none,.ref 128,.ref 122,0⟩,#[]⟩
noncomputable def o306:Obj:=⟨.type t3,none,.func ⟨s74,s74,c35,c38,c42,3,[],.none,.none,.none,c76,none,.ref 256,.none,0⟩,#[]⟩
noncomputable def o636:Obj:=⟨.none,none,.func ⟨s111,s111,c159,c161,c165,0,[],.none,.none,.none,.none,none,.none,.none,0⟩,#[]⟩
noncomputable def o504:Obj:=⟨.type t2,none,.seq #[.str s124 857,.str s177 858,.str s151 859,.str s158 860,.str s157 861] 0,#[]⟩
noncomputable def c259:BT:=.node c43 (.node c9 (.node o636 .nil .nil) .nil) (.node o504 .nil .nil)
noncomputable def o135:Obj:=⟨.type t10,none,.fields #[.ref 94,.ref 94,.ref 94],#[]⟩
noncomputable def o206:Obj:=⟨.none,none,.func ⟨s133,s206,c176,c178,c179,0,[],.none,.none,.none,.none,none,.none,.none,0⟩,#[]⟩
noncomputable def s225:Str:=⟨⟨[87,97,121,46,95,95,105,110,105,116,95,95]⟩⟩
noncomputable def o470:Obj:=⟨.type t6,none,.fields #[.str s133 798,.str s225 799,.str s9 800,.int 301 0,.int 7 0,.int 0 0,.int 0 0,.int 3 0,.ref 412,.bool .true,.int 181 0,.ref 413,.none,.ref 414,.ref 415,.ref 416,.int 808 0,.int 301 0,.str s9 809],#[]⟩
noncomputable def o272:Obj:=⟨.type t6,none,.fields #[.str s67 524,.str s67 525,.str s9 526,.int 161 0,.int 2 0,.int 0 0,.int 0 0,.int 3 0,.ref 220,.bool .true,.int 181 0,.ref 221,.none,.ref 222,.ref 223,.ref 224,.int 529 0,.int 161 0,.str s9 530],#[]⟩
noncomputable def o404:Obj:=⟨.none,none,.func ⟨s92,s92,c181,c183,c186,0,[],.none,.none,.none,.none,none,.none,.none,0⟩,#[]⟩
noncomputable def o536:Obj:=⟨.type t3,none,.func ⟨s155,s156,c59,c62,c69,3,[],.none,.none,.none,c96,none,.ref 480,.none,0⟩,#[]⟩
noncomputable def o87:Obj:=⟨.none,none,.func ⟨s133,s207,c187,c189,c190,0,[],.none,.none,.none,.none,none,.none,.none,0⟩,#[]⟩
noncomputable def c261:Value:=.str s60 419
noncomputable def o188:Obj:=⟨.type t12,none,.cls ⟨s60,[.type t15],[.ref 145,.type t15],144,s60,.true,[],[],.false,none,.false⟩,#[none,none,some (.str s60 411),some c261,some (.builtin t16),some (.bool .true)]⟩
noncomputable def o586:Obj:=⟨.type t6,none,.fields #[.str s107 970,.str s107 971,.str s9 972,.int 434 0,.int 4 0,.int 0 0,.int 0 0,.int 3 0,.ref 524,.bool .true,.int 181 0,.ref 525,.none,.ref 526,.ref 527,.ref 528,.int 977 0,.int 434 0,.str s9 978],#[]⟩
noncomputable def o388:Obj:=⟨.type t2,none,.seq #[.str s143 685,.str s144 686,.str s154 687] 0,#[]⟩
noncomputable def o520:Obj:=⟨.none,none,.func ⟨s40,s210,c197,c201,c206,0,[],.none,.none,.none,.none,none,.none,.none,0⟩,#[]⟩
noncomputable def t17:String:=PySem.W.SL.s5946037652744460706x9
noncomputable def o154:Obj:=⟨.type t2,none,.seq #[.type t17] 0,#[]⟩
noncomputable def o224:Obj:=⟨.type t13,none,.plain,#[some (.ref 176),some (.ref 3),some (.ref 173),none,some c158,none,some (.ref 0)]⟩
noncomputable def o356:Obj:=⟨.type t6,none,.fields #[.str s85 638,.str s85 639,.str s9 640,.int 220 0,.int 3 0,.int 0 0,.int 0 0,.int 3 0,.ref 300,.bool .true,.int 181 0,.ref 301,.none,.ref 302,.ref 303,.ref 304,.int 644 0,.int 220 0,.str s9 645],#[]⟩
noncomputable def o620:Obj:=⟨.type t2,none,.seq #[.str s124 1024] 0,#[]⟩
noncomputable def c263:BT:=.node o224 (.node o356 (.node o620 .nil .nil) .nil) (.node c9 .nil .nil)
noncomputable def o290:Obj:=⟨.type t2,none,.seq #[.str s113 549,.str s114 550,.str s115 551,.str s116 552,.str s117 553] 0,#[]⟩
noncomputable def o420:Obj:=⟨.type t3,none,.func ⟨s94,s94,c79,c81,c84,3,[],.none,.none,.none,c53,none,.ref 368,.none,0⟩,#[]⟩
noncomputable def o111:Obj:=⟨.type t2,none,.seq #[.str s124 320,.str s200 321,.str s145 322,.str s169 323,.str s175 324] 0,#[]⟩
noncomputable def o578:Obj:=⟨.none,none,.func ⟨s106,s106,c222,c224,c225,0,[],.none,.none,.none,.none,none,.none,.none,0⟩,#[]⟩
noncomputable def o446:Obj:=⟨.type t2,none,.seq #[.str s125 761,.str s143 762,.str s144 763] 0,#[]⟩
noncomputable def o248:Obj:=⟨.type t2,none,.seq #[.str s135 499,.str s219 500] 0,#[]⟩
noncomputable def o146:Obj:=⟨.type t3,none,.func ⟨s57,s57,c112,c115,c120,3,[],.none,.none,.none,c104,none,.ref 104,.none,0⟩,#[]⟩
noncomputable def o214:Obj:=⟨.type t10,none,.fields #[.ref 166,.ref 166,.ref 166],#[]⟩
noncomputable def o346:Obj:=⟨.none,none,.func ⟨s84,s84,c237,c239,c240,0,[],.none,.none,.none,.none,none,.none,.none,0⟩,#[]⟩
noncomputable def o478:Obj:=⟨.type t3,none,.func ⟨s172,s187,c130,c132,c135,3,[],.none,.none,.none,c96,none,.ref 424,.none,0⟩,#[]⟩
noncomputable def o282:Obj:=⟨.type t3,none,.func ⟨s68,s68,c137,c139,c142,3,[],.none,.none,.none,c158,none,.ref 232,.none,0⟩,#[]⟩
noncomputable def o412:Obj:=⟨.type t6,none,.fields #[.str s93 711,.str s93 712,.str s9 713,.int 240 0,.int 3 0,.int 0 0,.int 0 0,.int 3 0,.ref 356,.bool .true,.int 181 0,.ref 357,.none,.ref 358,.ref 359,.ref 360,.int 718 0,.int 240 0,.str s9 719],#[]⟩
noncomputable def s226:Str:=⟨⟨[80,97,116,116,101,114,110,67,111,100,101,46,101,109,105,116]⟩⟩
noncomputable def o95:Obj:=⟨.type t6,none,.fields #[.str s44 292,.str s226 293,.str s9 294,.int 50 0,.int 2 0,.int 0 0,.int 0 0,.int 3 0,.ref 52,.bool .true,.int 181 0,.ref 53,.none,.ref 54,.ref 55,.ref 56,.int 297 0,.int 50 0,.str s9 298],#[]⟩
noncomputable def o127:Obj:=⟨.none,none,.func ⟨s132,s221,c241,c244,c245,0,[],.none,.none,.none,.none,none,.none,.none,0⟩,#[]⟩
noncomputable def o330:Obj:=⟨.type t2,none,.seq #[.str s143 614,.str s144 615,.str s142 616,.str s146 617] 0,#[]⟩
noncomputable def o596:Obj:=⟨.type t13,none,.plain,#[some (.ref 536),some (.ref 3),some (.ref 533),none,some c129,none,some (.ref 0)]⟩
noncomputable def o462:Obj:=⟨.none,none,.fields #[.int 301 0,.int 4 0,.ref 417,.int 309 0,.int 4 0,.ref 424],#[]⟩
noncomputable def o264:Obj:=⟨.none,none,.func ⟨s66,s66,c251,c253,c255,0,[],.none,.none,.none,.none,none,.none,.none,0⟩,#[]⟩
noncomputable def s227:Str:=⟨⟨[77,97,116,99,104,46,109,101,116,95,111,110,99,101]⟩⟩
noncomputable def o528:Obj:=⟨.type t6,none,.fields #[.str s211 882,.str s227 883,.str s9 884,.int 358 0,.int 3 0,.int 0 0,.int 0 0,.int 3 0,.ref 468,.bool .true,.int 181 0,.ref 469,.none,.ref 470,.ref 471,.ref 472,.int 891 0,.int 358 0,.str s9 892],#[]⟩
noncomputable def o162:Obj:=⟨.type t2,none,.seq #[.str s136 389] 0,#[]⟩
noncomputable def o232:Obj:=⟨.type t2,none,.seq #[.str s182 480] 0,#[]⟩
noncomputable def o364:Obj:=⟨.type t3,none,.func ⟨s86,s86,c145,c147,c149,3,[],.none,.none,.none,c53,none,.ref 312,.none,0⟩,#[]⟩
noncomputable def o628:Obj:=⟨.type t7,none,.fields #[.str s152 1035,.ref 568,.builtin t8,.builtin t9],#[]⟩
noncomputable def c267:BT:=.node o232 (.node o364 (.node o628 .nil .nil) .nil) (.node c43 .nil .nil)
noncomputable def o298:Obj:=⟨.type t6,none,.fields #[.str s73 562,.str s73 563,.str s9 564,.int 178 0,.int 3 0,.int 0 0,.int 0 0,.int 3 0,.ref 244,.bool .true,.int 181 0,.ref 245,.none,.ref 246,.ref 247,.ref 248,.int 569 0,.int 178 0,.str s9 570],#[]⟩
noncomputable def o560:Obj:=⟨.type t12,none,.cls ⟨s104,[.type t15],[.ref 505,.type t15],504,s104,.true,[],[],.false,none,.false⟩,#[none,none,some (.str s104 833),some c212,some (.builtin t16),some (.bool .true)]⟩
noncomputable def s228:Str:=⟨⟨[60,109,111,100,117,108,101,62]⟩⟩
noncomputable def o45:Obj:=⟨.type t6,none,.fields #[.str s228 182,.str s228 183,.str s9 184,.int 1 0,.int 0 0,.int 0 0,.int 0 0,.int 0 0,.ref 11,.bool .false,.int 181 0,.ref 12,.none,.none,.none,.none,.int 185 0,.int 1 0,.str s9 186],#[]⟩
noncomputable def o57:Obj:=⟨.none,none,.func ⟨s53,s53,c97,c101,c103,0,[],.none,.none,.none,.none,none,.none,.none,0⟩,#[]⟩
noncomputable def o73:Obj:=⟨.type t3,none,.func ⟨s55,s55,c151,c155,c157,3,[],.none,.none,.none,c104,none,.ref 36,.none,0⟩,#[]⟩
noncomputable def s229:Str:=⟨⟨[80,97,116,116,101,114,110,67,111,100,101,46,98,101,103,117,110]⟩⟩
noncomputable def o107:Obj:=⟨.type t6,none,.fields #[.str s131 311,.str s229 312,.str s9 313,.int 65 0,.int 2 0,.int 0 0,.int 0 0,.int 3 0,.ref 66,.bool .true,.int 181 0,.ref 67,.none,.none,.none,.ref 68,.int 314 0,.int 65 0,.str s9 315],#[]⟩
noncomputable def o174:Obj:=⟨.type t7,none,.fields #[.str s199 404,.ref 132,.builtin t14,.none],#[]⟩
noncomputable def o442:Obj:=⟨.type t6,none,.fields #[.str s97 748,.str s97 749,.str s9 750,.int 264 0,.int 4 0,.int 0 0,.int 0 0,.int 3 0,.ref 384,.bool .true,.int 181 0,.ref 385,.none,.ref 386,.ref 387,.ref 388,.int 755 0,.int 264 0,.str s9 756],#[]⟩
noncomputable def o244:Obj:=⟨.type t6,none,.fields #[.str s63 489,.str s63 490,.str s9 491,.int 138 0,.int 1 0,.int 0 0,.int 0 0,.int 3 0,.ref 192,.bool .true,.int 181 0,.ref 193,.none,.ref 194,.ref 195,.ref 196,.int 493 0,.int 138 0,.str s9 494],#[]⟩
noncomputable def o376:Obj:=⟨.none,none,.func ⟨s88,s88,c107,c109,c110,0,[],.none,.none,.none,.none,none,.none,.none,0⟩,#[]⟩
noncomputable def o508:Obj:=⟨.type t3,none,.func ⟨s203,s204,c166,c170,c174,3,[],.none,.none,.none,c96,none,.ref 452,.none,0⟩,#[]⟩
noncomputable def o142:Obj:=⟨.type t2,none,.seq #[.str s177 360,.str s145 361,.str s157 362,.str s179 363] 0,#[]⟩
noncomputable def o210:Params→Obj:=fun x0=>⟨.type t0,none,.dict #[⟨PyData.keyHash x0 s192,.str s192 438,c158⟩,⟨PyData.keyHash x0 s194,.str s194 442,.int 130 441⟩,⟨PyData.keyHash x0 s133,.str s133 450,.ref 163⟩,⟨PyData.keyHash x0 s195,.str s195 452,.ref 164⟩,⟨PyData.keyHash x0 s152,.str s152 454,.ref 167⟩,⟨PyData.keyHash x0 s199,.str s199 456,.ref 168⟩,⟨PyData.keyHash x0 s2,.str s2 457,.none⟩] 4,#[]⟩
noncomputable def o608:Obj:=⟨.none,none,.func ⟨s180,s181,c122,c126,c128,0,[],.none,.none,.none,.none,none,.none,.none,0⟩,#[]⟩
noncomputable def o474:Obj:=⟨.type t2,none,.seq #[.str s124 814,.str s170 815] 0,#[]⟩
noncomputable def o278:Obj:=⟨.type t2,none,.seq #[.str s140 535] 0,#[]⟩
noncomputable def o192:Obj:=⟨.type t4,none,.fields #[.builtin t5,.ref 145],#[]⟩
noncomputable def o326:Obj:=⟨.type t6,none,.fields #[.str s77 596,.str s77 597,.str s9 598,.int 201 0,.int 2 0,.int 0 0,.int 0 0,.int 3 0,.ref 272,.bool .true,.int 181 0,.ref 273,.none,.ref 274,.ref 275,.ref 276,.int 602 0,.int 201 0,.str s9 603],#[]⟩
noncomputable def c269:Value:=.str s108 990
noncomputable def o592:Params→Obj:=fun x0=>⟨.type t0,none,.dict #[⟨PyData.keyHash x0 s192,.str s192 989,c129⟩,⟨PyData.keyHash x0 s193,.str s193 991,c269⟩,⟨PyData.keyHash x0 s194,.str s194 993,.int 437 992⟩,⟨PyData.keyHash x0 s133,.str s133 1003,.ref 544⟩,⟨PyData.keyHash x0 s180,.str s180 1011,.ref 551⟩,⟨PyData.keyHash x0 s160,.str s160 1020,.ref 558⟩,⟨PyData.keyHash x0 s198,.str s198 1027,.ref 565⟩,⟨PyData.keyHash x0 s195,.str s195 1034,.ref 566⟩] 8,#[]⟩
noncomputable def u6:Params→BT:=fun x0=>.node o326 (.node (o592 x0) .nil .nil) .nil
noncomputable def o392:Obj:=⟨.type t3,none,.func ⟨s90,s90,c193,c195,c196,3,[],.none,.none,.none,c53,none,.ref 340,.none,0⟩,#[]⟩
noncomputable def o360:Obj:=⟨.type t2,none,.seq #[.str s143 650,.str s144 651,.str s28 652] 0,#[]⟩
noncomputable def o624:Obj:=⟨.type t3,none,.func ⟨s198,s213,c208,c210,c211,3,[],.none,.none,.none,c129,none,.ref 564,.none,0⟩,#[]⟩
noncomputable def o492:Obj:=⟨.none,none,.fields #[.int 313 0,.int 4 0,.ref 445,.int 318 0,.int 4 0,.ref 452,.int 333 0,.int 4 0,.ref 459,.int 336 0,.int 4 0,.ref 466,.int 358 0,.int 4 0,.ref 473,.int 372 0,.int 4 0,.ref 480,.int 383 0,.int 4 0,.ref 487,.int 401 0,.int 4 0,.ref 494,.int 412 0,.int 4 0,.ref 501],#[]⟩
noncomputable def c270:BT:=.node c9 (.node o360 (.node o624 .nil .nil) .nil) (.node o492 .nil .nil)
noncomputable def s230:Str:=⟨⟨[77,97,116,99,104,46,97,115,107,101,100]⟩⟩
noncomputable def o556:Obj:=⟨.type t6,none,.fields #[.str s216 927,.str s230 928,.str s9 929,.int 412 0,.int 3 0,.int 0 0,.int 0 0,.int 3 0,.ref 496,.bool .true,.int 181 0,.ref 497,.none,.ref 498,.ref 499,.ref 500,.int 934 0,.int 412 0,.str s9 935],#[]⟩
noncomputable def o65:Obj:=⟨.type t6,none,.fields #[.str s54 257,.str s54 258,.str s9 259,.int 33 0,.int 1 0,.int 0 0,.int 0 0,.int 3 0,.ref 24,.bool .true,.int 181 0,.ref 25,.none,.ref 26,.ref 27,.ref 28,.int 261 0,.int 33 0,.str s9 262],#[]⟩
noncomputable def o115:Obj:=⟨.type t3,none,.func ⟨s217,s218,c215,c218,c221,3,[],.none,.none,.none,c104,none,.ref 76,.none,0⟩,#[]⟩
noncomputable def o184:Obj:=⟨.type t6,none,.fields #[.str s60 413,.str s60 414,.str s9 415,.int 128 0,.int 0 0,.int 0 0,.int 0 0,.int 0 0,.ref 139,.bool .false,.int 181 0,.ref 140,.none,.none,.none,.none,.int 416 0,.int 128 0,.str s9 417],#[]⟩
noncomputable def o318:Obj:=⟨.none,none,.func ⟨s76,s76,c70,c72,c75,0,[],.none,.none,.none,.none,none,.none,.none,0⟩,#[]⟩
noncomputable def o450:Obj:=⟨.type t3,none,.func ⟨s98,s98,c226,c229,c230,3,[],.none,.none,.none,c53,none,.ref 396,.none,0⟩,#[]⟩
noncomputable def o252:Obj:=⟨.type t3,none,.func ⟨s64,s64,c231,c233,c235,3,[],.none,.none,.none,c158,none,.ref 204,.none,0⟩,#[]⟩
noncomputable def o384:Obj:=⟨.type t6,none,.fields #[.str s89 673,.str s89 674,.str s9 675,.int 229 0,.int 3 0,.int 0 0,.int 0 0,.int 3 0,.ref 328,.bool .true,.int 181 0,.ref 329,.none,.ref 330,.ref 331,.ref 332,.int 679 0,.int 229 0,.str s9 680],#[]⟩
noncomputable def o220:Params→Obj:=fun x0=>⟨.type t0,none,.dict #[⟨PyData.keyHash x0 s192,.str s192 467,c158⟩,⟨PyData.keyHash x0 s193,.str s193 469,c256⟩,⟨PyData.keyHash x0 s194,.str s194 471,.int 134 470⟩,⟨PyData.keyHash x0 s133,.str s133 479,.ref 184⟩,⟨PyData.keyHash x0 s195,.str s195 481,.ref 185⟩] 5,#[]⟩
noncomputable def s231:Str:=⟨⟨[80,108,97,105,110,72,111,115,116,46,97,115,115,105,103,110]⟩⟩
noncomputable def o616:Obj:=⟨.type t6,none,.fields #[.str s160 1012,.str s231 1013,.str s9 1014,.int 452 0,.int 3 0,.int 0 0,.int 0 0,.int 3 0,.ref 552,.bool .true,.int 181 0,.ref 553,.none,.ref 554,.ref 555,.ref 556,.int 1018 0,.int 452 0,.str s9 1019],#[]⟩
noncomputable def o482:Obj:=⟨.type t7,none,.fields #[.str s152 826,.ref 428,.builtin t8,.builtin t9],#[]⟩
noncomputable def o416:Obj:=⟨.type t2,none,.seq #[.str s143 724,.str s144 725] 0,#[]⟩
noncomputable def o548:Obj:=⟨.none,none,.func ⟨s167,s168,c87,c92,c95,0,[],.none,.none,.none,.none,none,.none,.none,0⟩,#[]⟩
noncomputable def o99:Obj:=⟨.type t2,none,.seq #[.str s124 303,.str s125 304,.str s126 305,.str s127 306,.str s128 307] 0,#[]⟩
noncomputable def o131:Params→Obj:=fun x0=>⟨.type t0,none,.dict #[⟨PyData.keyHash x0 s192,.str s192 280,c104⟩,⟨PyData.keyHash x0 s194,.str s194 284,.int 45 283⟩,⟨PyData.keyHash x0 s133,.str s133 291,.ref 51⟩,⟨PyData.keyHash x0 s44,.str s44 299,.ref 58⟩,⟨PyData.keyHash x0 s42,.str s42 310,.ref 65⟩,⟨PyData.keyHash x0 s131,.str s131 316,.ref 70⟩,⟨PyData.keyHash x0 s217,.str s217 327,.ref 77⟩,⟨PyData.keyHash x0 s208,.str s208 337,.ref 84⟩,⟨PyData.keyHash x0 s132,.str s132 347,.ref 91⟩,⟨PyData.keyHash x0 s195,.str s195 349,.ref 92⟩,⟨PyData.keyHash x0 s152,.str s152 351,.ref 95⟩,⟨PyData.keyHash x0 s199,.str s199 353,.ref 96⟩,⟨PyData.keyHash x0 s2,.str s2 354,.none⟩] 4,#[]⟩
noncomputable def o334:Obj:=⟨.type t3,none,.func ⟨s82,s82,c246,c248,c249,3,[],.none,.none,.none,c53,none,.ref 284,.none,0⟩,#[]⟩
noncomputable def o532:Obj:=⟨.type t2,none,.seq #[.str s124 897,.str s157 898,.str s158 899,.str s159 900,.str s151 901,.str s142 902] 0,#[]⟩
noncomputable def o166:Obj:=⟨.type t2,none,.seq #[.str s124 394,.str s135 395,.str s128 396] 0,#[]⟩
noncomputable def o236:Obj:=⟨.type t7,none,.fields #[.str s199 484,.ref 187,.builtin t14,.none],#[]⟩
noncomputable def s232:Str:=⟨⟨[77,97,116,99,104,46,95,95,105,110,105,116,95,95]⟩⟩
noncomputable def o500:Obj:=⟨.type t6,none,.fields #[.str s133 845,.str s232 846,.str s9 847,.int 313 0,.int 3 0,.int 0 0,.int 0 0,.int 3 0,.ref 440,.bool .true,.int 181 0,.ref 441,.none,.ref 442,.ref 443,.ref 444,.int 851 0,.int 313 0,.str s9 852],#[]⟩
noncomputable def c273:BT:=.node o236 (.node c9 (.node c9 .nil .nil) .nil) (.node o500 .nil .nil)
noncomputable def o302:Obj:=⟨.type t2,none,.seq #[.str s140 575,.str s141 576,.str s142 577] 0,#[]⟩
noncomputable def o432:Obj:=⟨.none,none,.func ⟨s96,s96,c44,c47,c52,0,[],.none,.none,.none,.none,none,.none,.none,0⟩,#[]⟩
noncomputable def o564:Obj:=⟨.type t4,none,.fields #[.builtin t5,.ref 505],#[]⟩
noncomputable def s233:Str:=⟨⟨[116,121,112,101,46,95,95,115,117,98,99,108,97,115,115,101,115,95,95,46,69,120,99,101,112,116,105,111,110,46,48]⟩⟩
noncomputable def s234:Str:=⟨⟨[116,121,112,101,46,95,95,115,117,98,99,108,97,115,115,101,115,95,95,46,69,120,99,101,112,116,105,111,110,46,110]⟩⟩
noncomputable def o137:Params→Obj:=fun x0=>⟨.none,none,.dict #[⟨PyData.keyHash x0 s233,.str s233 407,.int 132 0⟩,⟨PyData.keyHash x0 s234,.str s234 408,.int 1 0⟩] 2,#[]⟩
noncomputable def o52:Obj:=⟨.type t2,none,.seq #[.str s32 241,.str s34 242,.str s36 243,.str s38 244] 0,#[]⟩
noncomputable def o102:Obj:=⟨.type t6,none,.fields #[.str s42 300,.str s123 301,.str s9 302,.int 54 0,.int 2 0,.int 0 0,.int 0 0,.int 3 0,.ref 59,.bool .true,.int 181 0,.ref 60,.none,.ref 61,.ref 62,.ref 63,.int 308 0,.int 54 0,.str s9 309],#[]⟩
noncomputable def o169:Obj:=⟨.type t6,none,.fields #[.str s133 390,.str s134 391,.str s9 392,.int 124 0,.int 3 0,.int 0 0,.int 0 0,.int 3 0,.ref 123,.bool .true,.int 181 0,.ref 124,.none,.ref 125,.ref 126,.ref 127,.int 397 0,.int 124 0,.str s9 398],#[]⟩
noncomputable def o305:Obj:=⟨.type t6,none,.fields #[.str s74 572,.str s74 573,.str s9 574,.int 185 0,.int 2 0,.int 0 0,.int 0 0,.int 3 0,.ref 251,.bool .true,.int 181 0,.ref 252,.none,.ref 253,.ref 254,.ref 255,.int 578 0,.int 185 0,.str s9 579],#[]⟩
noncomputable def s235:Str:=⟨⟨[108,97,115,116]⟩⟩
noncomputable def o569:Obj:=⟨.type t2,none,.seq #[.str s161 951,.str s145 952,.str s235 953] 0,#[]⟩
noncomputable def c275:Arguments:=fA (sP 58)
noncomputable def c276:List Stmt:=fB (sP 58)
noncomputable def c277:FuncBody:=.stmts c276
noncomputable def c278:Scope:=fS (sP 58)
noncomputable def o371:Obj:=⟨.type t3,none,.func ⟨s87,s87,c275,c277,c278,3,[],.none,.none,.none,c53,none,.ref 319,.none,0⟩,#[]⟩
noncomputable def c279:BT:=.node c9 (.node o371 (.node c9 .nil .nil) .nil) (.node c43 .nil .nil)
noncomputable def o134:Obj:=⟨.type t7,none,.fields #[.str s199 352,.ref 94,.builtin t14,.none],#[]⟩
noncomputable def s236:Str:=⟨⟨[109,97,110,121]⟩⟩
noncomputable def o337:Obj:=⟨.type t2,none,.seq #[.str s143 624,.str s144 625,.str s236 626] 0,#[]⟩
noncomputable def s237:Str:=⟨⟨[114,101,102,117,115,101,100]⟩⟩
noncomputable def c280:Arguments:=fA (mS (sP 81) 0)
noncomputable def s238:Str:=⟨⟨[108,111,103]⟩⟩
noncomputable def c281:List Stmt:=fB (mS (sP 81) 0)
noncomputable def c282:FuncBody:=.stmts c281
noncomputable def c283:Scope:=fS (mS (sP 81) 0)
noncomputable def o603:Obj:=⟨.type t3,none,.func ⟨s133,s153,c280,c282,c283,3,[],.none,.none,.none,c129,none,.ref 543,.none,0⟩,#[]⟩
noncomputable def c284:Arguments:=fA (mS (sP 75) 0)
noncomputable def c285:List Stmt:=fB (mS (sP 75) 0)
noncomputable def c286:FuncBody:=.stmts c285
noncomputable def c288:Scope:=fS (mS (sP 75) 0)
noncomputable def o469:Obj:=⟨.none,none,.func ⟨s133,s225,c284,c286,c288,0,[],.none,.none,.none,.none,none,.none,.none,0⟩,#[]⟩
noncomputable def c290:Arguments:=fA (sP 38)
noncomputable def c291:List Stmt:=fB (sP 38)
noncomputable def c292:FuncBody:=.stmts c291
noncomputable def c293:Scope:=fS (sP 38)
noncomputable def o271:Obj:=⟨.none,none,.func ⟨s67,s67,c290,c292,c293,0,[],.none,.none,.none,.none,none,.none,.none,0⟩,#[]⟩
noncomputable def o535:Obj:=⟨.type t6,none,.fields #[.str s155 894,.str s156 895,.str s9 896,.int 372 0,.int 3 0,.int 0 0,.int 0 0,.int 3 0,.ref 475,.bool .true,.int 181 0,.ref 476,.none,.ref 477,.ref 478,.ref 479,.int 903 0,.int 372 0,.str s9 904],#[]⟩
noncomputable def s239:Str:=⟨⟨[108,101,97,118,101]⟩⟩
noncomputable def o118:Obj:=⟨.type t2,none,.seq #[.str s124 331,.str s125 332,.str s16 333,.str s239 334] 0,#[]⟩
noncomputable def o187:Params→Obj:=fun x0=>⟨.type t0,none,.dict #[⟨PyData.keyHash x0 s192,.str s192 418,c158⟩,⟨PyData.keyHash x0 s194,.str s194 422,.int 128 421⟩,⟨PyData.keyHash x0 s195,.str s195 423,.ref 143⟩,⟨PyData.keyHash x0 s152,.str s152 425,.ref 146⟩,⟨PyData.keyHash x0 s199,.str s199 427,.ref 147⟩,⟨PyData.keyHash x0 s2,.str s2 428,.none⟩] 4,#[]⟩
noncomputable def c294:Arguments:=fA (sP 79)
noncomputable def c295:List Stmt:=fB (sP 79)
noncomputable def c296:FuncBody:=.stmts c295
noncomputable def c298:Scope:=fS (sP 79)
noncomputable def o585:Obj:=⟨.none,none,.func ⟨s107,s107,c294,c296,c298,0,[],.none,.none,.none,.none,none,.none,.none,0⟩,#[]⟩
noncomputable def o453:Obj:=⟨.type t2,none,.seq #[.str s141 770,.str s143 771,.str s144 772,.str s128 773,.str s146 774] 0,#[]⟩
noncomputable def s240:Str:=⟨⟨[100,105,103,105,116,115]⟩⟩
noncomputable def c299:List Nat:=[115,105,103,110]
noncomputable def s241:Str:=⟨⟨c299⟩⟩
noncomputable def o255:Obj:=⟨.type t2,none,.seq #[.str s142 507,.str s219 508,.str s240 509,.str s135 510,.str s241 511] 0,#[]⟩
noncomputable def c300:Arguments:=fA (sP 28)
noncomputable def s242:Str:=⟨⟨[99,111,100,101]⟩⟩
noncomputable def c303:List Stmt:=fB (sP 28)
noncomputable def c304:FuncBody:=.stmts c303
noncomputable def c305:Scope:=fS (sP 28)
noncomputable def o153:Obj:=⟨.type t3,none,.func ⟨s58,s58,c300,c304,c305,3,[],.none,.none,.none,c104,none,.ref 111,.none,0⟩,#[]⟩
noncomputable def o223:Obj:=⟨.type t6,none,.fields #[.str s62 462,.str s62 463,.str s9 464,.int 134 0,.int 0 0,.int 0 0,.int 0 0,.int 0 0,.ref 174,.bool .false,.int 181 0,.ref 175,.none,.none,.none,.none,.int 465 0,.int 134 0,.str s9 466],#[]⟩
noncomputable def c306:Arguments:=fA (sP 56)
noncomputable def c307:List Stmt:=fB (sP 56)
noncomputable def c308:FuncBody:=.stmts c307
noncomputable def o355:Obj:=⟨.none,none,.func ⟨s85,s85,c306,c308,c149,0,[],.none,.none,.none,.none,none,.none,.none,0⟩,#[]⟩
noncomputable def o485:Obj:=⟨.type t4,none,.fields #[.builtin t5,.ref 428],#[]⟩
noncomputable def c310:Arguments:=fA (sP 40)
noncomputable def c311:List Stmt:=fB (sP 40)
noncomputable def c312:FuncBody:=.stmts c311
noncomputable def c313:Scope:=fS (sP 40)
noncomputable def o289:Obj:=⟨.type t3,none,.func ⟨s69,s69,c310,c312,c313,3,[],.none,.none,.none,c158,none,.ref 239,.none,0⟩,#[]⟩
noncomputable def o419:Obj:=⟨.type t6,none,.fields #[.str s94 721,.str s94 722,.str s9 723,.int 243 0,.int 2 0,.int 0 0,.int 0 0,.int 3 0,.ref 363,.bool .true,.int 181 0,.ref 364,.none,.ref 365,.ref 366,.ref 367,.int 726 0,.int 243 0,.str s9 727],#[]⟩
noncomputable def c314:Value:=.str s56 281
noncomputable def o78:Params→Obj:=fun x0=>⟨.type t0,none,.dict #[⟨PyData.keyHash x0 s192,.str s192 280,c104⟩,⟨PyData.keyHash x0 s193,.str s193 282,c314⟩,⟨PyData.keyHash x0 s194,.str s194 284,.int 45 283⟩,⟨PyData.keyHash x0 s133,.str s133 291,.ref 51⟩,⟨PyData.keyHash x0 s44,.str s44 299,.ref 58⟩,⟨PyData.keyHash x0 s42,.str s42 310,.ref 65⟩,⟨PyData.keyHash x0 s131,.str s131 316,.ref 70⟩,⟨PyData.keyHash x0 s217,.str s217 327,.ref 77⟩,⟨PyData.keyHash x0 s208,.str s208 337,.ref 84⟩,⟨PyData.keyHash x0 s132,.str s132 347,.ref 91⟩,⟨PyData.keyHash x0 s195,.str s195 349,.ref 92⟩] 11,#[]⟩
noncomputable def c315:Arguments:=fA (sP 47)
noncomputable def c318:List Stmt:=fB (sP 47)
noncomputable def c319:FuncBody:=.stmts c318
noncomputable def c320:Scope:=fS (sP 47)
noncomputable def o313:Obj:=⟨.type t3,none,.func ⟨s75,s75,c315,c319,c320,3,[],.none,.none,.none,c76,none,.ref 263,.none,0⟩,#[]⟩
noncomputable def o511:Obj:=⟨.type t2,none,.seq #[.str s124 868] 0,#[]⟩
noncomputable def o145:Obj:=⟨.type t6,none,.fields #[.str s57 357,.str s57 358,.str s9 359,.int 106 0,.int 1 0,.int 0 0,.int 0 0,.int 3 0,.ref 99,.bool .true,.int 181 0,.ref 100,.none,.ref 101,.ref 102,.ref 103,.int 364 0,.int 106 0,.str s9 365],#[]⟩
noncomputable def o213:Obj:=⟨.type t7,none,.fields #[.str s199 455,.ref 166,.builtin t14,.none],#[]⟩
noncomputable def o477:Obj:=⟨.type t6,none,.fields #[.str s172 811,.str s187 812,.str s9 813,.int 309 0,.int 2 0,.int 0 0,.int 0 0,.int 3 0,.ref 419,.bool .true,.int 181 0,.ref 420,.none,.ref 421,.ref 422,.ref 423,.int 816 0,.int 309 0,.str s9 817],#[]⟩
noncomputable def o281:Obj:=⟨.type t6,none,.fields #[.str s68 532,.str s68 533,.str s9 534,.int 165 0,.int 1 0,.int 0 0,.int 0 0,.int 3 0,.ref 227,.bool .true,.int 181 0,.ref 228,.none,.ref 229,.ref 230,.ref 231,.int 536 0,.int 165 0,.str s9 537],#[]⟩
noncomputable def c323:Arguments:=fA (sP 64)
noncomputable def c324:List Stmt:=fB (sP 64)
noncomputable def c325:FuncBody:=.stmts c324
noncomputable def c326:Scope:=fS (sP 64)
noncomputable def o411:Obj:=⟨.none,none,.func ⟨s93,s93,c323,c325,c326,0,[],.none,.none,.none,.none,none,.none,.none,0⟩,#[]⟩
noncomputable def c327:Arguments:=fA (mS (sP 76) 6)
noncomputable def c330:List Stmt:=fB (mS (sP 76) 6)
noncomputable def c331:FuncBody:=.stmts c330
noncomputable def c334:Scope:=fS (mS (sP 76) 6)
noncomputable def o543:Obj:=⟨.type t3,none,.func ⟨s171,s191,c327,c331,c334,3,[],.none,.none,.none,c96,none,.ref 487,.none,0⟩,#[]⟩
noncomputable def c335:Arguments:=fA (mS (sP 26) 1)
noncomputable def c337:List Stmt:=fB (mS (sP 26) 1)
noncomputable def c338:FuncBody:=.stmts c337
noncomputable def c339:Scope:=fS (mS (sP 26) 1)
noncomputable def o94:Obj:=⟨.none,none,.func ⟨s44,s226,c335,c338,c339,0,[],.none,.none,.none,.none,none,.none,.none,0⟩,#[]⟩
noncomputable def c340:Value:=.str s61 439
noncomputable def o197:Params→Obj:=fun x0=>⟨.type t0,none,.dict #[⟨PyData.keyHash x0 s192,.str s192 438,c158⟩,⟨PyData.keyHash x0 s193,.str s193 440,c340⟩,⟨PyData.keyHash x0 s194,.str s194 442,.int 130 441⟩,⟨PyData.keyHash x0 s133,.str s133 450,.ref 163⟩,⟨PyData.keyHash x0 s195,.str s195 452,.ref 164⟩] 5,#[]⟩
noncomputable def o595:Obj:=⟨.type t6,none,.fields #[.str s108 984,.str s108 985,.str s9 986,.int 437 0,.int 0 0,.int 0 0,.int 0 0,.int 0 0,.ref 534,.bool .false,.int 181 0,.ref 535,.none,.none,.none,.none,.int 987 0,.int 437 0,.str s9 988],#[]⟩
noncomputable def s246:Str:=⟨⟨[105,115,95,105,110]⟩⟩
noncomputable def o395:Obj:=⟨.type t2,none,.seq #[.str s143 694,.str s144 695,.str s154 696,.str s246 697] 0,#[]⟩
noncomputable def c341:Arguments:=fA (mS (sP 76) 4)
noncomputable def c342:List Stmt:=fB (mS (sP 76) 4)
noncomputable def c343:FuncBody:=.stmts c342
noncomputable def c344:Scope:=fS (mS (sP 76) 4)
noncomputable def o527:Obj:=⟨.none,none,.func ⟨s211,s227,c341,c343,c344,0,[],.none,.none,.none,.none,none,.none,.none,0⟩,#[]⟩
noncomputable def o161:Obj:=⟨.type t13,none,.plain,#[some (.ref 119),some (.ref 3),some (.ref 115),none,some c158,none,some (.ref 0)]⟩
noncomputable def c345:Arguments:=fA (mS (sP 33) 0)
noncomputable def c346:List Stmt:=fB (mS (sP 33) 0)
noncomputable def c347:FuncBody:=.stmts c346
noncomputable def c348:Scope:=fS (mS (sP 33) 0)
noncomputable def o231:Obj:=⟨.type t3,none,.func ⟨s133,s197,c345,c347,c348,3,[],.none,.none,.none,c158,none,.ref 183,.none,0⟩,#[]⟩
noncomputable def o363:Obj:=⟨.type t6,none,.fields #[.str s86 647,.str s86 648,.str s9 649,.int 222 0,.int 3 0,.int 0 0,.int 0 0,.int 3 0,.ref 307,.bool .true,.int 181 0,.ref 308,.none,.ref 309,.ref 310,.ref 311,.int 653 0,.int 222 0,.str s9 654],#[]⟩
noncomputable def o627:Obj:=⟨.type t12,none,.cls ⟨s108,[.type t15],[.ref 568,.type t15],567,s108,.true,[],[],.false,none,.false⟩,#[none,none,some (.str s108 982),some c269,some (.builtin t16),some (.bool .true)]⟩
noncomputable def c349:BT:=.node o231 (.node o363 (.node o627 .nil .nil) .nil) (.node c9 .nil .nil)
noncomputable def c350:Arguments:=fA (sP 45)
noncomputable def c351:List Nat:=[99,111,117,110,116]
noncomputable def s247:Str:=⟨⟨c351⟩⟩
noncomputable def c352:List Stmt:=fB (sP 45)
noncomputable def c353:FuncBody:=.stmts c352
noncomputable def c354:Scope:=fS (sP 45)
noncomputable def o297:Obj:=⟨.none,none,.func ⟨s73,s73,c350,c353,c354,0,[],.none,.none,.none,.none,none,.none,.none,0⟩,#[]⟩
noncomputable def c355:Arguments:=fA (sP 66)
noncomputable def s248:Str:=⟨⟨[108,101,118,101,108]⟩⟩
noncomputable def c356:List Stmt:=fB (sP 66)
noncomputable def c357:FuncBody:=.stmts c356
noncomputable def c358:Scope:=fS (sP 66)
noncomputable def o427:Obj:=⟨.type t3,none,.func ⟨s95,s95,c355,c357,c358,3,[],.none,.none,.none,c53,none,.ref 375,.none,0⟩,#[]⟩
noncomputable def o559:Params→Obj:=fun x0=>⟨.type t0,none,.dict #[⟨PyData.keyHash x0 s192,.str s192 840,c96⟩,⟨PyData.keyHash x0 s194,.str s194 844,.int 311 843⟩,⟨PyData.keyHash x0 s133,.str s133 853,.ref 446⟩,⟨PyData.keyHash x0 s203,.str s203 864,.ref 453⟩,⟨PyData.keyHash x0 s205,.str s205 871,.ref 460⟩,⟨PyData.keyHash x0 s40,.str s40 881,.ref 467⟩,⟨PyData.keyHash x0 s211,.str s211 893,.ref 474⟩,⟨PyData.keyHash x0 s155,.str s155 905,.ref 481⟩,⟨PyData.keyHash x0 s171,.str s171 915,.ref 488⟩,⟨PyData.keyHash x0 s167,.str s167 926,.ref 495⟩,⟨PyData.keyHash x0 s216,.str s216 936,.ref 502⟩,⟨PyData.keyHash x0 s195,.str s195 940,.ref 503⟩,⟨PyData.keyHash x0 s152,.str s152 942,.ref 506⟩,⟨PyData.keyHash x0 s199,.str s199 944,.ref 507⟩,⟨PyData.keyHash x0 s2,.str s2 945,.none⟩] 4,#[]⟩
noncomputable def u11:Params→BT:=fun x0=>.node o297 (.node o427 .nil .nil) (.node (o559 x0) .nil .nil)
noncomputable def o72:Obj:=⟨.type t6,none,.fields #[.str s55 264,.str s55 265,.str s9 266,.int 35 0,.int 1 0,.int 0 0,.int 0 0,.int 3 0,.ref 31,.bool .true,.int 181 0,.ref 32,.none,.ref 33,.ref 34,.ref 35,.int 270 0,.int 35 0,.str s9 271],#[]⟩
noncomputable def c359:Arguments:=fA (mS (sP 26) 3)
noncomputable def c374:List Stmt:=fB (mS (sP 26) 3)
noncomputable def c375:FuncBody:=.stmts c374
noncomputable def c378:Scope:=fS (mS (sP 26) 3)
noncomputable def o106:Obj:=⟨.none,none,.func ⟨s131,s229,c359,c375,c378,0,[],.none,.none,.none,.none,none,.none,.none,0⟩,#[]⟩
noncomputable def t18:String:=PySem.W.SL.s4278001404047624695x13
noncomputable def t19:String:=PySem.W.SL.s5160863994218179198x17
noncomputable def o173:Obj:=⟨.type t12,none,.cls ⟨s59,[.type t17],[.ref 132,.type t17,.type t18,.type t15],131,s59,.true,[],[],.false,none,.false⟩,#[some (.ref 113),none,some (.str s59 377),some c207,some (.builtin t19),some (.bool .true)]⟩
noncomputable def o309:Obj:=⟨.type t2,none,.seq #[.str s140 584,.str s142 585] 0,#[]⟩
noncomputable def c379:Arguments:=fA (sP 77)
noncomputable def c382:List Stmt:=fB (sP 77)
noncomputable def c383:FuncBody:=.stmts c382
noncomputable def c384:Scope:=fS (sP 77)
noncomputable def o573:Obj:=⟨.type t3,none,.func ⟨s105,s105,c379,c383,c384,3,[],.none,.none,.none,c96,none,.ref 515,.none,0⟩,#[]⟩
noncomputable def c385:Arguments:=fA (sP 68)
noncomputable def c394:List Stmt:=fB (sP 68)
noncomputable def c395:FuncBody:=.stmts c394
noncomputable def c396:Scope:=fS (sP 68)
noncomputable def o441:Obj:=⟨.none,none,.func ⟨s97,s97,c385,c395,c396,0,[],.none,.none,.none,.none,none,.none,.none,0⟩,#[]⟩
noncomputable def c397:Arguments:=fA (sP 34)
noncomputable def c398:List Stmt:=fB (sP 34)
noncomputable def c399:FuncBody:=.stmts c398
noncomputable def c400:Scope:=fS (sP 34)
noncomputable def o243:Obj:=⟨.none,none,.func ⟨s63,s63,c397,c399,c400,0,[],.none,.none,.none,.none,none,.none,.none,0⟩,#[]⟩
noncomputable def o507:Obj:=⟨.type t6,none,.fields #[.str s203 854,.str s204 855,.str s9 856,.int 318 0,.int 3 0,.int 0 0,.int 0 0,.int 3 0,.ref 447,.bool .true,.int 181 0,.ref 448,.none,.ref 449,.ref 450,.ref 451,.int 862 0,.int 318 0,.str s9 863],#[]⟩
noncomputable def o209:Obj:=⟨.type t2,none,.seq #[.str s125 451] 0,#[]⟩
noncomputable def c402:Arguments:=fA (sP 54)
noncomputable def c403:List Stmt:=fB (sP 54)
noncomputable def c404:FuncBody:=.stmts c403
noncomputable def c406:Scope:=fS (sP 54)
noncomputable def o341:Obj:=⟨.type t3,none,.func ⟨s83,s83,c402,c404,c406,3,[],.none,.none,.none,c53,none,.ref 291,.none,0⟩,#[]⟩
noncomputable def o539:Obj:=⟨.type t2,none,.seq #[.str s124 909,.str s157 910,.str s158 911,.str s127 912] 0,#[]⟩
noncomputable def c408:Arguments:=fA (mS (sP 26) 5)
noncomputable def c410:List Stmt:=fB (mS (sP 26) 5)
noncomputable def c411:FuncBody:=.stmts c410
noncomputable def c412:Scope:=fS (mS (sP 26) 5)
noncomputable def o122:Obj:=⟨.type t3,none,.func ⟨s208,s209,c408,c411,c412,3,[],.none,.none,.none,c104,none,.ref 83,.none,0⟩,#[]⟩
noncomputable def o191:Obj:=⟨.type t10,none,.fields #[.ref 145,.ref 145,.ref 145],#[]⟩
noncomputable def c413:Arguments:=fA (sP 49)
noncomputable def c414:List Stmt:=fB (sP 49)
noncomputable def c415:FuncBody:=.stmts c414
noncomputable def c417:Scope:=fS (sP 49)
noncomputable def o325:Obj:=⟨.none,none,.func ⟨s77,s77,c413,c415,c417,0,[],.none,.none,.none,.none,none,.none,.none,0⟩,#[]⟩
noncomputable def c418:Arguments:=fA (sP 70)
noncomputable def c419:List Stmt:=fB (sP 70)
noncomputable def c420:FuncBody:=.stmts c419
noncomputable def c422:Scope:=fS (sP 70)
noncomputable def o457:Obj:=⟨.type t3,none,.func ⟨s99,s99,c418,c420,c422,3,[],.none,.none,.none,c53,none,.ref 403,.none,0⟩,#[]⟩
noncomputable def c424:Arguments:=fA (sP 36)
noncomputable def c425:List Stmt:=fB (sP 36)
noncomputable def c426:FuncBody:=.stmts c425
noncomputable def c428:Scope:=fS (sP 36)
noncomputable def o259:Obj:=⟨.type t3,none,.func ⟨s65,s65,c424,c426,c428,3,[],.none,.none,.none,c158,none,.ref 211,.none,0⟩,#[]⟩
noncomputable def o391:Obj:=⟨.type t6,none,.fields #[.str s90 682,.str s90 683,.str s9 684,.int 231 0,.int 3 0,.int 0 0,.int 0 0,.int 3 0,.ref 335,.bool .true,.int 181 0,.ref 336,.none,.ref 337,.ref 338,.ref 339,.int 688 0,.int 231 0,.str s9 689],#[]⟩
noncomputable def t20:String:=PySem.W.SL.s15660640913423913556x4
noncomputable def o157:Obj:=⟨.type t20,none,.cell (some (.ref 132)),#[]⟩
noncomputable def o227:Obj:=⟨.type t2,none,.seq #[.str s124 475,.str s182 476] 0,#[]⟩
noncomputable def o623:Obj:=⟨.type t6,none,.fields #[.str s198 1021,.str s213 1022,.str s9 1023,.int 459 0,.int 1 0,.int 0 0,.int 0 0,.int 3 0,.ref 559,.bool .true,.int 181 0,.ref 560,.none,.ref 561,.ref 562,.ref 563,.int 1025 0,.int 459 0,.str s9 1026],#[]⟩
noncomputable def c429:BT:=.node o227 (.node c43 (.node o623 .nil .nil) .nil) (.node c9 .nil .nil)
noncomputable def o423:Obj:=⟨.type t2,none,.seq #[.str s143 732,.str s144 733,.str s248 734] 0,#[]⟩
noncomputable def c430:Arguments:=fA (mS (sP 76) 8)
noncomputable def c431:List Stmt:=fB (mS (sP 76) 8)
noncomputable def c432:FuncBody:=.stmts c431
noncomputable def c434:Scope:=fS (mS (sP 76) 8)
noncomputable def o555:Obj:=⟨.none,none,.func ⟨s216,s230,c430,c432,c434,0,[],.none,.none,.none,.none,none,.none,.none,0⟩,#[]⟩
noncomputable def c435:Arguments:=fA (sP 24)
noncomputable def c436:List Stmt:=fB (sP 24)
noncomputable def c437:FuncBody:=.stmts c436
noncomputable def c438:Scope:=fS (sP 24)
noncomputable def o64:Obj:=⟨.none,none,.func ⟨s54,s54,c435,c437,c438,0,[],.none,.none,.none,.none,none,.none,.none,0⟩,#[]⟩
noncomputable def o82:Obj:=⟨.type t13,none,.plain,#[some (.ref 43),some (.ref 3),some (.ref 40),none,some c104,none,some (.ref 0)]⟩
noncomputable def o114:Obj:=⟨.type t6,none,.fields #[.str s217 317,.str s218 318,.str s9 319,.int 84 0,.int 2 0,.int 0 0,.int 0 0,.int 3 0,.ref 71,.bool .true,.int 181 0,.ref 72,.none,.ref 73,.ref 74,.ref 75,.int 325 0,.int 84 0,.str s9 326],#[]⟩
noncomputable def o449:Obj:=⟨.type t6,none,.fields #[.str s98 758,.str s98 759,.str s9 760,.int 284 0,.int 3 0,.int 0 0,.int 0 0,.int 3 0,.ref 391,.bool .true,.int 181 0,.ref 392,.none,.ref 393,.ref 394,.ref 395,.int 764 0,.int 284 0,.str s9 765],#[]⟩
noncomputable def o251:Obj:=⟨.type t6,none,.fields #[.str s64 496,.str s64 497,.str s9 498,.int 140 0,.int 2 0,.int 0 0,.int 0 0,.int 3 0,.ref 199,.bool .true,.int 181 0,.ref 200,.none,.ref 201,.ref 202,.ref 203,.int 501 0,.int 140 0,.str s9 502],#[]⟩
noncomputable def c439:Arguments:=fA (sP 60)
noncomputable def c440:List Stmt:=fB (sP 60)
noncomputable def c441:FuncBody:=.stmts c440
noncomputable def o383:Obj:=⟨.none,none,.func ⟨s89,s89,c439,c441,c196,0,[],.none,.none,.none,.none,none,.none,.none,0⟩,#[]⟩
noncomputable def c442:Arguments:=fA (mS (sP 76) 2)
noncomputable def c443:List Stmt:=fB (mS (sP 76) 2)
noncomputable def c444:FuncBody:=.stmts c443
noncomputable def c445:Scope:=fS (mS (sP 76) 2)
noncomputable def o515:Obj:=⟨.type t3,none,.func ⟨s205,s220,c442,c444,c445,3,[],.none,.none,.none,c96,none,.ref 459,.none,0⟩,#[]⟩
noncomputable def o149:Obj:=⟨.type t2,none,.seq #[.str s125 370,.str s242 371] 0,#[]⟩
noncomputable def s264:Str:=⟨⟨[114,101,102]⟩⟩
noncomputable def c447:Arguments:=fA (mS (sP 81) 2)
noncomputable def c449:List Stmt:=fB (mS (sP 81) 2)
noncomputable def c450:FuncBody:=.stmts c449
noncomputable def c451:Scope:=fS (mS (sP 81) 2)
noncomputable def o615:Obj:=⟨.none,none,.func ⟨s160,s231,c447,c450,c451,0,[],.none,.none,.none,.none,none,.none,.none,0⟩,#[]⟩
noncomputable def o481:Obj:=⟨.type t12,none,.cls ⟨s103,[.type t15],[.ref 428,.type t15],427,s103,.true,[],[],.false,none,.false⟩,#[none,none,some (.str s103 786),some c143,some (.builtin t16),some (.bool .true)]⟩
noncomputable def o285:Obj:=⟨.type t2,none,.seq #[.str s140 542,.str s142 543] 0,#[]⟩
noncomputable def o130:Obj:=⟨.type t2,none,.seq #[.str s177 348] 0,#[]⟩
noncomputable def o201:Obj:=⟨.type t13,none,.plain,#[some (.ref 155),some (.ref 3),some (.ref 152),none,some c158,none,some (.ref 0)]⟩
noncomputable def o333:Obj:=⟨.type t6,none,.fields #[.str s82 611,.str s82 612,.str s9 613,.int 213 0,.int 3 0,.int 0 0,.int 0 0,.int 3 0,.ref 279,.bool .true,.int 181 0,.ref 280,.none,.ref 281,.ref 282,.ref 283,.int 618 0,.int 213 0,.str s9 619],#[]⟩
noncomputable def o599:Obj:=⟨.type t2,none,.seq #[.str s124 997,.str s183 998,.str s215 999,.str s237 1000] 0,#[]⟩
noncomputable def c454:Arguments:=fA (sP 62)
noncomputable def c455:List Stmt:=fB (sP 62)
noncomputable def c456:FuncBody:=.stmts c455
noncomputable def c457:Scope:=fS (sP 62)
noncomputable def o399:Obj:=⟨.type t3,none,.func ⟨s91,s91,c454,c456,c457,3,[],.none,.none,.none,c53,none,.ref 347,.none,0⟩,#[]⟩
noncomputable def o235:Obj:=⟨.type t7,none,.fields #[.str s152 482,.ref 187,.builtin t8,.builtin t9],#[]⟩
noncomputable def o367:Obj:=⟨.type t2,none,.seq #[.str s143 659,.str s144 660,.str s28 661,.str s179 662] 0,#[]⟩
noncomputable def o631:Obj:=⟨.type t4,none,.fields #[.builtin t5,.ref 568],#[]⟩
noncomputable def c458:Arguments:=fA (mS (sP 76) 0)
noncomputable def c459:List Stmt:=fB (mS (sP 76) 0)
noncomputable def c460:FuncBody:=.stmts c459
noncomputable def c461:Scope:=fS (mS (sP 76) 0)
noncomputable def o499:Obj:=⟨.none,none,.func ⟨s133,s232,c458,c460,c461,0,[],.none,.none,.none,.none,none,.none,.none,0⟩,#[]⟩
noncomputable def c462:BT:=.node o235 (.node o367 (.node o631 .nil .nil) .nil) (.node o499 .nil .nil)
noncomputable def o563:Obj:=⟨.type t10,none,.fields #[.ref 505,.ref 505,.ref 505],#[]⟩
noncomputable def o171:Obj:=⟨.type t2,none,.seq #[.str s135 400,.str s128 401] 0,#[]⟩
noncomputable def o571:Obj:=⟨.none,none,.func ⟨s105,s105,c379,c383,c384,0,[],.none,.none,.none,.none,none,.none,.none,0⟩,#[]⟩
noncomputable def o439:Obj:=⟨.type t2,none,.seq #[.str s141 751,.str s143 752,.str s144 753,.str s128 754] 0,#[]⟩
noncomputable def o241:Obj:=⟨.type t2,none,.seq #[.str s140 492] 0,#[]⟩
noncomputable def o637:Obj:=⟨.type t6,none,.fields #[.str s111 1046,.str s111 1047,.str s9 1048,.int 465 0,.int 4 0,.int 0 0,.int 0 0,.int 3 0,.ref 573,.bool .true,.int 181 0,.ref 574,.none,.ref 575,.ref 576,.ref 577,.int 1055 0,.int 465 0,.str s9 1056],#[]⟩
noncomputable def c464:BT:=.node o241 (.node c43 (.node o637 .nil .nil) .nil) (.node c9 .nil .nil)
noncomputable def o136:Obj:=⟨.type t4,none,.fields #[.builtin t5,.ref 94],#[]⟩
noncomputable def o207:Obj:=⟨.type t6,none,.fields #[.str s133 443,.str s206 444,.str s9 445,.int 132 0,.int 2 0,.int 0 0,.int 0 0,.int 3 0,.ref 157,.bool .true,.int 181 0,.ref 158,.none,.ref 159,.ref 160,.ref 161,.int 448 0,.int 132 0,.str s9 449],#[]⟩
noncomputable def o339:Obj:=⟨.none,none,.func ⟨s83,s83,c402,c404,c406,0,[],.none,.none,.none,.none,none,.none,.none,0⟩,#[]⟩
noncomputable def o471:Obj:=⟨.type t3,none,.func ⟨s133,s225,c284,c286,c288,3,[],.none,.none,.none,c96,none,.ref 417,.none,0⟩,#[]⟩
noncomputable def o273:Obj:=⟨.type t3,none,.func ⟨s67,s67,c290,c292,c293,3,[],.none,.none,.none,c158,none,.ref 225,.none,0⟩,#[]⟩
noncomputable def o405:Obj:=⟨.type t6,none,.fields #[.str s92 701,.str s92 702,.str s9 703,.int 237 0,.int 3 0,.int 0 0,.int 0 0,.int 3 0,.ref 349,.bool .true,.int 181 0,.ref 350,.none,.ref 351,.ref 352,.ref 353,.int 708 0,.int 237 0,.str s9 709],#[]⟩
noncomputable def o88:Obj:=⟨.type t6,none,.fields #[.str s133 285,.str s207 286,.str s9 287,.int 47 0,.int 1 0,.int 0 0,.int 0 0,.int 3 0,.ref 45,.bool .true,.int 181 0,.ref 46,.none,.ref 47,.ref 48,.ref 49,.int 289 0,.int 47 0,.str s9 290],#[]⟩
noncomputable def o120:Obj:=⟨.none,none,.func ⟨s208,s209,c408,c411,c412,0,[],.none,.none,.none,.none,none,.none,.none,0⟩,#[]⟩
noncomputable def o189:Obj:=⟨.type t7,none,.fields #[.str s152 424,.ref 145,.builtin t8,.builtin t9],#[]⟩
noncomputable def o323:Obj:=⟨.type t2,none,.seq #[.str s125 599,.str s150 600,.str s140 601] 0,#[]⟩
noncomputable def o587:Obj:=⟨.type t3,none,.func ⟨s107,s107,c294,c296,c298,3,[],.none,.none,.none,c96,none,.ref 529,.none,0⟩,#[]⟩
noncomputable def o455:Obj:=⟨.none,none,.func ⟨s99,s99,c418,c420,c422,0,[],.none,.none,.none,.none,none,.none,.none,0⟩,#[]⟩
noncomputable def o257:Obj:=⟨.none,none,.func ⟨s65,s65,c424,c426,c428,0,[],.none,.none,.none,.none,none,.none,.none,0⟩,#[]⟩
noncomputable def o521:Obj:=⟨.type t6,none,.fields #[.str s40 872,.str s210 873,.str s9 874,.int 336 0,.int 3 0,.int 0 0,.int 0 0,.int 3 0,.ref 461,.bool .true,.int 181 0,.ref 462,.none,.ref 463,.ref 464,.ref 465,.int 879 0,.int 336 0,.str s9 880],#[]⟩
noncomputable def o357:Obj:=⟨.type t3,none,.func ⟨s85,s85,c306,c308,c149,3,[],.none,.none,.none,c53,none,.ref 305,.none,0⟩,#[]⟩
noncomputable def c468:BT:=.node c9 (.node o357 (.node c9 .nil .nil) .nil) (.node c105 .nil .nil)
noncomputable def o291:Obj:=⟨.type t2,none,.seq #[.str s118 555,.str s119 556,.str s120 557,.str s121 558] 0,#[]⟩
noncomputable def o553:Obj:=⟨.type t2,none,.seq #[.str s124 930,.str s182 931,.str s158 932,.str s140 933] 0,#[]⟩
noncomputable def o62:Obj:=⟨.type t2,none,.seq #[.str s125 260] 0,#[]⟩
noncomputable def o80:Obj:=⟨.none,none,.fields #[.int 47 0,.int 4 0,.ref 50,.int 50 0,.int 4 0,.ref 57,.int 54 0,.int 4 0,.ref 64,.int 65 0,.int 4 0,.ref 69,.int 84 0,.int 4 0,.ref 76,.int 90 0,.int 4 0,.ref 83,.int 97 0,.int 4 0,.ref 90],#[]⟩
noncomputable def o181:Params→Obj:=fun x0=>⟨.type t0,none,.dict #[⟨PyData.keyHash x0 s192,.str s192 418,c158⟩,⟨PyData.keyHash x0 s193,.str s193 420,c261⟩,⟨PyData.keyHash x0 s194,.str s194 422,.int 128 421⟩,⟨PyData.keyHash x0 s195,.str s195 423,.ref 143⟩] 4,#[]⟩
noncomputable def o579:Obj:=⟨.type t6,none,.fields #[.str s106 957,.str s106 958,.str s9 959,.int 426 0,.int 4 0,.int 0 0,.int 0 0,.int 3 0,.ref 517,.bool .true,.int 181 0,.ref 518,.none,.ref 519,.ref 520,.ref 521,.int 967 0,.int 426 0,.str s9 968],#[]⟩
noncomputable def o381:Obj:=⟨.type t2,none,.seq #[.str s143 676,.str s144 677,.str s154 678] 0,#[]⟩
noncomputable def o513:Obj:=⟨.none,none,.func ⟨s205,s220,c442,c444,c445,0,[],.none,.none,.none,.none,none,.none,.none,0⟩,#[]⟩
noncomputable def o215:Obj:=⟨.type t4,none,.fields #[.builtin t5,.ref 166],#[]⟩
noncomputable def o347:Obj:=⟨.type t6,none,.fields #[.str s84 630,.str s84 631,.str s9 632,.int 218 0,.int 2 0,.int 0 0,.int 0 0,.int 3 0,.ref 293,.bool .true,.int 181 0,.ref 294,.none,.ref 295,.ref 296,.ref 297,.int 635 0,.int 218 0,.str s9 636],#[]⟩
noncomputable def o613:Obj:=⟨.type t2,none,.seq #[.str s124 1015,.str s264 1016,.str s140 1017] 0,#[]⟩
noncomputable def o479:Obj:=⟨.type t2,none,.seq #[.str s144 819,.str s188 820,.str s159 821,.str s161 822,.str s177 823,.str s170 824] 0,#[]⟩
noncomputable def o413:Obj:=⟨.type t3,none,.func ⟨s93,s93,c323,c325,c326,3,[],.none,.none,.none,c53,none,.ref 361,.none,0⟩,#[]⟩
noncomputable def o96:Obj:=⟨.type t3,none,.func ⟨s44,s226,c335,c338,c339,3,[],.none,.none,.none,c104,none,.ref 57,.none,0⟩,#[]⟩
noncomputable def o128:Obj:=⟨.type t6,none,.fields #[.str s132 338,.str s221 339,.str s9 340,.int 97 0,.int 3 0,.int 0 0,.int 0 0,.int 3 0,.ref 85,.bool .true,.int 181 0,.ref 86,.none,.ref 87,.ref 88,.ref 89,.int 345 0,.int 97 0,.str s9 346],#[]⟩
noncomputable def o199:Obj:=⟨.none,none,.fields #[.int 132 0,.int 4 0,.ref 162],#[]⟩
noncomputable def o463:Obj:=⟨.type t6,none,.fields #[.str s103 788,.str s103 789,.str s9 790,.int 299 0,.int 0 0,.int 0 0,.int 0 0,.int 0 0,.ref 408,.bool .false,.int 181 0,.ref 409,.none,.none,.none,.none,.int 791 0,.int 299 0,.str s9 792],#[]⟩
noncomputable def o265:Obj:=⟨.type t6,none,.fields #[.str s66 515,.str s66 516,.str s9 517,.int 155 0,.int 1 0,.int 0 0,.int 0 0,.int 3 0,.ref 213,.bool .true,.int 181 0,.ref 214,.none,.ref 215,.ref 216,.ref 217,.int 521 0,.int 155 0,.str s9 522],#[]⟩
noncomputable def o397:Obj:=⟨.none,none,.func ⟨s91,s91,c454,c456,c457,0,[],.none,.none,.none,.none,none,.none,.none,0⟩,#[]⟩
noncomputable def o529:Obj:=⟨.type t3,none,.func ⟨s211,s227,c341,c343,c344,3,[],.none,.none,.none,c96,none,.ref 473,.none,0⟩,#[]⟩
noncomputable def o163:Obj:=⟨.type t2,none,.seq #[.ref 116] 0,#[]⟩
noncomputable def o233:Params→Obj:=fun x0=>⟨.type t0,none,.dict #[⟨PyData.keyHash x0 s192,.str s192 467,c158⟩,⟨PyData.keyHash x0 s194,.str s194 471,.int 134 470⟩,⟨PyData.keyHash x0 s133,.str s133 479,.ref 184⟩,⟨PyData.keyHash x0 s195,.str s195 481,.ref 185⟩,⟨PyData.keyHash x0 s152,.str s152 483,.ref 188⟩,⟨PyData.keyHash x0 s199,.str s199 485,.ref 189⟩,⟨PyData.keyHash x0 s2,.str s2 486,.none⟩] 4,#[]⟩
noncomputable def o629:Obj:=⟨.type t7,none,.fields #[.str s199 1037,.ref 568,.builtin t14,.none],#[]⟩
noncomputable def o497:Obj:=⟨.type t2,none,.seq #[.str s124 848,.str s143 849,.str s150 850] 0,#[]⟩
noncomputable def u13:Params→BT:=fun x0=>.node (o233 x0) (.node c9 (.node o629 .nil .nil) .nil) (.node o497 .nil .nil)
noncomputable def o299:Obj:=⟨.type t3,none,.func ⟨s73,s73,c350,c353,c354,3,[],.ref 243,.none,.none,c76,none,.ref 249,.none,0⟩,#[]⟩
noncomputable def o561:Obj:=⟨.type t7,none,.fields #[.str s152 941,.ref 505,.builtin t8,.builtin t9],#[]⟩
noncomputable def s266:Str:=⟨⟨[95,95,109,97,105,110,95,95]⟩⟩
noncomputable def o46:Obj:=⟨.type t13,none,.plain,#[some (.ref 13),some (.ref 3),some (.ref 3),none,some (.str s266 164),none,some (.ref 0)]⟩
noncomputable def o58:Obj:=⟨.type t6,none,.fields #[.str s53 246,.str s53 247,.str s9 248,.int 24 0,.int 2 0,.int 0 0,.int 0 0,.int 3 0,.ref 17,.bool .true,.int 181 0,.ref 18,.none,.ref 19,.ref 20,.ref 21,.int 254 0,.int 24 0,.str s9 255],#[]⟩
noncomputable def o108:Obj:=⟨.type t3,none,.func ⟨s131,s229,c359,c375,c378,3,[],.none,.none,.none,c104,none,.ref 69,.none,0⟩,#[]⟩
noncomputable def o175:Obj:=⟨.type t10,none,.fields #[.ref 132,.ref 132,.ref 132],#[]⟩
noncomputable def o311:Obj:=⟨.none,none,.func ⟨s75,s75,c315,c319,c320,0,[],.none,.none,.none,.none,none,.none,.none,0⟩,#[]⟩
noncomputable def o443:Obj:=⟨.type t3,none,.func ⟨s97,s97,c385,c395,c396,3,[],.none,.none,.none,c53,none,.ref 389,.none,0⟩,#[]⟩
noncomputable def o245:Obj:=⟨.type t3,none,.func ⟨s63,s63,c397,c399,c400,3,[],.none,.none,.none,c158,none,.ref 197,.none,0⟩,#[]⟩
noncomputable def o377:Obj:=⟨.type t6,none,.fields #[.str s88 666,.str s88 667,.str s9 668,.int 227 0,.int 1 0,.int 0 0,.int 0 0,.int 3 0,.ref 321,.bool .true,.int 181 0,.ref 322,.none,.ref 323,.ref 324,.ref 325,.int 670 0,.int 227 0,.str s9 671],#[]⟩
noncomputable def o211:Obj:=⟨.type t12,none,.cls ⟨s61,[.type t15],[.ref 166,.type t15],165,s61,.true,[],[],.false,none,.false⟩,#[none,none,some (.str s61 431),some c340,some (.builtin t16),some (.bool .true)]⟩
noncomputable def o609:Obj:=⟨.type t6,none,.fields #[.str s180 1004,.str s181 1005,.str s9 1006,.int 447 0,.int 2 0,.int 0 0,.int 0 0,.int 3 0,.ref 545,.bool .true,.int 181 0,.ref 546,.none,.ref 547,.ref 548,.ref 549,.int 1009 0,.int 447 0,.str s9 1010],#[]⟩
noncomputable def o409:Obj:=⟨.type t2,none,.seq #[.str s143 714,.str s144 715,.str s154 716,.str s146 717] 0,#[]⟩
noncomputable def o541:Obj:=⟨.none,none,.func ⟨s171,s191,c327,c331,c334,0,[],.none,.none,.none,.none,none,.none,.none,0⟩,#[]⟩
noncomputable def o92:Obj:=⟨.type t2,none,.seq #[.str s124 295,.str s157 296] 0,#[]⟩
noncomputable def o327:Obj:=⟨.type t3,none,.func ⟨s77,s77,c413,c415,c417,3,[],.none,.none,.none,c76,none,.ref 277,.none,0⟩,#[]⟩
noncomputable def o525:Obj:=⟨.type t2,none,.seq #[.str s124 885,.str s157 886,.str s158 887,.str s128 888,.str s125 889,.str s146 890] 0,#[]⟩
noncomputable def o159:Obj:=⟨.none,none,.fields #[.int 124 0,.int 4 0,.ref 128],#[]⟩
noncomputable def o229:Obj:=⟨.none,none,.func ⟨s133,s197,c345,c347,c348,0,[],.none,.none,.none,.none,none,.none,.none,0⟩,#[]⟩
noncomputable def o625:Obj:=⟨.type t2,none,.seq #[.str s215 1028,.str s238 1029,.str s237 1030,.str s214 1031,.str s183 1032,.str s219 1033] 0,#[]⟩
noncomputable def o493:Obj:=⟨.type t6,none,.fields #[.str s104 835,.str s104 836,.str s9 837,.int 311 0,.int 0 0,.int 0 0,.int 0 0,.int 0 0,.ref 436,.bool .false,.int 181 0,.ref 437,.none,.none,.none,.none,.int 838 0,.int 311 0,.str s9 839],#[]⟩
noncomputable def c474:BT:=.node o229 (.node c9 (.node o625 .nil .nil) .nil) (.node o493 .nil .nil)
noncomputable def o295:Obj:=⟨.type t2,none,.seq #[.str s140 565,.str s141 566,.str s219 567,.str s247 568] 0,#[]⟩
noncomputable def o425:Obj:=⟨.none,none,.func ⟨s95,s95,c355,c357,c358,0,[],.none,.none,.none,.none,none,.none,.none,0⟩,#[]⟩
noncomputable def o557:Obj:=⟨.type t3,none,.func ⟨s216,s230,c430,c432,c434,3,[],.none,.none,.none,c96,none,.ref 501,.none,0⟩,#[]⟩
noncomputable def o66:Obj:=⟨.type t3,none,.func ⟨s54,s54,c435,c437,c438,3,[],.none,.none,.none,c104,none,.ref 29,.none,0⟩,#[]⟩
noncomputable def o185:Obj:=⟨.type t13,none,.plain,#[some (.ref 141),some (.ref 3),some (.ref 138),none,some c158,none,some (.ref 0)]⟩
noncomputable def o319:Obj:=⟨.type t6,none,.fields #[.str s76 589,.str s76 590,.str s9 591,.int 199 0,.int 1 0,.int 0 0,.int 0 0,.int 3 0,.ref 265,.bool .true,.int 181 0,.ref 266,.none,.ref 267,.ref 268,.ref 269,.int 593 0,.int 199 0,.str s9 594],#[]⟩
noncomputable def o583:Obj:=⟨.type t2,none,.seq #[.str s125 973,.str s143 974,.str s149 975,.str s150 976] 0,#[]⟩
noncomputable def o385:Obj:=⟨.type t3,none,.func ⟨s89,s89,c439,c441,c196,3,[],.none,.none,.none,c53,none,.ref 333,.none,0⟩,#[]⟩
noncomputable def o151:Obj:=⟨.none,none,.func ⟨s58,s58,c300,c304,c305,0,[],.none,.none,.none,.none,none,.none,.none,0⟩,#[]⟩
noncomputable def o353:Obj:=⟨.type t2,none,.seq #[.str s143 641,.str s144 642,.str s28 643] 0,#[]⟩
noncomputable def o617:Obj:=⟨.type t3,none,.func ⟨s160,s231,c447,c450,c451,3,[],.none,.none,.none,c129,none,.ref 557,.none,0⟩,#[]⟩
noncomputable def o483:Obj:=⟨.type t7,none,.fields #[.str s199 828,.ref 428,.builtin t14,.none],#[]⟩
noncomputable def o287:Obj:=⟨.none,none,.func ⟨s69,s69,c310,c312,c313,0,[],.none,.none,.none,.none,none,.none,.none,0⟩,#[]⟩
noncomputable def o549:Obj:=⟨.type t6,none,.fields #[.str s167 916,.str s168 917,.str s9 918,.int 401 0,.int 3 0,.int 0 0,.int 0 0,.int 3 0,.ref 489,.bool .true,.int 181 0,.ref 490,.none,.ref 491,.ref 492,.ref 493,.int 924 0,.int 401 0,.str s9 925],#[]⟩
noncomputable def o132:Obj:=⟨.type t12,none,.cls ⟨s56,[.type t15],[.ref 94,.type t15],93,s56,.true,[],[],.false,none,.false⟩,#[none,none,some (.str s56 273),some c314,some (.builtin t16),some (.bool .true)]⟩
noncomputable def o601:Obj:=⟨.none,none,.func ⟨s133,s153,c280,c282,c283,0,[],.none,.none,.none,.none,none,.none,.none,0⟩,#[]⟩
noncomputable def o467:Obj:=⟨.type t2,none,.seq #[.str s124 801,.str s177 802,.str s170 803,.str s144 804,.str s161 805,.str s159 806,.str s188 807] 0,#[]⟩
noncomputable def o269:Obj:=⟨.type t2,none,.seq #[.str s140 527,.str s219 528] 0,#[]⟩
noncomputable def o237:Obj:=⟨.type t10,none,.fields #[.ref 187,.ref 187,.ref 187],#[]⟩
noncomputable def o369:Obj:=⟨.none,none,.func ⟨s87,s87,c275,c277,c278,0,[],.none,.none,.none,.none,none,.none,.none,0⟩,#[]⟩
noncomputable def o501:Obj:=⟨.type t3,none,.func ⟨s133,s232,c458,c460,c461,3,[],.none,.none,.none,c96,none,.ref 445,.none,0⟩,#[]⟩
noncomputable def c478:BT:=.node o237 (.node o369 (.node c43 .nil .nil) .nil) (.node o501 .nil .nil)
noncomputable def o433:Obj:=⟨.type t6,none,.fields #[.str s96 738,.str s96 739,.str s9 740,.int 258 0,.int 2 0,.int 0 0,.int 0 0,.int 3 0,.ref 377,.bool .true,.int 181 0,.ref 378,.none,.ref 379,.ref 380,.ref 381,.int 745 0,.int 258 0,.str s9 746],#[]⟩
noncomputable def s267:Str:=⟨⟨[108,97,119,95,115,97,48,54,48,51,95,48,49]⟩⟩
noncomputable def c481:Value:=.str s267 1157
noncomputable def s268:Str:=⟨⟨[116,114,105,101,100]⟩⟩
noncomputable def s269:Str:=⟨⟨[97,100,118,97,110,99,101,100]⟩⟩
noncomputable def s270:Str:=⟨⟨[108,101,100,95,105,110]⟩⟩
noncomputable def s271:Str:=⟨⟨[108,101,100,95,111,117,116]⟩⟩
noncomputable def s272:Str:=⟨⟨[115,116,101,101,114,101,100]⟩⟩
noncomputable def s273:Str:=⟨⟨[116,97,107,101,110]⟩⟩
noncomputable def s274:Str:=⟨⟨[95,108,97,119,95,97,108,108]⟩⟩
noncomputable def s275:Str:=⟨⟨[95,108,97,119,95,110,101,120,116]⟩⟩
noncomputable def s276:Str:=⟨⟨[95,108,97,119,95,110,111,100,101]⟩⟩
noncomputable def s277:Str:=⟨⟨[95,108,97,119,95,114,111,119]⟩⟩
noncomputable def s278:Str:=⟨⟨[95,108,97,119,95,98,101,104,105,110,100]⟩⟩
noncomputable def s279:Str:=⟨⟨[95,108,97,119,95,111,102]⟩⟩
noncomputable def s280:Str:=⟨⟨[95,108,97,119,95,101,105,116,104,101,114]⟩⟩
noncomputable def s281:Str:=⟨⟨[95,108,97,119,95,104,97,115,95,110,111,116,104,105,110,103]⟩⟩
noncomputable def s282:Str:=⟨⟨[95,108,97,119,95,108,101,102,116]⟩⟩
noncomputable def s283:Str:=⟨⟨[108,97,119]⟩⟩
noncomputable def o719:Params→Obj:=fun x0=>⟨.type t0,none,.dict #[⟨PyData.keyHash x0 s0,c0,c481⟩,⟨PyData.keyHash x0 s2,.str s2 166,.none⟩,⟨PyData.keyHash x0 s3,.str s3 167,.none⟩,⟨PyData.keyHash x0 s4,.str s4 168,.builtin t1⟩,⟨PyData.keyHash x0 s5,.str s5 169,.none⟩,⟨PyData.keyHash x0 s6,.str s6 170,.ref 6⟩,⟨PyData.keyHash x0 s7,.str s7 171,.ref 4⟩,⟨PyData.keyHash x0 s8,.str s8 173,.str s9 172⟩,⟨PyData.keyHash x0 s10,.str s10 174,.none⟩,⟨PyData.keyHash x0 s11,.str s11 190,.str s12 189⟩,⟨PyData.keyHash x0 s13,.str s13 192,.str s14 191⟩,⟨PyData.keyHash x0 s15,.str s15 194,.str s16 193⟩,⟨PyData.keyHash x0 s17,.str s17 196,.str s18 195⟩,⟨PyData.keyHash x0 s19,.str s19 198,.str s20 197⟩,⟨PyData.keyHash x0 s21,.str s21 200,.str s22 199⟩,⟨PyData.keyHash x0 s23,.str s23 202,.str s24 201⟩,⟨PyData.keyHash x0 s25,.str s25 204,.str s26 203⟩,⟨PyData.keyHash x0 s27,.str s27 206,.str s28 205⟩,⟨PyData.keyHash x0 s29,.str s29 208,.str s30 207⟩,⟨PyData.keyHash x0 s31,.str s31 210,.str s32 209⟩,⟨PyData.keyHash x0 s33,.str s33 212,.str s34 211⟩,⟨PyData.keyHash x0 s35,.str s35 214,.str s36 213⟩,⟨PyData.keyHash x0 s37,.str s37 216,.str s38 215⟩,⟨PyData.keyHash x0 s39,.str s39 218,.str s40 217⟩,⟨PyData.keyHash x0 s41,.str s41 220,.str s42 219⟩,⟨PyData.keyHash x0 s43,.str s43 222,.str s44 221⟩,⟨PyData.keyHash x0 s45,.str s45 224,.str s46 223⟩,⟨PyData.keyHash x0 s47,.str s47 226,.str s48 225⟩,⟨PyData.keyHash x0 s49,.str s49 228,.str s50 227⟩,⟨PyData.keyHash x0 s51,.str s51 240,.ref 15⟩,⟨PyData.keyHash x0 s52,.str s52 245,.ref 16⟩,⟨PyData.keyHash x0 s53,.str s53 256,.ref 23⟩,⟨PyData.keyHash x0 s54,.str s54 263,.ref 30⟩,⟨PyData.keyHash x0 s55,.str s55 272,.ref 37⟩,⟨PyData.keyHash x0 s56,.str s56 356,.ref 94⟩,⟨PyData.keyHash x0 s57,.str s57 366,.ref 105⟩,⟨PyData.keyHash x0 s58,.str s58 374,.ref 112⟩,⟨PyData.keyHash x0 s59,.str s59 410,.ref 132⟩,⟨PyData.keyHash x0 s60,.str s60 430,.ref 145⟩,⟨PyData.keyHash x0 s61,.str s61 459,.ref 166⟩,⟨PyData.keyHash x0 s62,.str s62 488,.ref 187⟩,⟨PyData.keyHash x0 s63,.str s63 495,.ref 198⟩,⟨PyData.keyHash x0 s64,.str s64 503,.ref 205⟩,⟨PyData.keyHash x0 s65,.str s65 514,.ref 212⟩,⟨PyData.keyHash x0 s66,.str s66 523,.ref 219⟩,⟨PyData.keyHash x0 s67,.str s67 531,.ref 226⟩,⟨PyData.keyHash x0 s68,.str s68 538,.ref 233⟩,⟨PyData.keyHash x0 s69,.str s69 546,.ref 240⟩,⟨PyData.keyHash x0 s70,.str s70 554,.ref 241⟩,⟨PyData.keyHash x0 s71,.str s71 559,.ref 242⟩,⟨PyData.keyHash x0 s72,.str s72 561,.int 64 560⟩,⟨PyData.keyHash x0 s73,.str s73 571,.ref 250⟩,⟨PyData.keyHash x0 s74,.str s74 580,.ref 257⟩,⟨PyData.keyHash x0 s75,.str s75 588,.ref 264⟩,⟨PyData.keyHash x0 s76,.str s76 595,.ref 271⟩,⟨PyData.keyHash x0 s77,.str s77 604,.ref 278⟩,⟨PyData.keyHash x0 s78,.str s78 608,.str s79 607⟩,⟨PyData.keyHash x0 s80,.str s80 610,.str s81 609⟩,⟨PyData.keyHash x0 s82,.str s82 620,.ref 285⟩,⟨PyData.keyHash x0 s83,.str s83 629,.ref 292⟩,⟨PyData.keyHash x0 s84,.str s84 637,.ref 299⟩,⟨PyData.keyHash x0 s85,.str s85 646,.ref 306⟩,⟨PyData.keyHash x0 s86,.str s86 655,.ref 313⟩,⟨PyData.keyHash x0 s87,.str s87 665,.ref 320⟩,⟨PyData.keyHash x0 s88,.str s88 672,.ref 327⟩,⟨PyData.keyHash x0 s89,.str s89 681,.ref 334⟩,⟨PyData.keyHash x0 s90,.str s90 690,.ref 341⟩,⟨PyData.keyHash x0 s91,.str s91 700,.ref 348⟩,⟨PyData.keyHash x0 s92,.str s92 710,.ref 355⟩,⟨PyData.keyHash x0 s93,.str s93 720,.ref 362⟩,⟨PyData.keyHash x0 s94,.str s94 728,.ref 369⟩,⟨PyData.keyHash x0 s95,.str s95 737,.ref 376⟩,⟨PyData.keyHash x0 s96,.str s96 747,.ref 383⟩,⟨PyData.keyHash x0 s97,.str s97 757,.ref 390⟩,⟨PyData.keyHash x0 s98,.str s98 766,.ref 397⟩,⟨PyData.keyHash x0 s99,.str s99 777,.ref 404⟩,⟨PyData.keyHash x0 s100,.str s100 781,.int 0 780⟩,⟨PyData.keyHash x0 s101,.str s101 783,.int 1 782⟩,⟨PyData.keyHash x0 s102,.str s102 785,.int 2 784⟩,⟨PyData.keyHash x0 s103,.str s103 832,.ref 428⟩,⟨PyData.keyHash x0 s104,.str s104 947,.ref 505⟩,⟨PyData.keyHash x0 s105,.str s105 956,.ref 516⟩,⟨PyData.keyHash x0 s106,.str s106 969,.ref 523⟩,⟨PyData.keyHash x0 s107,.str s107 979,.ref 530⟩,⟨PyData.keyHash x0 s108,.str s108 1041,.ref 568⟩,⟨PyData.keyHash x0 s109,.str s109 1045,.str s110 1044⟩,⟨PyData.keyHash x0 s111,.str s111 1057,.ref 579⟩,⟨PyData.keyHash x0 s202,.str s202 1068,.ref 586⟩,⟨PyData.keyHash x0 s268,.str s268 1083,.ref 593⟩,⟨PyData.keyHash x0 s269,.str s269 1099,.ref 600⟩,⟨PyData.keyHash x0 s270,.str s270 1111,.ref 607⟩,⟨PyData.keyHash x0 s271,.str s271 1127,.ref 614⟩,⟨PyData.keyHash x0 s272,.str s272 1139,.ref 621⟩,⟨PyData.keyHash x0 s273,.str s273 1156,.ref 628⟩,⟨PyData.keyHash x0 s274,.str s274 1161,.ref 629⟩,⟨PyData.keyHash x0 s275,.str s275 1171,.ref 636⟩,⟨PyData.keyHash x0 s276,.str s276 1180,.ref 643⟩,⟨PyData.keyHash x0 s277,.str s277 1189,.ref 650⟩,⟨PyData.keyHash x0 s278,.str s278 1197,.ref 657⟩,⟨PyData.keyHash x0 s279,.str s279 1203,.ref 662⟩,⟨PyData.keyHash x0 s280,.str s280 1211,.ref 669⟩,⟨PyData.keyHash x0 s281,.str s281 1220,.ref 676⟩,⟨PyData.keyHash x0 s282,.str s282 1229,.ref 683⟩,⟨PyData.keyHash x0 s283,.str s283 1235,.ref 688⟩] 104,#[]⟩
noncomputable def s284:Str:=⟨⟨[102,101,101,100]⟩⟩
noncomputable def s285:Str:=⟨⟨[100,101,101,112]⟩⟩
noncomputable def s286:Str:=⟨⟨[102,111,114,109]⟩⟩
noncomputable def o700:Obj:=⟨.type t2,none,.seq #[.str s284 1175,.str s285 1176,.str s286 1177] 0,#[]⟩
noncomputable def c482:BT:=.node o101 (.node o168 (.node o304 (.node c43 .nil .nil) .nil) (.node o434 (.node o700 .nil .nil) .nil)) c55
noncomputable def s287:Str:=⟨⟨[104,101,114,101]⟩⟩
noncomputable def s288:Str:=⟨⟨[114,101,115,116]⟩⟩
noncomputable def s289:Str:=⟨⟨[112,105,108,101]⟩⟩
noncomputable def c483:Arguments:=fA (sP 88)
noncomputable def c487:List Stmt:=fB (sP 88)
noncomputable def c488:FuncBody:=.stmts c487
noncomputable def c492:Scope:=fS (sP 88)
noncomputable def o668:Obj:=⟨.type t3,none,.func ⟨s270,s270,c483,c488,c492,3,[],.none,.none,.none,c1,none,.ref 606,.none,0⟩,#[]⟩
noncomputable def c493:BT:=.node c9 (.node o402 (.node o668 .nil .nil) .nil) (.node o534 .nil .nil)
noncomputable def c494:Arguments:=fA (sP 97)
noncomputable def c500:List Stmt:=fB (sP 97)
noncomputable def c501:FuncBody:=.stmts c500
noncomputable def c503:Scope:=fS (sP 97)
noncomputable def o716:Obj:=⟨.none,none,.func ⟨s278,s278,c494,c501,c503,0,[],.none,.none,.none,.none,none,.none,.none,0⟩,#[]⟩
noncomputable def c504:Arguments:=fA (sP 86)
noncomputable def s295:Str:=⟨⟨[99,104,97,105,110]⟩⟩
noncomputable def c506:List Stmt:=fB (sP 86)
noncomputable def c507:FuncBody:=.stmts c506
noncomputable def c509:Scope:=fS (sP 86)
noncomputable def o652:Obj:=⟨.none,none,.func ⟨s268,s268,c504,c507,c509,0,[],.none,.none,.none,.none,none,.none,.none,0⟩,#[]⟩
noncomputable def c510:BT:=.node c43 (.node c9 (.node o320 (.node c9 .nil .nil) .nil) (.node c43 (.node o716 .nil .nil) .nil)) (.node c43 (.node c9 (.node o652 .nil .nil) .nil) (.node o518 .nil .nil))
noncomputable def o750:Obj:=⟨.type t6,none,.fields #[.str s283 1230,.str s283 1231,.str s9 1232,.int 618 0,.int 1 0,.int 0 0,.int 0 0,.int 3 0,.ref 684,.bool .true,.int 181 0,.ref 685,.none,.none,.none,.ref 686,.int 1233 0,.int 618 0,.str s9 1234],#[]⟩
noncomputable def c511:BT:=.node o288 (.node o418 (.node c43 .nil .nil) .nil) (.node o550 .nil .nil)
noncomputable def c512:BT:=.node c9 (.node o176 (.node o312 (.node o576 .nil .nil) .nil) (.node c9 (.node c9 .nil .nil) .nil)) (.node c9 (.node o378 (.node c9 .nil .nil) .nil) (.node c43 .nil .nil))
noncomputable def o742:Obj:=⟨.type t2,none,.seq #[.str s128 1224,.str s241 1225,.str s145 1226] 0,#[]⟩
noncomputable def c513:BT:=.node o280 (.node c9 (.node c9 .nil .nil) .nil) (.node o542 .nil .nil)
noncomputable def o660:Obj:=⟨.type t6,none,.fields #[.str s269 1084,.str s269 1085,.str s9 1086,.int 492 0,.int 6 0,.int 0 0,.int 0 0,.int 3 0,.ref 594,.bool .true,.int 181 0,.ref 595,.none,.ref 596,.ref 597,.ref 598,.int 1097 0,.int 492 0,.str s9 1098],#[]⟩
noncomputable def c514:BT:=.node o262 (.node c43 (.node o660 .nil .nil) .nil) (.node c9 .nil .nil)
noncomputable def u14:Params→BT:=fun x0=>.node o160 (u1 x0) (.node c9 (.node o426 (.node c43 .nil .nil) .nil) (.node o558 .nil .nil))
noncomputable def c515:Arguments:=fA (sP 95)
noncomputable def c516:List Stmt:=fB (sP 95)
noncomputable def c517:FuncBody:=.stmts c516
noncomputable def c521:Scope:=fS (sP 95)
noncomputable def o704:Obj:=⟨.type t3,none,.func ⟨s276,s276,c515,c517,c521,3,[],.none,.none,.none,c481,none,.ref 642,.none,0⟩,#[]⟩
noncomputable def u15:Params→BT:=fun x0=>.node c43 (.node (o172 x0) (.node c43 (.node o572 .nil .nil) .nil) (.node c9 (.node o704 .nil .nil) .nil)) c175
noncomputable def o738:Obj:=⟨.type t6,none,.fields #[.str s281 1212,.str s281 1213,.str s9 1214,.int 600 0,.int 1 0,.int 0 0,.int 0 0,.int 3 0,.ref 670,.bool .true,.int 181 0,.ref 671,.none,.ref 672,.ref 673,.ref 674,.int 1218 0,.int 600 0,.str s9 1219],#[]⟩
noncomputable def c522:BT:=.node c9 (.node o406 (.node c9 .nil .nil) .nil) (.node c43 .nil .nil)
noncomputable def c523:BT:=.node o258 (.node o390 (.node c43 .nil .nil) .nil) (.node o522 .nil .nil)
noncomputable def o688:Obj:=⟨.type t6,none,.fields #[.str s273 1140,.str s273 1141,.str s9 1142,.int 533 0,.int 7 0,.int 0 0,.int 0 0,.int 3 0,.ref 622,.bool .true,.int 181 0,.ref 623,.none,.ref 624,.ref 625,.ref 626,.int 1154 0,.int 533 0,.str s9 1155],#[]⟩
noncomputable def u16:Params→BT:=fun x0=>.node (o156 x0) (u3 x0) (.node o292 (.node c43 (.node o688 .nil .nil) .nil) (.node c9 .nil .nil))
noncomputable def c524:BT:=.node o113 (.node c9 (.node o316 (.node o580 .nil .nil) .nil) (.node o448 (.node c9 .nil .nil) .nil)) (.node o250 (.node c9 (.node c9 .nil .nil) .nil) (.node o514 .nil .nil))
noncomputable def c525:Arguments:=fA (sP 101)
noncomputable def s301:Str:=⟨⟨[108,111,116]⟩⟩
noncomputable def c531:List Stmt:=fB (sP 101)
noncomputable def c532:FuncBody:=.stmts c531
noncomputable def c537:Scope:=fS (sP 101)
noncomputable def o746:Obj:=⟨.type t3,none,.func ⟨s282,s282,c525,c532,c537,3,[],.none,.none,.none,c481,none,.ref 682,.none,0⟩,#[]⟩
noncomputable def c538:Arguments:=fA (sP 90)
noncomputable def c543:List Stmt:=fB (sP 90)
noncomputable def c544:FuncBody:=.stmts c543
noncomputable def c545:Scope:=fS (sP 90)
noncomputable def o680:Obj:=⟨.none,none,.func ⟨s272,s272,c538,c544,c545,0,[],.none,.none,.none,.none,none,.none,.none,0⟩,#[]⟩
noncomputable def c546:BT:=.node c43 (.node c9 (.node o680 .nil .nil) .nil) (.node o546 .nil .nil)
noncomputable def c547:Arguments:=fA (sP 99)
noncomputable def c548:List Stmt:=fB (sP 99)
noncomputable def c549:FuncBody:=.stmts c548
noncomputable def o730:Obj:=⟨.none,none,.func ⟨s280,s280,c547,c549,c503,0,[],.none,.none,.none,.none,none,.none,.none,0⟩,#[]⟩
noncomputable def o664:Obj:=⟨.type t2,none,.seq #[.str s287 1103,.str s288 1104,.str s144 1105,.str s161 1106,.str s289 1107,.str s141 1108] 0,#[]⟩
noncomputable def c550:BT:=.node o266 (.node o398 (.node o664 .nil .nil) .nil) (.node c9 .nil .nil)
noncomputable def o696:Obj:=⟨.type t6,none,.fields #[.str s275 1162,.str s275 1163,.str s9 1164,.int 551 0,.int 2 0,.int 0 0,.int 0 0,.int 3 0,.ref 630,.bool .true,.int 181 0,.ref 631,.none,.ref 632,.ref 633,.ref 634,.int 1169 0,.int 551 0,.str s9 1170],#[]⟩
noncomputable def c551:BT:=.node o164 c257 (.node c9 (.node o430 (.node o696 .nil .nil) .nil) (.node o562 .nil .nil))
noncomputable def o702:Obj:=⟨.none,none,.func ⟨s276,s276,c515,c517,c521,0,[],.none,.none,.none,.none,none,.none,.none,0⟩,#[]⟩
noncomputable def c552:BT:=.node o103 (.node o170 (.node o306 (.node c9 .nil .nil) .nil) (.node c43 (.node o702 .nil .nil) .nil)) c259
noncomputable def c553:BT:=.node o272 (.node o404 (.node c43 .nil .nil) .nil) (.node o536 .nil .nil)
noncomputable def o718:Obj:=⟨.type t3,none,.func ⟨s278,s278,c494,c501,c503,3,[],.none,.none,.none,c481,none,.ref 656,.none,0⟩,#[]⟩
noncomputable def o654:Obj:=⟨.type t3,none,.func ⟨s268,s268,c504,c507,c509,3,[],.none,.none,.none,c1,none,.ref 592,.none,0⟩,#[]⟩
noncomputable def c554:BT:=.node o87 (.node c9 (.node o188 (.node c43 (.node o586 .nil .nil) .nil) (.node c9 (.node o718 .nil .nil) .nil)) (.node c9 (.node o388 (.node o654 .nil .nil) .nil) (.node o520 .nil .nil))) (.node o154 c263 (.node o290 (.node o420 (.node c9 .nil .nil) .nil) (.node c43 .nil .nil)))
noncomputable def o710:Obj:=⟨.type t6,none,.fields #[.str s277 1181,.str s277 1182,.str s9 1183,.int 572 0,.int 1 0,.int 0 0,.int 0 0,.int 3 0,.ref 644,.bool .true,.int 181 0,.ref 645,.none,.ref 646,.ref 647,.ref 648,.int 1187 0,.int 572 0,.str s9 1188],#[]⟩
noncomputable def o646:Obj:=⟨.type t6,none,.fields #[.str s202 1058,.str s202 1059,.str s9 1060,.int 471 0,.int 4 0,.int 0 0,.int 0 0,.int 3 0,.ref 580,.bool .true,.int 181 0,.ref 581,.none,.ref 582,.ref 583,.ref 584,.int 1066 0,.int 471 0,.str s9 1067],#[]⟩
noncomputable def c555:BT:=.node o111 (.node c105 (.node c9 (.node o578 .nil .nil) .nil) (.node o446 (.node o710 .nil .nil) .nil)) (.node o248 (.node c43 (.node o646 .nil .nil) .nil) (.node c9 .nil .nil))
noncomputable def o744:Obj:=⟨.none,none,.func ⟨s282,s282,c525,c532,c537,0,[],.none,.none,.none,.none,none,.none,.none,0⟩,#[]⟩
noncomputable def o678:Obj:=⟨.type t2,none,.seq #[.str s295 1131,.str s144 1132,.str s161 1133,.str s289 1134,.str s141 1135,.str s288 1136] 0,#[]⟩
noncomputable def c556:BT:=.node o282 (.node o412 (.node o678 .nil .nil) .nil) (.node c9 .nil .nil)
noncomputable def o728:Obj:=⟨.type t2,none,.seq #[.str s12 1207,.str s171 1208] 0,#[]⟩
noncomputable def c557:BT:=.node o264 (.node c9 (.node c9 .nil .nil) .nil) (.node o528 .nil .nil)
noncomputable def c558:BT:=.node o162 c267 (.node o298 (.node c9 (.node c9 .nil .nil) .nil) (.node o560 .nil .nil))
noncomputable def c559:BT:=.node o107 (.node o174 (.node c9 (.node c9 .nil .nil) .nil) (.node o442 (.node c43 .nil .nil) .nil)) (.node o244 (.node o376 (.node c43 .nil .nil) .nil) (.node o508 .nil .nil))
noncomputable def o674:Obj:=⟨.type t6,none,.fields #[.str s271 1112,.str s271 1113,.str s9 1114,.int 518 0,.int 7 0,.int 0 0,.int 0 0,.int 3 0,.ref 608,.bool .true,.int 181 0,.ref 609,.none,.ref 610,.ref 611,.ref 612,.int 1125 0,.int 518 0,.str s9 1126],#[]⟩
noncomputable def c560:BT:=.node o278 (.node c43 (.node o674 .nil .nil) .nil) (.node c9 .nil .nil)
noncomputable def o724:Obj:=⟨.type t6,none,.fields #[.str s279 1198,.str s279 1199,.str s9 1200,.int 583 0,.int 1 0,.int 0 0,.int 0 0,.int 3 0,.ref 658,.bool .true,.int 181 0,.ref 659,.none,.none,.none,.ref 660,.int 1201 0,.int 583 0,.str s9 1202],#[]⟩
noncomputable def c561:BT:=.node c9 (.node o392 (.node c9 .nil .nil) .nil) (.node c43 .nil .nil)
noncomputable def s304:Str:=⟨⟨[97,98,99]⟩⟩
noncomputable def o690:Obj:=⟨.type t2,none,.seq #[.str s301 1159,.str s304 1160] 0,#[]⟩
noncomputable def c562:BT:=.node c9 c270 (.node c43 (.node c9 (.node o690 .nil .nil) .nil) (.node o556 .nil .nil))
noncomputable def o714:Obj:=⟨.type t2,none,.seq #[.str s12 1193,.str s171 1194] 0,#[]⟩
noncomputable def o650:Obj:=⟨.type t2,none,.seq #[.str s125 1072,.str s143 1073,.str s151 1074,.str s150 1075,.str s289 1076,.str s158 1077,.str s295 1078,.str s144 1079,.str s161 1080] 0,#[]⟩
noncomputable def c563:BT:=.node o115 (.node o184 (.node o318 (.node c43 .nil .nil) .nil) (.node o450 (.node o714 .nil .nil) .nil)) (.node o252 (.node o384 (.node o650 .nil .nil) .nil) (.node c9 .nil .nil))
noncomputable def o682:Obj:=⟨.type t3,none,.func ⟨s272,s272,c538,c544,c545,3,[],.none,.none,.none,c1,none,.ref 620,.none,0⟩,#[]⟩
noncomputable def c564:BT:=.node c9 (.node o416 (.node o682 .nil .nil) .nil) (.node o548 .nil .nil)
noncomputable def o732:Obj:=⟨.type t3,none,.func ⟨s280,s280,c547,c549,c503,3,[],.none,.none,.none,c481,none,.ref 668,.none,0⟩,#[]⟩
noncomputable def o666:Obj:=⟨.none,none,.func ⟨s270,s270,c483,c488,c492,0,[],.none,.none,.none,.none,none,.none,.none,0⟩,#[]⟩
noncomputable def c565:BT:=.node c43 (.node c9 (.node o666 .nil .nil) .nil) (.node o532 .nil .nil)
noncomputable def c566:BT:=.node o166 c273 (.node o302 (.node o432 (.node c9 .nil .nil) .nil) (.node o564 .nil .nil))
noncomputable def c567:BT:=.node o102 (.node o169 (.node o305 (.node o569 .nil .nil) .nil) (.node c9 (.node c9 .nil .nil) .nil)) c279
noncomputable def o735:Obj:=⟨.type t2,none,.seq #[.str s128 1215,.str s12 1216,.str s171 1217] 0,#[]⟩
noncomputable def c568:BT:=.node o271 (.node c9 (.node c9 .nil .nil) .nil) (.node o535 .nil .nil)
noncomputable def o717:Obj:=⟨.type t6,none,.fields #[.str s278 1190,.str s278 1191,.str s9 1192,.int 577 0,.int 2 0,.int 0 0,.int 0 0,.int 3 0,.ref 651,.bool .true,.int 181 0,.ref 652,.none,.ref 653,.ref 654,.ref 655,.int 1195 0,.int 577 0,.str s9 1196],#[]⟩
noncomputable def o653:Obj:=⟨.type t6,none,.fields #[.str s268 1069,.str s268 1070,.str s9 1071,.int 474 0,.int 4 0,.int 0 0,.int 0 0,.int 3 0,.ref 587,.bool .true,.int 181 0,.ref 588,.none,.ref 589,.ref 590,.ref 591,.int 1081 0,.int 474 0,.str s9 1082],#[]⟩
noncomputable def u17:Params→BT:=fun x0=>.node o118 (.node (o187 x0) (.node c9 (.node o585 .nil .nil) .nil) (.node o453 (.node o717 .nil .nil) .nil)) (.node o255 (.node c43 (.node o653 .nil .nil) .nil) (.node c9 .nil .nil))
noncomputable def c569:Arguments:=fA (sP 102)
noncomputable def s307:Str:=⟨⟨[116,117,114,110]⟩⟩
noncomputable def c573:List Stmt:=fB (sP 102)
noncomputable def c574:FuncBody:=.stmts c573
noncomputable def c577:Scope:=fS (sP 102)
noncomputable def o751:Obj:=⟨.type t3,none,.func ⟨s283,s283,c569,c574,c577,3,[],.none,.none,.none,c481,none,.ref 687,.none,0⟩,#[]⟩
noncomputable def c578:List Nat:=[112,108,97,105,110]
noncomputable def s310:Str:=⟨⟨c578⟩⟩
noncomputable def o685:Obj:=⟨.type t2,none,.seq #[.str s287 1143,.str s288 1144,.str s144 1145,.str s161 1146,.str s143 1147,.str s289 1148,.str s150 1149,.str s141 1150,.str s169 1151,.str s146 1152,.str s310 1153] 0,#[]⟩
noncomputable def c579:BT:=.node o289 (.node o419 (.node o685 .nil .nil) .nil) (.node c9 .nil .nil)
noncomputable def c580:Arguments:=fA (sP 96)
noncomputable def c581:List Stmt:=fB (sP 96)
noncomputable def c582:FuncBody:=.stmts c581
noncomputable def c583:Scope:=fS (sP 96)
noncomputable def o709:Obj:=⟨.none,none,.func ⟨s277,s277,c580,c582,c583,0,[],.none,.none,.none,.none,none,.none,.none,0⟩,#[]⟩
noncomputable def c584:Arguments:=fA (sP 85)
noncomputable def c585:List Stmt:=fB (sP 85)
noncomputable def c586:FuncBody:=.stmts c585
noncomputable def c587:Scope:=fS (sP 85)
noncomputable def o645:Obj:=⟨.none,none,.func ⟨s202,s202,c584,c586,c587,0,[],.none,.none,.none,.none,none,.none,.none,0⟩,#[]⟩
noncomputable def c588:BT:=.node c43 (.node c9 (.node o313 (.node c9 .nil .nil) .nil) (.node c43 (.node o709 .nil .nil) .nil)) (.node c43 (.node c9 (.node o645 .nil .nil) .nil) (.node o511 .nil .nil))
noncomputable def c589:BT:=.node o281 (.node o411 (.node c43 .nil .nil) .nil) (.node o543 .nil .nil)
noncomputable def c590:Arguments:=fA (sP 87)
noncomputable def c592:List Stmt:=fB (sP 87)
noncomputable def c593:FuncBody:=.stmts c592
noncomputable def c594:Scope:=fS (sP 87)
noncomputable def o661:Obj:=⟨.type t3,none,.func ⟨s269,s269,c590,c593,c594,3,[],.none,.none,.none,c1,none,.ref 599,.none,0⟩,#[]⟩
noncomputable def c595:BT:=.node c9 (.node o395 (.node o661 .nil .nil) .nil) (.node o527 .nil .nil)
noncomputable def s311:Str:=⟨⟨[99,101,108,108,115]⟩⟩
noncomputable def o693:Obj:=⟨.type t2,none,.seq #[.str s284 1165,.str s236 1166,.str s311 1167,.str s307 1168] 0,#[]⟩
noncomputable def u18:Params→BT:=fun x0=>.node o161 c349 (.node o297 (.node o427 (.node o693 .nil .nil) .nil) (.node (o559 x0) .nil .nil))
noncomputable def o720:Obj:=⟨.none,none,.fields #[.int 24 0,.int 0 0,.ref 22,.int 33 0,.int 0 0,.ref 29,.int 35 0,.int 0 0,.ref 36,.int 45 0,.int 0 0,.ref 43,.int 106 0,.int 0 0,.ref 104,.int 116 0,.int 0 0,.ref 111,.int 122 0,.int 0 0,.ref 119,.int 128 0,.int 0 0,.ref 141,.int 130 0,.int 0 0,.ref 155,.int 134 0,.int 0 0,.ref 176,.int 138 0,.int 0 0,.ref 197,.int 140 0,.int 0 0,.ref 204,.int 142 0,.int 0 0,.ref 211,.int 155 0,.int 0 0,.ref 218,.int 161 0,.int 0 0,.ref 225,.int 165 0,.int 0 0,.ref 232,.int 169 0,.int 0 0,.ref 239,.int 178 0,.int 0 0,.ref 249,.int 185 0,.int 0 0,.ref 256,.int 190 0,.int 0 0,.ref 263,.int 199 0,.int 0 0,.ref 270,.int 201 0,.int 0 0,.ref 277,.int 213 0,.int 0 0,.ref 284,.int 216 0,.int 0 0,.ref 291,.int 218 0,.int 0 0,.ref 298,.int 220 0,.int 0 0,.ref 305,.int 222 0,.int 0 0,.ref 312,.int 224 0,.int 0 0,.ref 319,.int 227 0,.int 0 0,.ref 326,.int 229 0,.int 0 0,.ref 333,.int 231 0,.int 0 0,.ref 340,.int 233 0,.int 0 0,.ref 347,.int 237 0,.int 0 0,.ref 354,.int 240 0,.int 0 0,.ref 361,.int 243 0,.int 0 0,.ref 368,.int 245 0,.int 0 0,.ref 375,.int 258 0,.int 0 0,.ref 382,.int 264 0,.int 0 0,.ref 389,.int 284 0,.int 0 0,.ref 396,.int 286 0,.int 0 0,.ref 403,.int 299 0,.int 0 0,.ref 410,.int 311 0,.int 0 0,.ref 438,.int 419 0,.int 0 0,.ref 515,.int 426 0,.int 0 0,.ref 522,.int 434 0,.int 0 0,.ref 529,.int 437 0,.int 0 0,.ref 536,.int 465 0,.int 0 0,.ref 578,.int 471 0,.int 0 0,.ref 585,.int 474 0,.int 0 0,.ref 592,.int 492 0,.int 0 0,.ref 599,.int 507 0,.int 0 0,.ref 606,.int 518 0,.int 0 0,.ref 613,.int 525 0,.int 0 0,.ref 620,.int 533 0,.int 0 0,.ref 627,.int 551 0,.int 0 0,.ref 635,.int 557 0,.int 0 0,.ref 642,.int 572 0,.int 0 0,.ref 649,.int 577 0,.int 0 0,.ref 656,.int 583 0,.int 0 0,.ref 661,.int 596 0,.int 0 0,.ref 668,.int 600 0,.int 0 0,.ref 675,.int 607 0,.int 0 0,.ref 682,.int 618 0,.int 0 0,.ref 687],#[]⟩
noncomputable def c596:BT:=.node o106 (.node o173 (.node o309 (.node o573 .nil .nil) .nil) (.node o441 (.node c9 .nil .nil) .nil)) (.node o243 (.node c9 (.node c9 .nil .nil) .nil) (.node o507 .nil .nil))
noncomputable def c597:Arguments:=fA (sP 100)
noncomputable def c598:List Stmt:=fB (sP 100)
noncomputable def c599:FuncBody:=.stmts c598
noncomputable def c600:Scope:=fS (sP 100)
noncomputable def o739:Obj:=⟨.type t3,none,.func ⟨s281,s281,c597,c599,c600,3,[],.none,.none,.none,c481,none,.ref 675,.none,0⟩,#[]⟩
noncomputable def c601:Arguments:=fA (sP 89)
noncomputable def c602:List Stmt:=fB (sP 89)
noncomputable def c603:FuncBody:=.stmts c602
noncomputable def c604:Scope:=fS (sP 89)
noncomputable def o673:Obj:=⟨.none,none,.func ⟨s271,s271,c601,c603,c604,0,[],.none,.none,.none,.none,none,.none,.none,0⟩,#[]⟩
noncomputable def c605:BT:=.node c43 (.node c9 (.node o673 .nil .nil) .nil) (.node o539 .nil .nil)
noncomputable def c606:Arguments:=fA (sP 98)
noncomputable def c607:List Stmt:=fB (sP 98)
noncomputable def c608:FuncBody:=.stmts c607
noncomputable def c609:Scope:=fS (sP 98)
noncomputable def o723:Obj:=⟨.none,none,.func ⟨s279,s279,c606,c608,c609,0,[],.none,.none,.none,.none,none,.none,.none,0⟩,#[]⟩
noncomputable def o657:Obj:=⟨.type t2,none,.seq #[.str s295 1087,.str s144 1088,.str s161 1089,.str s143 1090,.str s289 1091,.str s150 1092,.str s287 1093,.str s288 1094,.str s141 1095,.str s140 1096] 0,#[]⟩
noncomputable def c610:BT:=.node o259 (.node o391 (.node o657 .nil .nil) .nil) (.node c9 .nil .nil)
noncomputable def c611:Arguments:=fA (sP 91)
noncomputable def c614:List Stmt:=fB (sP 91)
noncomputable def c615:FuncBody:=.stmts c614
noncomputable def c616:Scope:=fS (sP 91)
noncomputable def o689:Obj:=⟨.type t3,none,.func ⟨s273,s273,c611,c615,c616,3,[],.none,.none,.none,c1,none,.ref 627,.none,0⟩,#[]⟩
noncomputable def c617:BT:=.node o157 c429 (.node c9 (.node o423 (.node o689 .nil .nil) .nil) (.node o555 .nil .nil))
noncomputable def c618:BT:=.node o114 (.node c43 (.node c9 (.node c9 .nil .nil) .nil) (.node o449 (.node c43 .nil .nil) .nil)) (.node o251 (.node o383 (.node c43 .nil .nil) .nil) (.node o515 .nil .nil))
noncomputable def o681:Obj:=⟨.type t6,none,.fields #[.str s272 1128,.str s272 1129,.str s9 1130,.int 525 0,.int 4 0,.int 0 0,.int 0 0,.int 3 0,.ref 615,.bool .true,.int 181 0,.ref 616,.none,.ref 617,.ref 618,.ref 619,.int 1137 0,.int 525 0,.str s9 1138],#[]⟩
noncomputable def c619:BT:=.node o285 (.node c43 (.node o681 .nil .nil) .nil) (.node c9 .nil .nil)
noncomputable def o731:Obj:=⟨.type t6,none,.fields #[.str s280 1204,.str s280 1205,.str s9 1206,.int 596 0,.int 2 0,.int 0 0,.int 0 0,.int 3 0,.ref 663,.bool .true,.int 181 0,.ref 664,.none,.ref 665,.ref 666,.ref 667,.int 1209 0,.int 596 0,.str s9 1210],#[]⟩
noncomputable def c620:BT:=.node c9 (.node o399 (.node c9 .nil .nil) .nil) (.node c43 .nil .nil)
noncomputable def c621:Arguments:=fA (sP 94)
noncomputable def c622:List Stmt:=fB (sP 94)
noncomputable def c623:FuncBody:=.stmts c622
noncomputable def c624:Scope:=fS (sP 94)
noncomputable def o697:Obj:=⟨.type t3,none,.func ⟨s275,s275,c621,c623,c624,3,[],.none,.none,.none,c481,none,.ref 635,.none,0⟩,#[]⟩
noncomputable def c625:BT:=.node c43 c462 (.node c43 (.node c9 (.node o697 .nil .nil) .nil) (.node o563 .nil .nil))
noncomputable def o703:Obj:=⟨.type t6,none,.fields #[.str s276 1172,.str s276 1173,.str s9 1174,.int 557 0,.int 2 0,.int 0 0,.int 0 0,.int 3 0,.ref 637,.bool .true,.int 181 0,.ref 638,.none,.ref 639,.ref 640,.ref 641,.int 1178 0,.int 557 0,.str s9 1179],#[]⟩
noncomputable def c626:BT:=.node c9 (.node o171 (.node c9 (.node o571 .nil .nil) .nil) (.node o439 (.node o703 .nil .nil) .nil)) c464
noncomputable def o737:Obj:=⟨.none,none,.func ⟨s281,s281,c597,c599,c600,0,[],.none,.none,.none,.none,none,.none,.none,0⟩,#[]⟩
noncomputable def o671:Obj:=⟨.type t2,none,.seq #[.str s287 1115,.str s288 1116,.str s144 1117,.str s161 1118,.str s143 1119,.str s289 1120,.str s150 1121,.str s141 1122,.str s128 1123,.str s151 1124] 0,#[]⟩
noncomputable def c627:BT:=.node o273 (.node o405 (.node o671 .nil .nil) .nil) (.node c9 .nil .nil)
noncomputable def c628:BT:=.node o257 (.node c9 (.node c9 .nil .nil) .nil) (.node o521 .nil .nil)
noncomputable def o687:Obj:=⟨.none,none,.func ⟨s273,s273,c611,c615,c616,0,[],.none,.none,.none,.none,none,.none,.none,0⟩,#[]⟩
noncomputable def c629:BT:=.node c105 c468 (.node o291 (.node c9 (.node o687 .nil .nil) .nil) (.node o553 .nil .nil))
noncomputable def o711:Obj:=⟨.type t3,none,.func ⟨s277,s277,c580,c582,c583,3,[],.none,.none,.none,c481,none,.ref 649,.none,0⟩,#[]⟩
noncomputable def o647:Obj:=⟨.type t3,none,.func ⟨s202,s202,c584,c586,c587,3,[],.none,.none,.none,c1,none,.ref 585,.none,0⟩,#[]⟩
noncomputable def u19:Params→BT:=fun x0=>.node c9 (.node (o181 x0) (.node c43 (.node o579 .nil .nil) .nil) (.node c9 (.node o711 .nil .nil) .nil)) (.node c9 (.node o381 (.node o647 .nil .nil) .nil) (.node o513 .nil .nil))
noncomputable def o745:Obj:=⟨.type t6,none,.fields #[.str s282 1221,.str s282 1222,.str s9 1223,.int 607 0,.int 2 0,.int 0 0,.int 0 0,.int 3 0,.ref 677,.bool .true,.int 181 0,.ref 678,.none,.ref 679,.ref 680,.ref 681,.int 1227 0,.int 607 0,.str s9 1228],#[]⟩
noncomputable def c630:BT:=.node c9 (.node o413 (.node c9 .nil .nil) .nil) (.node c43 .nil .nil)
noncomputable def c631:BT:=.node o265 (.node o397 (.node c43 .nil .nil) .nil) (.node o529 .nil .nil)
noncomputable def o695:Obj:=⟨.none,none,.func ⟨s275,s275,c621,c623,c624,0,[],.none,.none,.none,.none,none,.none,.none,0⟩,#[]⟩
noncomputable def u20:Params→BT:=fun x0=>.node o163 (u13 x0) (.node o299 (.node c43 (.node o695 .nil .nil) .nil) (.node o561 .nil .nil))
noncomputable def o707:Obj:=⟨.type t2,none,.seq #[.str s200 1184,.str s145 1185,.str s175 1186] 0,#[]⟩
noncomputable def o643:Obj:=⟨.type t2,none,.seq #[.str s125 1061,.str s143 1062,.str s151 1063,.str s150 1064,.str s145 1065] 0,#[]⟩
noncomputable def c632:BT:=.node o108 (.node o175 (.node o311 (.node c43 .nil .nil) .nil) (.node o443 (.node o707 .nil .nil) .nil)) (.node o245 (.node o377 (.node o643 .nil .nil) .nil) (.node c9 .nil .nil))
noncomputable def o675:Obj:=⟨.type t3,none,.func ⟨s271,s271,c601,c603,c604,3,[],.none,.none,.none,c1,none,.ref 613,.none,0⟩,#[]⟩
noncomputable def c633:BT:=.node c9 (.node o409 (.node o675 .nil .nil) .nil) (.node o541 .nil .nil)
noncomputable def o725:Obj:=⟨.type t3,none,.func ⟨s279,s279,c606,c608,c609,3,[],.none,.none,.none,c481,none,.ref 661,.none,0⟩,#[]⟩
noncomputable def o659:Obj:=⟨.none,none,.func ⟨s269,s269,c590,c593,c594,0,[],.none,.none,.none,.none,none,.none,.none,0⟩,#[]⟩
noncomputable def c634:BT:=.node c43 (.node c9 (.node o659 .nil .nil) .nil) (.node o525 .nil .nil)
noncomputable def c635:BT:=.node o159 c474 (.node o295 (.node o425 (.node c9 .nil .nil) .nil) (.node o557 .nil .nil))
noncomputable def c636:BT:=.node c9 (.node o185 (.node o319 (.node o583 .nil .nil) .nil) (.node c9 (.node c9 .nil .nil) .nil)) (.node c9 (.node o385 (.node c9 .nil .nil) .nil) (.node c43 .nil .nil))
noncomputable def o749:Obj:=⟨.none,none,.func ⟨s283,s283,c569,c574,c577,0,[],.none,.none,.none,.none,none,.none,.none,0⟩,#[]⟩
noncomputable def c637:BT:=.node o287 (.node c9 (.node c9 .nil .nil) .nil) (.node o549 .nil .nil)
noncomputable def o667:Obj:=⟨.type t6,none,.fields #[.str s270 1100,.str s270 1101,.str s9 1102,.int 507 0,.int 5 0,.int 0 0,.int 0 0,.int 3 0,.ref 601,.bool .true,.int 181 0,.ref 602,.none,.ref 603,.ref 604,.ref 605,.int 1109 0,.int 507 0,.str s9 1110],#[]⟩
noncomputable def c638:BT:=.node o269 (.node c43 (.node o667 .nil .nil) .nil) (.node c9 .nil .nil)
noncomputable def c639:BT:=.node c9 c478 (.node c9 (.node o433 (.node c43 .nil .nil) .nil) (.node c9 .nil .nil))
noncomputable def tr751:Params→BT:=fun x0=>.node (boot_o_0 x0) (.node (boot_o_1 x0) (.node (o719 x0) (.node (boot_o_7 x0) (.node o51 (.node c9 c482 (.node o133 (.node o204 (.node c43 (.node o602 .nil .nil) .nil) (.node c9 (.node c43 .nil .nil) .nil)) c493)) (.node o85 c510 (.node o152 (.node o222 (.node c9 (.node c9 .nil .nil) .nil) (.node o484 (.node o750 .nil .nil) .nil)) c511))) (.node o59 (.node c105 c512 (.node o144 (.node o212 (.node o344 (.node o610 .nil .nil) .nil) (.node o476 (.node o742 .nil .nil) .nil)) c513)) (.node c9 (.node o125 (.node c105 (.node c9 (.node o594 .nil .nil) .nil) (.node (o460 x0) (.node c9 .nil .nil) .nil)) c514) (u14 x0)))) (.node c9 (.node o55 (.node o71 (u15 x0) (.node c9 (.node o208 (.node o340 (.node o606 .nil .nil) .nil) (.node c9 (.node o738 .nil .nil) .nil)) c522)) (.node o89 (.node o121 (.node o190 (.node c9 (.node c9 .nil .nil) .nil) (.node o456 (.node c43 .nil .nil) .nil)) c523) (u16 x0))) (.node c9 (.node o81 c524 (.node c43 (.node c9 (.node o348 (.node c9 .nil .nil) .nil) (.node (o480 x0) (.node o746 .nil .nil) .nil)) c546)) (.node c9 (.node o129 (.node o200 (.node o332 (.node c43 .nil .nil) .nil) (.node o464 (.node o730 .nil .nil) .nil)) c550) c551)))) (.node (boot_o_5 x0) (.node (boot_o_9 x0) (.node c9 (.node o69 c552 (.node o135 (.node o206 (.node c9 (.node c9 .nil .nil) .nil) (.node o470 (.node c9 .nil .nil) .nil)) c553)) c554) (.node c43 (.node c9 c555 (.node o146 (.node o214 (.node o346 (.node c43 .nil .nil) .nil) (.node o478 (.node o744 .nil .nil) .nil)) c556)) (.node o95 (.node o127 (.node c9 (.node o330 (.node o596 .nil .nil) .nil) (.node o462 (.node o728 .nil .nil) .nil)) c557) c558))) (.node o45 (.node o57 (.node o73 c559 (.node o142 (.node (o210 x0) (.node c9 (.node o608 .nil .nil) .nil) (.node o474 (.node c9 .nil .nil) .nil)) c560)) (.node c43 (.node c9 (.node o192 (u6 x0) (.node c9 (.node o724 .nil .nil) .nil)) c561) c562)) (.node o65 (.node c9 c563 (.node c9 (.node (o220 x0) (.node c43 (.node o616 .nil .nil) .nil) (.node o482 (.node c43 .nil .nil) .nil)) c564)) (.node o99 (.node (o131 x0) (.node c9 (.node o334 (.node c9 .nil .nil) .nil) (.node c43 (.node o732 .nil .nil) .nil)) c565) c566))))) (.node (o137 x0) (.node (boot_o_4 x0) (.node (boot_o_8 x0) (.node o52 (.node c43 c567 (.node o134 (.node c9 (.node o337 (.node o603 .nil .nil) .nil) (.node o469 (.node o735 .nil .nil) .nil)) c568)) (.node c9 (u17 x0) (.node o153 (.node o223 (.node o355 (.node c43 .nil .nil) .nil) (.node o485 (.node o751 .nil .nil) .nil)) c579))) (.node c9 (.node (o78 x0) c588 (.node o145 (.node o213 (.node c9 (.node c9 .nil .nil) .nil) (.node o477 (.node c9 .nil .nil) .nil)) c589)) (.node o94 (.node c9 (.node (o197 x0) (.node c43 (.node o595 .nil .nil) .nil) (.node c9 (.node c43 .nil .nil) .nil)) c595) (u18 x0)))) (.node o720 (.node c9 (.node o72 c596 (.node c43 (.node o209 (.node o341 (.node c9 .nil .nil) .nil) (.node c43 (.node o739 .nil .nil) .nil)) c605)) (.node c9 (.node o122 (.node o191 (.node o325 (.node c105 .nil .nil) .nil) (.node o457 (.node o723 .nil .nil) .nil)) c610) c617)) (.node o64 (.node o82 c618 (.node o149 (.node c105 (.node c9 (.node o615 .nil .nil) .nil) (.node o481 (.node c9 .nil .nil) .nil)) c619)) (.node c43 (.node o130 (.node o201 (.node o333 (.node o599 .nil .nil) .nil) (.node c9 (.node o731 .nil .nil) .nil)) c620) c625)))) (.node (boot_o_6 x0) (.node (boot_o_10 x0) (.node c43 (.node c9 c626 (.node o136 (.node o207 (.node o339 (.node c43 .nil .nil) .nil) (.node o471 (.node o737 .nil .nil) .nil)) c627)) (.node o88 (.node o120 (.node o189 (.node o323 (.node o587 .nil .nil) .nil) (.node o455 (.node c9 .nil .nil) .nil)) c628) c629)) (.node o62 (.node o80 (u19 x0) (.node c9 (.node o215 (.node o347 (.node o613 .nil .nil) .nil) (.node o479 (.node o745 .nil .nil) .nil)) c630)) (.node o96 (.node o128 (.node o199 (.node c9 (.node c9 .nil .nil) .nil) (.node o463 (.node c9 .nil .nil) .nil)) c631) (u20 x0)))) (.node o46 (.node o58 (.node c9 c632 (.node c9 (.node o211 (.node c43 (.node o609 .nil .nil) .nil) (.node c9 (.node c43 .nil .nil) .nil)) c633)) (.node o92 (.node c43 (.node c9 (.node o327 (.node c9 .nil .nil) .nil) (.node c105 (.node o725 .nil .nil) .nil)) c634) c635)) (.node o66 (.node c43 c636 (.node o151 (.node c9 (.node o353 (.node o617 .nil .nil) .nil) (.node o483 (.node o749 .nil .nil) .nil)) c637)) (.node c9 (.node o132 (.node c43 (.node c9 (.node o601 .nil .nil) .nil) (.node o467 (.node c9 .nil .nil) .nil)) c638) c639)))))
noncomputable def tr47:Params→BT:=fun x0=>.node (boot_o_0 x0) (.node (boot_o_1 x0) (.node (boot_o_3 x0) (.node (boot_o_7 x0) .nil .nil) (.node c9 .nil .nil)) (.node (boot_o_5 x0) (.node (boot_o_9 x0) .nil .nil) (.node o45 .nil .nil))) (.node (boot_o_2 x0) (.node (boot_o_4 x0) (.node (boot_o_8 x0) .nil .nil) (.node c43 .nil .nil)) (.node (boot_o_6 x0) (.node (boot_o_10 x0) .nil .nil) (.node o46 .nil .nil)))
noncomputable def c688:Life:=⟨[],[],[],0,[],[],.false,#[],[],0,.false,.false,.false,0,[2000,10,10],.false,0,.true,[],[],0,.false⟩
noncomputable def hp46:Params→Heap:=fun x0=>⟨⟨[boot_o_0 x0,boot_o_1 x0,boot_o_2 x0,boot_o_3 x0,boot_o_4 x0,boot_o_5 x0,boot_o_6 x0,boot_o_7 x0,boot_o_8 x0,boot_o_9 x0,boot_o_10 x0,c9,c43,o45,o46]⟩,c688⟩
noncomputable def u21:Params→BT:=fun x0=>.node c43 (.node (o172 x0) .nil .nil) .nil
noncomputable def pw1:Program:=PySem.Challenge.pw_sa0603_01
noncomputable def rw1:OpenLaw:=⟨pw1,s283,[s107],10,some 63,none,.false⟩
noncomputable def vw:Program:=⟨⟨cut 1 28++cut 30 11++cut 42 3++cut 46 4++cut 51 20++cut 72 8++cut 81 1++cut 83 9++cut 93 10,PySem.Challenge.pw_sa0603_01.main.scope,Module.futureAnnotations (Program.main (OpenRow.toRowW (Fast.tw2368527892694137696 rw1)).1),Module.file (Program.main (OpenRow.toRowW (Fast.tw2368527892694137696 rw1)).1),Module.more (Program.main (OpenRow.toRowW (Fast.tw2368527892694137696 rw1)).1)⟩,Program.modules (OpenRow.toRowW (Fast.tw2368527892694137696 rw1)).1,Program.parses (OpenRow.toRowW (Fast.tw2368527892694137696 rw1)).1,Program.absent (OpenRow.toRowW (Fast.tw2368527892694137696 rw1)).1,Program.harvested (OpenRow.toRowW (Fast.tw2368527892694137696 rw1)).1,Program.given (OpenRow.toRowW (Fast.tw2368527892694137696 rw1)).1⟩
noncomputable def c749:BT:=.node o133 (.node o204 (.node c43 .nil .nil) (.node c9 .nil .nil)) (.node c9 (.node o402 .nil .nil) (.node o534 .nil .nil))
noncomputable def c750:BT:=.node o152 (.node o222 (.node c9 .nil .nil) (.node o484 .nil .nil)) (.node o288 (.node o418 .nil .nil) (.node o550 .nil .nil))
noncomputable def c751:BT:=.node o144 (.node o212 (.node o344 .nil .nil) (.node o476 .nil .nil)) (.node o280 (.node c9 .nil .nil) (.node o542 .nil .nil))
noncomputable def u24:Params→BT:=fun x0=>.node c105 (.node c9 .nil .nil) (.node (o460 x0) .nil .nil)
noncomputable def u25:Params→BT:=fun x0=>.node c9 (.node o125 (u24 x0) (.node o262 (.node c43 .nil .nil) (.node c9 .nil .nil))) (.node o160 (.node o230 (.node o362 .nil .nil) (.node o494 .nil .nil)) (.node c9 (.node o426 .nil .nil) (.node o558 .nil .nil)))
noncomputable def c752:BT:=.node c9 (.node o208 (.node o340 .nil .nil) (.node c9 .nil .nil)) (.node c9 (.node o406 .nil .nil) (.node c43 .nil .nil))
noncomputable def u26:Params→BT:=fun x0=>.node o89 (.node o121 (.node o190 (.node c9 .nil .nil) (.node o456 .nil .nil)) (.node o258 (.node o390 .nil .nil) (.node o522 .nil .nil))) (.node (o156 x0) (.node c43 (.node c9 .nil .nil) (.node (o490 x0) .nil .nil)) (.node o292 (.node c43 .nil .nil) (.node c9 .nil .nil)))
noncomputable def u27:Params→BT:=fun x0=>.node c9 (.node o348 .nil .nil) (.node (o480 x0) .nil .nil)
noncomputable def u28:Params→BT:=fun x0=>.node c43 (u27 x0) (.node c43 (.node c9 .nil .nil) (.node o546 .nil .nil))
noncomputable def c753:BT:=.node c9 (.node o129 (.node o200 (.node o332 .nil .nil) (.node o464 .nil .nil)) (.node o266 (.node o398 .nil .nil) (.node c9 .nil .nil))) (.node o164 (.node o234 (.node c43 .nil .nil) (.node c9 .nil .nil)) (.node c9 (.node o430 .nil .nil) (.node o562 .nil .nil)))
noncomputable def c754:BT:=.node o135 (.node o206 (.node c9 .nil .nil) (.node o470 .nil .nil)) (.node o272 (.node o404 .nil .nil) (.node o536 .nil .nil))
noncomputable def c755:BT:=.node o154 (.node o224 (.node o356 .nil .nil) (.node c9 .nil .nil)) (.node o290 (.node o420 .nil .nil) (.node c43 .nil .nil))
noncomputable def c756:BT:=.node o146 (.node o214 (.node o346 .nil .nil) (.node o478 .nil .nil)) (.node o282 (.node o412 .nil .nil) (.node c9 .nil .nil))
noncomputable def c757:BT:=.node o95 (.node o127 (.node c9 (.node o330 .nil .nil) (.node o462 .nil .nil)) (.node o264 (.node c9 .nil .nil) (.node o528 .nil .nil))) (.node o162 (.node o232 (.node o364 .nil .nil) (.node c43 .nil .nil)) (.node o298 (.node c9 .nil .nil) (.node o560 .nil .nil)))
noncomputable def u29:Params→BT:=fun x0=>.node (o210 x0) (.node c9 .nil .nil) (.node o474 .nil .nil)
noncomputable def u30:Params→BT:=fun x0=>.node o142 (u29 x0) (.node o278 (.node c43 .nil .nil) (.node c9 .nil .nil))
noncomputable def c758:BT:=.node c43 (.node c9 (.node o192 (.node o326 .nil .nil) (.node c9 .nil .nil)) (.node c9 (.node o392 .nil .nil) (.node c43 .nil .nil))) (.node c9 (.node c9 (.node o360 .nil .nil) (.node o492 .nil .nil)) (.node c43 (.node c9 .nil .nil) (.node o556 .nil .nil)))
noncomputable def u31:Params→BT:=fun x0=>.node (o220 x0) (.node c43 .nil .nil) (.node o482 .nil .nil)
noncomputable def u32:Params→BT:=fun x0=>.node c9 (u31 x0) (.node c9 (.node o416 .nil .nil) (.node o548 .nil .nil))
noncomputable def u33:Params→BT:=fun x0=>.node o99 (.node (o131 x0) (.node c9 (.node o334 .nil .nil) (.node c43 .nil .nil)) (.node c43 (.node c9 .nil .nil) (.node o532 .nil .nil))) (.node o166 (.node o236 (.node c9 .nil .nil) (.node o500 .nil .nil)) (.node o302 (.node o432 .nil .nil) (.node o564 .nil .nil)))
noncomputable def c759:BT:=.node o134 (.node c9 (.node o337 .nil .nil) (.node o469 .nil .nil)) (.node o271 (.node c9 .nil .nil) (.node o535 .nil .nil))
noncomputable def c760:BT:=.node o153 (.node o223 (.node o355 .nil .nil) (.node o485 .nil .nil)) (.node o289 (.node o419 .nil .nil) (.node c9 .nil .nil))
noncomputable def c761:BT:=.node o145 (.node o213 (.node c9 .nil .nil) (.node o477 .nil .nil)) (.node o281 (.node o411 .nil .nil) (.node o543 .nil .nil))
noncomputable def u34:Params→BT:=fun x0=>.node (o197 x0) (.node c43 .nil .nil) (.node c9 .nil .nil)
noncomputable def u35:Params→BT:=fun x0=>.node o94 (.node c9 (u34 x0) (.node c9 (.node o395 .nil .nil) (.node o527 .nil .nil))) (.node o161 (.node o231 (.node o363 .nil .nil) (.node c9 .nil .nil)) (u11 x0))
noncomputable def c762:BT:=.node c43 (.node o209 (.node o341 .nil .nil) (.node c43 .nil .nil)) (.node c43 (.node c9 .nil .nil) (.node o539 .nil .nil))
noncomputable def c763:BT:=.node c9 (.node o122 (.node o191 (.node o325 .nil .nil) (.node o457 .nil .nil)) (.node o259 (.node o391 .nil .nil) (.node c9 .nil .nil))) (.node o157 (.node o227 (.node c43 .nil .nil) (.node c9 .nil .nil)) (.node c9 (.node o423 .nil .nil) (.node o555 .nil .nil)))
noncomputable def c764:BT:=.node o149 (.node c105 (.node c9 .nil .nil) (.node o481 .nil .nil)) (.node o285 (.node c43 .nil .nil) (.node c9 .nil .nil))
noncomputable def c765:BT:=.node c43 (.node o130 (.node o201 (.node o333 .nil .nil) (.node c9 .nil .nil)) (.node c9 (.node o399 .nil .nil) (.node c43 .nil .nil))) (.node c43 (.node o235 (.node o367 .nil .nil) (.node o499 .nil .nil)) (.node c43 (.node c9 .nil .nil) (.node o563 .nil .nil)))
noncomputable def c766:BT:=.node o136 (.node o207 (.node o339 .nil .nil) (.node o471 .nil .nil)) (.node o273 (.node o405 .nil .nil) (.node c9 .nil .nil))
noncomputable def c767:BT:=.node c105 (.node c9 (.node o357 .nil .nil) (.node c105 .nil .nil)) (.node o291 (.node c9 .nil .nil) (.node o553 .nil .nil))
noncomputable def c768:BT:=.node c9 (.node o215 (.node o347 .nil .nil) (.node o479 .nil .nil)) (.node c9 (.node o413 .nil .nil) (.node c43 .nil .nil))
noncomputable def u36:Params→BT:=fun x0=>.node o96 (.node o128 (.node o199 (.node c9 .nil .nil) (.node o463 .nil .nil)) (.node o265 (.node o397 .nil .nil) (.node o529 .nil .nil))) (.node o163 (.node (o233 x0) (.node c9 .nil .nil) (.node o497 .nil .nil)) (.node o299 (.node c43 .nil .nil) (.node o561 .nil .nil)))
noncomputable def c769:BT:=.node c9 (.node o211 (.node c43 .nil .nil) (.node c9 .nil .nil)) (.node c9 (.node o409 .nil .nil) (.node o541 .nil .nil))
noncomputable def c770:BT:=.node o92 (.node c43 (.node c9 (.node o327 .nil .nil) (.node c105 .nil .nil)) (.node c43 (.node c9 .nil .nil) (.node o525 .nil .nil))) (.node o159 (.node o229 (.node c9 .nil .nil) (.node o493 .nil .nil)) (.node o295 (.node o425 .nil .nil) (.node o557 .nil .nil)))
noncomputable def c771:BT:=.node o151 (.node c9 (.node o353 .nil .nil) (.node o483 .nil .nil)) (.node o287 (.node c9 .nil .nil) (.node o549 .nil .nil))
noncomputable def c772:BT:=.node o132 (.node c43 (.node c9 .nil .nil) (.node o467 .nil .nil)) (.node o269 (.node c43 .nil .nil) (.node c9 .nil .nil))
noncomputable def o486:Params→Obj:=fun x0=>⟨.type t0,none,.dict #[⟨PyData.keyHash x0 s0,c0,c96⟩,⟨PyData.keyHash x0 s2,.str s2 166,.none⟩,⟨PyData.keyHash x0 s3,.str s3 167,.none⟩,⟨PyData.keyHash x0 s4,.str s4 168,.builtin t1⟩,⟨PyData.keyHash x0 s5,.str s5 169,.none⟩,⟨PyData.keyHash x0 s6,.str s6 170,.ref 6⟩,⟨PyData.keyHash x0 s7,.str s7 171,.ref 4⟩,⟨PyData.keyHash x0 s8,.str s8 173,.str s9 172⟩,⟨PyData.keyHash x0 s10,.str s10 174,.none⟩,⟨PyData.keyHash x0 s11,.str s11 190,.str s12 189⟩,⟨PyData.keyHash x0 s13,.str s13 192,.str s14 191⟩,⟨PyData.keyHash x0 s15,.str s15 194,.str s16 193⟩,⟨PyData.keyHash x0 s17,.str s17 196,.str s18 195⟩,⟨PyData.keyHash x0 s19,.str s19 198,.str s20 197⟩,⟨PyData.keyHash x0 s21,.str s21 200,.str s22 199⟩,⟨PyData.keyHash x0 s23,.str s23 202,.str s24 201⟩,⟨PyData.keyHash x0 s25,.str s25 204,.str s26 203⟩,⟨PyData.keyHash x0 s27,.str s27 206,.str s28 205⟩,⟨PyData.keyHash x0 s29,.str s29 208,.str s30 207⟩,⟨PyData.keyHash x0 s31,.str s31 210,.str s32 209⟩,⟨PyData.keyHash x0 s33,.str s33 212,.str s34 211⟩,⟨PyData.keyHash x0 s35,.str s35 214,.str s36 213⟩,⟨PyData.keyHash x0 s37,.str s37 216,.str s38 215⟩,⟨PyData.keyHash x0 s39,.str s39 218,.str s40 217⟩,⟨PyData.keyHash x0 s41,.str s41 220,.str s42 219⟩,⟨PyData.keyHash x0 s43,.str s43 222,.str s44 221⟩,⟨PyData.keyHash x0 s45,.str s45 224,.str s46 223⟩,⟨PyData.keyHash x0 s47,.str s47 226,.str s48 225⟩,⟨PyData.keyHash x0 s49,.str s49 228,.str s50 227⟩,⟨PyData.keyHash x0 s51,.str s51 240,.ref 15⟩,⟨PyData.keyHash x0 s52,.str s52 245,.ref 16⟩,⟨PyData.keyHash x0 s53,.str s53 256,.ref 23⟩,⟨PyData.keyHash x0 s54,.str s54 263,.ref 30⟩,⟨PyData.keyHash x0 s55,.str s55 272,.ref 37⟩,⟨PyData.keyHash x0 s56,.str s56 356,.ref 94⟩,⟨PyData.keyHash x0 s57,.str s57 366,.ref 105⟩,⟨PyData.keyHash x0 s58,.str s58 374,.ref 112⟩,⟨PyData.keyHash x0 s59,.str s59 410,.ref 132⟩,⟨PyData.keyHash x0 s60,.str s60 430,.ref 145⟩,⟨PyData.keyHash x0 s61,.str s61 459,.ref 166⟩,⟨PyData.keyHash x0 s62,.str s62 488,.ref 187⟩,⟨PyData.keyHash x0 s63,.str s63 495,.ref 198⟩,⟨PyData.keyHash x0 s64,.str s64 503,.ref 205⟩,⟨PyData.keyHash x0 s65,.str s65 514,.ref 212⟩,⟨PyData.keyHash x0 s66,.str s66 523,.ref 219⟩,⟨PyData.keyHash x0 s67,.str s67 531,.ref 226⟩,⟨PyData.keyHash x0 s68,.str s68 538,.ref 233⟩,⟨PyData.keyHash x0 s69,.str s69 546,.ref 240⟩,⟨PyData.keyHash x0 s70,.str s70 554,.ref 241⟩,⟨PyData.keyHash x0 s71,.str s71 559,.ref 242⟩,⟨PyData.keyHash x0 s72,.str s72 561,.int 64 560⟩,⟨PyData.keyHash x0 s73,.str s73 571,.ref 250⟩,⟨PyData.keyHash x0 s74,.str s74 580,.ref 257⟩,⟨PyData.keyHash x0 s75,.str s75 588,.ref 264⟩,⟨PyData.keyHash x0 s76,.str s76 595,.ref 271⟩,⟨PyData.keyHash x0 s77,.str s77 604,.ref 278⟩,⟨PyData.keyHash x0 s78,.str s78 608,.str s79 607⟩,⟨PyData.keyHash x0 s80,.str s80 610,.str s81 609⟩,⟨PyData.keyHash x0 s82,.str s82 620,.ref 285⟩,⟨PyData.keyHash x0 s83,.str s83 629,.ref 292⟩,⟨PyData.keyHash x0 s84,.str s84 637,.ref 299⟩,⟨PyData.keyHash x0 s85,.str s85 646,.ref 306⟩,⟨PyData.keyHash x0 s86,.str s86 655,.ref 313⟩,⟨PyData.keyHash x0 s87,.str s87 665,.ref 320⟩,⟨PyData.keyHash x0 s88,.str s88 672,.ref 327⟩,⟨PyData.keyHash x0 s89,.str s89 681,.ref 334⟩,⟨PyData.keyHash x0 s90,.str s90 690,.ref 341⟩,⟨PyData.keyHash x0 s91,.str s91 700,.ref 348⟩,⟨PyData.keyHash x0 s92,.str s92 710,.ref 355⟩,⟨PyData.keyHash x0 s93,.str s93 720,.ref 362⟩,⟨PyData.keyHash x0 s94,.str s94 728,.ref 369⟩,⟨PyData.keyHash x0 s95,.str s95 737,.ref 376⟩,⟨PyData.keyHash x0 s96,.str s96 747,.ref 383⟩,⟨PyData.keyHash x0 s97,.str s97 757,.ref 390⟩,⟨PyData.keyHash x0 s98,.str s98 766,.ref 397⟩,⟨PyData.keyHash x0 s99,.str s99 777,.ref 404⟩,⟨PyData.keyHash x0 s100,.str s100 781,.int 0 780⟩,⟨PyData.keyHash x0 s101,.str s101 783,.int 1 782⟩,⟨PyData.keyHash x0 s102,.str s102 785,.int 2 784⟩,⟨PyData.keyHash x0 s103,.str s103 832,.ref 428⟩,⟨PyData.keyHash x0 s104,.str s104 947,.ref 505⟩] 81,#[]⟩
noncomputable def u37:Params→BT:=fun x0=>.node (o172 x0) (.node c43 .nil .nil) (.node c9 .nil .nil)
noncomputable def u38:Params→BT:=fun x0=>.node (o187 x0) (.node c9 .nil .nil) (.node o453 .nil .nil)
noncomputable def o487:Obj:=⟨.none,none,.fields #[.int 24 0,.int 0 0,.ref 22,.int 33 0,.int 0 0,.ref 29,.int 35 0,.int 0 0,.ref 36,.int 45 0,.int 0 0,.ref 43,.int 106 0,.int 0 0,.ref 104,.int 116 0,.int 0 0,.ref 111,.int 122 0,.int 0 0,.ref 119,.int 128 0,.int 0 0,.ref 141,.int 130 0,.int 0 0,.ref 155,.int 134 0,.int 0 0,.ref 176,.int 138 0,.int 0 0,.ref 197,.int 140 0,.int 0 0,.ref 204,.int 142 0,.int 0 0,.ref 211,.int 155 0,.int 0 0,.ref 218,.int 161 0,.int 0 0,.ref 225,.int 165 0,.int 0 0,.ref 232,.int 169 0,.int 0 0,.ref 239,.int 178 0,.int 0 0,.ref 249,.int 185 0,.int 0 0,.ref 256,.int 190 0,.int 0 0,.ref 263,.int 199 0,.int 0 0,.ref 270,.int 201 0,.int 0 0,.ref 277,.int 213 0,.int 0 0,.ref 284,.int 216 0,.int 0 0,.ref 291,.int 218 0,.int 0 0,.ref 298,.int 220 0,.int 0 0,.ref 305,.int 222 0,.int 0 0,.ref 312,.int 224 0,.int 0 0,.ref 319,.int 227 0,.int 0 0,.ref 326,.int 229 0,.int 0 0,.ref 333,.int 231 0,.int 0 0,.ref 340,.int 233 0,.int 0 0,.ref 347,.int 237 0,.int 0 0,.ref 354,.int 240 0,.int 0 0,.ref 361,.int 243 0,.int 0 0,.ref 368,.int 245 0,.int 0 0,.ref 375,.int 258 0,.int 0 0,.ref 382,.int 264 0,.int 0 0,.ref 389,.int 284 0,.int 0 0,.ref 396,.int 286 0,.int 0 0,.ref 403,.int 299 0,.int 0 0,.ref 410,.int 311 0,.int 0 0,.ref 438],#[]⟩
noncomputable def u39:Params→BT:=fun x0=>.node (o181 x0) (.node c43 .nil .nil) (.node c9 .nil .nil)
noncomputable def tr564:Params→BT:=fun x0=>.node (boot_o_0 x0) (.node (boot_o_1 x0) (.node (o486 x0) (.node (boot_o_7 x0) (.node o51 (.node c9 (.node o101 (.node o168 (.node o304 .nil .nil) (.node o434 .nil .nil)) (.node o238 (.node o370 .nil .nil) (.node c9 .nil .nil))) c749) (.node o85 (.node c43 (.node c9 (.node o320 .nil .nil) (.node c43 .nil .nil)) (.node c43 (.node c9 .nil .nil) (.node o518 .nil .nil))) c750)) (.node o59 (.node c105 (.node c9 (.node o176 (.node o312 .nil .nil) (.node c9 .nil .nil)) (.node c9 (.node o378 .nil .nil) (.node c43 .nil .nil))) c751) (u25 x0))) (.node c9 (.node o55 (.node o71 (.node c43 (u37 x0) (.node c9 (.node o374 .nil .nil) (.node o506 .nil .nil))) c752) (u26 x0)) (.node c9 (.node o81 (.node o113 (.node c9 (.node o316 .nil .nil) (.node o448 .nil .nil)) (.node o250 (.node c9 .nil .nil) (.node o514 .nil .nil))) (u28 x0)) c753))) (.node (boot_o_5 x0) (.node (boot_o_9 x0) (.node c9 (.node o69 (.node o103 (.node o170 (.node o306 .nil .nil) (.node c43 .nil .nil)) (.node c43 (.node c9 .nil .nil) (.node o504 .nil .nil))) c754) (.node o87 (.node c9 (.node o188 (.node c43 .nil .nil) (.node c9 .nil .nil)) (.node c9 (.node o388 .nil .nil) (.node o520 .nil .nil))) c755)) (.node c43 (.node c9 (.node o111 (.node c105 (.node c9 .nil .nil) (.node o446 .nil .nil)) (.node o248 (.node c43 .nil .nil) (.node c9 .nil .nil))) c756) c757)) (.node o45 (.node o57 (.node o73 (.node o107 (.node o174 (.node c9 .nil .nil) (.node o442 .nil .nil)) (.node o244 (.node o376 .nil .nil) (.node o508 .nil .nil))) (u30 x0)) c758) (.node o65 (.node c9 (.node o115 (.node o184 (.node o318 .nil .nil) (.node o450 .nil .nil)) (.node o252 (.node o384 .nil .nil) (.node c9 .nil .nil))) (u32 x0)) (u33 x0))))) (.node (o137 x0) (.node (boot_o_4 x0) (.node (boot_o_8 x0) (.node o52 (.node c43 (.node o102 (.node o169 (.node o305 .nil .nil) (.node c9 .nil .nil)) (.node c9 (.node o371 .nil .nil) (.node c43 .nil .nil))) c759) (.node c9 (.node o118 (u38 x0) (.node o255 (.node c43 .nil .nil) (.node c9 .nil .nil))) c760)) (.node c9 (.node (o78 x0) (.node c43 (.node c9 (.node o313 .nil .nil) (.node c43 .nil .nil)) (.node c43 (.node c9 .nil .nil) (.node o511 .nil .nil))) c761) (u35 x0))) (.node o487 (.node c9 (.node o72 (.node o106 (.node o173 (.node o309 .nil .nil) (.node o441 .nil .nil)) (.node o243 (.node c9 .nil .nil) (.node o507 .nil .nil))) c762) c763) (.node o64 (.node o82 (.node o114 (.node c43 (.node c9 .nil .nil) (.node o449 .nil .nil)) (.node o251 (.node o383 .nil .nil) (.node o515 .nil .nil))) c764) c765))) (.node (boot_o_6 x0) (.node (boot_o_10 x0) (.node c43 (.node c9 (.node c9 (.node o171 (.node c9 .nil .nil) (.node o439 .nil .nil)) (.node o241 (.node c43 .nil .nil) (.node c9 .nil .nil))) c766) (.node o88 (.node o120 (.node o189 (.node o323 .nil .nil) (.node o455 .nil .nil)) (.node o257 (.node c9 .nil .nil) (.node o521 .nil .nil))) c767)) (.node o62 (.node o80 (.node c9 (u39 x0) (.node c9 (.node o381 .nil .nil) (.node o513 .nil .nil))) c768) (u36 x0))) (.node o46 (.node o58 (.node c9 (.node o108 (.node o175 (.node o311 .nil .nil) (.node o443 .nil .nil)) (.node o245 (.node o377 .nil .nil) (.node c9 .nil .nil))) c769) c770) (.node o66 (.node c43 (.node c9 (.node o185 (.node o319 .nil .nil) (.node c9 .nil .nil)) (.node c9 (.node o385 .nil .nil) (.node c43 .nil .nil))) c771) (.node c9 c772 (.node c9 (.node o237 (.node o369 .nil .nil) (.node o501 .nil .nil)) (.node c9 (.node o433 .nil .nil) .nil)))))))
noncomputable def hp752:Params→Heap:=fun x0=>⟨⟨[boot_o_0 x0,boot_o_1 x0,o137 x0,o719 x0,boot_o_4 x0,boot_o_5 x0,boot_o_6 x0,boot_o_7 x0,boot_o_8 x0,boot_o_9 x0,boot_o_10 x0,c9,o720,o45,o46,o51,o52,c9,c43,o55,c9,o57,o58,o59,c9,c43,o62,c9,o64,o65,o66,c9,c43,o69,c9,o71,o72,o73,c9,c105,o78 x0,c9,o80,o81,o82,c9,c43,o85,c9,o87,o88,o89,c9,c43,o92,c9,o94,o95,o96,c9,c43,o99,c9,o101,o102,o103,c9,c43,o106,o107,o108,c9,c43,o111,c9,o113,o114,o115,c9,c43,o118,c9,o120,o121,o122,c9,c43,o125,c9,o127,o128,o129,o130,o131 x0,o132,o133,o134,o135,o136,c9,c43,o142,c9,o144,o145,o146,c9,c43,o149,c9,o151,o152,o153,o154,c105,o156 x0,o157,c9,o159,o160,o161,o162,o163,o164,c43,o166,c9,o168,o169,o170,o171,o172 x0,o173,o174,o175,o176,c9,c105,o181 x0,c9,c43,o184,o185,c9,o187 x0,o188,o189,o190,o191,o192,c9,c105,o197 x0,c9,o199,o200,o201,c9,c43,o204,c9,o206,o207,o208,o209,o210 x0,o211,o212,o213,o214,o215,c9,c105,o220 x0,c9,o222,o223,o224,c9,c43,o227,c9,o229,o230,o231,o232,o233 x0,o234,o235,o236,o237,o238,c9,c43,o241,c9,o243,o244,o245,c9,c43,o248,c9,o250,o251,o252,c9,c43,o255,c9,o257,o258,o259,c9,c43,o262,c9,o264,o265,o266,c9,c43,o269,c9,o271,o272,o273,c9,c43,o278,c9,o280,o281,o282,c9,c43,o285,c9,o287,o288,o289,o290,o291,o292,c9,c43,o295,c9,o297,o298,o299,c9,c43,o302,c9,o304,o305,o306,c9,c43,o309,c9,o311,o312,o313,c9,c43,o316,c9,o318,o319,o320,c9,c43,o323,c9,o325,o326,o327,c9,c43,o330,c9,o332,o333,o334,c9,c43,o337,c9,o339,o340,o341,c9,c43,o344,c9,o346,o347,o348,c9,c43,o353,c9,o355,o356,o357,c9,c43,o360,c9,o362,o363,o364,c9,c43,o367,c9,o369,o370,o371,c9,c43,o374,c9,o376,o377,o378,c9,c43,o381,c9,o383,o384,o385,c9,c43,o388,c9,o390,o391,o392,c9,c43,o395,c9,o397,o398,o399,c9,c43,o402,c9,o404,o405,o406,c9,c43,o409,c9,o411,o412,o413,c9,c43,o416,c9,o418,o419,o420,c9,c43,o423,c9,o425,o426,o427,c9,c43,o430,c9,o432,o433,o434,c9,c43,o439,c9,o441,o442,o443,c9,c43,o446,c9,o448,o449,o450,c9,c43,o453,c9,o455,o456,o457,c9,c105,o460 x0,c9,o462,o463,o464,c9,c43,o467,c9,o469,o470,o471,c9,c43,o474,c9,o476,o477,o478,o479,o480 x0,o481,o482,o483,o484,o485,c9,c105,o490 x0,c9,o492,o493,o494,c9,c43,o497,c9,o499,o500,o501,c9,c43,o504,c9,o506,o507,o508,c9,c43,o511,c9,o513,o514,o515,c9,c43,o518,c9,o520,o521,o522,c9,c43,o525,c9,o527,o528,o529,c9,c43,o532,c9,o534,o535,o536,c9,c43,o539,c9,o541,o542,o543,c9,c43,o546,c9,o548,o549,o550,c9,c43,o553,c9,o555,o556,o557,o558,o559 x0,o560,o561,o562,o563,o564,c9,c43,o569,c9,o571,o572,o573,c9,c43,o576,c9,o578,o579,o580,c9,c43,o583,c9,o585,o586,o587,c9,c105,o592 x0,c9,o594,o595,o596,c9,c43,o599,c9,o601,o602,o603,c9,c43,o606,c9,o608,o609,o610,c9,c43,o613,c9,o615,o616,o617,c9,c43,o620,c9,o622,o623,o624,o625,o626 x0,o627,o628,o629,o630,o631,c9,c43,o634,c9,o636,o637,o638,c9,c43,o643,c9,o645,o646,o647,c9,c43,o650,c9,o652,o653,o654,c9,c43,o657,c9,o659,o660,o661,c9,c43,o664,c9,o666,o667,o668,c9,c43,o671,c9,o673,o674,o675,c9,c43,o678,c9,o680,o681,o682,c9,c43,o685,c9,o687,o688,o689,o690,c9,c43,o693,c9,o695,o696,o697,c9,c43,o700,c9,o702,o703,o704,c9,c43,o707,c9,o709,o710,o711,c9,c43,o714,c9,o716,o717,o718,c9,c43,o723,o724,o725,c9,c43,o728,c9,o730,o731,o732,c9,c43,o735,c9,o737,o738,o739,c9,c43,o742,c9,o744,o745,o746,c9,c43,o749,o750,o751]⟩,c688⟩
noncomputable def o193:Params→Obj:=fun x0=>⟨.type t0,none,.dict #[⟨PyData.keyHash x0 s0,c0,c158⟩,⟨PyData.keyHash x0 s2,.str s2 166,.none⟩,⟨PyData.keyHash x0 s3,.str s3 167,.none⟩,⟨PyData.keyHash x0 s4,.str s4 168,.builtin t1⟩,⟨PyData.keyHash x0 s5,.str s5 169,.none⟩,⟨PyData.keyHash x0 s6,.str s6 170,.ref 6⟩,⟨PyData.keyHash x0 s7,.str s7 171,.ref 4⟩,⟨PyData.keyHash x0 s8,.str s8 173,.str s9 172⟩,⟨PyData.keyHash x0 s10,.str s10 174,.none⟩,⟨PyData.keyHash x0 s11,.str s11 190,.str s12 189⟩,⟨PyData.keyHash x0 s13,.str s13 192,.str s14 191⟩,⟨PyData.keyHash x0 s15,.str s15 194,.str s16 193⟩,⟨PyData.keyHash x0 s17,.str s17 196,.str s18 195⟩,⟨PyData.keyHash x0 s19,.str s19 198,.str s20 197⟩,⟨PyData.keyHash x0 s21,.str s21 200,.str s22 199⟩,⟨PyData.keyHash x0 s23,.str s23 202,.str s24 201⟩,⟨PyData.keyHash x0 s25,.str s25 204,.str s26 203⟩,⟨PyData.keyHash x0 s27,.str s27 206,.str s28 205⟩,⟨PyData.keyHash x0 s29,.str s29 208,.str s30 207⟩,⟨PyData.keyHash x0 s31,.str s31 210,.str s32 209⟩,⟨PyData.keyHash x0 s33,.str s33 212,.str s34 211⟩,⟨PyData.keyHash x0 s35,.str s35 214,.str s36 213⟩,⟨PyData.keyHash x0 s37,.str s37 216,.str s38 215⟩,⟨PyData.keyHash x0 s39,.str s39 218,.str s40 217⟩,⟨PyData.keyHash x0 s41,.str s41 220,.str s42 219⟩,⟨PyData.keyHash x0 s43,.str s43 222,.str s44 221⟩,⟨PyData.keyHash x0 s45,.str s45 224,.str s46 223⟩,⟨PyData.keyHash x0 s47,.str s47 226,.str s48 225⟩,⟨PyData.keyHash x0 s49,.str s49 228,.str s50 227⟩,⟨PyData.keyHash x0 s51,.str s51 240,.ref 15⟩,⟨PyData.keyHash x0 s52,.str s52 245,.ref 16⟩,⟨PyData.keyHash x0 s53,.str s53 256,.ref 23⟩,⟨PyData.keyHash x0 s54,.str s54 263,.ref 30⟩,⟨PyData.keyHash x0 s55,.str s55 272,.ref 37⟩,⟨PyData.keyHash x0 s56,.str s56 356,.ref 94⟩,⟨PyData.keyHash x0 s57,.str s57 366,.ref 105⟩,⟨PyData.keyHash x0 s58,.str s58 374,.ref 112⟩,⟨PyData.keyHash x0 s59,.str s59 410,.ref 132⟩,⟨PyData.keyHash x0 s60,.str s60 430,.ref 145⟩,⟨PyData.keyHash x0 s61,.str s61 459,.ref 166⟩] 40,#[]⟩
noncomputable def c786:BT:=.node o85 (.node c43 (.node c9 .nil .nil) .nil) (.node o152 .nil .nil)
noncomputable def u47:Params→BT:=fun x0=>.node o89 (.node o121 (.node o190 .nil .nil) .nil) (.node (o156 x0) .nil .nil)
noncomputable def c787:BT:=.node o81 (.node o113 (.node c9 .nil .nil) .nil) (.node c43 .nil .nil)
noncomputable def c788:BT:=.node o87 (.node c9 (.node o188 .nil .nil) .nil) (.node o154 .nil .nil)
noncomputable def u48:Params→BT:=fun x0=>.node o142 (.node (o210 x0) .nil .nil) .nil
noncomputable def c789:BT:=.node c43 (.node c9 (.node o192 .nil .nil) .nil) (.node c9 .nil .nil)
noncomputable def c790:BT:=.node c9 (.node o115 (.node o184 .nil .nil) .nil) (.node c9 .nil .nil)
noncomputable def u49:Params→BT:=fun x0=>.node c9 (.node o118 (.node (o187 x0) .nil .nil) .nil) (.node o153 .nil .nil)
noncomputable def o194:Obj:=⟨.none,none,.fields #[.int 24 0,.int 0 0,.ref 22,.int 33 0,.int 0 0,.ref 29,.int 35 0,.int 0 0,.ref 36,.int 45 0,.int 0 0,.ref 43,.int 106 0,.int 0 0,.ref 104,.int 116 0,.int 0 0,.ref 111,.int 122 0,.int 0 0,.ref 119,.int 128 0,.int 0 0,.ref 141,.int 130 0,.int 0 0,.ref 155],#[]⟩
noncomputable def c791:BT:=.node c9 (.node o122 (.node o191 .nil .nil) .nil) (.node o157 .nil .nil)
noncomputable def c792:BT:=.node o82 (.node o114 (.node c43 .nil .nil) .nil) (.node o149 .nil .nil)
noncomputable def c793:BT:=.node o88 (.node o120 (.node o189 .nil .nil) .nil) (.node c105 .nil .nil)
noncomputable def u50:Params→BT:=fun x0=>.node c9 (.node (o181 x0) .nil .nil) .nil
noncomputable def c794:BT:=.node c43 (.node c9 (.node o185 .nil .nil) .nil) (.node o151 .nil .nil)
noncomputable def tr215:Params→BT:=fun x0=>.node (boot_o_0 x0) (.node (boot_o_1 x0) (.node (o193 x0) (.node (boot_o_7 x0) (.node o51 (.node c9 (.node o101 (.node o168 .nil .nil) .nil) (.node o133 (.node o204 .nil .nil) .nil)) c786) (.node o59 (.node c105 (.node c9 (.node o176 .nil .nil) .nil) (.node o144 (.node o212 .nil .nil) .nil)) (.node c9 (.node o125 (.node c105 .nil .nil) .nil) (.node o160 .nil .nil)))) (.node c9 (.node o55 (.node o71 (u21 x0) (.node c9 (.node o208 .nil .nil) .nil)) (u47 x0)) (.node c9 c787 (.node c9 (.node o129 (.node o200 .nil .nil) .nil) (.node o164 .nil .nil))))) (.node (boot_o_5 x0) (.node (boot_o_9 x0) (.node c9 (.node o69 (.node o103 (.node o170 .nil .nil) .nil) (.node o135 (.node o206 .nil .nil) .nil)) c788) (.node c43 (.node c9 (.node o111 (.node c105 .nil .nil) .nil) (.node o146 (.node o214 .nil .nil) .nil)) (.node o95 (.node o127 (.node c9 .nil .nil) .nil) (.node o162 .nil .nil)))) (.node o45 (.node o57 (.node o73 (.node o107 (.node o174 .nil .nil) .nil) (u48 x0)) c789) (.node o65 c790 (.node o99 (.node (o131 x0) (.node c9 .nil .nil) .nil) (.node o166 .nil .nil)))))) (.node (o137 x0) (.node (boot_o_4 x0) (.node (boot_o_8 x0) (.node o52 (.node c43 (.node o102 (.node o169 .nil .nil) .nil) (.node o134 (.node c9 .nil .nil) .nil)) (u49 x0)) (.node c9 (.node (o78 x0) (.node c43 (.node c9 .nil .nil) .nil) (.node o145 (.node o213 .nil .nil) .nil)) (.node o94 (.node c9 (.node (o197 x0) .nil .nil) .nil) (.node o161 .nil .nil)))) (.node o194 (.node c9 (.node o72 (.node o106 (.node o173 .nil .nil) .nil) (.node c43 (.node o209 .nil .nil) .nil)) c791) (.node o64 c792 (.node c43 (.node o130 (.node o201 .nil .nil) .nil) (.node c43 .nil .nil))))) (.node (boot_o_6 x0) (.node (boot_o_10 x0) (.node c43 (.node c9 (.node c9 (.node o171 .nil .nil) .nil) (.node o136 (.node o207 .nil .nil) .nil)) c793) (.node o62 (.node o80 (u50 x0) (.node c9 (.node o215 .nil .nil) .nil)) (.node o96 (.node o128 (.node o199 .nil .nil) .nil) (.node o163 .nil .nil)))) (.node o46 (.node o58 (.node c9 (.node o108 (.node o175 .nil .nil) .nil) (.node c9 (.node o211 .nil .nil) .nil)) (.node o92 (.node c43 (.node c9 .nil .nil) .nil) (.node o159 .nil .nil))) (.node o66 c794 (.node c9 (.node o132 (.node c43 .nil .nil) .nil) (.node c9 .nil .nil))))))
noncomputable def env41:Env:=⟨Module.scope (Program.main (OpenRow.toRowW (Fast.tw2368527892694137696 rw1)).1),mainNs,mainNs,[],Str.empty,none,.ref 13,some 14,0⟩
noncomputable def K:Params→Frag:=fun x0=>[(2,o137 x0),(3,o719 x0),(15,o51),(16,o52),(17,c9),(19,o55),(20,c9),(22,o58),(23,o59),(24,c9),(26,o62),(27,c9),(29,o65),(30,o66),(31,c9),(33,o69),(34,c9),(36,o72),(37,o73),(45,c9),(47,o85),(48,c9),(50,o88),(51,o89),(52,c9),(54,o92),(55,c9),(57,o95),(58,o96),(59,c9),(61,o99),(62,c9),(64,o102),(65,o103),(66,c9),(69,o107),(70,o108),(71,c9),(73,o111),(74,c9),(76,o114),(77,o115),(78,c9),(80,o118),(81,c9),(83,o121),(84,o122),(85,c9),(87,o125),(88,c9),(90,o128),(91,o129),(92,o130),(93,o131 x0),(94,o132),(95,o133),(96,o134),(99,c9),(101,o142),(102,c9),(104,o145),(105,o146),(106,c9),(108,o149),(109,c9),(111,o152),(112,o153),(113,o154),(116,o157),(121,o162),(122,o163),(123,o164),(125,o166),(126,c9),(128,o169),(129,o170),(130,o171),(131,o172 x0),(132,o173),(133,o174),(143,c9),(144,o187 x0),(145,o188),(146,o189),(147,o190),(157,c9),(159,o204),(160,c9),(162,o207),(163,o208),(164,o209),(165,o210 x0),(166,o211),(167,o212),(168,o213),(178,c9),(180,o227),(181,c9),(183,o230),(184,o231),(185,o232),(186,o233 x0),(187,o234),(188,o235),(189,o236),(192,c9),(194,o241),(195,c9),(197,o244),(198,o245),(199,c9),(201,o248),(202,c9),(204,o251),(205,o252),(206,c9),(208,o255),(209,c9),(211,o258),(212,o259),(213,c9),(215,o262),(216,c9),(218,o265),(219,o266),(220,c9),(222,o269),(223,c9),(225,o272),(226,o273),(227,c9),(229,o278),(230,c9),(232,o281),(233,o282),(234,c9),(236,o285),(237,c9),(239,o288),(240,o289),(241,o290),(242,o291),(243,o292),(244,c9),(246,o295),(247,c9),(249,o298),(250,o299),(251,c9),(253,o302),(254,c9),(256,o305),(257,o306),(258,c9),(260,o309),(261,c9),(263,o312),(264,o313),(265,c9),(267,o316),(268,c9),(270,o319),(271,o320),(272,c9),(274,o323),(275,c9),(277,o326),(278,o327),(279,c9),(281,o330),(282,c9),(284,o333),(285,o334),(286,c9),(288,o337),(289,c9),(291,o340),(292,o341),(293,c9),(295,o344),(296,c9),(298,o347),(299,o348),(300,c9),(302,o353),(303,c9),(305,o356),(306,o357),(307,c9),(309,o360),(310,c9),(312,o363),(313,o364),(314,c9),(316,o367),(317,c9),(319,o370),(320,o371),(321,c9),(323,o374),(324,c9),(326,o377),(327,o378),(328,c9),(330,o381),(331,c9),(333,o384),(334,o385),(335,c9),(337,o388),(338,c9),(340,o391),(341,o392),(342,c9),(344,o395),(345,c9),(347,o398),(348,o399),(349,c9),(351,o402),(352,c9),(354,o405),(355,o406),(356,c9),(358,o409),(359,c9),(361,o412),(362,o413),(363,c9),(365,o416),(366,c9),(368,o419),(369,o420),(370,c9),(372,o423),(373,c9),(375,o426),(376,o427),(377,c9),(379,o430),(380,c9),(382,o433),(383,o434),(384,c9),(386,o439),(387,c9),(389,o442),(390,o443),(391,c9),(393,o446),(394,c9),(396,o449),(397,o450),(398,c9),(400,o453),(401,c9),(403,o456),(404,o457),(412,c9),(414,o467),(415,c9),(417,o470),(418,o471),(419,c9),(421,o474),(422,c9),(424,o477),(425,o478),(426,o479),(427,o480 x0),(428,o481),(429,o482),(430,o483),(440,c9),(442,o497),(443,c9),(445,o500),(446,o501),(447,c9),(449,o504),(450,c9),(452,o507),(453,o508),(454,c9),(456,o511),(457,c9),(459,o514),(460,o515),(461,c9),(463,o518),(464,c9),(466,o521),(467,o522),(468,c9),(470,o525),(471,c9),(473,o528),(474,o529),(475,c9),(477,o532),(478,c9),(480,o535),(481,o536),(482,c9),(484,o539),(485,c9),(487,o542),(488,o543),(489,c9),(491,o546),(492,c9),(494,o549),(495,o550),(496,c9),(498,o553),(499,c9),(501,o556),(502,o557),(503,o558),(504,o559 x0),(505,o560),(506,o561),(507,o562),(510,c9),(512,o569),(513,c9),(515,o572),(516,o573),(517,c9),(519,o576),(520,c9),(522,o579),(523,o580),(524,c9),(526,o583),(527,c9),(529,o586),(530,o587),(538,c9),(540,o599),(541,c9),(543,o602),(544,o603),(545,c9),(547,o606),(548,c9),(550,o609),(551,o610),(552,c9),(554,o613),(555,c9),(557,o616),(558,o617),(559,c9),(561,o620),(562,c9),(564,o623),(565,o624),(566,o625),(567,o626 x0),(568,o627),(569,o628),(570,o629),(573,c9),(575,o634),(576,c9),(578,o637),(579,o638),(580,c9),(582,o643),(583,c9),(585,o646),(586,o647),(587,c9),(589,o650),(590,c9),(592,o653),(593,o654),(594,c9),(596,o657),(597,c9),(599,o660),(600,o661),(601,c9),(603,o664),(604,c9),(606,o667),(607,o668),(608,c9),(610,o671),(611,c9),(613,o674),(614,o675),(615,c9),(617,o678),(618,c9),(620,o681),(621,o682),(622,c9),(624,o685),(625,c9),(627,o688),(628,o689),(629,o690),(630,c9),(632,o693),(633,c9),(635,o696),(636,o697),(637,c9),(639,o700),(640,c9),(642,o703),(643,o704),(644,c9),(646,o707),(647,c9),(649,o710),(650,o711),(651,c9),(653,o714),(654,c9),(656,o717),(657,o718),(658,c9),(661,o724),(662,o725),(663,c9),(665,o728),(666,c9),(668,o731),(669,o732),(670,c9),(672,o735),(673,c9),(675,o738),(676,o739),(677,c9),(679,o742),(680,c9),(682,o745),(683,o746),(684,c9),(687,o750),(688,o751)]
noncomputable def asK:List Nat:=[2,3,15,16,17,19,20,22,23,24,26,27,29,30,31,33,34,36,37,45,47,48,50,51,52,54,55,57,58,59,61,62,64,65,66,69,70,71,73,74,76,77,78,80,81,83,84,85,87,88,90,91,92,93,94,95,96,99,101,102,104,105,106,108,109,111,112,113,116,121,122,123,125,126,128,129,130,131,132,133,143,144,145,146,147,157,159,160,162,163,164,165,166,167,168,178,180,181,183,184,185,186,187,188,189,192,194,195,197,198,199,201,202,204,205,206,208,209,211,212,213,215,216,218,219,220,222,223,225,226,227,229,230,232,233,234,236,237,239,240,241,242,243,244,246,247,249,250,251,253,254,256,257,258,260,261,263,264,265,267,268,270,271,272,274,275,277,278,279,281,282,284,285,286,288,289,291,292,293,295,296,298,299,300,302,303,305,306,307,309,310,312,313,314,316,317,319,320,321,323,324,326,327,328,330,331,333,334,335,337,338,340,341,342,344,345,347,348,349,351,352,354,355,356,358,359,361,362,363,365,366,368,369,370,372,373,375,376,377,379,380,382,383,384,386,387,389,390,391,393,394,396,397,398,400,401,403,404,412,414,415,417,418,419,421,422,424,425,426,427,428,429,430,440,442,443,445,446,447,449,450,452,453,454,456,457,459,460,461,463,464,466,467,468,470,471,473,474,475,477,478,480,481,482,484,485,487,488,489,491,492,494,495,496,498,499,501,502,503,504,505,506,507,510,512,513,515,516,517,519,520,522,523,524,526,527,529,530,538,540,541,543,544,545,547,548,550,551,552,554,555,557,558,559,561,562,564,565,566,567,568,569,570,573,575,576,578,579,580,582,583,585,586,587,589,590,592,593,594,596,597,599,600,601,603,604,606,607,608,610,611,613,614,615,617,618,620,621,622,624,625,627,628,629,630,632,633,635,636,637,639,640,642,643,644,646,647,649,650,651,653,654,656,657,658,661,662,663,665,666,668,669,670,672,673,675,676,677,679,680,682,683,684,687,688]
end HD
namespace HD
noncomputable def cE:Code:=.body (behindTheImports pw1) env41
noncomputable def B0:List Frame:=[topFrame ⟨0,0,0,0⟩]
noncomputable def ST (t:Params→BT) (n k:Nat) (w:World) (os:OsState):SharedT:=⟨t w.params,n,{},⟨[]⟩,{},k,os⟩
noncomputable def st49x193:List Stmt:=cut 0 26++cut 26 1++cut 27 4++cut 31 1++cut 32 1
noncomputable def st216x486:List Stmt:=cut 33 6++cut 39 17++cut 56 12++cut 68 8++cut 76 1
noncomputable def st565x719:List Stmt:=cut 77 4++cut 81 4++cut 85 13++cut 98 5
theorem p49x193 (w:World):(fun os=>segRunT treeTable pw1 w 11 (some (.ref 6)) 1 1472 (ST tr47 15 187 w os) (piecesOf st49x193 env41 cE ⟨0,0,0,0⟩ B0))=fun os=>some (.next,ST tr215 171 460 w os,cE,⟨130,0,133,24⟩):=by
 rw [PySem.W.Fast.te10110043849684766642,PySem.W.Fast.te14364793385576792824]
 kernel_rfl
theorem p216x486 (w:World):(fun os=>segRunT treeTable pw1 w 11 (some (.ref 6)) 1 2032 (ST tr215 171 460 w os) (piecesOf st216x486 env41 cE ⟨130,0,133,24⟩ B0))=fun os=>some (.next,ST tr564 510 948 w os,cE,⟨311,0,418,19⟩):=by
 rw [PySem.W.Fast.te10110043849684766642,PySem.W.Fast.te14364793385576792824]
 kernel_rfl
theorem p565x719 (w:World):(fun os=>segRunT treeTable pw1 w 11 (some (.ref 6)) 1 1030 (ST tr564 510 948 w os) (piecesOf st565x719 env41 cE ⟨311,0,418,19⟩ B0))=fun os=>some (.next,ST tr751 689 1236 w os,cE,⟨618,0,629,77⟩):=by
 rw [PySem.W.Fast.te10110043849684766642,PySem.W.Fast.te14364793385576792824]
 kernel_rfl
end HD
namespace HD
noncomputable def lsL:List Str:=[⟨⟨[83,110,111,98,111,108,69,114,114,111,114]⟩⟩,⟨⟨[112,108,97,105,110,95,99,111,117,110,116]⟩⟩]
noncomputable def SS (h:Params→Heap) (k:Nat) (w:World) (os:OsState):Shared:=⟨h w.params,⟨[]⟩,{},k,os⟩
noncomputable def S0 (w:World) (os:OsState):Shared:=⟨boot_heap w.params,⟨[]⟩,boot_drawn,boot_toks,os⟩
theorem g0 (w:World):(fun os=>topGo treeTable pw1 w 11 (some (.ref 6)) 12 (S0 w os) (topStub pw1))=fun os=>some (SS hp46 187 w os,⟨denote treeTable cE,cE,⟨0,0,0,0⟩,B0⟩):=by
 rw [PySem.W.Fast.te15667345088766844465,PySem.W.Fast.te14364793385576792824,PySem.W.Fast.te11892475500146522536]
 kernel_rfl
theorem blk (w:World):(fun os=>segRun treeTable pw1 w 11 (some (.ref 6)) 1 1 (SS hp46 187 w os) (blockOf (behindTheImports pw1) env41 cE ⟨0,0,0,0⟩ B0))=fun os=>some (.next,(ST tr47 15 187 w os).abs,cE,⟨0,0,0,0⟩):=by
 rw [PySem.W.Fast.te14374325043358763698,PySem.W.Fast.te14364793385576792824]
 kernel_rfl
theorem fin1 (w:World):(fun os=>topRun treeTable pw1 w 11 (some (.ref 6)) 2 (ST tr751 689 1236 w os).abs ⟨doneF .next,cE,⟨618,0,629,77⟩,B0⟩)=fun os=>some (SS hp752 1236 w os):=by
 rw [PySem.W.Fast.te14082659384304107361,PySem.W.Fast.te14364793385576792824]
 kernel_rfl
theorem bodyE:behindTheImports pw1=st49x193++(st216x486++(st565x719++[])):=by kernel_rfl
theorem run1 (w:World) (os:OsState):topRun treeTable pw1 w 11 (some (.ref 6)) (12+(1+(1472+(2032+(1030+2))))) (S0 w os) (topStub pw1)=some (SS hp752 1236 w os) :=
 go_top (congrFun (g0 w) os) (piece_block (congrFun (blk w) os) (by
  rw [bodyE]
  exact piece_app (segRun_of (congrFun (p49x193 w) os)) (piece_app (segRun_of (congrFun (p216x486 w) os)) (piece_app (segRun_of (congrFun (p565x719 w) os)) (congrFun (fin1 w) os)))))
theorem open1 (w:World):(fencedOpening treeTable pw1 w 9166).map (fun s=>(s.heap,s.gens,s.drawn,s.toks))=some (boot_heap w.params,⟨[]⟩,boot_drawn,boot_toks):=boot_open (by kernel_rfl) (by decide +kernel) (fun s=>by kernel_rfl) w
theorem size1 (w:World):((boot_heap w.params).isNs mainGlobals&&(⟨[]⟩:Array GenState).size==0,(boot_heap w.params).objs.size,(boot_heap w.params).nsMap mainGlobals "__annotations__")=(true,11,some (.ref 6)):=by
 rw [PySem.W.Fast.te8920871248978507458]
 kernel_rfl
theorem look0 (w:World) (os:OsState):(staticsOk (importedModules pw1.main.body) (boot_heap w.params) (hp752 w.params)&&namesBound pw1 (hp752 w.params)&&gensDone (SS hp752 1236 w os)&&laidKept (boot_heap w.params) (hp752 w.params))=true:=by
 rw [PySem.W.Fast.te5923862056798008813]; kernel_rfl
theorem look1 (w:World) (os:OsState):seen ((recsOf vw).map (·.name)) (ownsOf vw) [] { SS hp752 1236 w os with gens:=#[] }=expectedOf vw:=by
 rw [PySem.W.Fast.te5160383126252970620,PySem.W.Fast.te3399658132070893891,PySem.W.Fast.te5991557255702980513]; kernel_rfl
theorem look2 (w:World) (os:OsState):(SS hp752 1236 w os).heap.bltView=bltViewBooted:=by
 kernel_rfl
theorem look3a (w:World) (os:OsState):(SS hp752 1236 w os).heap.keysOk (looseW vw lsL) ((recsOf vw).map (·.name)) ((litsOf vw).map (·.1)) ((clssOf vw (looseW vw lsL)).map (·.name))=true:=by
 rw [PySem.W.Fast.te10880121769531294198,PySem.W.Fast.te821141287760084731,PySem.W.Fast.te3399658132070893891,PySem.W.Fast.te7409074990110511671,PySem.W.Fast.te13664370479719496447]; kernel_rfl
theorem look3 (w:World) (os:OsState):((SS hp752 1236 w os).heap.keysOk (looseW vw lsL) ((recsOf vw).map (·.name)) ((litsOf vw).map (·.1)) ((clssOf vw (looseW vw lsL)).map (·.name))&&(SS hp752 1236 w os).heap.accountedOkI (importedModules pw1.main.body)&&(SS hp752 1236 w os).heap.isNs mainGlobals&&(SS hp752 1236 w os).heap.isNs builtinsNs&&tablesOk vw (SS hp752 1236 w os).heap&&(xlAt vw [] (SS hp752 1236 w os)&&recOk rw1.row.records (SS hp752 1236 w os))&&(if true then (SS hp752 1236 w os).gens.size==0 else !leftWithCleanup (SS hp752 1236 w os).gens))=true:=by
 refine look_both (look_both (look_both (look_both (look_both (look_both (look3a w os) ?_) ?_) ?_) ?_) ?_) ?_
 ·rw [PySem.W.Fast.te14722251495701143533,PySem.W.Fast.te5923862056798008813]; kernel_rfl
 all_goals kernel_rfl
theorem look4 (w:World) (os:OsState):tabsOk vw (SS hp752 1236 w os)=true:=by
 rw [PySem.W.Fast.te479339242167458305]; kernel_rfl
theorem look5 (w:World) (os:OsState):pinSeenD vw (drecsOf vw) (SS hp752 1236 w os)=pinGoodD (drecsOf vw):=by
 rw [PySem.W.Fast.te16090120013241838585,PySem.W.Fast.te3247288618530077131]; kernel_rfl
theorem look6 (w:World) (os:OsState):plainSeenE vw (looseW vw lsL) (SS hp752 1236 w os)=plainGoodE vw (looseW vw lsL):=by
 rw [PySem.W.Fast.te2386780881361962483,PySem.W.Fast.te821141287760084731]; kernel_rfl
theorem look7 (w:World) (os:OsState):plainSeenD vw lsL (SS hp752 1236 w os)=plainGoodD vw lsL:=by
 kernel_rfl
theorem look8 (w:World) (os:OsState):wideSeen vw (SS hp752 1236 w os)=wideGood vw:=by
 rw [PySem.W.Fast.te7317090234206586261]; kernel_rfl
theorem look9 (w:World) (os:OsState):clsSeenW vw lsL (SS hp752 1236 w os)=clsGoodW vw lsL:=by
 kernel_rfl
theorem fragE (P:Params):asK=(K P).map (·.1):=by kernel_rfl
noncomputable def hk:Hook:=kHook K asK fragE
theorem look10 (w:World) (os:OsState):hk.obs (SS hp752 1236 w os)=hk.val w:=by kernel_rfl
set_option maxHeartbeats 0 in
theorem well1:rw1.wellSaid=true:=by
 rw [PySem.W.Fast.te9446332074065402090]
 delta PySem.W.Fast.tw9446332074065402090 PySem.W.Fast.tw17960256430627541270 PySem.W.Fast.tw2436336058641802641 PySem.W.Fast.tw12908688711261696721
 repeat' (with_reducible refine look_both ?_ ?_)
 all_goals decide +kernel
theorem rwE:PySem.Challenge.rw_sa0603_01=rw1:=by kernel_rfl
end HD
namespace HD
theorem looks1 (w:World):(fun os=>((staticsOk (importedModules pw1.main.body) (boot_heap w.params) (hp752 w.params)&&namesBound pw1 (hp752 w.params)&&gensDone ⟨hp752 w.params,⟨[]⟩,{},1236,os⟩&&laidKept (boot_heap w.params) (hp752 w.params)),
  openSeen vw lsL (importedModules pw1.main.body) (fun s=>xlAt vw [] s&&recOk rw1.row.records s) true ⟨hp752 w.params,⟨[]⟩,{},1236,os⟩,hk.obs ⟨hp752 w.params,⟨[]⟩,{},1236,os⟩))=fun _=>(true,openGood vw lsL,hk.val w) :=
 funext fun os=>looks_pair (look0 w os) (looks_pair (by
  unfold openSeen openGood
  exact looks_pair (look1 w os) (looks_pair (look2 w os) (looks_pair (look3 w os) (looks_pair (look4 w os) (looks_pair (look5 w os) (looks_pair (look6 w os) (looks_pair (look7 w os) (looks_pair (look8 w os) (look9 w os))))))))) (look10 w os))
theorem left1:LeftO pw1 vw lsL (fun s=>xlAt vw [] s&&recOk rw1.row.records s) hk.obs hk.val 9166 true :=
 LeftO.of_pieces (H₀:=boot_heap) (H₁:=hp752) (gs₀:=⟨[]⟩) (gs₁:=⟨[]⟩) (d₀:=boot_drawn) (d₁:={}) (k₀:=boot_toks) (k₁:=1236) (m₀:=11) (ann:=some (.ref 6)) open1 size1 run1 (by decide +kernel) looks1
noncomputable def lawD:DefRec:=((defOf vw rw1.row.name).getD (⟨rw1.name,⟨[],[],none,[],[],none,[]⟩,[],env41.scope,⟨0,0,0,0⟩⟩,[])).1
theorem hdef1:defOf vw rw1.row.name=some (lawD,[]):=by kernel_rfl
theorem hpd1:rw1.row.prog.theDef rw1.row.name=some (lawD.params,lawD.body,lawD.scope):=by kernel_rfl
theorem hkw1:kwWritten? lawD.params.kwonlyargs lawD.params.kw_defaults=some []:=by kernel_rfl
theorem ok1:(chainsOk vw&&opensWell rw1.row.prog&&(frees rw1.row.toRowW&&rw1.row.within.isEmpty))=true:=by kernel_rfl
theorem bare1:rw1.row.prog.tablesWhole=true:=by kernel_rfl
theorem hd1 (walk:WalkO vw lsL (XL vw []) hk.says rw1.row.toRowW lawD [] fun f vs=>PySem.call f vs):rw1.Holds :=
 holds_law well1 fun said=>holds_open (q:=vw) (loose:=lsL) (Xt:=fun s=>xlAt vw [] s&&recOk rw1.row.records s) (XP:=XL vw []) (Yf:=hk.obs) (Ya:=hk.val) (YP:=hk.says) (N:=9166) left1 hk.of hk.keeps
  (fun s e=>xl_of s (Bool.and_eq_true_iff.mp e).1) XL.keeps hdef1 hpd1 hkw1 (fun s e=>recFacts_of (Bool.and_eq_true_iff.mp e).2) rfl said ok1 ⟨rfl,rfl,rfl,rfl,rfl,bare1⟩ ⟨[.list []],by decide +kernel,by decide +kernel⟩ walk
end HD
set_option maxRecDepth 512
namespace Mine
theorem cj2 {A B G:Prop} (h:A∧B) (k:A→B→G):G:=k h.1 h.2
theorem cj3 {A B C G:Prop} (h:A∧B∧C) (k:A→B→C→G):G:=k h.1 h.2.1 h.2.2
theorem cj4 {A B C D G:Prop} (h:A∧B∧C∧D) (k:A→B→C→D→G):G:=cj3 h.2 (k h.1)
theorem cj5 {A B C D E G:Prop} (h:A∧B∧C∧D∧E) (k:A→B→C→D→E→G):G:=cj4 h.2 (k h.1)
theorem cj6 {A B C D E F G:Prop} (h:A∧B∧C∧D∧E∧F) (k:A→B→C→D→E→F→G):G:=cj5 h.2 (k h.1)
theorem cj7 {A B C D E F I G:Prop} (h:A∧B∧C∧D∧E∧F∧I) (k:A→B→C→D→E→F→I→G):G:=cj6 h.2 (k h.1)
theorem cj8 {A B C D E F I J G:Prop} (h:A∧B∧C∧D∧E∧F∧I∧J) (k:A→B→C→D→E→F→I→J→G):G:=cj7 h.2 (k h.1)
theorem xe1 {α:Sort _} {p:α→Prop} {G:Prop} (h:∃ a,p a) (k:∀ a,p a→G):G:=h.elim k
theorem xe2 {α β:Sort _} {p:α→β→Prop} {G:Prop} (h:∃ a b,p a b) (k:∀ a b,p a b→G):G:=h.elim fun a h=>h.elim (k a)
theorem xe3 {α β γ:Sort _} {p:α→β→γ→Prop} {G:Prop} (h:∃ a b c,p a b c) (k:∀ a b c,p a b c→G):G:=h.elim fun a h=>xe2 h (k a)
theorem xe4 {α β γ δ:Sort _} {p:α→β→γ→δ→Prop} {G:Prop} (h:∃ a b c d,p a b c d) (k:∀ a b c d,p a b c d→G):G:=h.elim fun a h=>xe3 h (k a)
theorem xe5 {α β γ δ ε:Sort _} {p:α→β→γ→δ→ε→Prop} {G:Prop} (h:∃ a b c d e,p a b c d e) (k:∀ a b c d e,p a b c d e→G):G:=h.elim fun a h=>xe4 h (k a)
theorem xe6 {α β γ δ ε ζ:Sort _} {p:α→β→γ→δ→ε→ζ→Prop} {G:Prop} (h:∃ a b c d e f,p a b c d e f) (k:∀ a b c d e f,p a b c d e f→G):G:=h.elim fun a h=>xe5 h (k a)
theorem xe7 {α β γ δ ε ζ η:Sort _} {p:α→β→γ→δ→ε→ζ→η→Prop} {G:Prop} (h:∃ a b c d e f g,p a b c d e f g) (k:∀ a b c d e f g,p a b c d e f g→G):G:=h.elim fun a h=>xe6 h (k a)
theorem xe8 {α β γ δ ε ζ η θ:Sort _} {p:α→β→γ→δ→ε→ζ→η→θ→Prop} {G:Prop} (h:∃ a b c d e f g i,p a b c d e f g i) (k:∀ a b c d e f g i,p a b c d e f g i→G):G:=h.elim fun a h=>xe7 h (k a)
@[elab_as_elim] theorem genl {α:Sort _} {motive:α→Prop} (v:α) (h:∀ x,motive x):motive v:=h v
@[elab_as_elim] theorem genh {α:Sort _} {motive:α→Prop} (v:α) (h:∀ x,v=x→motive x):motive v:=h v rfl
set_option compiler.extract_closed false
 def obN (k:Nat):Lean.Syntax:=Lean.mkIdent (.mkSimple ("oq" ++ toString k))
 def obD (k:Lean.Name) (l:List Lean.Syntax):Lean.Syntax:=.node .none k l.toArray
 def obS (a b:Lean.Syntax):Lean.Syntax:=obD `Lean.Parser.Tactic.«tactic_<;>_» [a,.atom .none "<;>", b]
 def obA (a:Lean.Syntax):Lean.Syntax:=obD `group [.atom .none "|", obD `Lean.Parser.Tactic.tacticSeq [obD `Lean.Parser.Tactic.tacticSeq1Indented [obD `null [a]]]]
 def obO (a b:Lean.Syntax):Lean.Syntax:=obD `Lean.Parser.Tactic.first [.atom .none "first", obD `null [obA a,obA b]]
 def obG (p:Lean.Syntax) (i:Nat):Lean.Syntax:=p.getArg i
 def obK (p:Lean.Syntax):Lean.Syntax :=
 if (obG (obG p 0) 0).getNumArgs != 1 then .missing else
 let q:=obG (obG (obG p 0) 0) 0
 let k:=q.getKind
 if k==`Lean.Parser.Tactic.rcasesPat.one then (if (obG q 0).getId==`rfl then .missing else obG q 0)
 else if k==`Lean.Parser.Tactic.rcasesPat.ignore then obD `Lean.Parser.Term.hole [.atom .none "_"] else .missing
 def obI:List Lean.Syntax→Nat→List Lean.Syntax
 | [],_=>[]
 | p::ps,i=>(if (obK p).isMissing then obN i else obK p)::obI ps (i+1)
 def obM (tr:Lean.Syntax) (s:String) (k:Nat) (h:Lean.Syntax) (xs:List Lean.Syntax):Lean.Syntax :=
 let app:=obG tr 1
 let fn:=obG (obG app 1) 1
 tr.setArg 1 (obD `Lean.Parser.Term.app [Lean.mkIdent (.str `Mine (s++toString k)),obD `null [h,fn.setArg 1 ((obG fn 1).setArg 0 (obD `null xs))]])
 def obC (cl:Lean.Syntax) (ids:List Lean.Syntax) (z a:Lean.Syntax):Lean.Syntax:=if !z.isIdent||ids.contains z then a else obS a (obD `Lean.Parser.Tactic.first [.atom .none "first", obD `null [obA (cl.setArg 1 (obD `null [z])),obA (obD `Lean.Parser.Tactic.skip [.atom .none "skip"])]])
 def obL (tr cl e:Lean.Syntax) (ids:List Lean.Syntax) (n:Nat):Nat→Lean.Syntax
 | 0=>obM tr "cj" n e ids
 | k+1=>obO (if k+2==n then obM tr "xe" (k+1) e ids else obS (obM tr "xe" (k+1) e (ids.take (k+1)++[obN 98])) (obC cl ids (obN 98) (obM tr "cj" (n - (k+1)) (obN 98) (ids.drop (k+1))))) (obL tr cl e ids n k)
 def obP (fb:Lean.Syntax):List Lean.Syntax→Nat→Lean.Syntax→Lean.Syntax
 | [],_,acc=>acc
 | p::ps,i,acc=>obP fb ps (i+1) (if (obK p).isMissing then obS acc ((fb.setArg 1 (obD `null [(obG (obG fb 1) 0).setArg 1 (obN i)])).setArg 2 ((obG fb 2).setArg 1 (obG p 0))) else acc)
 def obE (tr fb cl e:Lean.Syntax) (ps:List Lean.Syntax):Lean.TSyntax `tactic :=
 ⟨obO (obP fb ps 0 (obC cl (obI ps 0) e (obL tr cl e (obI ps 0) ps.length (ps.length - 1)))) fb⟩
local macro_rules
 | `(tactic| obtain ⟨$ps,*⟩:=$e:term)=>do
  let tr←`(tactic| refine f h fun x=>?_)
  let fb←`(tactic| rcases $e:term with ⟨$ps,*⟩)
  let cl←`(tactic| clear x)
  return obE tr fb cl e (ps.getElems.toList.map (·.raw))
inductive PV where
 | undef
 | none
 | bool (b:Bool)
 | int (i:Int)
 | str (x:List Nat)
 | tup (xs:List PV)
 | rng (lo hi:Int)
 | ref (a:Addr)
 | fn (k:Nat)
 | bi (k:Nat)
inductive MO where
 | list (xs:List PV)
 | inst (k:Nat) (d:Addr)
 | ns (m:List (Nat×PV))
abbrev MH:=Addr→Option MO
noncomputable def upd (H:MH) (a:Addr) (o:MO):MH:=fun b=>if b=a then some o else H b
theorem upd_self {H:MH} {a:Addr} {o:MO}:upd H a o a=some o:=by simp [upd]
theorem upd_other {H:MH} {a b:Addr} {o:MO} (h:b≠a):upd H a o b=H b:=by simp [upd,h]
noncomputable def anL:List String:=["orders", "pc", "at", "named", "marks", "calls", "subject", "host", "history", "values", "limit", "refused", "width", "steps", "log",
 "emit", "put", "begun", "choice", "repeat", "bound", "copied", "run", "way_back", "done", "met_once", "ended", "other", "met_often", "step", "node", "append", "pop", "extend", "reverse", "join"]
noncomputable def an (c:Nat):Str:=Str.ofString (anL.getD c "?")
noncomputable def biVal:Nat→Value
 | 0=>.builtin "len" | 1=>.type "range" | 2=>.builtin "abs" | 3=>.type "int" | 4=>.builtin "isinstance" | 5=>.type "list" | 6=>.type "str" | 7=>.type "tuple"
 | _=>.none
noncomputable def VR (gv:Nat→Value) (h:Heap) (v:Value) (p:PV):Prop:=PV.rec (motive_1:=fun _=>Value→Prop) (motive_2:=fun _=>List Value→Prop)
  (fun _=>False) (fun v=>v=.none) (fun b v=>v=.bool b) (fun i v=>∃ t,v=.int i t) (fun x v=>∃ t,v=.str ⟨x.toArray⟩ t)
  (fun _ ih v=>∃ a vs n,v=.ref a∧h.get? a=some { cls:=.type "tuple", data:=.seq vs.toArray n }∧ih vs) (fun a b v=>∃ r t u w,v=.ref r∧IsRange h r a b 1 t u w) (fun a v=>v=.ref a) (fun k v=>v=gv k) (fun k v=>v=biVal k)
  (fun vs=>vs=[]) (fun _ _ ih ihs vs=>∃ v ws,vs=v::ws∧ih v∧ihs ws) p v
noncomputable def VRs (gv:Nat→Value) (h:Heap) (vs:List Value) (ps:List PV):Prop:=PV.rec_1 (motive_1:=fun _=>Value→Prop) (motive_2:=fun _=>List Value→Prop)
  (fun _=>False) (fun v=>v=.none) (fun b v=>v=.bool b) (fun i v=>∃ t,v=.int i t) (fun x v=>∃ t,v=.str ⟨x.toArray⟩ t)
  (fun _ ih v=>∃ a vs n,v=.ref a∧h.get? a=some { cls:=.type "tuple", data:=.seq vs.toArray n }∧ih vs) (fun a b v=>∃ r t u w,v=.ref r∧IsRange h r a b 1 t u w) (fun a v=>v=.ref a) (fun k v=>v=gv k) (fun k v=>v=biVal k)
  (fun vs=>vs=[]) (fun _ _ ih ihs vs=>∃ v ws,vs=v::ws∧ih v∧ihs ws) ps vs
section
variable {gv:Nat→Value} {h:Heap}
theorem VR.none:VR gv h .none .none:=rfl
theorem VR.bool (b:Bool):VR gv h (.bool b) (.bool b):=rfl
theorem VR.int (i:Int) (t:Tok):VR gv h (.int i t) (.int i):=⟨t,rfl⟩
theorem VR.str (x:List Nat) (t:Tok):VR gv h (.str ⟨x.toArray⟩ t) (.str x):=⟨t,rfl⟩
theorem VR.tup {a:Addr} {vs:List Value} {n:Nat} {xs:List PV} (e:h.get? a=some { cls:=.type "tuple", data:=.seq vs.toArray n }) (r:VRs gv h vs xs):VR gv h (.ref a) (.tup xs):=⟨a,vs,n,rfl,e,r⟩
theorem VR.rng {r:Addr} {a b:Int} {t u v:Tok} (e:IsRange h r a b 1 t u v):VR gv h (.ref r) (.rng a b):=⟨r,t,u,v,rfl,e⟩
theorem VR.ref (a:Addr):VR gv h (.ref a) (.ref a):=rfl
theorem VR.bi (k:Nat):VR gv h (biVal k) (.bi k):=rfl
theorem VRs.nil:VRs gv h [] []:=rfl
theorem VRs.cons {v:Value} {vs:List Value} {p:PV} {ps:List PV} (a:VR gv h v p) (b:VRs gv h vs ps):VRs gv h (v::vs) (p::ps):=⟨v,vs,rfl,a,b⟩
theorem VRs.un {vs:List Value} {p:PV} {ps:List PV} (r:VRs gv h vs (p::ps)):∃ v ws,vs=v::ws∧VR gv h v p∧VRs gv h ws ps:=r
theorem VRs.none {vs:List Value} (r:VRs gv h vs []):vs=[]:=r
theorem VR.tupAt {v:Value} {xs:List PV} (r:VR gv h v (.tup xs)):∃ t vs n,v=.ref t∧h.get? t=some { cls:=.type "tuple", data:=.seq vs.toArray n }∧VRs gv h vs xs:=r
theorem VR.rngAt {v:Value} {a b:Int} (r:VR gv h v (.rng a b)):∃ t x y z,v=.ref t∧IsRange h t a b 1 x y z:=r
end
noncomputable def VRis (gv:Nat→Value) (v:Value):PV→Prop
 | .none=>v=.none
 | .bool b=>v=.bool b
 | .int i=>∃ t,v=.int i t
 | .str x=>∃ t,v=.str ⟨x.toArray⟩ t
 | .ref a=>v=.ref a
 | .fn k=>v=gv k
 | .bi k=>v=biVal k
 | _=>True
theorem VR.inv {gv:Nat→Value} {h:Heap} {v:Value} {p:PV} (r:VR gv h v p):VRis gv v p:=by
 induction p using PV.casesOn <;> first | trivial | exact r
inductive EsR (gv:Nat→Value) (h:Heap):List DictEntry→List (Nat×PV)→Prop
 | nil:EsR gv h [] []
 | cons {hs:Int} {t:Tok} {c:Nat} {v:Value} {p:PV} {es:List DictEntry} {m:List (Nat×PV)}:c<15→VR gv h v p→EsR gv h es m→EsR gv h (⟨hs,.str (an c) t,v⟩::es) ((c,p)::m)
noncomputable def ObjRep (gv:Nat→Value) (h:Heap) (a:Addr):MO→Prop
 | .list xs=>∃ vs n,h.get? a=some (listOf vs.toArray n)∧VRs gv h vs xs
 | .inst k d=>(40≤k∧k<44)∧∃ C,gv k=.ref C∧h.get? a=some (instObj C d)
 | .ns m=>∃ es n,h.get? a=some (PySem.W.dictOf es n)∧EsR gv h es m
noncomputable def Rep (gv:Nat→Value) (h:Heap) (H:MH):Prop:=∀ a o,H a=some o→ObjRep gv h a o
noncomputable def KO (o:Obj):Prop:=(o.cls=.type "tuple" ∨ o.cls=.type "range")∧((∃ vs n,o.data=.seq vs n)∨∃ fs,o.data=.fields fs)
structure StpP (P:Addr→Prop) (h:Heap) (H:MH) (h':Heap) (H':MH):Prop where
 keep:∀ b o,h.get? b=some o→H b=none→¬ P b→h'.get? b=some o
 new:∀ b,H' b≠none→H b≠none∨h.get? b=none
 live:∀ b,h.get? b≠none→h'.get? b≠none
noncomputable def noP:Addr→Prop:=fun _=>False
abbrev Stp:=StpP noP
theorem StpP.refl {P:Addr→Prop} {h:Heap} {H:MH}:StpP P h H h H:=⟨fun _ _ e _ _=>e,fun _ e=>.inl e,fun _ e=>e⟩
theorem StpP.trans {P:Addr→Prop} {h h1 h2:Heap} {H H1 H2:MH} (x:StpP P h H h1 H1) (y:StpP P h1 H1 h2 H2):StpP P h H h2 H2 where
 keep b o e n p:=by
  refine y.keep b o (x.keep b o e n p) ?_ p
  induction q:H1 b using Option.casesOn with
  | none=>rfl
  | some v =>
   rcases x.new b (by rw [q]; exact fun e=>by cases e) with z | z
   ·exact absurd n z
   ·rw [z] at e; cases e
 new b e:=by
  rcases y.new b e with z | z
  ·exact x.new b z
  ·right
   induction q:h.get? b using Option.casesOn with
   | none=>rfl
   | some o=>exact absurd z (x.live b (by rw [q]; exact fun e=>by cases e))
 live b e:=y.live b (x.live b e)
theorem StpP.mono {P P':Addr→Prop} {h h':Heap} {H H':MH} (x:StpP P h H h' H') (i:∀ b,P b→P' b):StpP P' h H h' H' :=
 ⟨fun b o e n p=>x.keep b o e n fun q=>p (i b q),x.new,x.live⟩
theorem StpP.drop {P:Addr→Prop} {h0 h h':Heap} {H H':MH} (x:StpP P h H h' H') (y:Stp h0 H h H) (q:∀ b,P b→h0.get? b=none):Stp h0 H h' H' where
 keep b o e n _:=x.keep b o (y.keep b o e n id) n fun p=>by rw [q b p] at e; cases e
 new b e:=by
  rcases x.new b e with z | z
  ·exact .inl z
  ·right
   induction q:h0.get? b using Option.casesOn with
   | none=>rfl
   | some o=>exact absurd z (y.live b (by rw [q]; exact fun e=>by cases e))
 live b e:=x.live b (y.live b e)
theorem Rep.notList {gv:Nat→Value} {h:Heap} {H:MH} (R:Rep gv h H) {a:Addr} {o:Obj} (e:h.get? a=some o) (h1:o.cls≠.type "list") (h2:o.cls≠.type "dict") (h3:∀ k C,gv k=.ref C→o.cls≠.ref C):H a=none:=by
 induction q:H a using Option.casesOn with
 | none=>rfl
 | some m =>
  have r:=R a m q
  induction m using MO.casesOn with
  | list xs=>obtain ⟨vs,n,g,_⟩:=r; rw [e] at g; cases g; exact absurd rfl h1
  | inst k d=>obtain ⟨_,C,c,g⟩:=r; rw [e] at g; cases g; exact absurd rfl (h3 k C c)
  | ns m=>obtain ⟨es,n,g,_⟩:=r; rw [e] at g; cases g; exact absurd rfl h2
section
variable {gv:Nat→Value} {P:Addr→Prop} {h h':Heap} {H H':MH}
theorem VR.mono (k:∀ b o,h.get? b=some o→KO o→h'.get? b=some o) {v:Value} {p:PV} (r:VR gv h v p):VR gv h' v p :=
 PV.rec (motive_1:=fun p=>∀ v,VR gv h v p→VR gv h' v p) (motive_2:=fun ps=>∀ vs,VRs gv h vs ps→VRs gv h' vs ps)
  (fun _ r=>r) (fun _ r=>r) (fun _ _ r=>r) (fun _ _ r=>r) (fun _ _ r=>r)
  (fun _ ih _ r=>xe3 r fun a vs n q=>⟨a,vs,n,q.1,k _ _ q.2.1 ⟨.inl rfl,.inl ⟨_,_,rfl⟩⟩,ih _ q.2.2⟩)
  (fun _ _ _ r=>xe4 r fun a t u w q=>⟨a,t,u,w,q.1,k _ _ q.2 ⟨.inr rfl,.inr ⟨_,rfl⟩⟩⟩)
  (fun _ _ r=>r) (fun _ _ r=>r) (fun _ _ r=>r) (fun _ r=>r) (fun _ _ ih ihs _ r=>xe2 r fun v ws q=>⟨v,ws,q.1,ih _ q.2.1,ihs _ q.2.2⟩) p v r
theorem VRs.mono (k:∀ b o,h.get? b=some o→KO o→h'.get? b=some o):∀ {v:List Value} {p:List PV},VRs gv h v p→VRs gv h' v p:=by
 intro v p
 induction p generalizing v with
 | nil=>exact fun r=>r
 | cons p ps ih=>exact fun r=>xe2 r.un fun v ws q=>⟨v,ws,q.1,q.2.1.mono k,ih q.2.2⟩
theorem EsR.mono (k:∀ b o,h.get? b=some o→KO o→h'.get? b=some o) {es:List DictEntry} {m:List (Nat×PV)} (x:EsR gv h es m):EsR gv h' es m:=by
 induction x with
 | nil=>exact .nil
 | cons hc a _ ih=>exact .cons hc (a.mono k) ih
abbrev Fix (h h':Heap):Prop:=∀ b o,h.get? b=some o→KO o→h'.get? b=some o
theorem ObjRep.mono (k:Fix h h') {a:Addr} {o:MO} (e:∀ ob,h.get? a=some ob→h'.get? a=some ob) (x:ObjRep gv h a o):ObjRep gv h' a o:=by
 induction o using MO.casesOn with
 | list xs=>obtain ⟨vs,n,g,r⟩:=x; exact ⟨vs,n,e _ g,r.mono k⟩
 | inst c d=>obtain ⟨i,C,q,g⟩:=x; exact ⟨i,C,q,e _ g⟩
 | ns m=>obtain ⟨es,n,g,r⟩:=x; exact ⟨es,n,e _ g,r.mono k⟩
end
section
variable {gv:Nat→Value} {h:Heap}
theorem VRs.length {vs:List Value} {ps:List PV} (r:VRs gv h vs ps):vs.length=ps.length:=by
 induction ps generalizing vs with
 | nil=>rw [r.none]; rfl
 | cons p ps ih=>exact xe2 r.un fun v ws q=>by rw [q.1,List.length_cons,List.length_cons,ih q.2.2]
theorem VRs.append {vs:List Value} {ps:List PV} {ws:List Value} {qs:List PV} (r:VRs gv h vs ps) (y:VRs gv h ws qs):VRs gv h (vs++ws) (ps++qs):=by
 induction ps generalizing vs with
 | nil=>rw [r.none]; exact y
 | cons p ps ih=>exact xe2 r.un fun v us q=>by rw [q.1]; exact .cons q.2.1 (ih q.2.2)
theorem VRs.get {vs:List Value} {ps:List PV} (r:VRs gv h vs ps) {i:Nat} {p:PV} (e:ps[i]?=some p):∃ v,vs[i]?=some v∧VR gv h v p:=by
 induction ps generalizing vs i with
 | nil=>cases e
 | cons p' ps ih =>
  refine xe2 r.un fun v us q=>?_
  rw [q.1]
  induction i using Nat.casesAuxOn with
  | zero=>exact ⟨v,rfl,Option.some.inj e ▸ q.2.1⟩
  | succ i=>exact ih q.2.2 e
theorem VRs.reverse {vs:List Value} {ps:List PV} (r:VRs gv h vs ps):VRs gv h vs.reverse ps.reverse:=by
 induction ps generalizing vs with
 | nil=>rw [r.none]; exact .nil
 | cons p ps ih=>exact xe2 r.un fun v us q=>by rw [q.1,List.reverse_cons,List.reverse_cons]; exact (ih q.2.2).append (.cons q.2.1 .nil)
theorem VRs.drop {vs:List Value} {ps:List PV} (n:Nat) (r:VRs gv h vs ps):VRs gv h (vs.drop n) (ps.drop n):=by
 induction ps generalizing vs n with
 | nil=>rw [r.none,List.drop_nil,List.drop_nil]; exact .nil
 | cons p ps ih =>
  induction n using Nat.casesAuxOn with
  | zero=>exact r
  | succ n=>exact xe2 r.un fun v us q=>by rw [q.1]; exact ih n q.2.2
theorem VRs.take {vs:List Value} {ps:List PV} (n:Nat) (r:VRs gv h vs ps):VRs gv h (vs.take n) (ps.take n):=by
 induction ps generalizing vs n with
 | nil=>rw [r.none,List.take_nil,List.take_nil]; exact .nil
 | cons p ps ih =>
  induction n using Nat.casesAuxOn with
  | zero=>exact .nil
  | succ n=>exact xe2 r.un fun v us q=>by rw [q.1]; exact .cons q.2.1 (ih n q.2.2)
theorem VRs.set {v:Value} {p:PV} (r:VR gv h v p) {vs:List Value} {ps:List PV} (n:Nat) (rs:VRs gv h vs ps):VRs gv h (vs.set n v) (ps.set n p):=by
 induction ps generalizing vs n with
 | nil=>rw [rs.none]; exact .nil
 | cons p ps ih =>
  refine xe2 rs.un fun w us q=>?_
  rw [q.1]
  induction n using Nat.casesAuxOn with
  | zero=>exact .cons r q.2.2
  | succ n=>exact .cons q.2.1 (ih n q.2.2)
end
set_option genInjectivity false in
mutual
inductive X where
 | bad
 | lit (p:PV)
 | var (i:Nat)
 | and2 (a b:X)
 | or2 (a b:X)
 | not1 (a:X)
 | neg (a:X)
 | ife (t a b:X)
 | bin (op:Operator) (a b:X)
 | cmp (op:CmpOp) (a b:X)
 | tup (xs:Xs)
 | list (xs:Xs)
 | dict0
 | call (f:X) (xs:Xs)
 | meth (o:X) (n:Nat) (xs:Xs)
 | attr (o:X) (n:Nat)
 | sub (o i:X)
 | slice (o lo hi st:X)
 | comp (elt:X) (vi:Nat) (it:X) (imp:List Nat)
 | compIf (elt:X) (vi:Nat) (it:X) (cond:X) (imp:List Nat)
inductive Xs where
 | nil
 | cons (x:X) (xs:Xs)
end
set_option genInjectivity false in
set_option genCtorIdx false in
mutual
inductive S where
 | bad
 | expr (x:X)
 | ret (x:X)
 | asg (i:Nat) (x:X)
 | asgA (o:X) (n:Nat) (x:X)
 | asgS (o i x:X)
 | asgT (is:List Nat) (x:X)
 | asgW (is:List Nat) (x:X)
 | aug (i:Nat) (op:Operator) (x:X)
 | augA (o:X) (n:Nat) (op:Operator) (x:X)
 | ite (t:X) (a b:Ss)
 | whl (t:X) (b:Ss)
 | for_ (i:Nat) (it:X) (b:Ss)
 | cont
 | brk
inductive Ss where
 | nil
 | cons (s:S) (ss:Ss)
end
abbrev Cl:=PV→List PV→MH→(PV→MH→Prop)→Prop
noncomputable def get (r:List PV) (i:Nat):PV:=r.getD i .undef
noncomputable def truth:PV→Option Bool
 | .none=>some false
 | .bool b=>some b
 | _=>none
mutual
noncomputable def PV.data (H:MH):PV→Option PyData
 | .none=>some .none
 | .bool b=>some (.bool b)
 | .int i=>some (.int i)
 | .str x=>if x.all (fun c=>decide (c<1114112)) then some (.str ⟨x.toArray⟩) else none
 | .tup xs=>(datas H xs).map .tuple
 | .ref a=>match H a with
  | some (.list [])=>some (.list [])
  | _=>none
 | _=>none
noncomputable def datas (H:MH):List PV→Option (List PyData)
 | []=>some []
 | x::xs=>match x.data H,datas H xs with
  | some d,some ds=>some (d::ds)
  | _,_=>none
end
theorem PVdata_q1:∀ (H:MH),PV.data H PV.none=some PyData.none:=by intros; rfl
theorem PVdata_q3:∀ (H:MH) (i:Int),PV.data H (PV.int i)=some (PyData.int i):=by intros; rfl
theorem PVdata_q4:∀ (H:MH) (x_1:List Nat),PV.data H (PV.str x_1)=if (List.all x_1 fun (c:Nat)=>decide (c<1114112))=true then some (PyData.str { cps:=List.toArray x_1 }) else none:=by intros; rfl
theorem PVdata_q5:∀ (H:MH) (xs:List PV),PV.data H (PV.tup xs)=Option.map PyData.tuple (datas H xs):=by intros; rfl
theorem PVdata_q6:∀ (H:MH) (a:Addr),PV.data H (PV.ref a)=match H a with | some (MO.list [])=>some (PyData.list []) | x=>none:=by intros; rfl
theorem datas_q1:∀ (H:MH),datas H []=some []:=by intros; rfl
theorem datas_q2:∀ (H:MH) (x_1:PV) (xs:List PV),datas H (x_1::xs)=match PV.data H x_1,datas H xs with | some d,some ds=>some (d::ds) | x,x_2=>none:=by intros; rfl
noncomputable def EqR (H:MH) (a b:PV) (r:Bool):Prop:=∃ da db,a.data H=some da∧b.data H=some db∧min da.depth db.depth≤2000∧da.eqv db=r
noncomputable def eqOp (H:MH) (a b:PV) (K:Bool→Prop):Prop:=match a,b with
 | .str x,.str y=>K (decide (x=y))
 | .int x,.int y=>K (decide (x=y))
 | .bool x,.bool y=>K (decide (x=y))
 | a,b=>∃ r,EqR H a b r∧K r
noncomputable def isNone:PV→Bool
 | .none=>true
 | _=>false
noncomputable def isBi:PV→Bool
 | .bi _=>true
 | _=>false
noncomputable def big:Nat:=1000000
noncomputable def strsOf:List PV→Option (List (List Nat))
 | []=>some []
 | .str x::r=>(strsOf r).map (x::·)
 | _::_=>none
theorem strsOf_q2:∀ (x_1:List Nat) (r:List PV),strsOf (PV.str x_1::r)=Option.map (fun (x:List (List Nat))=>x_1::x) (strsOf r):=by intros; rfl
noncomputable def fresh (H:MH) (o:MO) (Q:PV→MH→Prop):Prop:=∀ a,H a=none→Q (.ref a) (upd H a o)
noncomputable def binOp (op:Operator) (a b:PV) (H:MH) (Q:PV→MH→Prop):Prop:=match op,a,b with
 | .Add,.int x,.int y=>Q (.int (x+y)) H
 | .Sub,.int x,.int y=>Q (.int (x - y)) H
 | .Mult,.int x,.int y=>x.natAbs<2 ^ 31∧y.natAbs<2 ^ 31∧Q (.int (x*y)) H
 | .FloorDiv,.int x,.int y=>0<y∧y<1000∧Q (.int (x / y)) H
 | .Mod,.int x,.int y=>0<y∧Q (.int (x % y)) H
 | .Add,.str x,.str y=>x.length+y.length≤big∧Q (.str (x++y)) H
 | .Add,.ref x,.ref y=>match H x,H y with
  | some (.list xs),some (.list ys)=>xs.length+ys.length≤big∧fresh H (.list (xs++ys)) Q
  | _,_=>False
 | .Mult,.ref x,.int n=>match H x with
  | some (.list xs)=>0≤n∧n≤1000∧xs.length≤1000∧fresh H (.list (List.replicate n.toNat xs).flatten) Q
  | _=>False
 | _,_,_=>False
noncomputable def cmpOp (op:CmpOp) (a b:PV) (H:MH) (Q:PV→MH→Prop):Prop:=match op with
 | .Eq=>eqOp H a b fun r=>Q (.bool r) H
 | .NotEq=>eqOp H a b fun r=>Q (.bool (!r)) H
 | .Is=>match b with
  | .none=>isBi a=false∧Q (.bool (isNone a)) H
  | _=>False
 | .IsNot=>match b with
  | .none=>isBi a=false∧Q (.bool (!isNone a)) H
  | _=>False
 | .In=>match a,b with
  | .str x,.tup ys=>(match strsOf ys with
   | some zs=>Q (.bool (zs.contains x)) H
   | none=>False)
  | .str [c],.str y=>Q (.bool (y.contains c)) H
  | _,_=>False
 | .NotIn=>match a,b with
  | .str x,.tup ys=>(match strsOf ys with
   | some zs=>Q (.bool (!zs.contains x)) H
   | none=>False)
  | .str [c],.str y=>Q (.bool (!y.contains c)) H
  | _,_=>False
 | op=>match a,b with
  | .int x,.int y=>Q (.bool (match op with
   | .Lt=>decide (x<y)
   | .LtE=>decide (x≤y)
   | .Gt=>decide (y<x)
   | _=>decide (y≤x))) H
  | _,_=>False
noncomputable def subOp (o i:PV) (H:MH) (Q:PV→MH→Prop):Prop:=match o,i with
 | .tup xs,.int k=>0≤k∧k<xs.length∧xs.length≤big∧Q (xs.getD k.toNat .undef) H
 | .str x,.int k=>0≤k∧k<x.length∧x.length≤big∧Q (.str [x.getD k.toNat 0]) H
 | .ref a,.int k=>match H a with
  | some (.list xs)=>0≤k∧k<xs.length∧xs.length≤big∧Q (xs.getD k.toNat .undef) H
  | _=>False
 | _,_=>False
noncomputable def sliceL (xs:List PV) (lo hi st:PV) (H:MH) (Q:PV→MH→Prop):Prop:=match lo,hi,st with
 | .none,.int b,.none=>0≤b∧xs.length≤big∧fresh H (.list (xs.take b.toNat)) Q
 | .none,.none,.int (-1)=>xs.length≤big∧fresh H (.list xs.reverse) Q
 | .none,.int 0,.int (-1)=>xs.length≤big∧fresh H (.list (xs.drop 1).reverse) Q
 | _,_,_=>False
noncomputable def sliceOp (o lo hi st:PV) (H:MH) (Q:PV→MH→Prop):Prop:=match o with
 | .str x=>(match lo,hi,st with
  | .int a,.int b,.none=>0≤a∧0≤b∧x.length≤big∧Q (.str ((x.drop a.toNat).take (b.toNat - a.toNat))) H
  | .none,.int b,.none=>0≤b∧x.length≤big∧Q (.str (x.take b.toNat)) H
  | _,_,_=>False)
 | .ref l=>(match H l with
  | some (.list xs)=>sliceL xs lo hi st H Q
  | _=>False)
 | _=>False
noncomputable def rngItems (lo hi:Int):List PV:=(List.range (hi - lo).toNat).map fun (k:Nat)=>PV.int (lo+k)
noncomputable def biOp (k:Nat) (args:List PV) (H:MH) (Q:PV→MH→Prop):Prop:=match k,args with
 | 0,[.str x]=>x.length≤big∧Q (.int x.length) H
 | 0,[.tup x]=>x.length≤big∧Q (.int x.length) H
 | 0,[.ref a]=>(match H a with
  | some (.list xs)=>xs.length≤big∧Q (.int xs.length) H
  | _=>False)
 | 1,[.int n]=>n.natAbs≤big∧Q (.rng 0 n) H
 | 1,[.int m,.int n]=>m.natAbs≤big∧n.natAbs≤big∧Q (.rng m n) H
 | 2,[.int n]=>Q (.int n.natAbs) H
 | 3,[.int n]=>Q (.int n) H
 | 4,[p,.bi 6]=>(match p with
  | .str _=>Q (.bool true) H
  | .tup _=>Q (.bool false) H
  | .int _=>Q (.bool false) H
  | .none=>Q (.bool false) H
  | _=>False)
 | 4,[p,.bi 7]=>(match p with
  | .str _=>Q (.bool false) H
  | .tup _=>Q (.bool true) H
  | .int _=>Q (.bool false) H
  | .none=>Q (.bool false) H
  | _=>False)
 | 5,[.rng lo hi]=>lo.natAbs≤big∧hi.natAbs≤big∧fresh H (.list (rngItems lo hi)) Q
 | 5,[.tup xs]=>xs.length≤big∧fresh H (.list xs) Q
 | _,_=>False
noncomputable def mthL:List (Nat×Nat×Nat):=[(40,15,51),(40,16,52),(40,17,53),(40,18,54),(40,19,55),(40,20,56),(41,21,61),(42,22,71),(42,23,72),(42,24,73),(42,25,74),(42,26,75),(42,27,76),(42,28,77),(43,29,81)]
noncomputable def mth (k n:Nat):Option Nat:=(mthL.find? fun e=>e.1==k&&e.2.1==n).map (·.2.2)
theorem mth_ok {k n f:Nat} (h:mth k n=some f):n<36∧f<90:=by
 obtain ⟨e,h1,rfl⟩:=Option.map_eq_some_iff.mp h
 have h2:=List.find?_some h1
 rw [Bool.and_eq_true] at h2
 rw [← eq_of_beq h2.2]
 have:∀ e∈mthL,e.2.1<36∧e.2.2<90:=by decide
 exact this e (List.mem_of_find?_eq_some h1)
noncomputable def strMeth (x:List Nat) (n:Nat) (args:List PV) (H:MH) (Q:PV→MH→Prop):Prop:=match n,args with
 | 35,[.ref l]=>(match H l with
  | some (.list ys)=>(match strsOf ys with
   | some zs=>x=[]∧zs.flatten.length≤big∧zs.length≤big∧Q (.str zs.flatten) H
   | none=>False)
  | _=>False)
 | _,_=>False
noncomputable def lm31 (a:Addr) (xs:List PV) (H:MH) (Q:PV→MH→Prop):List PV→Prop
 | [p]=>xs.length<big∧Q .none (upd H a (.list (xs++[p])))
 | _=>False
noncomputable def lm33 (a:Addr) (xs:List PV) (H:MH) (Q:PV→MH→Prop):List PV→Prop
 | [.ref b]=>(match H b with
  | some (.list ys)=>xs.length+ys.length≤big∧Q .none (upd H a (.list (xs++ys)))
  | _=>False)
 | _=>False
noncomputable def lm0 (P:Prop):List PV→Prop
 | []=>P
 | _=>False
noncomputable def listM (a:Addr) (xs:List PV) (n:Nat) (args:List PV) (H:MH) (Q:PV→MH→Prop):Prop :=
 if n=31 then lm31 a xs H Q args else if n=32 then lm0 (xs≠[]∧xs.length≤big∧Q (xs.getLastD .undef) (upd H a (.list xs.dropLast))) args
 else if n=33 then lm33 a xs H Q args else if n=34 then lm0 (xs.length≤big∧Q .none (upd H a (.list xs.reverse))) args else False
noncomputable def listMeth (a:Addr) (n:Nat) (args:List PV) (H:MH) (Q:PV→MH→Prop):Prop:=match H a with
 | some (.list xs)=>listM a xs n args H Q
 | _=>False
noncomputable def bindOp (C:Cl) (o:PV) (n:Nat) (H:MH):Option (List PV→MH→(PV→MH→Prop)→Prop):=match o with
 | .str x=>if n=35 then some (strMeth x n) else none
 | .ref a=>(match H a with
  | some (.list _)=>if 31≤n∧n≤34 then some (listMeth a n) else none
  | some (.inst k d)=>(match H d,mth k n with
   | some (.ns m),some f=>if (m.lookup n).isNone then some fun args H Q=>C (.fn f) (.ref a::args) H Q else none
   | _,_=>none)
  | _=>none)
 | _=>none
noncomputable def attrOp (o:PV) (n:Nat) (H:MH) (Q:PV→MH→Prop):Prop:=match o with
 | .ref a=>(match H a with
  | some (.inst _ d)=>(match H d with
   | some (.ns m)=>(match m.lookup n with
    | some p=>Q p H
    | none=>False)
   | _=>False)
  | _=>False)
 | _=>False
noncomputable def putA (n:Nat) (p:PV):List (Nat×PV)→List (Nat×PV)
 | []=>[(n,p)]
 | (c,q)::r=>if c=n then (c,p)::r else (c,q)::putA n p r
theorem putA_q1:∀ (n:Nat) (p:PV),putA n p []=[(n,p)]:=by intros; rfl
theorem putA_q2:∀ (n:Nat) (p:PV) (c:Nat) (q:PV) (r:List (Nat×PV)),putA n p ((c,q)::r)=if c=n then (c,p)::r else (c,q)::putA n p r:=by intros; rfl
noncomputable def setA (o:PV) (n:Nat) (p:PV) (H:MH) (Q:MH→Prop):Prop:=match o with
 | .ref a=>(match H a with
  | some (.inst _ d)=>(match H d with
   | some (.ns m)=>n<15∧m.length≤100∧Q (upd H d (.ns (putA n p m)))
   | _=>False)
  | _=>False)
 | _=>False
noncomputable def setS (o i p:PV) (H:MH) (Q:MH→Prop):Prop:=match o,i with
 | .ref a,.int k=>(match H a with
  | some (.list xs)=>0≤k∧k<xs.length∧xs.length≤big∧Q (upd H a (.list (xs.set k.toNat p)))
  | _=>False)
 | _,_=>False
noncomputable def iterOp (p:PV) (H:MH) (K:List PV→(MH→Prop)→Prop):Prop:=match p with
 | .ref a=>(match H a with
  | some (.list xs)=>xs.length≤big∧K xs fun H'=>H' a=some (.list xs)
  | _=>False)
 | .rng lo hi=>lo.natAbs≤big∧hi.natAbs≤big∧K (rngItems lo hi) fun _=>True
 | .str x=>x.length≤big∧K (x.map fun c=>.str [c]) fun _=>True
 | _=>False
noncomputable def compGo (src:MH→Prop) (fc fe:PV→MH→(PV→MH→Prop)→Prop):List PV→List PV→MH→(List PV→MH→Prop)→Prop
 | [],acc,H,K=>src H∧K acc H
 | x::xs,acc,H,K=>src H∧fc x H fun t H=>match truth t with
  | some true=>fe x H fun p H=>compGo src fc fe xs (acc++[p]) H K
  | some false=>compGo src fc fe xs acc H K
  | none=>False
noncomputable def compOp (fc fe:PV→MH→(PV→MH→Prop)→Prop) (p:PV) (H:MH) (Q:PV→MH→Prop):Prop :=
 iterOp p H fun xs src=>compGo src fc fe xs [] H fun out H=>fresh H (.list out) Q
noncomputable def callee:PV→Prop
 | .bi k=>k<8
 | .fn k=>k<90
 | _=>False
noncomputable def impR (r:List PV) (imp:List Nat):List PV:=imp.map (get r)
mutual
noncomputable def wpX (C:Cl):X→List PV→MH→(PV→MH→Prop)→Prop
 | .bad,_,_,_=>False
 | .lit p,_,H,Q=>Q p H
 | .var i,r,H,Q=>(match get r i with
  | .undef=>False
  | p=>Q p H)
 | .and2 a b,r,H,Q=>wpX C a r H fun p H=>(match truth p with
  | some true=>wpX C b r H Q
  | some false=>Q p H
  | none=>False)
 | .or2 a b,r,H,Q=>wpX C a r H fun p H=>(match truth p with
  | some true=>Q p H
  | some false=>wpX C b r H Q
  | none=>False)
 | .not1 a,r,H,Q=>wpX C a r H fun p H=>(match truth p with
  | some t=>Q (.bool (!t)) H
  | none=>False)
 | .neg a,r,H,Q=>wpX C a r H fun p H=>(match p with
  | .int i=>Q (.int (-i)) H
  | _=>False)
 | .ife t a b,r,H,Q=>wpX C t r H fun p H=>(match truth p with
  | some true=>wpX C a r H Q
  | some false=>wpX C b r H Q
  | none=>False)
 | .bin op a b,r,H,Q=>wpX C a r H fun p H=>wpX C b r H fun q H=>binOp op p q H Q
 | .cmp op a b,r,H,Q=>wpX C a r H fun p H=>wpX C b r H fun q H=>cmpOp op p q H Q
 | .tup xs,r,H,Q=>wpXs C xs r H fun ps H=>ps.length≤big∧Q (.tup ps) H
 | .list xs,r,H,Q=>wpXs C xs r H fun ps H=>ps.length≤big∧fresh H (.list ps) Q
 | .dict0,_,H,Q=>fresh H (.ns []) Q
 | .call f xs,r,H,Q=>wpX C f r H fun p H=>callee p∧wpXs C xs r H fun ps H=>(match p with
  | .bi k=>biOp k ps H Q
  | .fn k=>C (.fn k) ps H Q
  | _=>False)
 | .meth o n xs,r,H,Q=>wpX C o r H fun p H=>(match bindOp C p n H with
  | some g=>wpXs C xs r H fun ps H=>g ps H Q
  | none=>False)
 | .attr o n,r,H,Q=>wpX C o r H fun p H=>attrOp p n H Q
 | .sub o i,r,H,Q=>wpX C o r H fun p H=>wpX C i r H fun q H=>subOp p q H Q
 | .slice o lo hi st,r,H,Q=>wpX C o r H fun p H=>wpX C lo r H fun a H=>wpX C hi r H fun b H=>wpX C st r H fun c H=>sliceOp p a b c H Q
 | .comp elt vi it imp,r,H,Q=>wpX C it r H fun p H=>compOp (fun _ H Q=>Q (.bool true) H) (fun x H Q=>wpX C elt ((impR r imp).set vi x) H Q) p H Q
 | .compIf elt vi it cond imp,r,H,Q=>wpX C it r H fun p H=>compOp (fun x H Q=>wpX C cond ((impR r imp).set vi x) H Q) (fun x H Q=>wpX C elt ((impR r imp).set vi x) H Q) p H Q
noncomputable def wpXs (C:Cl):Xs→List PV→MH→(List PV→MH→Prop)→Prop
 | .nil,_,H,Q=>Q [] H
 | .cons x xs,r,H,Q=>wpX C x r H fun p H=>wpXs C xs r H fun ps H=>Q (p::ps) H
end
theorem wpXs_q1:∀ (C:Cl) (x:List PV) (x_1:MH) (x_2:List PV→MH→Prop),wpXs C Xs.nil x x_1 x_2=x_2 [] x_1:=by intros; rfl
theorem wpXs_q2:∀ (C:Cl) (x:List PV) (x_1:MH) (x_2:List PV→MH→Prop) (x_4:X) (xs:Xs),wpXs C (Xs.cons x_4 xs) x x_1 x_2=wpX C x_4 x x_1 fun (p:PV) (H:MH)=>wpXs C xs x H fun (ps:List PV) (H:MH)=>x_2 (p::ps) H:=by intros; rfl
set_option genCtorIdx false in
inductive FL where
 | next
 | brk
 | cont
 | ret (p:PV)
abbrev QS:=FL→List PV→MH→Prop
noncomputable def setAll:List Nat→List PV→List PV→List PV
 | i::is,p::ps,r=>setAll is ps (r.set i p)
 | _,_,r=>r
noncomputable def itemsOp (n:Nat) (p:PV) (H:MH) (K:List PV→Prop):Prop:=match p with
 | .tup xs=>xs.length=n∧n≤1000∧K xs
 | .ref a=>(match H a with
  | some (.list xs)=>xs.length=n∧n≤1000∧K xs
  | _=>False)
 | _=>False
noncomputable def forGo (i:Nat) (src:MH→Prop) (fb:List PV→MH→QS→Prop):List PV→List PV→MH→QS→Prop
 | [],r,H,Q=>src H∧Q .next r H
 | x::xs,r,H,Q=>src H∧fb (r.set i x) H fun f r H=>match f with
  | .next=>forGo i src fb xs r H Q
  | .cont=>forGo i src fb xs r H Q
  | .brk=>Q .next r H
  | .ret p=>Q (.ret p) r H
mutual
noncomputable def wpS (C:Cl):S→List PV→MH→QS→Prop
 | .bad,_,_,_=>False
 | .expr x,r,H,Q=>wpX C x r H fun _ H=>Q .next r H
 | .ret x,r,H,Q=>wpX C x r H fun p H=>Q (.ret p) r H
 | .asg i x,r,H,Q=>wpX C x r H fun p H=>Q .next (r.set i p) H
 | .asgA o n x,r,H,Q=>wpX C x r H fun p H=>wpX C o r H fun q H=>setA q n p H fun H=>Q .next r H
 | .asgS o i x,r,H,Q=>wpX C x r H fun p H=>wpX C o r H fun q H=>wpX C i r H fun k H=>setS q k p H fun H=>Q .next r H
 | .asgT is x,r,H,Q=>wpX C x r H fun p H=>itemsOp is.length p H fun ps=>Q .next (setAll is ps r) H
 | .asgW is x,r,H,Q=>wpX C x r H fun p H=>itemsOp is.length p H fun ps=>Q .next (setAll is.reverse ps.reverse r) H
 | .aug i op x,r,H,Q=>(match get r i with
  | .int a=>wpX C x r H fun q H=>(match op,q with
   | .Add,.int b=>Q .next (r.set i (.int (a+b))) H
   | _,_=>False)
  | _=>False)
 | .augA o n op x,r,H,Q=>wpX C o r H fun q H=>attrOp q n H fun p H=>wpX C x r H fun y H=>(match op,p,y with
   | .Add,.int a,.int b=>setA q n (.int (a+b)) H fun H=>Q .next r H
   | _,_,_=>False)
 | .ite t a b,r,H,Q=>wpX C t r H fun p H=>(match truth p with
  | some true=>wpSs C a r H Q
  | some false=>wpSs C b r H Q
  | none=>False)
 | .whl t b,r,H,Q=>∃ I:Nat→List PV→MH→Prop,(∃ n,I n r H)∧∀ n r H,I n r H→wpX C t r H fun p H=>(match truth p with
  | some true=>wpSs C b r H fun f r H=>(match f with
   | .next=>∃ m,m<n∧I m r H
   | .cont=>∃ m,m<n∧I m r H
   | .brk=>Q .next r H
   | .ret p=>Q (.ret p) r H)
  | some false=>Q .next r H
  | none=>False)
 | .for_ i it b,r,H,Q=>wpX C it r H fun p H=>iterOp p H fun xs src=>forGo i src (fun r H Q=>wpSs C b r H Q) xs r H Q
 | .cont,r,H,Q=>Q .cont r H
 | .brk,r,H,Q=>Q .brk r H
noncomputable def wpSs (C:Cl):Ss→List PV→MH→QS→Prop
 | .nil,r,H,Q=>Q .next r H
 | .cons s ss,r,H,Q=>wpS C s r H fun f r H=>(match f with
  | .next=>wpSs C ss r H Q
  | .brk=>Q .brk r H
  | .cont=>Q .cont r H
  | .ret p=>Q (.ret p) r H)
end
noncomputable def tq (p:PV) (A B:Prop):Prop:=match truth p with
 | some true=>A
 | some false=>B
 | none=>False
noncomputable def sq (C:Cl) (ss:Ss) (Q:QS):QS:=fun f r H=>match f with
 | .next=>wpSs C ss r H Q
 | .brk=>Q .brk r H
 | .cont=>Q .cont r H
 | .ret p=>Q (.ret p) r H
theorem tq_elim {p:PV} {A B G:Prop} (q:tq p A B) (t:truth p=some true→A→G) (f:truth p=some false→B→G):G:=by
 unfold tq at q
 induction h:truth p using Option.casesOn with
 | none=>rw [h] at q; exact q.elim
 | some b =>
  rw [h] at q
  induction b using Bool.casesOn with
  | true=>exact t h q
  | false=>exact f h q
noncomputable def S1 (s:String):PV:=.str (Str.ofString s).cps.toList
noncomputable def glS:List (String×PV):=[
 ("ONE", S1 "one"),("WAYS", S1 "ways"),("SPLIT", S1 "split"),("JUMP", S1 "jump"),("MARK", S1 "mark"),("NAME", S1 "name"),("SET", S1 "set"),("GAIN", S1 "gain"),
 ("PLACE", S1 "place"),("ASK", S1 "ask"),("FENCE", S1 "fence"),("FAIL", S1 "fail"),("ABORT", S1 "abort"),("SUCCEED", S1 "succeed"),("DONE", S1 "done"),
 ("PUT", S1 "put"),("EMIT", S1 "emit"),("OPEN", S1 "open"),("SHUT", S1 "shut"),("MEET", S1 "meet"),("LOST", S1 "lost"),
 ("SINGLE", .tup [S1 "chars", S1 "len", S1 "pos", S1 "rpos", S1 "tab", S1 "rtab", S1 "any", S1 "notany", S1 "span", S1 "break", S1 "rem"]),
 ("ALONE", .tup [S1 "fence", S1 "fail", S1 "abort", S1 "succeed"]),
 ("COUNTED", .tup [S1 "len", S1 "pos", S1 "rpos", S1 "tab", S1 "rtab"]),
 ("SIGNED", .tup [S1 "any", S1 "notany", S1 "span", S1 "break"]),
 ("MET", .int 0),("FAILED", .int 1),("OVER", .int 2),
 ("_law_all", .tup [S1 "lot", S1 "abc"]),
 ("row_of", .fn 0),("is_plain_text", .fn 1),("with_texts_joined", .fn 2),("straightened", .fn 3),("compile_pattern", .fn 4),("is_delayed", .fn 5),("settled", .fn 6),
 ("chars_end", .fn 7),("len_end", .fn 8),("rpos_end", .fn 9),("any_at", .fn 10),("notany_at", .fn 11),("arb_ends", .fn 12),("one_end", .fn 13),("plain_end", .fn 14),
 ("ends_of", .fn 15),("named_rows", .fn 16),("match_orders", .fn 17),("match_compiled", .fn 18),("match_plain", .fn 19),("match_at", .fn 20),("tried", .fn 21),
 ("advanced", .fn 22),("led_in", .fn 23),("led_out", .fn 24),("taken", .fn 25),("_law_next", .fn 26),("_law_node", .fn 27),("_law_row", .fn 28),("_law_behind", .fn 29),
 ("_law_of", .fn 30),("_law_either", .fn 31),("_law_has_nothing", .fn 32),("_law_left", .fn 33),
 ("PatternCode", .fn 40),("Way", .fn 41),("Match", .fn 42),("PlainHost", .fn 43),
 ("len", .bi 0),("range", .bi 1),("abs", .bi 2),("int", .bi 3),("isinstance", .bi 4),("list", .bi 5),("str", .bi 6),("tuple", .bi 7)]
noncomputable def gl:List (Str×PV):=glS.map fun p=>(Str.ofString p.1,p.2)
noncomputable def idx (sc:Scope) (x:Str):Option Nat:=sc.names.findIdx? fun p=>p.1==x
noncomputable def anIdx (x:Str):Option Nat:=anL.findIdx? fun s=>Str.ofString s==x
noncomputable def cName (sc:Scope) (x:Str):X:=if x==("__debug__" : Str)||x==("__classdict__" : Str) then .bad else match sc.names.lookup x,idx sc x with
 | some .local,some i=>.var i
 | some .cell,some i=>.var i
 | some .free,some i=>.var i
 | some .globalImplicit,_=>(match gl.lookup x with
  | some p=>.lit p
  | none=>.bad)
 | _,_=>.bad
noncomputable def okBase:Expr→Bool
 | .Call _ [] _ _=>false
 | _=>true
noncomputable def noSet:Expr→Bool
 | .Set ..=>false
 | _=>true
noncomputable def noStar:Expr→Bool
 | .Starred ..=>false
 | _=>true
noncomputable def noStars (es:List Expr):Bool:=es.all noStar
noncomputable def compOk (sc csc:Scope) (x:Str):Bool :=
 csc.kind==.function&&csc.names.all (fun y=>y.2 != .cell)&&csc.names.all (fun y=>y.2 != .local||csc.names.lookup y.1==some .local)&&csc.names.lookup x==some .local &&
 csc.names.all (fun y=>y.2 != .free||(csc.names.lookup y.1==some .free&&(sc.names.lookup y.1==some .cell||sc.names.lookup y.1==some .free)))&&decide (csc.names.length≤1000)
noncomputable def impOf (sc csc:Scope):List Nat:=csc.names.map fun y=>if y.2==.free then (idx sc y.1).getD 9999 else 9999
mutual
noncomputable def cE (sc:Scope):Nat→Expr→X
 | 0,_=>.bad
 | n+1,e=>match e with
  | .Constant c _ _=>(match c with
   | .none=>.lit .none
   | .bool b=>.lit (.bool b)
   | .int i=>.lit (.int i)
   | .str s=>.lit (.str s.cps.toList)
   | _=>.bad)
  | .Name x _=>cName sc x
  | .BoolOp .And [a,b] _=>.and2 (cE sc n a) (cE sc n b)
  | .BoolOp .Or [a,b] _=>.or2 (cE sc n a) (cE sc n b)
  | .UnaryOp .Not a _=>.not1 (cE sc n a)
  | .UnaryOp .USub a _=>.neg (cE sc n a)
  | .IfExp t a b _=>.ife (cE sc n t) (cE sc n a) (cE sc n b)
  | .BinOp a op b _=>.bin op (cE sc n a) (cE sc n b)
  | .Compare a [op] [b] _=>if noSet b then .cmp op (cE sc n a) (cE sc n b) else .bad
  | .List es _=>.list (cEs sc n es)
  | .Tuple es _ _=>.tup (cEs sc n es)
  | .Dict [] [] _=>.dict0
  | .Call (.Attribute o name apos) args [] pos=>if okBase o&&apos.endLine==pos.line&&decide (args.length<20)&&noStars args then (match anIdx name with
    | some k=>.meth (cE sc n o) k (cEs sc n args)
    | none=>.bad) else .bad
  | .Call f args [] _=>if noStars args then .call (cE sc n f) (cEs sc n args) else .bad
  | .Attribute o name _=>if okBase o then (match anIdx name with
    | some k=>.attr (cE sc n o) k
    | none=>.bad) else .bad
  | .Subscript o (.Slice lo hi st _) _=>.slice (cE sc n o) (cO sc n lo) (cO sc n hi) (cO sc n st)
  | .Subscript o i _=>.sub (cE sc n o) (cE sc n i)
  | .ListComp elt [⟨.Name x _,iter,[],0⟩] csc _=>if noSet iter&&compOk sc csc x then (match idx csc x with
    | some vi=>.comp (cE csc n elt) vi (cE sc n iter) (impOf sc csc)
    | none=>.bad) else .bad
  | .ListComp elt [⟨.Name x _,iter,[c],0⟩] csc _=>if noSet iter&&compOk sc csc x then (match idx csc x with
    | some vi=>.compIf (cE csc n elt) vi (cE sc n iter) (cE csc n c) (impOf sc csc)
    | none=>.bad) else .bad
  | _=>.bad
noncomputable def cEs (sc:Scope):Nat→List Expr→Xs
 | _,[]=>.nil
 | 0,_::_=>.cons .bad .nil
 | n+1,e::es=>.cons (cE sc n e) (cEs sc n es)
noncomputable def cO (sc:Scope):Nat→Option Expr→X
 | _,none=>.lit .none
 | 0,some _=>.bad
 | n+1,some e=>cE sc n e
end
noncomputable def envD (sc:Scope):Env:={ scope:=sc,locals:=0,globals:=mainGlobals,cells:=[] }
noncomputable def isComp:Expr→Bool
 | .ListComp .. | .SetComp .. | .DictComp ..=>true
 | _=>false
noncomputable def nmOpt:Expr→Option Str
 | .Name x _=>some x
 | _=>none
noncomputable def nm1 (sc:Scope) (e:Expr):Option Nat:=(nmOpt e).bind fun x=>if (sc.names.lookup x==some .local||sc.names.lookup x==some .cell)=true then idx sc x else none
noncomputable def nameIdx (sc:Scope):List Expr→Option (List Nat)
 | []=>some []
 | e::es=>(nm1 sc e).bind fun i=>(nameIdx sc es).map (i::·)
noncomputable def exprNames (es:List Expr):List Str:=es.filterMap nmOpt
mutual
noncomputable def cS (sc:Scope):Nat→Stmt→S
 | 0,_=>.bad
 | n+1,st=>match st with
  | .Expr e _=>if isComp e then .bad else .expr (cE sc n e)
  | .Return (some e) _=>.ret (cE sc n e)
  | .Return none _=>.ret (.lit .none)
  | .Assign [.Name x _] e _=>if isComp e then .bad else (match cName sc x with
   | .var i=>if sc.names.lookup x==some .free then .bad else .asg i (cE sc n e)
   | _=>.bad)
  | .Assign [.Attribute o name _] e _=>if isComp e||!okBase o then .bad else (match anIdx name with
   | some k=>.asgA (cE sc n o) k (cE sc n e)
   | none=>.bad)
  | .Assign [.Subscript o i _] e _=>if isComp e then .bad else (match i with
   | .Slice ..=>.bad
   | i=>.asgS (cE sc n o) (cE sc n i) (cE sc n e))
  | .Assign [.Tuple es k tp] e _=>if isComp e then .bad else (match nameIdx sc es,pureOf (swappedStores [.Tuple es k tp] e (envD sc)) with
   | some is,some none=>.asgT is (cE sc n e)
   | some is,some (some ns)=>if ns==exprNames es then .asgW is (cE sc n e) else .bad
   | _,_=>.bad)
  | .AugAssign (.Name x _) op e _=>(match cName sc x with
   | .var i=>if sc.names.lookup x==some .free then .bad else .aug i op (cE sc n e)
   | _=>.bad)
  | .AugAssign (.Attribute o name _) op e _=>if !okBase o then .bad else (match anIdx name with
   | some k=>.augA (cE sc n o) k op (cE sc n e)
   | none=>.bad)
  | .If t a b _=>.ite (cE sc n t) (cSs sc n a) (cSs sc n b)
  | .While t b [] _=>.whl (cE sc n t) (cSs sc n b)
  | .For (.Name x _) it b [] _=>if noSet it then (match cName sc x with
   | .var i=>if sc.names.lookup x==some .free then .bad else .for_ i (cE sc n it) (cSs sc n b)
   | _=>.bad) else .bad
  | .Continue _=>.cont
  | .Break _=>.brk
  | _=>.bad
noncomputable def cSs (sc:Scope):Nat→List Stmt→Ss
 | _,[]=>.nil
 | 0,_::_=>.cons .bad .nil
 | n+1,s::ss=>.cons (cS sc n s) (cSs sc n ss)
end
section
variable {gv:Nat→Value} {h:Heap} {H:MH}
theorem data_ok (R:Rep gv h H):(p:PV)→∀ v d,VR gv h v p→p.data H=some d→(∃ as,Reads h v d as)∧d.canLay0=true :=
 PV.rec (motive_1:=fun p=>∀ v d,VR gv h v p→p.data H=some d→(∃ as,Reads h v d as)∧d.canLay0=true) (motive_2:=fun ps=>∀ vs ds,VRs gv h vs ps→datas H ps=some ds→(∃ as,ReadsAll h vs ds as)∧PyData.canLayAll0 ds=true)
  (fun _ _ r _=>r.elim) (fun v d r e=>by
   rw [show v=.none from r,← Option.some.inj (show some PyData.none=some d from e)]; exact ⟨⟨_,.none⟩,rfl⟩)
  (fun b v d r e=>by rw [show v=.bool b from r,← Option.some.inj (show some (PyData.bool b)=some d from e)]; exact ⟨⟨_,.bool b⟩,rfl⟩)
  (fun i v d r e=>xe1 r fun t r=>by rw [r,← Option.some.inj (show some (PyData.int i)=some d from e)]; exact ⟨⟨_,.int i t⟩,rfl⟩)
  (fun x v d r e=>xe1 r fun t r=>by
   replace e:(if x.all (fun c=>decide (c<1114112)) then some (PyData.str ⟨x.toArray⟩) else none)=some d:=e
   by_cases hx:x.all (fun c=>decide (c<1114112))=true
   ·rw [if_pos hx] at e
    rw [r,← Option.some.inj e]
    refine ⟨⟨_,.str _ t⟩,?_⟩
    simp only [PyData.canLay0,PyData.strOk]
    simpa using hx
   ·rw [if_neg hx] at e; cases e)
  (fun xs ih v d r e=>xe3 r fun a vs n r=>by
   obtain ⟨ds,e1,e2⟩:=Option.map_eq_some_iff.mp (show (datas H xs).map PyData.tuple=some d from e)
   obtain ⟨⟨as,q⟩,c⟩:=ih vs ds r.2.2 e1
   rw [r.1,← e2]
   exact ⟨⟨as,.tuple r.2.1 rfl rfl q⟩,c⟩)
  (fun _ _ _ _ _ e=>nomatch (show none=some _ from e))
  (fun a v d r e=>by
   replace e:(match H a with
    | some (.list [])=>some (PyData.list [])
    | _=>none)=some d:=e
   induction q:H a using Option.casesOn with
   | none=>rw [q] at e; cases e
   | some m =>
    rw [q] at e
    induction m using MO.casesOn with
    | list xs =>
     rcases xs with _ | ⟨x,xs⟩
     ·obtain ⟨vs,n,g,rs⟩:=R a _ q
      rw [rs.none] at g
      rw [show v=.ref a from r,← Option.some.inj e]
      exact ⟨⟨_,.list g rfl rfl .nil⟩,rfl⟩
     ·cases e
    | _=>cases e)
  (fun _ _ _ _ e=>nomatch (show none=some _ from e)) (fun _ _ _ _ e=>nomatch (show none=some _ from e))
  (fun vs ds r e=>by rw [show vs=[] from r,← Option.some.inj (show some []=some ds from e)]; exact ⟨⟨_,.nil⟩,rfl⟩)
  (fun x xs ih ihs vs ds r e=>xe2 r fun v ws r=>by
   replace e:(match x.data H,datas H xs with
    | some d,some ds=>some (d::ds)
    | _,_=>none)=some ds:=e
   rcases h1:x.data H with _ | d
   ·rw [h1] at e; cases e
   ·rcases h2:datas H xs with _ | dt
    ·rw [h1,h2] at e; cases e
    ·rw [h1,h2] at e
     obtain ⟨⟨as,q⟩,c⟩:=ih v d r.2.1 h1
     obtain ⟨⟨bs,q'⟩,c'⟩:=ihs ws dt r.2.2 h2
     rw [r.1,← Option.some.inj e]
     exact ⟨⟨_,.cons q q'⟩,by simp [PyData.canLayAll0,c,c']⟩)
theorem data_reads (R:Rep gv h H) {v:Value} {p:PV} {d:PyData} (r:VR gv h v p) (e:p.data H=some d):(∃ as,Reads h v d as)∧d.canLay0=true:=data_ok R p v d r e
end
section
variable {gv:Nat→Value} {prog:Program} {w:World} {A:Around} {E:Value→Shared→Prop} {s:Shared} {H:MH}
theorem r_truthy {M:Model} {v:Value} {p:PV} {b:Bool} {Q:Bool→Shared→Prop} (r:VR gv s.heap v p) (t:truth p=some b) (h:Q b s):wpAny M A (truthy v) Q E s:=by
 induction p using PV.casesOn <;> simp only [truth] at t <;> (try cases t)
 ·obtain rfl:=r.inv; exact fun _ _ _=>h
 ·obtain rfl:=r.inv; exact fun _ _ _=>h
theorem arr_eq (x y:List Nat):((⟨x.toArray⟩:Str)==⟨y.toArray⟩)=decide (x=y):=by
 rw [Bool.eq_iff_iff,beq_iff_eq,decide_eq_true_eq,Str.mk.injEq]
 exact ⟨fun e=>by simpa using e,fun e=>by rw [e]⟩
theorem eqOp_inv {a b:PV} {K:Bool→Prop} {G:Prop} (e:eqOp H a b K) (h1:∀ x y,a=.str x→b=.str y→K (decide (x=y))→G) (h2:∀ x y,a=.int x→b=.int y→K (decide (x=y))→G) (h3:∀ x y,a=.bool x→b=.bool y→K (decide (x=y))→G) (h4:(∃ r,EqR H a b r∧K r)→G):G:=by
 induction a using PV.casesOn <;> first
  | exact h4 e
  | (induction b using PV.casesOn <;> first | exact h4 e | exact h1 _ _ rfl rfl e | exact h2 _ _ rfl rfl e | exact h3 _ _ rfl rfl e)
theorem r_eq {a b:Value} {p q:PV} {K:Bool→Prop} {Q:Value→Shared→Prop} (R:Rep gv s.heap H) (ra:VR gv s.heap a p) (rb:VR gv s.heap b q) (hu:A.units+2100<cLine)
  (e:eqOp H p q K) (h:∀ r,K r→Q (.bool r) s):wpAny (model prog w) A (compareOp .Eq a b) Q E s:=by
 have gen:(∃ r,EqR H p q r∧K r)→wpAny (model prog w) A (compareOp .Eq a b) Q E s:=by
  rintro ⟨r,⟨da,db,h1,h2,h3,h4⟩,k⟩
  obtain ⟨⟨as,q1⟩,c1⟩:=data_reads R ra h1
  obtain ⟨⟨bs,q2⟩,c2⟩:=data_reads R rb h2
  exact SeqAt.compareEq_reads q1 q2 c1 c2 (by lia) (by rw [h4]; exact h r k)
 refine eqOp_inv e (fun x y e1 e2 k=>?_) (fun x y e1 e2 k=>?_) (fun x y e1 e2 k=>?_) gen <;> rw [e1] at ra <;> rw [e2] at rb
 ·obtain ⟨_,e3⟩:=ra.inv; obtain ⟨_,e4⟩:=rb.inv; rw [e3,e4]; exact eq_str (by rw [arr_eq]; exact h _ k)
 ·obtain ⟨_,e3⟩:=ra.inv; obtain ⟨_,e4⟩:=rb.inv; rw [e3,e4]; exact eq_int (by rw [show ∀ x y:Int,(x==y)=decide (x=y) from fun x y=>rfl]; exact h _ k)
 ·rw [show a=.bool x from ra,show b=.bool y from rb]; exact eq_bool (by rw [show ∀ x y:Bool,(x==y)=decide (x=y) from by decide]; exact h _ k)
theorem r_ne {a b:Value} {p q:PV} {K:Bool→Prop} {Q:Value→Shared→Prop} (R:Rep gv s.heap H) (ra:VR gv s.heap a p) (rb:VR gv s.heap b q) (hu:A.units+2100<cLine)
  (e:eqOp H p q K) (h:∀ r,K r→Q (.bool (!r)) s):wpAny (model prog w) A (compareOp .NotEq a b) Q E s:=by
 have gen:(∃ r,EqR H p q r∧K r)→wpAny (model prog w) A (compareOp .NotEq a b) Q E s:=by
  rintro ⟨r,⟨da,db,h1,h2,h3,h4⟩,k⟩
  obtain ⟨⟨as,q1⟩,c1⟩:=data_reads R ra h1
  obtain ⟨⟨bs,q2⟩,c2⟩:=data_reads R rb h2
  exact SeqAt.compareNe_reads q1 q2 c1 c2 (by lia) (by rw [h4]; exact h r k)
 refine eqOp_inv e (fun x y e1 e2 k=>?_) (fun x y e1 e2 k=>?_) (fun x y e1 e2 k=>?_) gen <;> rw [e1] at ra <;> rw [e2] at rb
 ·obtain ⟨_,e3⟩:=ra.inv; obtain ⟨_,e4⟩:=rb.inv; rw [e3,e4]; exact ne_str (by rw [show ∀ x y:Str,(x != y)=!(x==y) from fun _ _=>rfl,arr_eq]; exact h _ k)
 ·obtain ⟨_,e3⟩:=ra.inv; obtain ⟨_,e4⟩:=rb.inv; rw [e3,e4]; exact ne_int (by rw [show ∀ x y:Int,(x != y)=!decide (x=y) from fun x y=>rfl]; exact h _ k)
 ·rw [show a=.bool x from ra,show b=.bool y from rb]; exact ne_bool (by rw [show ∀ x y:Bool,(x != y)=!decide (x=y) from by decide]; exact h _ k)
theorem vr_kind {h:Heap} {v:Value} {p:PV} (hg:∀ k,∃ C,gv k=.ref C) (r:VR gv h v p):(∃ C,v=.ref C∧isNone p=false)∨(p=.none∧v=.none)∨(∃ b,v=.bool b∧isNone p=false)∨(∃ i t,v=.int i t∧isNone p=false)∨(∃ x t,v=.str x t∧isNone p=false)∨∃ k,p=.bi k∧v=biVal k:=by
 induction p using PV.casesOn with
 | undef=>exact r.elim
 | none=>exact .inr (.inl ⟨rfl,r⟩)
 | bool b=>exact .inr (.inr (.inl ⟨b,r,rfl⟩))
 | int i=>exact xe1 r fun t e=>.inr (.inr (.inr (.inl ⟨i,t,e,rfl⟩)))
 | str x=>exact xe1 r fun t e=>.inr (.inr (.inr (.inr (.inl ⟨_,t,e,rfl⟩))))
 | tup xs=>exact xe3 r fun a vs n q=>.inl ⟨a,q.1,rfl⟩
 | rng a b=>exact xe4 r fun a t u w q=>.inl ⟨a,q.1,rfl⟩
 | ref a=>exact .inl ⟨a,r,rfl⟩
 | fn k=>exact xe1 (hg k) fun C e=>.inl ⟨C,Eq.trans r e,rfl⟩
 | bi k=>exact .inr (.inr (.inr (.inr (.inr ⟨k,rfl,r⟩))))
theorem vr_none {h:Heap} {v:Value} {p:PV} (hg:∀ k,∃ C,gv k=.ref C) (r:VR gv h v p) (hp:isBi p=false):PySem.plainIs v .none=true∧(v==.none)=isNone p:=by
 rcases vr_kind hg r with ⟨C,e,n⟩ | ⟨n,e⟩ | ⟨C,e,n⟩ | ⟨C,t,e,n⟩ | ⟨C,t,e,n⟩ | ⟨k,e,n⟩
 ·rw [e,n]; exact ⟨rfl,rfl⟩
 ·rw [e,n]; exact ⟨rfl,rfl⟩
 ·rw [e,n]; exact ⟨rfl,rfl⟩
 ·rw [e,n]; exact ⟨rfl,rfl⟩
 ·rw [e,n]; exact ⟨rfl,rfl⟩
 ·rw [e] at hp; exact Bool.noConfusion hp
theorem mulOk {x y:Int} (h:x.natAbs<2 ^ 31):IntMulOk x y:=by
 exact IntMulOk.of_left (intBits_le_64 (by lia) (by lia))
theorem r_rep_push {h:Heap} {o:Obj} (R:Rep gv h H):Rep gv (h.push o) H:=fun a m e =>
 (R a m e).mono (fun _ _ g _=>Heap.get?_push_of_some _ g) fun _ g=>Heap.get?_push_of_some _ g
theorem stp_push {h:Heap} {H:MH} (o:Obj):Stp h H (h.push o) H:=⟨fun _ _ e _ _=>Heap.get?_push_of_some _ e,fun _ e=>.inl e,fun b e=>by
 induction q:h.get? b using Option.casesOn with
 | none=>exact absurd q e
 | some x=>rw [Heap.get?_push_of_some _ q]; exact fun e=>by cases e⟩
theorem free_top {h:Heap}:h.get? h.objs.size=none:=by
 induction q:h.get? h.objs.size using Option.casesOn with
 | none=>rfl
 | some o=>exact absurd (Heap.lt_size q) (Nat.lt_irrefl _)
theorem Rep.top {h:Heap} (R:Rep gv h H):H h.objs.size=none:=by
 induction q:H h.objs.size using Option.casesOn with
 | none=>rfl
 | some o =>
  have r:=R _ _ q
  induction o using MO.casesOn with
  | list xs=>obtain ⟨_,_,g,_⟩:=r; rw [free_top] at g; cases g
  | inst k d=>obtain ⟨_,_,_,g⟩:=r; rw [free_top] at g; cases g
  | ns m=>obtain ⟨_,_,g,_⟩:=r; rw [free_top] at g; cases g
theorem r_alloc {h:Heap} {o:Obj} {m:MO} (R:Rep gv h H) (q:ObjRep gv (h.push o) h.objs.size m):Rep gv (h.push o) (upd H h.objs.size m)∧Stp h H (h.push o) (upd H h.objs.size m):=by
 refine ⟨fun a x e=>?_,⟨fun b o' e _ _=>Heap.get?_push_of_some _ e,fun b e=>?_,(stp_push (H:=H) o).live⟩⟩
 ·by_cases ha:a=h.objs.size
  ·subst ha; rw [upd_self] at e; cases e; exact q
  ·rw [upd_other ha] at e; exact r_rep_push R a x e
 ·by_cases hb:b=h.objs.size
  ·subst hb; exact .inr free_top
  ·rw [upd_other hb] at e; exact .inl e
end
noncomputable def Kv (gv:Nat→Value) (P:Value→Shared→Prop) (s:Shared) (H:MH) (Q:PV→MH→Prop):Prop :=
 ∀ v p h' tk H',Q p H'→VR gv h' v p→Rep gv h' H'→Stp s.heap H h' H'→P v { s with heap:=h',toks:=tk }
section
variable {gv:Nat→Value} {prog:Program} {w:World} {A:Around} {E:Value→Shared→Prop} {s:Shared} {H:MH} {P:Value→Shared→Prop} {Q:PV→MH→Prop}
theorem Kv.same {v:Value} {p:PV} {tk:Nat} (K:Kv gv P s H Q) (R:Rep gv s.heap H) (q:Q p H) (r:VR gv s.heap v p):P v { s with toks:=tk } :=
 K v p s.heap tk H q r R StpP.refl
theorem Kv.push {o:Obj} {p:PV} {tk:Nat} (K:Kv gv P s H Q) (R:Rep gv s.heap H) (q:Q p H) (r:VR gv (s.heap.push o) (.ref s.heap.objs.size) p):P (.ref s.heap.objs.size) { s with heap:=s.heap.push o,toks:=tk } :=
 K _ p _ tk H q r (r_rep_push R) (stp_push o)
theorem VRs.push {h:Heap} {vs:List Value} {ps:List PV} (r:VRs gv h vs ps) (o:Obj):VRs gv (h.push o) vs ps:=r.mono fun _ _ e _=>Heap.get?_push_of_some _ e
theorem VR.push {h:Heap} {v:Value} {p:PV} (r:VR gv h v p) (o:Obj):VR gv (h.push o) v p:=r.mono fun _ _ e _=>Heap.get?_push_of_some _ e
theorem Kv.newList {vs:List Value} {ps:List PV} {n tk:Nat} (K:Kv gv P s H Q) (R:Rep gv s.heap H) (q:fresh H (.list ps) Q) (r:VRs gv s.heap vs ps) :
  P (.ref s.heap.objs.size) { s with heap:=s.heap.push (listOf vs.toArray n),toks:=tk }:=by
 obtain ⟨R',S⟩:=r_alloc (o:=listOf vs.toArray n) (m:=.list ps) R ⟨vs,n,Heap.get?_push_size _ rfl,r.push _⟩
 exact K _ _ _ tk _ (q _ R.top) (.ref _) R' S
theorem strOk_list (x y:List Nat):(⟨x.toArray⟩:Str)++⟨y.toArray⟩=⟨(x++y).toArray⟩:=by
 show Str.append _ _=_
 simp [Str.append]
theorem foldl_flatten (xs:List Value):∀ (n:Nat) (acc:Array Value),(List.foldl (fun x1 x2=>x1++x2) acc (List.replicate n xs.toArray))=acc++(List.replicate n xs).flatten.toArray
 | 0,acc=>by simp
 | n+1,acc=>by rw [List.replicate_succ,List.foldl_cons,foldl_flatten xs n,List.replicate_succ,List.flatten_cons]; simp
theorem VRs.rep {h:Heap} {vs:List Value} {ps:List PV} (r:VRs gv h vs ps):∀ n,VRs gv h (List.replicate n vs).flatten (List.replicate n ps).flatten
 | 0=>by simpa using VRs.nil
 | n+1=>by rw [List.replicate_succ,List.flatten_cons,List.replicate_succ,List.flatten_cons]; exact r.append (r.rep n)
theorem binOp_inv {G:Operator→PV→PV→Prop} {op:Operator} {p q:PV} (e:binOp op p q H Q)
  (h1:∀ x y,Q (.int (x+y)) H→G .Add (.int x) (.int y)) (h2:∀ x y,binOp .Add (.str x) (.str y) H Q→G .Add (.str x) (.str y)) (h3:∀ x y,binOp .Add (.ref x) (.ref y) H Q→G .Add (.ref x) (.ref y))
  (h4:∀ x y,Q (.int (x - y)) H→G .Sub (.int x) (.int y)) (h5:∀ x y,binOp .Mult (.int x) (.int y) H Q→G .Mult (.int x) (.int y)) (h6:∀ x y,binOp .Mult (.ref x) (.int y) H Q→G .Mult (.ref x) (.int y))
  (h7:∀ x y,binOp .Mod (.int x) (.int y) H Q→G .Mod (.int x) (.int y)) (h8:∀ x y,binOp .FloorDiv (.int x) (.int y) H Q→G .FloorDiv (.int x) (.int y)):G op p q:=by
 induction op using PySem.Operator.casesOn <;> first | exact False.elim e | induction p using PV.casesOn <;> first | exact False.elim e | induction q using PV.casesOn <;> first | exact False.elim e | skip
 ·exact h1 _ _ e
 ·exact h2 _ _ e
 ·exact h3 _ _ e
 ·exact h4 _ _ e
 ·exact h5 _ _ e
 ·exact h6 _ _ e
 ·exact h7 _ _ e
 ·exact h8 _ _ e
theorem r_bin {op:Operator} {a b:Value} {p q:PV} (R:Rep gv s.heap H) (ra:VR gv s.heap a p) (rb:VR gv s.heap b q) (e:binOp op p q H Q) (K:Kv gv P s H Q):wpAny (model prog w) A (binaryOp op a b) P E s:=by
 refine binOp_inv (G:=fun op p q=>∀ a b,VR gv s.heap a p→VR gv s.heap b q→wpAny (model prog w) A (binaryOp op a b) P E s) e (fun x y e a b ra rb=>?_) (fun x y e a b ra rb=>?_) (fun x y e a b ra rb=>?_) (fun x y e a b ra rb=>?_) (fun x y e a b ra rb=>?_) (fun x n e a b ra rb=>?_) (fun x y e a b ra rb=>?_) (fun x y e a b ra rb=>?_) a b ra rb
 ·obtain ⟨_,rfl⟩:=ra.inv
  obtain ⟨_,rfl⟩:=rb.inv
  exact add_int (K.same R e (.int _ _))
 ·obtain ⟨_,rfl⟩:=ra.inv
  obtain ⟨_,rfl⟩:=rb.inv
  obtain ⟨h1,h2⟩:=e
  refine add_str (fun t' tk=>by rw [strOk_list]; exact K.same R h2 (.str _ _)) ?_
  simp only [Str.length,List.size_toArray,sizeLine_eq,big] at *
  lia
 ·obtain rfl:=ra.inv
  obtain rfl:=rb.inv
  replace e:(match H x,H y with
   | some (.list xs),some (.list ys)=>xs.length+ys.length≤big∧fresh H (.list (xs++ys)) Q
   | _,_=>False):=e
  split at e
  ·rename_i xs ys hx hy
   obtain ⟨vs,n,g1,r1⟩:=R _ _ hx
   obtain ⟨ws,m,g2,r2⟩:=R _ _ hy
   have l1:=r1.length
   have l2:=r2.length
   refine PySem.P.add_list (n:=n) (n2:=m) g1 g2 ?_ ?_
   ·have:=Kv.newList (n:=0) (tk:=s.toks) K R e.2 (r1.append r2)
    simpa using this
   ·have:=e.1
    simp only [List.size_toArray,sizeLine_eq,big] at *
    lia
  ·exact e.elim
 ·obtain ⟨_,rfl⟩:=ra.inv
  obtain ⟨_,rfl⟩:=rb.inv
  exact sub_int (K.same R e (.int _ _))
 ·obtain ⟨_,rfl⟩:=ra.inv
  obtain ⟨_,rfl⟩:=rb.inv
  exact mul_int (K.same R e.2.2 (.int _ _)) (mulOk e.1)
 ·obtain rfl:=ra.inv
  obtain ⟨_,rfl⟩:=rb.inv
  replace e:(match H x with
   | some (.list xs)=>0≤n∧n≤1000∧xs.length≤1000∧fresh H (.list (List.replicate n.toNat xs).flatten) Q
   | _=>False):=e
  split at e
  ·rename_i xs hx
   obtain ⟨vs,k,g1,r1⟩:=R _ _ hx
   obtain ⟨e1,e2,e3,e4⟩:=e
   have l1:=r1.length
   have hmul:vs.length*n.toNat≤1000*1000:=Nat.mul_le_mul (by lia) (by lia)
   refine wpAny_binaryOp_repeat_ref (T := "list") (U := "int") (by decide) ⟨_,g1,rfl⟩ (fun s'=>typeIs_int s' _ _) noFill_list_mul F.fills_int_mul F.slot_int_rmul repeat_list F.slot_int_index.lookup
    (call_meets F.slot_int_rmul (typeIs_int s _ _) F.entry_int_rmul (F.args_int_rmul_2 _ _) (int___rmul___int_list n _ x _ k)
     ⟨g1,rfl,⟨_,g1,rfl⟩,call_meets F.slot_list_mul ⟨_,g1,rfl⟩ F.entry_list_mul (F.args_list_mul_2 _ _)
      (AutoListH.list___mul___list_int_3 x _ k n _ (by simp [Builtin.List.listFitsIndex]; lia) (by simp only [List.size_toArray]; lia) (by simp only [List.size_toArray,Builtin.List.listTooLong,sizeLine,decide_eq_true_eq]; lia))
      ⟨g1,?_⟩⟩)
   have hz:(if vs.toArray.isEmpty=true then 0 else n.toNat)=(if vs.toArray.isEmpty=true then 0 else n.toNat):=rfl
   have hfl:(List.foldl (fun x1 x2=>x1++x2) #[] (List.replicate (if vs.toArray.isEmpty=true then 0 else n.toNat) vs.toArray))=(List.replicate n.toNat vs).flatten.toArray:=by
    rw [foldl_flatten]
    by_cases hv:vs=[]
    ·subst hv; simp
    ·rw [if_neg (by simpa using hv)]; simp
   rw [hfl]
   exact Kv.newList (n:=0) (tk:=s.toks) K R e4 (r1.rep _)
  ·exact e.elim
 ·obtain ⟨_,rfl⟩:=ra.inv
  obtain ⟨_,rfl⟩:=rb.inv
  obtain ⟨e1,e2⟩:=e
  have hy:x.fmod y=x % y:=Int.fmod_eq_emod_of_nonneg _ (Int.le_of_lt e1)
  exact mod_int (Int.ne_of_gt e1) (by rw [hy]; exact K.same R e2 (.int _ _))
 ·obtain ⟨_,rfl⟩:=ra.inv
  obtain ⟨_,rfl⟩:=rb.inv
  obtain ⟨e1,e2,e3⟩:=e
  have hy:x.fdiv y=x / y:=Int.fdiv_eq_ediv_of_nonneg _ (Int.le_of_lt e1)
  exact floordiv_int (Int.ne_of_gt e1) (by rw [hy]; exact K.same R e3 (.int _ _)) (.inl (PyProof.noPylong_small (by lia)))
end
section
variable {gv:Nat→Value} {prog:Program} {w:World} {A:Around} {E:Value→Shared→Prop} {s:Shared} {H:MH} {P:Value→Shared→Prop} {Q:PV→MH→Prop}
theorem strsAre {h:Heap}:∀ {vs:List Value} {ps:List PV} {zs:List (List Nat)},VRs gv h vs ps→strsOf ps=some zs→StrsAre vs (zs.map fun z=>(⟨z.toArray⟩:Str)):=by
 intro vs ps
 induction ps generalizing vs with
 | nil=>intro zs r e; rw [r.none]; cases e; exact .nil
 | cons p ps ih =>
  intro zs r e
  refine xe2 r.un fun v ws q=>?_
  rw [q.1]
  induction p using PV.casesOn with
  | str x =>
   obtain ⟨r,e1,rfl⟩:=Option.map_eq_some_iff.mp e
   refine xe1 q.2.1 fun t e2=>?_
   rw [e2]
   exact .cons _ _ (ih q.2.2 e1)
  | _=>cases e
theorem any_contains (x:List Nat):∀ zs:List (List Nat),((zs.map fun z=>(⟨z.toArray⟩:Str)).any (·==(⟨x.toArray⟩:Str)))=zs.contains x
 | []=>rfl
 | z::zs=>by
  rw [List.map_cons,List.any_cons,any_contains x zs,arr_eq,List.contains_cons]
  congr 1
  rw [Bool.eq_iff_iff,decide_eq_true_eq,beq_iff_eq]
  exact ⟨Eq.symm,Eq.symm⟩
theorem VR.tupIs {h:Heap} {v:Value} {xs:List PV} (r:VR gv h v (.tup xs)):∃ t vs,v=.ref t∧IsTup h t vs.toArray∧VRs gv h vs xs:=by
 exact xe3 r fun a vs n q=>⟨a,vs,q.1,⟨_,q.2.1,rfl,_,rfl⟩,q.2.2⟩
noncomputable def ii (p q:PV) (f:Int→Int→Prop):Prop:=match p,q with
 | .int x,.int y=>f x y
 | _,_=>False
theorem ii_inv {p q:PV} {f:Int→Int→Prop} (e:ii p q f):∃ x y,p=.int x∧q=.int y∧f x y:=by
 induction p using PV.casesOn <;> first | exact False.elim e | (induction q using PV.casesOn <;> first | exact False.elim e | exact ⟨_,_,rfl,rfl,e⟩)
theorem is_inv {p b:PV} (e:cmpOp .Is p b H Q):b=.none∧isBi p=false∧Q (.bool (isNone p)) H:=by
 induction b using PV.casesOn <;> first | exact False.elim e | exact ⟨rfl,e⟩
theorem isnt_inv {p b:PV} (e:cmpOp .IsNot p b H Q):b=.none∧isBi p=false∧Q (.bool (!isNone p)) H:=by
 induction b using PV.casesOn <;> first | exact False.elim e | exact ⟨rfl,e⟩
noncomputable def inOp (a b:PV) (K:Bool→Prop):Prop:=match a,b with
 | .str x,.tup ys=>(match strsOf ys with
  | some zs=>K (zs.contains x)
  | none=>False)
 | .str [c],.str y=>K (y.contains c)
 | _,_=>False
theorem in_inv {p q:PV} {K:Bool→Prop} (e:inOp p q K):(∃ x ys zs,p=.str x∧q=.tup ys∧strsOf ys=some zs∧K (zs.contains x))∨∃ c y,p=.str [c]∧q=.str y∧K (y.contains c):=by
 induction p using PV.casesOn with
 | str x =>
  induction q using PV.casesOn with
  | tup ys =>
   rcases hz:strsOf ys with _ | zs
   ·replace e:(match strsOf ys with
     | some zs=>K (zs.contains x)
     | none=>False):=by rcases x with _ | ⟨c,_ | ⟨d,r⟩⟩ <;> exact e
    rw [hz] at e; exact e.elim
   ·replace e:(match strsOf ys with
     | some zs=>K (zs.contains x)
     | none=>False):=by rcases x with _ | ⟨c,_ | ⟨d,r⟩⟩ <;> exact e
    rw [hz] at e; exact .inl ⟨_,_,_,rfl,rfl,hz,e⟩
  | str y =>
   rcases x with _ | ⟨c,_ | ⟨d,r⟩⟩
   ·exact e.elim
   ·exact .inr ⟨_,_,rfl,rfl,e⟩
   ·exact e.elim
  | _=>rcases x with _ | ⟨c,_ | ⟨d,r⟩⟩ <;> exact False.elim e
 | _=>exact False.elim e
theorem r_in {h:Heap} {a b:Value} {p q:PV} {K:Bool→Prop} (ra:VR gv h a p) (rb:VR gv h b q) (e:inOp p q K):(∃ x u t vs zs,a=.str ⟨x⟩ u∧b=.ref t∧(IsTup h t vs∧StrsAre vs.toList zs)∧K (zs.any (·==⟨x⟩))) ∨
  ∃ c u y t,a=.str ⟨#[c]⟩ u∧b=.str y t∧K (decide (c∈y.cps.toList)):=by
 rcases in_inv e with ⟨x,ys,zs,e1,e2,hz,k⟩ | ⟨c,y,e1,e2,k⟩
 ·rw [e1] at ra; rw [e2] at rb
  refine xe1 ra.inv fun u h1=>xe2 rb.tupIs fun t vs h2=>.inl ⟨x.toArray,u,t,vs.toArray,_,h1,h2.1,⟨h2.2.1,strsAre h2.2.2 hz⟩,?_⟩
  rw [any_contains]; exact k
 ·rw [e1] at ra; rw [e2] at rb
  refine xe1 ra.inv fun u h1=>xe1 rb.inv fun t h2=>.inr ⟨c,u,⟨y.toArray⟩,t,h1,h2,?_⟩
  rw [show decide (c∈(⟨y.toArray⟩:Str).cps.toList)=y.contains c by simp [List.contains_eq_mem]]
  exact k
theorem r_cmp (hg:∀ k,∃ C,gv k=.ref C) {op:CmpOp} {a b:Value} {p q:PV} (hu:A.units+2100<cLine) (R:Rep gv s.heap H) (ra:VR gv s.heap a p) (rb:VR gv s.heap b q) (e:cmpOp op p q H Q) (K:Kv gv P s H Q) :
  wpAny (model prog w) A (compareOp op a b) P E s:=by
 induction op using PySem.CmpOp.casesOn with
 | Eq=>exact r_eq (K:=fun r=>Q (.bool r) H) R ra rb hu e fun r k=>K.same R k (.bool r)
 | NotEq=>exact r_ne (K:=fun r=>Q (.bool (!r)) H) R ra rb hu e fun r k=>K.same R k (.bool _)
 | Is =>
  refine cj3 (is_inv e) fun e1 e2 e3=>?_
  rw [e1] at rb
  rw [show b=.none from rb]
  exact cj2 (vr_none hg ra e2) fun h1 h2=>wpAny_is_plain h1 (by rw [h2]; exact K.same R e3 (.bool _))
 | IsNot =>
  refine cj3 (isnt_inv e) fun e1 e2 e3=>?_
  rw [e1] at rb
  rw [show b=.none from rb]
  exact cj2 (vr_none hg ra e2) fun h1 h2=>wpAny_isNot_plain h1 (by rw [h2]; exact K.same R e3 (.bool _))
 | In =>
  rcases r_in (K:=fun r=>Q (.bool r) H) ra rb e with ⟨x,u,t,vs,zs,h1,h2,h3,k⟩ | ⟨c,u,y,t,h1,h2,k⟩
  ·rw [h1,h2]; exact in_tuple_strs h3.1 h3.2 (K.same R k (.bool _))
  ·rw [h1,h2]; exact PyProof.Rows.in_str (by rw [StrLaws.found_one y c]; exact K.same R k (.bool _))
 | NotIn =>
  rcases r_in (K:=fun r=>Q (.bool (!r)) H) ra rb e with ⟨x,u,t,vs,zs,h1,h2,h3,k⟩ | ⟨c,u,y,t,h1,h2,k⟩
  ·rw [h1,h2]; exact notin_tuple_strs h3.1 h3.2 (K.same R k (.bool _))
  ·rw [h1,h2]; exact PyProof.Rows.notIn_str (by rw [StrLaws.found_one y c]; exact K.same R k (.bool _))
 | Lt =>
  exact xe2 (ii_inv (f:=fun x y=>Q (.bool (decide (x<y))) H) e) fun x y e=>by
   rw [e.1] at ra; rw [e.2.1] at rb
   exact xe1 ra.inv fun t h1=>xe1 rb.inv fun u h2=>by rw [h1,h2]; exact lt_int (K.same R e.2.2 (.bool _))
 | LtE =>
  exact xe2 (ii_inv (f:=fun x y=>Q (.bool (decide (x≤y))) H) e) fun x y e=>by
   rw [e.1] at ra; rw [e.2.1] at rb
   exact xe1 ra.inv fun t h1=>xe1 rb.inv fun u h2=>by rw [h1,h2]; exact le_int (K.same R e.2.2 (.bool _))
 | Gt =>
  exact xe2 (ii_inv (f:=fun x y=>Q (.bool (decide (y<x))) H) e) fun x y e=>by
   rw [e.1] at ra; rw [e.2.1] at rb
   exact xe1 ra.inv fun t h1=>xe1 rb.inv fun u h2=>by rw [h1,h2]; exact gt_int (K.same R e.2.2 (.bool _))
 | GtE =>
  exact xe2 (ii_inv (f:=fun x y=>Q (.bool (decide (y≤x))) H) e) fun x y e=>by
   rw [e.1] at ra; rw [e.2.1] at rb
   exact xe1 ra.inv fun t h1=>xe1 rb.inv fun u h2=>by rw [h1,h2]; exact ge_int (K.same R e.2.2 (.bool _))
theorem tail_item {value slice:Expr} {o i:Value} {T id:String} (hT:s.TypeIs o T) (hl:typeLookup (.type T) "__getitem__" = pure (some (.builtin id)))
  (h:wpAny (model prog w) A (getItem o i) P E s):wpAny (model prog w) A (subscriptTail value slice o i) P E s:=by
 unfold subscriptTail
 refine wpAny_bind ?_
 rw [getitemInPython_of_ne hT.not_modules]
 refine wpAny_bind (wpAny_specialOf hT hl ?_)
 have fin:wpAny (model prog w) A (subscripted slice false o i) (fun r s₃=>wpAny (model prog w) A (letTemporaryGo value o r >>= fun _=>pure r) P E s₃) E s:=by
  have q:wpAny (model prog w) A (getItem o i) (fun r s₃=>wpAny (model prog w) A (letTemporaryGo value o r >>= fun _=>pure r) P E s₃) E s :=
   wpAny_mono h (fun r s₃ h₃=>wpAny_bind (wpAny_letTemporaryGo (wpAny_pure h₃))) fun _ _ x=>x
  induction slice using PySem.Expr.casesOn with
  | Slice lo hi st p=>rcases st with _ | st <;> exact wpAny_operating q
  | _=>exact wpAny_operating q
 first
  | exact wpAny_pure (wpAny_bind fin)
  | exact wpAny_bind (wpAny_pure (wpAny_bind fin))
  | exact wpAny_bind fin
theorem getD_get {xs:List PV} {k:Nat} (h:k<xs.length):xs[k]?=some (xs.getD k .undef):=by
 simp [List.getD,h]
theorem r_sub {value slice:Expr} {a b:Value} {p q:PV} (R:Rep gv s.heap H) (ra:VR gv s.heap a p) (rb:VR gv s.heap b q) (e:subOp p q H Q) (K:Kv gv P s H Q) :
  wpAny (model prog w) A (subscriptTail value slice a b) P E s:=by
 unfold subOp at e
 split at e
 ·rename_i xs k
  obtain ⟨t,vs,rfl,ht,hr⟩:=ra.tupIs
  obtain ⟨_,rfl⟩:=rb.inv
  obtain ⟨h0,h1,h2,h3⟩:=e
  have hk:k.toNat<xs.length:=by lia
  obtain ⟨v,g,r⟩:=hr.get (getD_get hk)
  have hl:=hr.length
  refine tail_item ht.typeIs slot_tuple_getitem.lookup (getItem_tuple (j:=k.toNat) (x:=v) ht (by lia) (by simp only [big] at h2; lia) ?_ (by simpa using g) (K.same R h3 r))
  unfold seqIndex?
  simp only [List.size_toArray]
  rw [hl]
  have:¬ k<0:=by lia
  simp [this]; lia
 ·rename_i x k
  obtain ⟨_,rfl⟩:=ra.inv
  obtain ⟨_,rfl⟩:=rb.inv
  obtain ⟨h0,h1,h2,h3⟩:=e
  simp only [big] at h2
  have hn:(⟨x.toArray⟩:Str).cps[k.toNat]?=some (x.getD k.toNat 0):=by
   have:k.toNat<x.length:=by lia
   simp [List.getD,this]
  obtain ⟨T,id,i1,i2,i3⟩:=SB.item (prog:=prog) (w:=w) (A:=A) (E:=E) (s:=s) (x:=⟨x.toArray⟩) (i:=k) (Q:=P)
   (by unfold PySem.fitsSsize; simp; lia) (charAt_isSome (by simp [Str.length]; lia) (by simp [Str.length]; lia))
   (by rw [item_meets h0 hn]; exact K.same R h3 (.str _ _))
  exact tail_item i2 i1 i3
 ·rename_i x k
  obtain rfl:=ra.inv
  obtain ⟨_,rfl⟩:=rb.inv
  split at e
  ·rename_i xs hx
   obtain ⟨vs,n,g1,r1⟩:=R _ _ hx
   obtain ⟨h0,h1,h2,h3⟩:=e
   have hk:k.toNat<xs.length:=by lia
   obtain ⟨v,g,r⟩:=r1.get (getD_get hk)
   exact tail_item ⟨_,g1,rfl⟩ slot_list_getitem.lookup (wpAny_getItem_list ⟨_,g1,rfl,_,rfl⟩ h0 (by simp only [big] at h2; lia) (by simpa using g) (K.same R h3 r))
  ·exact e.elim
 ·exact e.elim
end
theorem clip (m n:Nat):max 0 (min (m:Int) n)=((min m n:Nat):Int):=by lia
theorem nat0 (m:Nat):¬ (m:Int)<0:=Int.not_lt.mpr (Int.natCast_nonneg m)
theorem idx_clip (a b n:Nat) :
  Builtin.Str.strSliceIndices (some (a:Int)) (some (b:Int)) 1 n=Builtin.Str.strSliceIndices (some ((min a n:Nat):Int)) (some ((min b n:Nat):Int)) 1 n:=by
 have h5:(1:Int)>0:=by decide
 simp only [Builtin.Str.strSliceIndices,nat0,h5,if_false,if_true,clip,Nat.min_assoc,Nat.min_self]
theorem take_clip (x:List Nat) (a b:Nat):(x.drop (min a x.length)).take (min b x.length - min a x.length)=(x.drop a).take (b - a):=by
 rcases Nat.le_total a x.length with h | h
 ·rw [Nat.min_eq_left h]
  rcases Nat.le_total b x.length with h' | h'
  ·rw [Nat.min_eq_left h']
  ·rw [Nat.min_eq_right h',List.take_of_length_le (by rw [List.length_drop]; exact Nat.le_refl _),List.take_of_length_le (by rw [List.length_drop]; exact Nat.sub_le_sub_right h' a)]
 ·rw [Nat.min_eq_right h,List.drop_of_length_le (Nat.le_refl _),List.drop_of_length_le h,List.take_nil,List.take_nil]
theorem cut_eq (x:List Nat) {a b:Int} (ha:0≤a) (hb:0≤b):StrLaws.sliceText ⟨x.toArray⟩ (some a) (some b)=⟨((x.drop a.toNat).take (b.toNat - a.toNat)).toArray⟩:=by
 obtain ⟨m,rfl⟩:=Int.eq_ofNat_of_zero_le ha
 obtain ⟨k,rfl⟩:=Int.eq_ofNat_of_zero_le hb
 rw [Int.toNat_natCast,Int.toNat_natCast]
 have hn:(⟨x.toArray⟩:Str).length=x.length:=by simp [Str.length]
 have e:StrLaws.sliceText ⟨x.toArray⟩ (some (m:Int)) (some (k:Int))=StrLaws.sliceText ⟨x.toArray⟩ (some ((min m x.length:Nat):Int)) (some ((min k x.length:Nat):Int)):=by
  unfold StrLaws.sliceText
  rw [hn,idx_clip]
 rw [e]
 by_cases h:min m x.length≤min k x.length
 ·rw [StrLaws.sliceText_nat _ h (by rw [hn]; exact Nat.min_le_right ..)]
  simp only [List.toList_toArray,take_clip]
 ·have h:=Nat.lt_of_not_le h
  rw [← take_clip,Nat.sub_eq_zero_of_le (Nat.le_of_lt h),List.take_zero]
  unfold StrLaws.sliceText
  have e2:Builtin.Str.strSliceIndices (some ((min m x.length:Nat):Int)) (some ((min k x.length:Nat):Int)) 1 (⟨x.toArray⟩:Str).length=[]:=by
   have h5:(1:Int)>0:=by decide
   rw [hn]
   simp only [Builtin.Str.strSliceIndices,nat0,h5,if_false,if_true,sliceRange,clip,Nat.min_assoc,Nat.min_self]
   rw [if_neg (fun z=>absurd (Int.ofNat_lt.mp z) (Nat.not_lt.mpr (Nat.le_of_lt h)))]; rfl
  rw [e2]
  split
  ·rename_i hh
   have h0:0=x.length:=by simpa [Str.length] using hh
   have:x=[]:=List.length_eq_zero_iff.mp h0.symm
   subst this; rfl
  ·rfl
theorem bounds_tail (n:Nat):sliceRange (sliceBounds none (some 0) (some (-1)) n).1 (sliceBounds none (some 0) (some (-1)) n).2.1 (sliceBounds none (some 0) (some (-1)) n).2.2=(List.range (n - 1)).map fun k=>n - 1 - k:=by
 have h1:¬ ((-1:Int)>0):=by decide
 simp only [sliceBounds,Option.getD_some,h1,if_false,sliceRange]
 by_cases h:n=0
 ·subst h; rfl
 ·have e1:((if (0:Int)<0 then (0:Int)+n else 0))=0:=by simp
  rw [e1]
  have e2:max (-1:Int) (min 0 ((n:Int) - 1))=0:=by lia
  rw [e2]
  by_cases h':(n:Int) - 1>0
  ·rw [if_pos h']
   have e3:((n:Int) - 1 - 0 - -1 - 1) / (- -1)=(n:Int) - 1:=by
    rw [show (- -1:Int)=1 by decide,Int.ediv_one]; lia
   rw [e3,show ((n:Int) - 1).toNat=n - 1 by lia]
   apply List.map_congr_left
   intro k hk
   have:=List.mem_range.mp hk
   lia
  ·rw [if_neg h']
   have:n - 1=0:=by lia
   rw [this]; rfl
theorem pick_tail (items:List Value):slicePick items.toArray none (some 0) (some (-1))=(items.drop 1).reverse.toArray:=by
 unfold slicePick
 rw [List.size_toArray,bounds_tail]
 congr 1
 induction items using List.casesOn with
 | nil=>rfl
 | cons a r =>
  have e:((List.range ((a::r).length - 1)).map fun k=>(a::r).length - 1 - k)=(List.range r.length).reverse.map (·+1):=by
   apply List.ext_getElem
   ·simp
   ·intro i h1 h2
    simp at h1
    simp; lia
  rw [e,List.filterMap_map]
  have e2:((fun x:Nat=>(a::r).toArray[x]?) ∘ fun x=>x+1)=fun x=>r.toArray[x]?:=by
   funext x; simp
  rw [e2,List.filterMap_reverse]
  have:=krv_all r.toArray
  simp only [List.size_toArray] at this
  rw [this]; simp
section
variable {gv:Nat→Value} {prog:Program} {w:World} {A:Around} {E:Value→Shared→Prop} {s:Shared} {H:MH} {P:Value→Shared→Prop} {Q:PV→MH→Prop}
theorem Kv.after {s':Shared} {h':Heap} {tk:Nat} (K:Kv gv P s H Q) (S:Stp s.heap H h' H) (e:s'={ s with heap:=h',toks:=tk }):Kv gv P s' H Q:=by
 subst e
 intro v p h2 tk2 H2 q r R2 S2
 exact K v p h2 tk2 H2 q r R2 (S.trans S2)
theorem sliceS_inv {G:PV→PV→PV→Prop} {x:List Nat} {a b c:PV} (e:sliceOp (.str x) a b c H Q) (h1:∀ a b,sliceOp (.str x) (.int a) (.int b) .none H Q→G (.int a) (.int b) .none) (h2:∀ b,sliceOp (.str x) .none (.int b) .none H Q→G .none (.int b) .none):G a b c:=by
 induction a using PV.casesOn <;> first | exact False.elim e | induction b using PV.casesOn <;> first | exact False.elim e | induction c using PV.casesOn <;> first | exact False.elim e | exact h1 _ _ e | exact h2 _ e
theorem sliceL_inv {G:PV→PV→PV→Prop} {xs:List PV} {a b c:PV} (e:sliceL xs a b c H Q) (h1:∀ b,sliceL xs .none (.int b) .none H Q→G .none (.int b) .none) (h2:sliceL xs .none .none (.int (-1)) H Q→G .none .none (.int (-1))) (h3:sliceL xs .none (.int 0) (.int (-1)) H Q→G .none (.int 0) (.int (-1))):G a b c:=by
 induction a using PV.casesOn <;> first | exact False.elim e | induction b using PV.casesOn <;> first | exact False.elim e | induction c using PV.casesOn <;> first | exact False.elim e | exact h1 _ e | skip
 ·rename_i i
  rcases i with i | _ | i
  ·exact False.elim e
  ·exact h2 e
  ·exact False.elim e
 ·rename_i j i
  rcases i with i | _ | i
  ·rcases j with (_ | j) | j <;> exact False.elim e
  ·rcases j with (_ | j) | j
   ·exact h3 e
   ·exact False.elim e
   ·exact False.elim e
  ·rcases j with (_ | j) | j <;> exact False.elim e
theorem isPart0 {v:Value} (h:v=.none):IsPart v none:=h ▸ .none
theorem isPart1 {v:Value} {i:Int} {t:Tok} (h:v=.int i t):IsPart v (some i):=h ▸ .int _ _
theorem r_slice {value slice:Expr} {o lo hi st:Value} {p a b c:PV} (R:Rep gv s.heap H) (ro:VR gv s.heap o p) (ra:VR gv s.heap lo a) (rb:VR gv s.heap hi b) (rc:VR gv s.heap st c) (e:sliceOp p a b c H Q) (K:Kv gv P s H Q) :
  wpAny (model prog w) A (newFields "slice" [lo,hi,st]) (fun i s'=>wpAny (model prog w) A (subscriptTail value slice o i) P E s') E s:=by
 unfold newFields
 refine wpAny_newObj_type ?_ (by size_fits)
 have R1:=r_rep_push (o:={ cls:=.type "slice", dict:=none,data:=.fields #[lo,hi,st] }) R
 have K1:Kv gv P { s with heap:=s.heap.push { cls:=.type "slice", dict:=none,data:=.fields #[lo,hi,st] } } H Q:=K.after (stp_push _) rfl
 have ro1:=ro.push { cls:=.type "slice", dict:=none,data:=.fields #[lo,hi,st] }
 have hs:(s.heap.push { cls:=.type "slice", dict:=none,data:=.fields #[lo,hi,st] }).get? s.heap.objs.size=some { cls:=.type "slice", dict:=none,data:=.fields #[lo,hi,st] }:=Heap.get?_push_size _ rfl
 (revert R1 K1 ro1 hs; refine genl (s.heap.push { cls:=.type "slice", dict:=none,data:=.fields #[lo,hi,st] }) fun h1 R1 K1 ro1 hs=>?_)
 show wpAny _ _ (subscriptTail value slice o (.ref s.heap.objs.size)) P E { s with heap:=h1 }
 induction p using PV.casesOn with
 | str x =>
  obtain ⟨t0,rfl⟩:=ro.inv
  have fin:∀ {l u:Option (Int×Tok)},lo=partValue l→hi=partValue u→st=partValue none→x.length≤big→(∃ y,StrLaws.sliceText ⟨x.toArray⟩ (l.map (·.1)) (u.map (·.1))=⟨y.toArray⟩∧Q (.str y) H) →
    wpAny (model prog w) A (subscriptTail value slice (.str ⟨x.toArray⟩ t0) (.ref s.heap.objs.size)) P E { s with heap:=h1 }:=by
   intro l u e1 e2 e3 hx ⟨y,hy,hq⟩
   refine tail_item (typeIs_str _ _ _) F.slot_str_getitem.lookup (wpAny_getItem_str_slice (l:=l) (u:=u) (st:=none) ⟨_,hs,rfl,by rw [e1,e2,e3]⟩ rfl ?_)
   have hm:sliceMade ⟨x.toArray⟩ t0 l u none=if ((1:Int)==1&&(Builtin.Str.strSliceIndices (l.map (·.1)) (u.map (·.1)) 1 (⟨x.toArray⟩:Str).length).length==(⟨x.toArray⟩:Str).length)=true then .val (.str ⟨x.toArray⟩ t0) else .str ⟨((Builtin.Str.strSliceIndices (l.map (·.1)) (u.map (·.1)) 1 (⟨x.toArray⟩:Str).length).filterMap ((⟨x.toArray⟩:Str).cps[·]?)).toArray⟩:=rfl
   rw [hm]
   unfold StrLaws.sliceText at hy
   split at hy
   ·rename_i hc
    rw [if_pos hc]
    have hxy:x=y:=by
     have:=congrArg (fun z:Str=>z.cps.toList) hy
     simpa using this
    subst hxy
    exact K1.same (tk:=s.toks) R1 hq (.str _ _)
   ·rename_i hc
    rw [if_neg hc,hy]
    refine ⟨?_,K1.same R1 hq (.str _ _)⟩
    have hle:y.length≤x.length:=by
     have h2:(StrLaws.sliceText ⟨x.toArray⟩ (l.map (·.1)) (u.map (·.1))).length≤(⟨x.toArray⟩:Str).length:=PyProof.Txt.length_slice_le _ _ _
     unfold StrLaws.sliceText at h2
     rw [if_neg hc,hy] at h2
     simpa [Str.length] using h2
    simp only [Str.length,List.size_toArray,sizeLine_eq,big] at *
    lia
  refine sliceS_inv (G:=fun a b c=>VR gv s.heap lo a→VR gv s.heap hi b→VR gv s.heap st c→wpAny (model prog w) A (subscriptTail value slice (.str ⟨x.toArray⟩ t0) (.ref s.heap.objs.size)) P E { s with heap:=h1 }) e (fun a' b' e ra rb rc=>?_) (fun b' e ra rb rc=>?_) ra rb rc
  ·exact xe1 ra.inv fun t1 h1=>xe1 rb.inv fun t2 h2=>fin (l:=some (_,t1)) (u:=some (_,t2)) h1 h2 rc.inv e.2.2.1 ⟨_,cut_eq x e.1 e.2.1,e.2.2.2⟩
  ·refine xe1 rb.inv fun t2 h2=>fin (l:=none) (u:=some (_,t2)) ra.inv h2 rc.inv e.2.1 ⟨x.take b'.toNat,?_,e.2.2⟩
   have:=cut_eq x (a:=0) (b:=b') (Int.le_refl 0) e.1
   have e1:StrLaws.sliceText ⟨x.toArray⟩ none (some b')=StrLaws.sliceText ⟨x.toArray⟩ (some 0) (some b'):=by unfold StrLaws.sliceText; rw [StrLaws.sliceIdx_none_lo]
   show StrLaws.sliceText ⟨x.toArray⟩ none (some b')=_
   rw [e1,this]; simp
 | ref l =>
  obtain rfl:=ro.inv
  replace e:(match H l with
   | some (.list xs)=>sliceL xs a b c H Q
   | _=>False):=e
  rcases hx:H l with _ | (xs | ⟨_,_⟩ | _) <;> rw [hx] at e
  ·exact e.elim
  ·obtain ⟨vs,n,g1,r1⟩:=R1 _ _ hx
   have hl:=r1.length
   have fin:∀ {ys:List PV} {ws:List Value} {o1 o2 o3:Option Int},IsPart lo o1→IsPart hi o2→IsPart st o3→o3≠some 0→xs.length≤big→slicePick vs.toArray o1 o2 o3=ws.toArray→VRs gv h1 ws ys→fresh H (.list ys) Q →
     wpAny (model prog w) A (subscriptTail value slice (.ref l) (.ref s.heap.objs.size)) P E { s with heap:=h1 }:=by
    intro ys ws o1 o2 o3 p1 p2 p3 h0 hz hp hr hf
    refine tail_item ⟨_,g1,rfl⟩ slot_list_getitem.lookup (wpAny_getItem_list_slice ⟨_,g1,rfl,_,rfl⟩ ⟨_,hs,rfl,rfl⟩ p1 p2 p3 h0 ?_ (by simp only [List.size_toArray,sizeLine_eq,big] at *; lia))
    rw [hp]
    exact K1.newList (n:=0) (tk:=s.toks) R1 hf hr
   refine sliceL_inv (G:=fun a b c=>VR gv s.heap lo a→VR gv s.heap hi b→VR gv s.heap st c→wpAny (model prog w) A (subscriptTail value slice (.ref l) (.ref s.heap.objs.size)) P E { s with heap:=h1 }) e (fun b' e ra rb rc=>?_) (fun e ra rb rc=>?_) (fun e ra rb rc=>?_) ra rb rc
   ·refine xe1 rb.inv fun t2 h2=>fin (isPart0 ra.inv) (isPart1 h2) (isPart0 rc.inv) (fun h=>nomatch h) e.2.1 (ws:=vs.take b'.toNat) ?_ (r1.take _) e.2.2
    rw [kms_pick_eq]
    congr 1
    unfold kms_pick kms_lo kms_hi
    have:¬ b'<0:=Int.not_lt.mpr e.1
    simp only [List.toList_toArray,List.drop_zero,this,if_false,Nat.sub_zero]
    exact kmk_take_min _ _
   ·exact xe1 rc.inv fun t3 h3=>fin (isPart0 ra.inv) (isPart0 rb.inv) (isPart1 h3) (by decide) e.1 (by rw [krv_pick]) r1.reverse e.2
   ·exact xe1 rb.inv fun t2 h2=>xe1 rc.inv fun t3 h3=>fin (isPart0 ra.inv) (isPart1 h2) (isPart1 h3) (by decide) e.1 (pick_tail vs) (r1.drop 1).reverse e.2
  ·exact e.elim
  ·exact e.elim
 | _=>exact False.elim e
end
section
variable {gv:Nat→Value} {prog:Program} {w:World} {A:Around} {E:Value→Shared→Prop} {s:Shared} {H:MH} {P:Value→Shared→Prop} {Q:PV→MH→Prop}
theorem ItemsOf.vrs {h:Heap} {lo:Int} {n:Nat} {acc:Array Value} (x:ItemsOf (fun i v=>∃ t,v=Value.int (lo+(i:Nat)*1) t) acc n):VRs gv h acc.toList ((List.range n).map fun (k:Nat)=>PV.int (lo+k)):=by
 obtain ⟨hs,hi⟩:=x
 have:∀ (l:List Value) (m:Nat),(∀ j v,l[j]?=some v→∃ t,v=Value.int (lo+((m+j:Nat):Int)) t)→VRs gv h l ((List.range' m l.length).map fun (k:Nat)=>PV.int (lo+k)):=by
  intro l
  induction l with
  | nil=>intro m _; exact .nil
  | cons a r ih =>
   intro m hm
   rw [List.length_cons,List.range'_succ,List.map_cons]
   obtain ⟨t,rfl⟩:=hm 0 a (by simp)
   refine .cons (by simpa using VR.int _ _) (ih (m+1) fun j v hj=>?_)
   obtain ⟨t,e⟩:=hm (j+1) v (by simpa using hj)
   exact ⟨t,by rw [e]; congr 2; lia⟩
 have hl:acc.toList.length=n:=by simpa using hs
 have q:=this acc.toList 0 fun j v hj=>by
  obtain ⟨t,e⟩:=hi j v (by simpa using hj)
  exact ⟨t,by rw [e]; simp⟩
 rw [hl,← List.range_eq_range'] at q
 exact q
theorem VRs.one {h:Heap} {vs:List Value} {p:PV} (r:VRs gv h vs [p]):∃ v,vs=[v]∧VR gv h v p:=by
 exact xe2 r.un fun v ws q=>⟨v,by rw [q.1,q.2.2.none],q.2.1⟩
theorem VRs.two {h:Heap} {vs:List Value} {p q:PV} (r:VRs gv h vs [p,q]):∃ v u,vs=[v,u]∧VR gv h v p∧VR gv h u q:=by
 exact xe2 r.un fun v ws q=>xe1 q.2.2.one fun u z=>⟨v,u,by rw [q.1,z.1],q.2.1,z.2⟩
theorem big_int {i:Int} (h:i.natAbs≤big):-(2 ^ 62)≤i∧i<2 ^ 62:=by
 unfold big at h
 constructor <;> lia
theorem small_of {lo hi:Int} (h1:lo.natAbs≤big) (h2:hi.natAbs≤big):Builtin.Range.small lo hi 1=true:=small_one (big_int h1).1 (big_int h1).2 (big_int h2).1 (big_int h2).2
theorem biOp_inv {G:Nat→List PV→Prop} {k:Nat} {ps:List PV} (e:biOp k ps H Q) (h0:∀ x:List Nat,x.length≤big∧Q (.int x.length) H→G 0 [.str x]) (h1:∀ x:List PV,x.length≤big∧Q (.int x.length) H→G 0 [.tup x])
  (h2:∀ a xs,H a=some (.list xs)→xs.length≤big∧Q (.int xs.length) H→G 0 [.ref a]) (h3:∀ n,biOp 1 [.int n] H Q→G 1 [.int n]) (h4:∀ m n,biOp 1 [.int m,.int n] H Q→G 1 [.int m,.int n])
  (h5:∀ n,biOp 2 [.int n] H Q→G 2 [.int n]) (h6:∀ n,biOp 3 [.int n] H Q→G 3 [.int n]) (h7:∀ p,biOp 4 [p,.bi 6] H Q→G 4 [p,.bi 6]) (h8:∀ p,biOp 4 [p,.bi 7] H Q→G 4 [p,.bi 7])
  (h9:∀ lo hi,lo.natAbs≤big∧hi.natAbs≤big∧fresh H (.list (rngItems lo hi)) Q→G 5 [.rng lo hi]) (h10:∀ xs,xs.length≤big∧fresh H (.list xs) Q→G 5 [.tup xs]):G k ps:=by
 revert e
 match k with
 | 0 =>
  intro e
  rcases ps with _ | ⟨p,_ | ⟨q,t⟩⟩ <;> first | exact False.elim e | induction p using PV.casesOn <;> first | exact False.elim e | skip
  ·exact h0 _ e
  ·exact h1 _ e
  ·rename_i a
   replace e:(match H a with
    | some (.list xs)=>xs.length≤big∧Q (.int xs.length) H
    | _=>False):=e
   induction ha:H a using Option.casesOn with
   | none=>rw [ha] at e; exact False.elim e
   | some o =>
    rw [ha] at e
    cases o with
    | list xs=>exact h2 a xs ha e
    | _=>exact False.elim e
 | 1 =>
  intro e
  rcases ps with _ | ⟨p,_ | ⟨q,_ | ⟨r,t⟩⟩⟩ <;> first | exact False.elim e | induction p using PV.casesOn <;> first | exact False.elim e | exact h3 _ e | induction q using PV.casesOn <;> first | exact False.elim e | exact h4 _ _ e
 | 2 =>
  intro e
  rcases ps with _ | ⟨p,_ | ⟨q,t⟩⟩ <;> first | exact False.elim e | induction p using PV.casesOn <;> first | exact False.elim e | exact h5 _ e
 | 3 =>
  intro e
  rcases ps with _ | ⟨p,_ | ⟨q,t⟩⟩ <;> first | exact False.elim e | induction p using PV.casesOn <;> first | exact False.elim e | exact h6 _ e
 | 4 =>
  intro e
  rcases ps with _ | ⟨p,_ | ⟨q,_ | ⟨r,t⟩⟩⟩ <;> first | exact False.elim e | induction q using PV.casesOn <;> first | exact False.elim e | skip
  ·rename_i j
   revert e
   match j with
   | 6=>exact h7 _
   | 7=>exact h8 _
   | 0 | 1 | 2 | 3 | 4 | 5 | _+8=>exact fun e=>False.elim e
  ·rename_i j
   revert e
   match j with
   | 0 | 1 | 2 | 3 | 4 | 5 | 6 | 7 | _+8=>exact fun e=>False.elim e
 | 5 =>
  intro e
  rcases ps with _ | ⟨p,_ | ⟨q,t⟩⟩ <;> first | exact False.elim e | induction p using PV.casesOn <;> first | exact False.elim e | exact h9 _ _ e | exact h10 _ e
 | _+6=>exact fun e=>False.elim e
theorem r_bi {k:Nat} {f:Value} {vs:List Value} {ps:List PV} (hh:A.handled=none) (R:Rep gv s.heap H) (hf:f=biVal k) (rs:VRs gv s.heap vs ps) (e:biOp k ps H Q) (K:Kv gv P s H Q):wpAny (model prog w) A (call f vs) P E s:=by
 subst hf
 refine biOp_inv (G:=fun k ps=>∀ vs,VRs gv s.heap vs ps→wpAny (model prog w) A (call (biVal k) vs) P E s) e (fun x e vs rs=>?_) (fun x e vs rs=>?_) (fun a xs hx e vs rs=>?_) (fun n e vs rs=>?_) (fun m n e vs rs=>?_) (fun n e vs rs=>?_) (fun n e vs rs=>?_) (fun p e vs rs=>?_) (fun p e vs rs=>?_) (fun lo hi e vs rs=>?_) (fun xs e vs rs=>?_) vs rs
 ·obtain ⟨_,rfl,r1⟩:=rs.one
  obtain ⟨_,rfl⟩:=r1.inv
  exact len_str (by simp [Str.length,big] at *; lia) (by simpa [Str.length] using K.same R e.2 (.int _ _))
 ·obtain ⟨_,rfl,r1⟩:=rs.one
  obtain ⟨t,vs,rfl,ht,hr⟩:=r1.tupIs
  have hl:=hr.length
  exact len_tuple ht (by simp [big] at *; lia) (by simpa [hl] using K.same R e.2 (.int x.length _))
 ·obtain ⟨_,rfl,r1⟩:=rs.one
  obtain rfl:=r1.inv
  obtain ⟨vs,n,g1,r1⟩:=R _ _ hx
  have hl:=r1.length
  exact len_list ⟨_,g1,rfl,_,rfl⟩ (by simp [big] at *; lia) (by simpa [hl] using K.same R e.2 (.int xs.length _))
 ·obtain ⟨_,rfl,r1⟩:=rs.one
  obtain ⟨_,rfl⟩:=r1.inv
  exact call_range_1 (K.push R e.2 (.rng (IsRange.new ..)))
 ·obtain ⟨_,_,rfl,r1,r2⟩:=rs.two
  obtain ⟨_,rfl⟩:=r1.inv
  obtain ⟨_,rfl⟩:=r2.inv
  exact call_range_2 (K.push R e.2.2 (.rng (IsRange.new ..)))
 ·obtain ⟨_,rfl,r1⟩:=rs.one
  obtain ⟨_,rfl⟩:=r1.inv
  refine call_abs_int fun u tk=>?_
  have:(if n<0 then -n else n)=((n.natAbs:Nat):Int):=by split <;> lia
  rw [this]; exact K.same R e (.int _ _)
 ·obtain ⟨_,rfl,r1⟩:=rs.one
  obtain ⟨_,rfl⟩:=r1.inv
  exact call_int_int (K.same (tk:=s.toks) R e (.int _ _))
 ·obtain ⟨_,_,rfl,r1,r2⟩:=rs.two
  obtain rfl:=r2.inv
  clear rs r2
  rename PV=>p
  induction p using PV.casesOn with
  | str x=>obtain ⟨t,rfl⟩:=r1.inv; exact IsiPair.str_str (K.same (tk:=s.toks) R e (.bool _))
  | tup xs=>obtain ⟨_,_,_,rfl,g,_⟩:=r1.tupAt; exact IsiPair.tuple_str g rfl (K.same R e (.bool _))
  | int i=>obtain ⟨_,rfl⟩:=r1.inv; exact IsiPair.int_str (K.same R e (.bool _))
  | none=>obtain rfl:=r1.inv; exact IsiPair.NoneType_str (K.same R e (.bool _))
  | _=>exact False.elim e
 ·obtain ⟨_,_,rfl,r1,r2⟩:=rs.two
  obtain rfl:=r2.inv
  clear rs r2
  rename PV=>p
  induction p using PV.casesOn with
  | str x=>obtain ⟨t,rfl⟩:=r1.inv; exact IsiPair.str_tuple (K.same R e (.bool _))
  | tup xs=>obtain ⟨_,_,_,rfl,g,_⟩:=r1.tupAt; exact IsiPair.tuple_tuple g rfl (K.same (tk:=s.toks) R e (.bool _))
  | int i=>obtain ⟨_,rfl⟩:=r1.inv; exact IsiPair.int_tuple (K.same R e (.bool _))
  | none=>obtain rfl:=r1.inv; exact IsiPair.NoneType_tuple (K.same R e (.bool _))
  | _=>exact False.elim e
 ·obtain ⟨_,rfl,r1⟩:=rs.one
  obtain ⟨t0,_,_,_,rfl,g⟩:=r1.rngAt
  refine call_list_range hh g (small_of e.1 e.2.1) (rangeSize_nat lo hi) (by simp [big] at e; lia) fun h' tk acc' c' hk hS hacc=>?_
  have hv:VRs gv h' acc'.toList (rngItems lo hi):=ItemsOf.vrs hacc
  have hq:=e.2.2 _ R.top
  refine K _ _ h' tk _ hq (.ref _) (fun a o ea=>?_) ⟨fun b o eb _ _=>hk _ _ eb,fun b eb=>?_,fun b eb=>?_⟩
  ·by_cases ha:a=s.heap.objs.size
   ·subst ha; rw [upd_self] at ea; cases ea
    exact ⟨acc'.toList,c',by simpa using hS,hv⟩
   ·rw [upd_other ha] at ea
    exact (R a o ea).mono (fun _ _ q _=>hk _ _ q) fun _ q=>hk _ _ q
  ·by_cases hb:b=s.heap.objs.size
   ·subst hb; exact .inr free_top
   ·rw [upd_other hb] at eb; exact .inl eb
  ·induction q:s.heap.get? b using Option.casesOn with
   | none=>exact absurd q eb
   | some o=>rw [hk _ _ q]; exact fun e=>by cases e
 ·obtain ⟨_,rfl,r1⟩:=rs.one
  obtain ⟨t0,vs,n,rfl,g,r⟩:=r1.tupAt
  have hl:=r.length
  refine call_list_seq _ (.inr rfl) g rfl rfl (fun h' c' hk hS=>?_) (by simp [big,sizeLine_eq] at *; lia)
  have hq:=e.2 _ R.top
  refine K _ _ h' s.toks _ hq (.ref _) (fun a o ea=>?_) ⟨fun b o eb _ _=>hk _ _ eb,fun b eb=>?_,fun b eb=>?_⟩
  ·by_cases ha:a=s.heap.objs.size
   ·subst ha; rw [upd_self] at ea; cases ea
    exact ⟨_,c',hS,r.mono fun _ _ q _=>hk _ _ q⟩
   ·rw [upd_other ha] at ea
    exact (R a o ea).mono (fun _ _ q _=>hk _ _ q) fun _ q=>hk _ _ q
  ·by_cases hb:b=s.heap.objs.size
   ·subst hb; exact .inr free_top
   ·rw [upd_other hb] at eb; exact .inl eb
  ·induction q:s.heap.get? b using Option.casesOn with
   | none=>exact absurd q eb
   | some o=>rw [hk _ _ q]; exact fun e=>by cases e
end
structure ClsOk (K:Frag) (gv:Nat→Value) (k:Nat) (C:Addr):Prop where
 ga:findIn K (.ref C) "__getattribute__" = some (some (.builtin "object.__getattribute__"))
 gattr:findIn K (.ref C) "__getattr__" = some none
 sa:findIn K (.ref C) "__setattr__" = some (some (.builtin "object.__setattr__"))
 over:plainOver K C=true
 cd:(clsIn K C).any (fun cd=>cd.hasDict&&!cd.mro.isEmpty)=true
 attr:∀ n,n<15→findIn K (.ref C) (an n)=some none
 meth:∀ n f,mth k n=some f→∃ a,gv f=.ref a∧findIn K (.ref C) (an n)=some (some (.ref a))∧typeIn K (.ref a)=some (.type "function")
theorem an_inj:∀ a,a<36→∀ b,b<36→an a=an b→a=b:=by
 have:∀ a:Fin 36,∀ b:Fin 36,an a.1=an b.1→a=b:=by decide +kernel
 intro a ha b hb e
 exact congrArg Fin.val (this ⟨a,ha⟩ ⟨b,hb⟩ e)
theorem EsR.length {gv:Nat→Value} {h:Heap} {es:List DictEntry} {m:List (Nat×PV)} (x:EsR gv h es m):es.length=m.length:=by
 induction x with
 | nil=>rfl
 | cons _ _ _ ih=>rw [List.length_cons,List.length_cons,ih]
theorem EsR.noRef {gv:Nat→Value} {h:Heap} {es:List DictEntry} {m:List (Nat×PV)} (x:EsR gv h es m):es.any (·.refKey)=false:=by
 induction x with
 | nil=>rfl
 | cons _ _ _ ih=>rw [List.any_cons,ih]; rfl
theorem isStr_an {c n:Nat} {t:Tok} (hc:c<36) (hn:n<36):(Value.str (an c) t).isStr (an n)=decide (n=c):=by
 show (an c==an n)=_
 rw [Bool.eq_iff_iff,beq_iff_eq,decide_eq_true_eq]
 exact ⟨fun e=>an_inj n hn c hc e.symm,fun e=>by rw [e]⟩
theorem EsR.look {gv:Nat→Value} {h:Heap} {es:List DictEntry} {m:List (Nat×PV)} (x:EsR gv h es m) {n:Nat} (hn:n<36) :
  (∀ p,m.lookup n=some p→∃ v,getL (an n) es=some (some v)∧VR gv h v p)∧(m.lookup n=none→getL (an n) es=some none):=by
 induction x with
 | nil=>exact ⟨fun p e=>by simp at e,fun _=>rfl⟩
 | @cons hs t c v p es m hc r xs ih =>
  have e0:=isStr_an (t:=t) (c:=c) (by lia) hn
  by_cases hcn:n=c
  ·have e1:(Value.str (an c) t).isStr (an n)=true:=by rw [e0]; exact decide_eq_true hcn
   have e2:getL (an n) (⟨hs,.str (an c) t,v⟩::es)=some (some v):=by
    unfold getL; rw [List.find?_cons]; simp only [e1]
   have e3:List.lookup n ((c,p)::m)=some p:=by rw [hcn]; simp [List.lookup]
   exact ⟨fun q e=>by rw [e3] at e; cases e; exact ⟨v,e2,r⟩,fun e=>by rw [e3] at e; cases e⟩
  ·have e1:(Value.str (an c) t).isStr (an n)=false:=by rw [e0]; exact decide_eq_false hcn
   have e2:getL (an n) (⟨hs,.str (an c) t,v⟩::es)=getL (an n) es:=by
    unfold getL; rw [List.find?_cons,List.any_cons]; simp only [e1]; rfl
   have e3:List.lookup n ((c,p)::m)=List.lookup n m:=by
    rw [List.lookup_cons,beq_eq_false_iff_ne.mpr hcn]
   rw [e2,e3]; exact ih
theorem EsR.put {gv:Nat→Value} {h:Heap} {es:List DictEntry} {m:List (Nat×PV)} (x:EsR gv h es m) {n:Nat} (hn:n<15) {hs:Int} {t:Tok} {v:Value} {p:PV} (r:VR gv h v p) :
  EsR gv h (putL (an n) hs (.str (an n) t) v es) (putA n p m):=by
 induction x with
 | nil=>exact .cons hn r .nil
 | @cons hs' t' c v' p' es m hc r' xs ih =>
  have e0:=isStr_an (t:=t') (n:=n) (c:=c) (by lia) (by lia)
  unfold putL putA
  by_cases hcn:c=n
  ·have e1:(Value.str (an c) t').isStr (an n)=true:=by rw [e0]; exact decide_eq_true hcn.symm
   rw [if_pos e1,if_pos hcn]
   exact .cons hc r xs
  ·have e1:¬ (Value.str (an c) t').isStr (an n)=true:=by rw [e0]; simpa using fun e=>hcn e.symm
   rw [if_neg e1,if_neg hcn]
   exact .cons hc r' ih
section
variable {gv:Nat→Value} {prog:Program} {w:World} {A:Around} {E:Value→Shared→Prop} {s:Shared} {H:MH} {K:Frag} {C x dx:Addr}
theorem r_update {h:Heap} {a:Addr} {o o':Obj} {m m':MO} {f:Obj→Obj} (R:Rep gv h H) (ha:H a=some m) (hm:∀ k d,m≠.inst k d) (e:h.get? a=some o) (e':f o=o') (hf:o'.isFreed=false)
  (q:(h.update a f).get? a=some o'→Fix h (h.update a f)→ObjRep gv (h.update a f) a m'):Rep gv (h.update a f) (upd H a m')∧Stp h H (h.update a f) (upd H a m'):=by
 have hself:(h.update a f).get? a=some o':=by rw [← e']; exact Heap.get?_update_self f e (by rw [e']; exact hf)
 have hcls:o.cls=.type "list" ∨ o.cls=.type "dict" := by
  have r:=R a m ha
  induction m using MO.casesOn with
  | list xs=>obtain ⟨vs,n,g,_⟩:=r; rw [e] at g; cases g; exact .inl rfl
  | inst k d=>exact absurd rfl (hm k d)
  | ns m=>obtain ⟨es,n,g,_⟩:=r; rw [e] at g; cases g; exact .inr rfl
 have fix:Fix h (h.update a f):=fun b ob g ⟨hT,_⟩=>by
  have hb:a≠b:=by
   rintro rfl
   rw [e] at g; cases g
   rcases hcls with c | c <;> rcases hT with t | t <;> rw [c] at t <;> exact absurd (Value.type.inj t) (by decide)
  rw [Heap.get?_update_other h f hb]; exact g
 refine ⟨fun b mb eb=>?_,⟨fun b ob g n _=>?_,fun b nb=>?_,fun b nb=>?_⟩⟩
 ·by_cases hb:b=a
  ·subst hb; rw [upd_self] at eb; cases eb; exact q hself fix
  ·rw [upd_other hb] at eb
   exact (R b mb eb).mono fix fun ob g=>by rw [Heap.get?_update_other h f (Ne.symm hb)]; exact g
 ·have hb:a≠b:=by rintro rfl; rw [ha] at n; cases n
  rw [Heap.get?_update_other h f hb]; exact g
 ·by_cases hb:b=a
  ·subst hb; exact .inl (by rw [ha]; exact fun e=>by cases e)
  ·rw [upd_other hb] at nb; exact .inl nb
 ·by_cases hb:a=b
  ·subst hb; rw [hself]; exact fun e=>by cases e
  ·rw [Heap.get?_update_other h f hb]; exact nb
theorem instAt {h:Heap} {es:List DictEntry} {n:Nat} (hx:h.get? x=some (instObj C dx)) (hd:h.get? dx=some (PySem.W.dictOf es n)):PySem.W.InstAt h x (instObj C dx) C (some (PySem.W.dictOf es n)) :=
 ⟨hx,rfl,rfl,hd⟩
theorem get_inst {k n i:Nat} {es:List DictEntry} {m:List (Nat×PV)} {p:PV} {P:Value→Shared→Prop} (X:K.In s.heap) (O:ClsOk K gv k C) (hx:s.heap.get? x=some (instObj C dx)) (hd:s.heap.get? dx=some (PySem.W.dictOf es i)) (r:EsR gv s.heap es m) (hn:n<15)
  (hl:m.lookup n=some p) (hh:∀ v,VR gv s.heap v p→handedIn v=true) (h:∀ v,VR gv s.heap v p→P v { s with toks:=s.toks+1 }) {b:Bool}:wpAny (model prog w) A (getAttr (.ref x) (an n) b) P E s:=by
 obtain ⟨v,e1,rv⟩:=(r.look (by lia)).1 p hl
 obtain ⟨cd,hc,hcd⟩:=any_some O.cd
 rw [Bool.and_eq_true] at hcd
 refine get_value X (instAt hx hd) O.ga ?_ (hh v rv) (h v rv)
 unfold findObj
 rw [hc,O.attr n hn]
 have:PySem.W.ownOf cd (some (PySem.W.dictOf es i)) (an n)=some (some v):=by
  unfold PySem.W.ownOf
  rw [if_pos hcd.1]
  exact (lookIn_dict ..).trans e1
 show (PySem.W.ownOf cd (some (PySem.W.dictOf es i)) (an n)).bind _=_
 rw [this]; rfl
end
section
variable {gv:Nat→Value} {prog:Program} {w:World} {A:Around} {E:Value→Shared→Prop} {s:Shared} {H:MH} {K:Frag} {C x dx:Addr}
theorem vr_handed (hg:∀ k,∃ C,gv k=.ref C) {h:Heap} {v:Value} {p:PV} (r:VR gv h v p):handedIn v=true:=by
 have hb:∀ k,handedIn (biVal k)=true:=fun k=>match k with
  | 0=>by decide +kernel
  | 1=>by decide +kernel
  | 2=>by decide +kernel
  | 3=>by decide +kernel
  | 4=>by decide +kernel
  | 5=>by decide +kernel
  | 6=>by decide +kernel
  | 7=>by decide +kernel
  | _+8=>rfl
 rcases vr_kind hg r with ⟨C,e,n⟩ | ⟨n,e⟩ | ⟨C,e,n⟩ | ⟨C,t,e,n⟩ | ⟨C,t,e,n⟩ | ⟨k,n,e⟩ <;> rw [e] <;> first | rfl | exact hb k
theorem set_inst {k n i:Nat} {es:List DictEntry} {v:Value} {P:Unit→Shared→Prop} (X:K.In s.heap) (O:ClsOk K gv k C) (hx:s.heap.get? x=some (instObj C dx)) (hd:s.heap.get? dx=some (PySem.W.dictOf es i)) (hno:es.any (·.refKey)=false) (hn:n<15)
  (hz:es.length≤1000)
  (h:∀ hs t,P () { s with heap:=s.heap.update dx (Obj.putName (an n) hs (.str (an n) t) v),toks:=s.toks+2 }):wpAny (model prog w) A (setAttr (.ref x) (an n) v) P E s:=by
 obtain ⟨cd,hc,hcd⟩:=any_some O.cd
 rw [Bool.and_eq_true] at hcd
 refine set_plain X (instAt hx hd) O.sa (osa_open (s:={ s with toks:=s.toks+1 }) X (instAt hx hd) O.over (r:=none) (by unfold takerIn; rw [O.attr n hn]; rfl) fun b=>?_)
 refine wpAny_bind (wpAny_pure (wpAny_bind (wpAny_bind (wpAny_loadPart hx (wpAny_bind ((looks_clsIn X hc) _ _ _ { s with toks:=s.toks+1 } (fun _ _ e=>e) ?_))))))
 rw [hcd.1]
 refine wpAny_pure (a:=some dx) (wpAny_bind (wpAny_pure (wpAny_bind ?_)))
 unfold nsSet
 refine wpAny_bind (wpAny_bind (wpAny_askSetting (wpAny_pure (wpAny_bind (wpAny_mkText (wpAny_bind (wpAny_loadPart hd ?_)))))))
 dsimp only
 rw [aRefKeyMayBeTheName_at]
 have c:(!es.toArray.any (·.key.isStr (an n))&&es.toArray.any (·.refKey))=false:=by simp only [List.any_toArray,hno,Bool.and_false]
 rw [c]
 refine wpAny_updatePart hd ?_
 refine wpAny_bind (wpAny_lookBehind (o:=PySem.W.dictOf (putL (an n) _ _ v es) (putN (an n) es i)) (by
  show (s.heap.update dx _).get? dx=_
  rw [Heap.get?_update_self _ hd (by rw [putName_dict]; rfl)]; exact congrArg some (putName_dict _ _ _ _ _ _)) (pastItsLine_dict (by
   have:∀ (hs:Int) (key:Value) (l:List DictEntry),(putL (an n) hs key v l).length≤l.length+1:=by
    intro hs key l
    induction l with
    | nil=>simp [putL]
    | cons e r ih=>unfold putL; split <;> simp only [List.length_cons] <;> lia
   have:=this (PyData.keyHash w.params (an n)) (.str (an n) (s.toks+1)) es
   rw [List.size_toArray,sizeLine_eq]
   refine Nat.le_trans this ?_
   lia)) ?_)
 exact wpAny_pure (h _ _)
end
structure Cx where
 w:World
 K:Frag
 gv:Nat→Value
 base:Heap
 mg:Str→Option Value
 mb:Str→Option Value
structure CxOk (c:Cx):Prop where
 kin:c.K.In c.base
 g:c.base.Ns mainGlobals c.mg
 b:c.base.Ns builtinsNs c.mb
 lim:c.base.NoLimit
 gref:∀ k,∃ C,c.gv k=.ref C
 gkeep:∀ k,k<90→keepIn c.K (c.gv k)=true
 cls:∀ k,40≤k→k<44→∀ C,c.gv k=.ref C→ClsOk c.K c.gv k C
 glob:∀ x p,gl.lookup x=some p→(∃ v,c.mg x=some v∧VR c.gv c.base v p)∨(c.mg x=none∧∃ v,c.mb x=some v∧VR c.gv c.base v p)
structure Amb (c:Cx) (h:Heap) (H:MH):Prop where
 bk:∀ b o,c.base.get? b=some o→h.get? b=some o∧H b=none
 rep:Rep c.gv h H
section
variable {c:Cx} {h h':Heap} {H H':MH}
theorem Amb.step (a:Amb c h H) (S:Stp h H h' H') (R:Rep c.gv h' H'):Amb c h' H':=by
 refine ⟨fun b o e=>?_,R⟩
 obtain ⟨h1,h2⟩:=a.bk b o e
 refine ⟨S.keep b o h1 h2 id,?_⟩
 induction q:H' b using Option.casesOn with
 | none=>rfl
 | some m =>
  rcases S.new b (by rw [q]; exact fun e=>by cases e) with z | z
  ·exact absurd h2 z
  ·rw [z] at h1; cases h1
theorem Amb.kin (a:Amb c h H) (X:CxOk c):c.K.In h:=X.kin.keeps fun b o e=>(a.bk b o e).1
theorem Amb.keeps (a:Amb c h H):∀ b o,c.base.get? b=some o→h.get? b=some o:=fun b o e=>(a.bk b o e).1
theorem Stp.fix {gv:Nat→Value} {P:Addr→Prop} (S:StpP P h H h' H') (R:Rep gv h H) (hp:∀ b o,P b→h.get? b=some o→(∃ es n,o.data=.dict es n)∨∃ v,o.data=.cell v):Fix h h':=by
 intro b o e ⟨hT,hD⟩
 refine S.keep b o e (R.notList e ?_ ?_ ?_) fun p=>?_
 ·rcases hT with t | t <;> rw [t] <;> exact fun x=>absurd (Value.type.inj x) (by decide)
 ·rcases hT with t | t <;> rw [t] <;> exact fun x=>absurd (Value.type.inj x) (by decide)
 ·intro k C _; rcases hT with t | t <;> rw [t] <;> exact fun x=>by cases x
 ·rcases hp b o p e with ⟨es,n,z⟩ | ⟨v,z⟩ <;> rcases hD with ⟨vs,m,y⟩ | ⟨fs,y⟩ <;> rw [z] at y <;> cases y
theorem Stp.fix0 {gv:Nat→Value} (S:Stp h H h' H') (R:Rep gv h H):Fix h h':=Stp.fix S R fun _ _ p=>p.elim
end
noncomputable def COk (c:Cx) (prog:Program) (A:Around) (C:Cl):Prop:=∀ (k:Nat) (args:List PV) (H:MH) (Q:PV→MH→Prop) (s:Shared) (vs:List Value) (P E:Value→Shared→Prop),
 Amb c s.heap H→VRs c.gv s.heap vs args→C (.fn k) args H Q→Kv c.gv P s H Q→k<90∧wpAny (model prog c.w) A (call (c.gv k) vs) P E s
section
variable {c:Cx} {prog:Program} {A:Around} {E:Value→Shared→Prop} {s:Shared} {H:MH} {P:Value→Shared→Prop} {Q:PV→MH→Prop}
theorem evalArgs_of {f:Value} {l:List (Bool×Sem Value)} {M:Model} {Q:Args→Shared→Prop} (hp:l.any (·.1)=false) (h:wpAny M A (spliced l) (fun vs s'=>Q ⟨vs,[]⟩ s') E s):wpAny M A (evalArgs f true l []) Q E s:=by
 induction l using List.casesOn with
 | nil=>exact fun Γ p hΓ=>evalArgs_nil3 (M:=M) (A:=A) (E:=E) (show Q ⟨[],[]⟩ s from h Γ p hΓ) Γ p hΓ
 | cons a r =>
  obtain ⟨b,t⟩:=a
  rw [List.any_cons,Bool.or_eq_false_iff] at hp
  obtain rfl:b=false:=hp.1
  exact Calls.evalArgs_plain h
noncomputable def CallW (f:Value) (M:Model) (A:Around) (c:Cx):Prop:=∀ (pos:Pos) (first:List Value) (l:List (Bool×Sem Value)) (P E:Value→Shared→Prop) (s:Shared),l.any (·.1)=false →
 wpAny M A (spliced l) (fun vs s₁=>(∀ b o,c.base.get? b=some o→s₁.heap.get? b=some o)∧wpAny M A (call f (first++vs)) P E s₁) E s→wpAny M A (callWith pos f first l []) P E s
theorem callW_builtin {id:String} {M:Model}:CallW (.builtin id) M A c:=fun pos first l P E s hp h =>
 Calls.callWith_builtin hp (evalArgs_of hp (wpAny_mono h (fun _ _ z=>z.2) fun _ _ z=>z))
theorem callW_type {T:String} {M:Model}:CallW (.type T) M A c:=fun pos first l P E s hp h =>
 PyProof.Rows.callWith_type hp (evalArgs_of hp (wpAny_mono h (fun _ _ z=>z.2) fun _ _ z=>z))
theorem callW_fn (X:CxOk c) {k:Nat} (hk:k<90) {M:Model}:CallW (c.gv k) M A c:=fun pos first l P E s hp h =>
 callWith_of (P:=fun h=>c.K.In h) (by rw [hp]; rfl) (keeps_K (X.gkeep k hk)) (evalArgs_of hp (wpAny_mono h (fun _ _ z=>⟨X.kin.keeps z.1,z.2⟩) fun _ _ z=>z))
theorem lm0_inv {P:Prop} {args:List PV} (e:lm0 P args):args=[]∧P:=by
 rcases args with _ | ⟨p,t⟩
 ·exact ⟨rfl,e⟩
 ·exact e.elim
theorem listM_inv {a:Addr} {xs:List PV} {n:Nat} {args:List PV} (e:listM a xs n args H Q):(n=31∧∃ p,args=[p]∧xs.length<big∧Q .none (upd H a (.list (xs++[p]))))∨(n=32∧args=[]∧xs≠[]∧xs.length≤big∧Q (xs.getLastD .undef) (upd H a (.list xs.dropLast))) ∨
  (n=33∧∃ b ys,args=[.ref b]∧H b=some (.list ys)∧xs.length+ys.length≤big∧Q .none (upd H a (.list (xs++ys))))∨(n=34∧args=[]∧xs.length≤big∧Q .none (upd H a (.list xs.reverse))):=by
 unfold listM at e
 by_cases h1:n=31
 ·rw [if_pos h1] at e
  rcases args with _ | ⟨p,_ | ⟨q,t⟩⟩
  ·exact e.elim
  ·exact .inl ⟨h1,p,rfl,e⟩
  ·exact e.elim
 rw [if_neg h1] at e
 by_cases h2:n=32
 ·rw [if_pos h2] at e; exact .inr (.inl ⟨h2,lm0_inv e⟩)
 rw [if_neg h2] at e
 by_cases h3:n=33
 ·rw [if_pos h3] at e
  rcases args with _ | ⟨p,t⟩
  ·exact e.elim
  ·induction p using PV.casesOn with
   | ref b =>
    rcases t with _ | ⟨q,t⟩
    ·replace e:(match H b with
      | some (.list ys)=>xs.length+ys.length≤big∧Q .none (upd H a (.list (xs++ys)))
      | _=>False):=e
     rcases hb:H b with _ | (ys | ⟨_,_⟩ | _)
     ·rw [hb] at e; exact e.elim
     ·rw [hb] at e; exact .inr (.inr (.inl ⟨h3,b,ys,rfl,hb,e⟩))
     ·rw [hb] at e; exact e.elim
     ·rw [hb] at e; exact e.elim
    ·exact e.elim
   | _=>exact False.elim e
 rw [if_neg h3] at e
 by_cases h4:n=34
 ·rw [if_pos h4] at e; exact .inr (.inr (.inr ⟨h4,lm0_inv e⟩))
 rw [if_neg h4] at e; exact e.elim
theorem r_listMeth {a:Addr} {id:String} {n:Nat} {vs:List Value} {ps:List PV} {gv:Nat→Value} (R:Rep gv s.heap H) (rs:VRs gv s.heap vs ps) (e:listMeth a n ps H Q) (K:Kv gv P s H Q)
  (hid:(n=31→id = "list.append")∧(n=32→id = "list.pop")∧(n=33→id = "list.extend")∧(n=34→id = "list.reverse")):wpAny (model prog c.w) A (call (.builtin id) (.ref a::vs)) P E s:=by
 unfold listMeth at e
 split at e
 ·rename_i xs hx
  obtain ⟨ws,k,g1,r1⟩:=R _ _ hx
  have hl:=r1.length
  have upd_ok:∀ {f:Array Value→Array Value} {us:List Value} {ys:List PV},f ws.toArray=us.toArray→VRs gv s.heap us ys→Rep gv (s.heap.update a (Obj.mapSeq f)) (upd H a (.list ys))∧Stp s.heap H (s.heap.update a (Obj.mapSeq f)) (upd H a (.list ys)):=by
   intro f us ys hf hr
   refine r_update (o':=listOf us.toArray (if us.toArray.size==ws.toArray.size then k else k+1)) R hx (fun _ _ e=>by cases e) g1 ?_ rfl fun g2 fx=>⟨us,_,g2,hr.mono fx⟩
   simp only [Obj.mapSeq,hf]
  rcases listM_inv e with ⟨rfl,p,rfl,e⟩ | ⟨rfl,rfl,e⟩ | ⟨rfl,b,ys,rfl,hy,e⟩ | ⟨rfl,rfl,e⟩
  ·obtain ⟨v,rfl,rv⟩:=rs.one
   obtain rfl:=hid.1 rfl
   obtain ⟨R',S'⟩:=upd_ok (f:=fun x=>x.push v) (us:=ws++[v]) (by simp) (r1.append (.cons rv .nil))
   exact call_meets F.slot_list_append ⟨_,g1,rfl⟩ F.entry_list_append (F.args_list_append_2 _ _) (PySem.list_append a _ k v (by simp [big,sizeLine_eq] at *; lia)) ⟨g1,K _ _ _ s.toks _ e.2 .none R' S'⟩
  ·obtain rfl:=rs.none
   obtain rfl:=hid.2.1 rfl
   obtain ⟨hne,hz,hq⟩:=e
   have hwn:ws≠[]:=by
    intro e0; rw [e0] at hl; exact hne (List.length_eq_zero_iff.mp hl.symm)
   obtain ⟨ws',v,rfl⟩:∃ ws' v,ws=ws'++[v]:=⟨_,_,(List.dropLast_concat_getLast hwn).symm⟩
   obtain ⟨xs',p,rfl⟩:∃ xs' p,xs=xs'++[p]:=⟨_,_,(List.dropLast_concat_getLast hne).symm⟩
   have hll:ws'.length=xs'.length:=by simpa using hl
   have rp:VR gv s.heap v p:=by
    have:=r1.drop xs'.length
    rw [← hll,List.drop_left,hll,List.drop_left] at this
    exact xe2 this.un fun w us q=>(List.cons.inj q.1).1 ▸ q.2.1
   have r1':VRs gv s.heap ws' xs':=by
    have:=r1.take xs'.length
    rwa [← hll,List.take_left,hll,List.take_left] at this
   obtain ⟨R',S'⟩:=upd_ok (f:=fun x=>x.eraseIdxIfInBounds ((ws'++[v]).toArray.size - 1)) (us:=ws') (by
    have h1:((ws'++[v]).toArray.size - 1)=ws'.length:=by simp
    rw [h1]
    unfold Array.eraseIdxIfInBounds
    rw [dif_pos (by simp)]
    simp [List.eraseIdx_append]) r1'
   refine call_meets F.slot_list_pop ⟨_,g1,rfl⟩ F.entry_list_pop (F.args_list_pop_1 _) (PySem.MeetsSeq.list_pop_last a _ k v (by simp) (by simp [big,sizeLine_eq] at *; lia)) ⟨g1,?_⟩
   exact K _ _ _ s.toks _ (by simpa using hq) (rp.mono (S'.fix0 R)) R' S'
  ·obtain ⟨v,rfl,rv⟩:=rs.one
   obtain rfl:=hid.2.2.1 rfl
   obtain rfl:=rv.inv
   ·obtain ⟨us,j,g2,r2⟩:=R _ _ hy
    have hl2:=r2.length
    obtain ⟨R',S'⟩:=upd_ok (f:=fun x=>x++us.toArray) (us:=ws++us) (by simp) (r1.append r2)
    refine call_meets F.slot_list_extend ⟨_,g1,rfl⟩ F.entry_list_extend (F.args_list_extend_2 _ _) (PySem.AutoSeq1.list_extend_list_list_0 a _ k b _ j ?_ (by simp [big,sizeLine_eq] at *; lia) (by simp [big,sizeLine_eq] at *; lia)) ⟨g1,g2,K _ _ _ s.toks _ e.2 .none R' S'⟩
    have hfit:¬ (ws.length+us.length>2 ^ 24):=by simp [big] at e; lia
    simp [Builtin.List.listTooLong,sizeLine]
    intro _
    lia
  ·obtain rfl:=rs.none
   obtain rfl:=hid.2.2.2 rfl
   obtain ⟨R',S'⟩:=upd_ok (f:=fun x=>x.reverse) (us:=ws.reverse) (by simp) r1.reverse
   exact call_meets F.slot_list_reverse ⟨_,g1,rfl⟩ F.entry_list_reverse (F.args_list_reverse_1 _) (PySem.AutoSeq1.list_reverse_list_0 a _ k (by simp [big,sizeLine_eq] at *; lia)) ⟨g1,K _ _ _ s.toks _ e.2 .none R' S'⟩
 ·exact e.elim
end
theorem join_flat:∀ zs:List (List Nat),Str.join ⟨#[]⟩ (zs.map fun z=>(⟨z.toArray⟩:Str))=⟨zs.flatten.toArray⟩
 | []=>rfl
 | [z]=>by simp [Str.join]
 | z::y::r=>by
  have ih:=join_flat (y::r)
  simp only [List.map_cons] at ih ⊢
  show Str.append (Str.append ⟨z.toArray⟩ ⟨#[]⟩) (Str.join ⟨#[]⟩ (⟨y.toArray⟩::r.map fun z=>(⟨z.toArray⟩:Str)))=_
  rw [ih]
  simp [Str.append]
section
variable {c:Cx} {prog:Program} {A:Around} {E:Value→Shared→Prop} {s:Shared} {H:MH} {P:Value→Shared→Prop} {Q:PV→MH→Prop} {C:Cl}
theorem sum_len (zs:List (List Nat)):((zs.map fun z=>(⟨z.toArray⟩:Str)).map (·.length)).sum=zs.flatten.length:=by
 induction zs with
 | nil=>rfl
 | cons z r ih=>simp only [List.map_cons,List.sum_cons,ih,List.flatten_cons,List.length_append]; simp [Str.length]
theorem r_strMeth {x:List Nat} {t:Tok} {n:Nat} {vs:List Value} {ps:List PV} (R:Rep c.gv s.heap H) (rs:VRs c.gv s.heap vs ps) (e:strMeth x n ps H Q) (K:Kv c.gv P s H Q) :
  wpAny (model prog c.w) A (call (.builtin "str.join") (.str ⟨x.toArray⟩ t::vs)) P E s:=by
 unfold strMeth at e
 split at e
 ·obtain ⟨v,rfl,rv⟩:=rs.one
  obtain rfl:=rv.inv
  split at e
  ·rename_i ys hy
   split at e
   ·rename_i zs hz
    obtain ⟨ws,k,g1,r1⟩:=R _ _ hy
    obtain ⟨rfl,h1,h2,h3⟩:=e
    refine join_list ⟨_,g1,rfl,_,rfl⟩ (by simpa using strsAre r1 hz) ?_ fun t' k'=>?_
    ·rw [sum_len]; simp [Str.length,big] at *; lia
    ·have e2:Builtin.Str.glued ⟨([]:List Nat).toArray⟩ (zs.map fun z=>(⟨z.toArray⟩:Str))=⟨zs.flatten.toArray⟩:=by
      rw [PySem.StrLaws.glued_eq_join]
      exact join_flat zs
     show P (.str (Builtin.Str.glued ⟨([]:List Nat).toArray⟩ (zs.map fun z=>(⟨z.toArray⟩:Str))) t') _
     rw [e2]
     exact K.same R h3 (.str _ _)
   ·exact e.elim
  ·exact e.elim
 ·exact e.elim
end
section
variable {c:Cx} {prog:Program} {A:Around} {E:Value→Shared→Prop} {s:Shared} {H:MH} {P:Value→Shared→Prop} {Q:PV→MH→Prop} {C:Cl}
theorem an35:an 35=Str.ofString "join" := rfl
theorem an31:an 31=Str.ofString "append" := rfl
theorem an32:an 32=Str.ofString "pop" := rfl
theorem an33:an 33=Str.ofString "extend" := rfl
theorem an34:an 34=Str.ofString "reverse" := rfl
noncomputable def MethOk (c:Cx) (prog:Program) (A:Around) (f v:Value) (g:List PV→MH→(PV→MH→Prop)→Prop):Prop :=
 ∀ (s:Shared) (H:MH) (vs:List Value) (ps:List PV) (P E:Value→Shared→Prop) (Q:PV→MH→Prop),Amb c s.heap H→VRs c.gv s.heap vs ps→g ps H Q→Kv c.gv P s H Q→wpAny (model prog c.w) A (call f (v::vs)) P E s
set_option maxRecDepth 20000 in
theorem r_bind (X:CxOk c) (hC:COk c prog A C) {v:Value} {p:PV} {n:Nat} {g:List PV→MH→(PV→MH→Prop)→Prop} {pl:Sem Bool} {P:Value×List Value→Shared→Prop} (a:Amb c s.heap H) (ro:VR c.gv s.heap v p) (hn:n<36)
  (e:bindOp C p n H=some g) (h:∀ f,CallW f (model prog c.w) A c→MethOk c prog A f v g→P (f,[v]) s):wpAny (model prog c.w) A (getMethod v (an n) pl) P E s:=by
 unfold bindOp at e
 split at e
 ·split at e
  ·rename_i hn35
   subst hn35
   cases e
   rename_i x
   obtain ⟨t,rfl⟩:=ro.inv
   rw [an35]
   have hh:=h (.builtin "str.join") callW_builtin fun s' H' vs ps P' E' Q' a' rs e' K'=>r_strMeth a'.rep rs e' K'
   have q1:=typeIs_str s ⟨x.toArray⟩ t
   have q5:=@getMethod_builtin (model prog c.w) A E s _ "str" (Str.ofString "join") "str.join" pl P q1 F.plainAttrs_str F.slot_str_join F.type_str_join
   have q4:∀ a,Value.str ⟨x.toArray⟩ t=.ref a→∃ o,s.heap.get? a=some o∧o.dict=none:=by intro a e; cases e
   exact q5 q4 hh
  ·cases e
 ·rename_i b
  obtain rfl:=ro.inv
  split at e
  ·rename_i xs hx
   split at e
   ·rename_i hn2
    cases e
    obtain ⟨ws,k,g1,r1⟩:=a.rep _ _ hx
    have fin:∀ (id:String),Slot "list" (an n) id→typeOf (.builtin id)=pure (.type "method_descriptor")→((n=31→id = "list.append")∧(n=32→id = "list.pop")∧(n=33→id = "list.extend")∧(n=34→id = "list.reverse")) →
      wpAny (model prog c.w) A (getMethod (.ref b) (an n) pl) P E s:=fun id slot ty hid =>
     getMethod_builtin ⟨_,g1,rfl⟩ F.plainAttrs_list slot ty (fun a e=>by cases e; exact ⟨_,g1,rfl⟩) (h _ callW_builtin fun s' H' vs ps P' E' Q' a' rs e' K'=>r_listMeth a'.rep rs e' K' hid)
    have:n=31∨n=32∨n=33∨n=34:=by lia
    rcases this with rfl | rfl | rfl | rfl
    ·exact fin "list.append" (by rw [an31]; exact F.slot_list_append) F.type_list_append ⟨fun _=>rfl,fun e=>absurd e (by lia),fun e=>absurd e (by lia),fun e=>absurd e (by lia)⟩
    ·exact fin "list.pop" (by rw [an32]; exact F.slot_list_pop) F.type_list_pop ⟨fun e=>absurd e (by lia),fun _=>rfl,fun e=>absurd e (by lia),fun e=>absurd e (by lia)⟩
    ·exact fin "list.extend" (by rw [an33]; exact F.slot_list_extend) F.type_list_extend ⟨fun e=>absurd e (by lia),fun e=>absurd e (by lia),fun _=>rfl,fun e=>absurd e (by lia)⟩
    ·exact fin "list.reverse" (by rw [an34]; exact F.slot_list_reverse) F.type_list_reverse ⟨fun e=>absurd e (by lia),fun e=>absurd e (by lia),fun e=>absurd e (by lia),fun _=>rfl⟩
   ·cases e
  ·rename_i k d hx
   split at e
   ·rename_i m f hd hm
    split at e
    ·rename_i hl
     cases e
     obtain ⟨⟨k1,k2⟩,C0,hC0,g1⟩:=a.rep _ _ hx
     obtain ⟨es,i,g2,er⟩:=a.rep _ _ hd
     have O:=X.cls k k1 k2 C0 hC0
     obtain ⟨fa,hfa,hf1,hf2⟩:=O.meth n f hm
     have hlk:m.lookup n=none:=Option.isNone_iff_eq_none.mp hl
     have hk:f<90:=(mth_ok hm).2
     have hh:=h _ (callW_fn X hk) fun s' H' vs ps P' E' Q' a' rs e' K'=>(hC f _ H' Q' s' _ P' E' a' (.cons (.ref b) rs) e' K').2
     rw [hfa] at hh
     have hsh:shadowIn (some (PySem.W.dictOf es i)) (an n)=some false:=by
      unfold shadowIn
      dsimp only
      rw [lookIn_dict,(er.look hn).2 hlk]; rfl
     have q:=@method_fn prog c.w A E s c.K (an n) b C0 (instObj C0 d) (some (PySem.W.dictOf es i)) pl P fa (a.kin X) (instAt g1 g2) O.ga O.gattr hf1 hf2 hsh hh
     exact q
    ·cases e
   ·cases e
  ·cases e
 ·cases e
theorem r_attr (X:CxOk c) {v:Value} {p:PV} {n:Nat} {b:Bool} (a:Amb c s.heap H) (ro:VR c.gv s.heap v p) (e:attrOp p n H Q) (K:Kv c.gv P s H Q):wpAny (model prog c.w) A (getAttr v (an n) b) P E s:=by
 unfold attrOp at e
 split at e
 ·obtain rfl:=ro.inv
  split at e
  ·rename_i k d hx
   split at e
   ·rename_i m hd
    split at e
    ·rename_i p hl
     obtain ⟨⟨k1,k2⟩,C0,hC0,g1⟩:=a.rep _ _ hx
     obtain ⟨es,i,g2,er⟩:=a.rep _ _ hd
     have hn:n<15:=by
      clear g2 hd e
      induction er with
      | nil=>simp at hl
      | @cons hs t c v p' es m hc _ _ ih =>
       rw [List.lookup_cons] at hl
       by_cases hcn:n=c
       ·lia
       ·rw [beq_eq_false_iff_ne.mpr hcn] at hl; exact ih hl
     exact get_inst (a.kin X) (X.cls k k1 k2 C0 hC0) g1 g2 er hn hl (fun v r=>vr_handed X.gref r) fun v r=>K.same a.rep e r
    ·exact e.elim
   ·exact e.elim
  ·exact e.elim
 ·exact e.elim
noncomputable def Ks (gv:Nat→Value) (P:Unit→Shared→Prop) (s:Shared) (H:MH) (Q:MH→Prop):Prop :=
 ∀ h' tk H',Q H'→Rep gv h' H'→Stp s.heap H h' H'→P () { s with heap:=h',toks:=tk }
theorem r_setA (X:CxOk c) {v u:Value} {p q:PV} {n:Nat} {P:Unit→Shared→Prop} {Q:MH→Prop} (a:Amb c s.heap H) (ro:VR c.gv s.heap v p) (rq:VR c.gv s.heap u q) (e:setA p n q H Q) (K:Ks c.gv P s H Q):wpAny (model prog c.w) A (setAttr v (an n) u) P E s:=by
 unfold setA at e
 split at e
 ·obtain rfl:=ro.inv
  split at e
  ·rename_i k d hx
   split at e
   ·rename_i m hd
    obtain ⟨⟨k1,k2⟩,C0,hC0,g1⟩:=a.rep _ _ hx
    obtain ⟨es,i,g2,er⟩:=a.rep _ _ hd
    have hl:=er.length
    refine set_inst (a.kin X) (X.cls k k1 k2 C0 hC0) g1 g2 er.noRef e.1 (by lia) fun hs t=>?_
    obtain ⟨R',S'⟩:=r_update (m':=.ns (putA n q m)) (o':=PySem.W.dictOf (putL (an n) hs (.str (an n) t) u es) (putN (an n) es i)) (f:=Obj.putName (an n) hs (.str (an n) t) u) a.rep hd (fun _ _ e=>by cases e) g2 (putName_dict _ _ _ _ _ _) rfl
     fun g fx=>⟨_,_,g,(er.put e.1 rq).mono fx⟩
    exact K _ _ _ e.2.2 R' S'
   ·exact e.elim
  ·exact e.elim
 ·exact e.elim
theorem r_setS {v i u:Value} {p k q:PV} {P:Unit→Shared→Prop} {Q:MH→Prop} (a:Amb c s.heap H) (ro:VR c.gv s.heap v p) (ri:VR c.gv s.heap i k) (rq:VR c.gv s.heap u q) (e:setS p k q H Q) (K:Ks c.gv P s H Q):wpAny (model prog c.w) A (setItem v i u) P E s:=by
 unfold setS at e
 split at e
 ·obtain rfl:=ro.inv
  obtain ⟨_,rfl⟩:=ri.inv
  rename_i k0 _
  split at e
  ·rename_i xs hx
   obtain ⟨ws,j,g1,r1⟩:=a.rep _ _ hx
   have hl:=r1.length
   obtain ⟨h0,h1,h2,h3⟩:=e
   refine ki_setAt g1 h0 (by simp only [big] at h2; lia) (by simp; lia) ?_
   obtain ⟨R',S'⟩:=r_update (m':=.list (xs.set k0.toNat q)) (o':=listOf (ws.set k0.toNat u).toArray j) (f:=Obj.mapSeq (·.setIfInBounds k0.toNat u)) a.rep hx (fun _ _ e=>by cases e) g1 (by simp [Obj.mapSeq]) rfl
    fun g fx=>⟨_,_,g,(VRs.set rq _ r1).mono fx⟩
   exact K _ s.toks _ h3 R' S'
  ·exact e.elim
 ·exact e.elim
end
noncomputable def isU:PV→Bool
 | .undef=>true
 | _=>false
structure FS (c:Cx) (sc:Scope) (env:Env) (h:Heap) (H:MH) (r:List PV):Prop where
 amb:Amb c h H
 fn:env.scope.kind=.function
 g:env.globals=mainGlobals
 b:env.builtins=builtinsNs
 kd:∀ x,env.kindOf x=sc.names.lookup x∨(sc.names.lookup x=some .free∧env.kindOf x=some .cell)
 loc:∃ m,h.Ns env.locals m∧∀ x i p,idx sc x=some i→sc.names.lookup x=some .local→r[i]?=some p→isU p=false→∃ v,m x=some v∧VR c.gv h v p
 cel:∀ x i,idx sc x=some i→(sc.names.lookup x=some .cell∨sc.names.lookup x=some .free)→∃ a o,env.cells.lookup x=some a∧h.IsCell a o∧∀ p,r[i]?=some p→isU p=false→∃ v,o=some v∧VR c.gv h v p
 rl:r.length≤1000
 lH:H env.locals=none
 lB:c.base.get? env.locals=none
 cB:∀ x a,sc.names.lookup x=some .cell→env.cells.lookup x=some a→c.base.get? a=none
 cL:∀ x a,env.cells.lookup x=some a→a≠env.locals
 cI:∀ x y a,sc.names.lookup x=some .cell→env.cells.lookup x=some a→env.cells.lookup y=some a→x=y
noncomputable def PE (sc:Scope) (env:Env):Addr→Prop:=fun a=>a=env.locals∨∃ x,sc.names.lookup x=some .cell∧env.cells.lookup x=some a
section
variable {c:Cx} {sc:Scope} {env:Env} {h h':Heap} {H H':MH} {r:List PV}
theorem Rep.notCell {gv:Nat→Value} (R:Rep gv h H) {a:Addr} {v:Option Value} (e:h.IsCell a v):H a=none:=by
 obtain ⟨o,e1,e2⟩:=e
 induction q:H a using Option.casesOn with
 | none=>rfl
 | some m =>
  have r:=R a m q
  induction m using MO.casesOn with
  | list xs=>obtain ⟨vs,n,g,_⟩:=r; rw [e1] at g; cases g; cases e2
  | inst k d=>obtain ⟨_,C,c,g⟩:=r; rw [e1] at g; cases g; cases e2
  | ns m=>obtain ⟨es,n,g,_⟩:=r; rw [e1] at g; cases g; cases e2
theorem StpP.newH {P:Addr→Prop} (S:StpP P h H h' H') {a:Addr} (e:h.get? a≠none) (n:H a=none):H' a=none:=by
 induction q:H' a using Option.casesOn with
 | none=>rfl
 | some m =>
  rcases S.new a (by rw [q]; exact fun e=>by cases e) with z | z
  ·exact absurd n z
  ·exact absurd z e
theorem FS.step (F:FS c sc env h H r) (S:Stp h H h' H') (R:Rep c.gv h' H'):FS c sc env h' H' r:=by
 have fx:=S.fix0 F.amb.rep
 refine { F with amb:=F.amb.step S R,loc:=?_,cel:=?_,lH:=?_ }
 ·obtain ⟨m,⟨o,es,ep,e1,e2⟩,hm⟩:=F.loc
  exact ⟨m,⟨o,es,ep,S.keep _ _ e1 F.lH id,e2⟩,fun x i p a b d e=>by obtain ⟨v,q,r⟩:=hm x i p a b d e; exact ⟨v,q,r.mono fx⟩⟩
 ·intro x i a b
  obtain ⟨ca,o,e1,⟨ob,e2,e3⟩,e4⟩:=F.cel x i a b
  exact ⟨ca,o,e1,⟨ob,S.keep _ _ e2 (F.amb.rep.notCell ⟨ob,e2,e3⟩) id,e3⟩,fun p u w=>by obtain ⟨v,q,r⟩:=e4 p u w; exact ⟨v,q,r.mono fx⟩⟩
 ·obtain ⟨m,⟨o,es,ep,e1,e2⟩,hm⟩:=F.loc
  exact S.newH (by rw [e1]; exact fun e=>by cases e) F.lH
theorem SameBut.repOf {gv:Nat→Value} {a:Addr} (S:Heap.SameBut a h h') (R:Rep gv h H) (n:H a=none) (k:∀ o,h.get? a=some o→¬ KO o):Rep gv h' H∧Fix h h':=by
 have fx:Fix h h':=fun b o e ko=>by
  have hb:b≠a:=by rintro rfl; exact k o e ko
  rw [S.2 b hb]; exact e
 exact ⟨fun b m e=>(R b m e).mono fx fun ob g=>by
  have hb:b≠a:=by rintro rfl; rw [n] at e; cases e
  rw [S.2 b hb]; exact g,fx⟩
theorem ambSame {a:Addr} (S:Heap.SameBut a h h') (B:Amb c h H) (R:Rep c.gv h' H) (n:c.base.get? a=none):Amb c h' H :=
 ⟨fun b o e=>by
  have hb:b≠a:=by rintro rfl; rw [n] at e; cases e
  rw [S.2 b hb]; exact B.bk b o e,R⟩
theorem getSet {r:List PV} {i j:Nat} {p q:PV} (e:(r.set i p)[j]?=some q):(i=j∧q=p)∨(i≠j∧r[j]?=some q):=by
 rw [List.getElem?_set] at e
 split at e
 ·rename_i hij
  split at e
  ·cases e; exact .inl ⟨hij,rfl⟩
  ·cases e
 ·rename_i hij; exact .inr ⟨hij,e⟩
theorem idx_inj {x y:Str} {i:Nat} (ex:idx sc x=some i) (ey:idx sc y=some i):x=y:=by
 unfold idx at ex ey
 rw [List.findIdx?_eq_some_iff_getElem] at ex ey
 obtain ⟨h1,h2,_⟩:=ex
 obtain ⟨_,h3,_⟩:=ey
 rw [← eq_of_beq h2,← eq_of_beq h3]
theorem FS.setLocal {x:Str} {i:Nat} {v:Value} {p:PV} {m:Str→Option Value} (F:FS c sc env h H r) (ix:idx sc x=some i) (kx:sc.names.lookup x=some .local) (rv:VR c.gv h v p)
  (hm:∀ x i p,idx sc x=some i→sc.names.lookup x=some .local→r[i]?=some p→isU p=false→∃ v,m x=some v∧VR c.gv h v p)
  (S:Heap.SameBut env.locals h h') (N:h'.Ns env.locals fun y=>if y=x then some v else m y):FS c sc env h' H (r.set i p):=by
 obtain ⟨m0,⟨o,es,ep,e1,e2,_⟩,_⟩:=F.loc
 obtain ⟨R,fx⟩:=SameBut.repOf S F.amb.rep F.lH fun o' e=>by
  rw [e1] at e; cases e
  rintro ⟨_,⟨vs,n,d⟩ | ⟨fs,d⟩⟩ <;> rw [e2] at d <;> cases d
 refine { F with amb:=ambSame S F.amb R F.lB,loc:=?_,cel:=?_,rl:=by rw [List.length_set]; exact F.rl }
 ·refine ⟨_,N,fun y j q a b d e=>?_⟩
  by_cases hy:y=x
  ·subst hy
   rw [ix] at a; cases a
   rcases getSet d with ⟨_,rfl⟩ | ⟨n,_⟩
   ·exact ⟨v,by simp,rv.mono fx⟩
   ·exact absurd rfl n
  ·rcases getSet d with ⟨rfl,_⟩ | ⟨_,d⟩
   ·exact absurd (idx_inj a ix) hy
   ·obtain ⟨u,q1,r1⟩:=hm y j q a b d e
    exact ⟨u,by rw [if_neg hy]; exact q1,r1.mono fx⟩
 ·intro y j a b
  obtain ⟨ca,ob,e1,⟨oc,e2,e3⟩,e4⟩:=F.cel y j a b
  refine ⟨ca,ob,e1,⟨oc,by rw [S.2 ca (F.cL y ca e1)]; exact e2,e3⟩,fun q d e=>?_⟩
  rcases getSet d with ⟨rfl,_⟩ | ⟨_,d⟩
  ·have:=idx_inj a ix; subst this
   rw [kx] at b; rcases b with b | b <;> cases b
  ·obtain ⟨u,q1,r1⟩:=e4 q d e
   exact ⟨u,q1,r1.mono fx⟩
theorem FS.setCell {x:Str} {i:Nat} {v:Value} {p:PV} {a:Addr} (F:FS c sc env h H r) (ix:idx sc x=some i) (kx:sc.names.lookup x=some .cell) (ca:env.cells.lookup x=some a) (rv:VR c.gv h v p)
  (S:Heap.SameBut a h h') (N:h'.IsCell a (some v)):FS c sc env h' H (r.set i p):=by
 obtain ⟨a',o0,e1,⟨oo,e2,e3⟩,_⟩:=F.cel x i ix (.inl kx)
 rw [ca] at e1; cases e1
 obtain ⟨R,fx⟩:=SameBut.repOf S F.amb.rep (F.amb.rep.notCell ⟨oo,e2,e3⟩) fun o' e=>by
  rw [e2] at e; cases e
  rintro ⟨_,⟨vs,n,d⟩ | ⟨fs,d⟩⟩ <;> rw [e3] at d <;> cases d
 refine { F with amb:=ambSame S F.amb R (F.cB x a kx ca),loc:=?_,cel:=?_,rl:=by rw [List.length_set]; exact F.rl }
 ·obtain ⟨m,⟨o,es,ep,g1,g2⟩,hm⟩:=F.loc
  refine ⟨m,⟨o,es,ep,by rw [S.2 _ (Ne.symm (F.cL x a ca))]; exact g1,g2⟩,fun y j q b k d e=>?_⟩
  rcases getSet d with ⟨rfl,_⟩ | ⟨_,d⟩
  ·have:=idx_inj b ix; subst this; rw [kx] at k; cases k
  ·obtain ⟨u,q1,r1⟩:=hm y j q b k d e
   exact ⟨u,q1,r1.mono fx⟩
 ·intro y j b k
  obtain ⟨cy,ob,g1,⟨oc,g2,g3⟩,g4⟩:=F.cel y j b k
  by_cases hy:y=x
  ·subst hy
   rw [ca] at g1; cases g1
   refine ⟨a,some v,ca,N,fun q d e=>?_⟩
   rw [ix] at b; cases b
   rcases getSet d with ⟨_,rfl⟩ | ⟨n,_⟩
   ·exact ⟨v,rfl,rv.mono fx⟩
   ·exact absurd rfl n
  ·have hca:cy≠a:=by
    rintro rfl
    exact hy (F.cI x y cy kx ca g1).symm
   refine ⟨cy,ob,g1,⟨oc,by rw [S.2 cy hca]; exact g2,g3⟩,fun q d e=>?_⟩
   rcases getSet d with ⟨rfl,_⟩ | ⟨_,d⟩
   ·exact absurd (idx_inj b ix) hy
   ·obtain ⟨u,q1,r1⟩:=g4 q d e
    exact ⟨u,q1,r1.mono fx⟩
theorem SameBut.stp {P:Addr→Prop} {a:Addr} (S:Heap.SameBut a h h') (p:P a) (l:h'.get? a≠none):StpP P h H h' H :=
 ⟨fun b o e n q=>by rw [S.2 b (by rintro rfl; exact q p)]; exact e,fun b e=>.inl e,fun b e=>by
  by_cases hb:b=a
  ·subst hb; exact l
  ·rw [S.2 b hb]; exact e⟩
end
section
variable {c:Cx} {sc:Scope} {env:Env} {H:MH} {r:List PV} {M:Model} {A:Around} {E:Value→Shared→Prop} {s:Shared}
theorem r_load (X:CxOk c) {x:Str} {Q:PV→MH→Prop} {P:Value→Shared→Prop} {C:Cl} {pos:Pos} (F:FS c sc env s.heap H r) (e:wpX C (cName sc x) r H Q) (K:Kv c.gv P s H Q) :
  wpAny M A (eval (.Name x pos) env) P E s∧(sc.names.lookup x≠some .globalImplicit→wpAny M A (loadName env x) P E s):=by
 unfold cName at e
 split at e
 ·exact e.elim
 ·rename_i hx0
  rw [Bool.or_eq_true,not_or,Bool.not_eq_true,Bool.not_eq_true] at hx0
  obtain ⟨hx1,hx2⟩:=hx0
  have two:wpAny M A (loadName env x) P E s→wpAny M A (eval (.Name x pos) env) P E s∧(sc.names.lookup x≠some .globalImplicit→wpAny M A (loadName env x) P E s):=fun h=>⟨wpAny_Name h hx1,fun _=>h⟩
  have hget:∀ i,(wpX C (.var i) r H Q)→∃ p,r[i]?=some p∧isU p=false∧Q p H:=by
   intro i e
   replace e:(match get r i with
    | .undef=>False
    | p=>Q p H):=e
   unfold get at e
   rw [List.getD_eq_getElem?_getD] at e
   induction hr:r[i]? using Option.casesOn with
   | none=>rw [hr] at e; exact e.elim
   | some p =>
    rw [hr] at e
    refine ⟨p,rfl,?_⟩
    induction p using PV.casesOn <;> first | exact e.elim | exact ⟨rfl,e⟩
  split at e
  ·rename_i i kx ix
   obtain ⟨p,r1,r2,q⟩:=hget i e
   obtain ⟨m,N,hm⟩:=F.loc
   obtain ⟨v,mv,rv⟩:=hm x i p ix kx r1 r2
   have kl:env.kindOf x=some .local:=by
    rcases F.kd x with z | ⟨z,_⟩
    ·rw [z]; exact kx
    ·rw [z] at kx; cases kx
   exact two <| wpAny_loadName_local F.fn kl N mv (K v p s.heap s.toks H q rv F.amb.rep StpP.refl)
  ·rename_i i kx ix
   obtain ⟨p,r1,r2,q⟩:=hget i e
   obtain ⟨a,o,e1,e2,e3⟩:=F.cel x i ix (.inl kx)
   obtain ⟨v,rfl,rv⟩:=e3 p r1 r2
   have kl:env.kindOf x=some .cell:=by
    rcases F.kd x with z | ⟨z,_⟩
    ·rw [z]; exact kx
    ·rw [z] at kx; cases kx
   exact two <| wpAny_loadName_cell F.fn kl e1 e2 (K v p s.heap s.toks H q rv F.amb.rep StpP.refl)
  ·rename_i i kx ix
   obtain ⟨p,r1,r2,q⟩:=hget i e
   obtain ⟨a,o,e1,e2,e3⟩:=F.cel x i ix (.inr kx)
   obtain ⟨v,rfl,rv⟩:=e3 p r1 r2
   rcases F.kd x with z | ⟨_,z⟩
   ·rw [kx] at z
    exact two <| wpAny_loadName_free F.fn z e1 e2 (K v p s.heap s.toks H q rv F.amb.rep StpP.refl) hx2
   ·exact two <| wpAny_loadName_cell F.fn z e1 e2 (K v p s.heap s.toks H q rv F.amb.rep StpP.refl)
  ·rename_i kx
   split at e
   ·rename_i p hp
    replace e:Q p H:=e
    have kl:env.kindOf x=some .globalImplicit:=by
     rcases F.kd x with z | ⟨z,_⟩
     ·rw [z]; exact kx
     ·rw [z] at kx; cases kx
    have hks:∀ b o,c.base.get? b=some o→s.heap.get? b=some o:=F.amb.keeps
    have lift:∀ {v:Value},VR c.gv c.base v p→VR c.gv s.heap v p:=fun rv=>rv.mono fun b o e _=>hks b o e
    have fin:wpAny M A (loadGlobal env x) P E s:=by
     rcases X.glob x p hp with ⟨v,e1,rv⟩ | ⟨e0,v,e1,rv⟩
     ·exact Calls.loadGlobal_global (by rw [F.g]; exact X.g.keeps hks) e1 (K v p s.heap s.toks H e (lift rv) F.amb.rep StpP.refl)
     ·exact Calls.loadGlobal_builtin (by rw [F.g]; exact X.g.keeps hks) e0 (by rw [F.b]; exact X.b.keeps hks) e1 (K v p s.heap s.toks H e (lift rv) F.amb.rep StpP.refl)
    exact ⟨Calls.Name_function_global F.fn kl fin hx1,fun n=>absurd kx n⟩
   ·exact e.elim
  ·exact e.elim
theorem r_store {x:Str} {i:Nat} {v:Value} {p:PV} {P:Unit→Shared→Prop} (F:FS c sc env s.heap H r) (ix:idx sc x=some i) (kx:sc.names.lookup x=some .local∨sc.names.lookup x=some .cell) (rv:VR c.gv s.heap v p)
  (h:∀ h' tk,FS c sc env h' H (r.set i p)→StpP (PE sc env) s.heap H h' H→P () { s with heap:=h',toks:=tk }):wpAny M A (storeName env x v) P E s:=by
 rcases kx with kx | kx
 ·have kl:env.kindOf x=some .local:=by
   rcases F.kd x with z | ⟨z,_⟩
   ·rw [z]; exact kx
   ·rw [z] at kx; cases kx
  obtain ⟨m,N,hm⟩:=F.loc
  refine wpAny_storeName_local kl N (fun h' N' S'=>h h' _ (F.setLocal ix kx rv hm S' N') (SameBut.stp S' (.inl rfl) ?_)) (by rw [F.fn]; rfl)
  obtain ⟨o,es,ep,e1,_⟩:=N'
  rw [e1]; exact fun e=>by cases e
 ·have kl:env.kindOf x=some .cell:=by
   rcases F.kd x with z | ⟨z,_⟩
   ·rw [z]; exact kx
   ·rw [z] at kx; cases kx
  obtain ⟨a,o,e1,e2,e3⟩:=F.cel x i ix (.inl kx)
  refine wpAny_storeName_cell F.fn kl e1 e2 fun h' N' S'=>h h' _ (F.setCell ix kx e1 rv S' N') (SameBut.stp S' (.inr ⟨x,kx,e1⟩) ?_)
  obtain ⟨o,e1,_⟩:=N'
  rw [e1]; exact fun e=>by cases e
end
noncomputable def ItSt (h:Heap) (I:Addr) (p:PV) (i:Nat):Prop:=match p with
 | .ref a=>h.IsListIter I a i
 | .rng lo hi=>IsRangeIter h I (lo+i) (((hi - lo).toNat:Int) - i) 1
 | .str x=>∃ ty t,(ty = "str_ascii_iterator" ∨ ty = "str_iterator")∧h.IsStrIter I ty ⟨x.toArray⟩ t i
 | _=>False
noncomputable def Src (p:PV) (xs:List PV) (src:MH→Prop):Prop:=match p with
 | .ref a=>xs.length≤big∧∀ H,src H→H a=some (.list xs)
 | .rng lo hi=>lo.natAbs≤big∧hi.natAbs≤big∧xs=rngItems lo hi
 | .str x=>x.length≤big∧xs=x.map fun c=>.str [c]
 | _=>False
theorem iter_src {p:PV} {H:MH} {K:List PV→(MH→Prop)→Prop} (e:iterOp p H K):∃ xs src,K xs src∧Src p xs src:=by
 unfold iterOp at e
 split at e
 ·split at e
  ·exact ⟨_,_,e.2,e.1,fun _ z=>z⟩
  ·exact e.elim
 ·exact ⟨_,_,e.2.2,e.1,e.2.1,rfl⟩
 ·exact ⟨_,_,e.2,e.1,rfl⟩
 ·exact e.elim
theorem ItSt.keep {h h':Heap} {I:Addr} {p:PV} {i:Nat} (x:ItSt h I p i) (k:∀ o,h.get? I=some o→h'.get? I=some o):ItSt h' I p i:=by
 unfold ItSt at x ⊢
 split at x
 ·obtain ⟨o,e,r⟩:=x; exact ⟨o,k o e,r⟩
 ·exact k _ x
 ·obtain ⟨ty,t,hy,o,e,r⟩:=x; exact ⟨ty,t,hy,o,k o e,r⟩
 ·exact x
theorem ItSt.obj {h:Heap} {I:Addr} {p:PV} {i:Nat} (x:ItSt h I p i):∃ o,h.get? I=some o∧¬ KO o∧(o.cls=.type "list_iterator" ∨ o.cls=.type "range_iterator" ∨ o.cls=.type "str_ascii_iterator" ∨ o.cls=.type "str_iterator"):=by
 have ko:∀ {T:String} {o:Obj},o.cls=.type T→T ≠ "tuple" → T ≠ "range" → ¬ KO o:=fun e n1 n2 ⟨q,_⟩=>by
  rcases q with q | q <;> rw [e] at q
  ·exact n1 (Value.type.inj q)
  ·exact n2 (Value.type.inj q)
 unfold ItSt at x
 split at x
 ·obtain ⟨o,e,c,r⟩:=x; exact ⟨o,e,ko c (by decide) (by decide),.inl c⟩
 ·exact ⟨_,x,ko rfl (by decide) (by decide),.inr (.inl rfl)⟩
 ·obtain ⟨ty,t,hy,o,e,c,r⟩:=x
  rcases hy with rfl | rfl
  ·exact ⟨o,e,ko c (by decide) (by decide),.inr (.inr (.inl c))⟩
  ·exact ⟨o,e,ko c (by decide) (by decide),.inr (.inr (.inr c))⟩
 ·exact x.elim
theorem ItSt.notOwn {h:Heap} {H:MH} {gv:Nat→Value} {I:Addr} {p:PV} {i:Nat} (x:ItSt h I p i) (R:Rep gv h H):H I=none:=by
 obtain ⟨o,e,_,c⟩:=x.obj
 refine R.notList e ?_ ?_ ?_
 ·rcases c with c | c | c | c <;> rw [c] <;> exact fun x=>absurd (Value.type.inj x) (by decide)
 ·rcases c with c | c | c | c <;> rw [c] <;> exact fun x=>absurd (Value.type.inj x) (by decide)
 ·intro k C _; rcases c with c | c | c | c <;> rw [c] <;> exact fun x=>by cases x
section
variable {gv:Nat→Value} {prog:Program} {w:World} {A:Around} {E:Value→Shared→Prop} {s:Shared} {H:MH} {P:Value→Shared→Prop}
theorem range_small {lo hi:Int} (h1:lo.natAbs≤big) (h2:hi.natAbs≤big):Builtin.Range.small lo hi 1=true∧Builtin.Range.rangeSize lo hi 1=((hi - lo).toNat:Int):=⟨small_of h1 h2,rangeSize_nat lo hi⟩
theorem r_iter {v:Value} {p:PV} {xs:List PV} {src:MH→Prop} (r:VR gv s.heap v p) (c:Src p xs src)
  (h:∀ o,ItSt (s.heap.push o) s.heap.objs.size p 0→P (.ref s.heap.objs.size) { s with heap:=s.heap.push o }) (R:Rep gv s.heap H) (hs:src H):wpAny (model prog w) A (pyIter v) P E s:=by
 unfold Src at c
 split at c
 ·obtain rfl:=r.inv
  obtain ⟨vs,n,g,rs⟩:=R _ _ (c.2 H hs)
  exact wpAny_pyIter_list ⟨_,g,rfl,n,rfl⟩ (h _ ⟨_,Heap.get?_push_size _ rfl,rfl,rfl⟩)
 ·obtain ⟨_,_,_,_,rfl,g⟩:=r.rngAt
  obtain ⟨c1,c2,rfl⟩:=c
  obtain ⟨h1,h2⟩:=range_small c1 c2
  refine wpAny_pyIter_range g h1 (h _ ?_)
  rw [h2]
  show IsRangeIter _ _ _ _ _
  unfold IsRangeIter
  rw [Heap.get?_push_size _ rfl]
  simp
 ·rename_i x
  obtain ⟨t,rfl⟩:=r.inv
  cases ha:(Str.mk x.toArray).cps.all (·<128)
  ·exact wpAny_pyIter_wide ha (h _ ⟨_,t,.inr rfl,_,Heap.get?_push_size _ rfl,rfl,rfl⟩)
  ·exact wpAny_pyIter_ascii ha (h _ ⟨_,t,.inl rfl,_,Heap.get?_push_size _ rfl,rfl,rfl⟩)
 ·exact c.elim
theorem r_reiter {I:Addr} {p:PV} {i:Nat} (x:ItSt s.heap I p i) (h:P (.ref I) s):wpAny (model prog w) A (pyIter (.ref I)) P E s:=by
 unfold ItSt at x
 split at x
 ·exact wpAny_pyIter_listiter x h
 ·exact wpAny_pyIter_rangeiter x h
 ·obtain ⟨ty,t,hy,x⟩:=x
  rcases hy with rfl | rfl
  ·exact wpAny_pyIter_striter_ascii x h
  ·exact wpAny_pyIter_striter_wide x h
 ·exact x.elim
theorem r_next {I:Addr} {p:PV} {i:Nat} {xs:List PV} {src:MH→Prop} {P:Option Value→Shared→Prop} (hA:A.handled=none) (c:Src p xs src) (x:ItSt s.heap I p i) (hi:i≤xs.length) (R:Rep gv s.heap H) (hs:src H)
  (hn:∀ q v h' tk,xs[i]?=some q→VR gv h' v q→ItSt h' I p (i+1)→Heap.SameBut I s.heap h'→P (some v) { s with heap:=h',toks:=tk })
  (he:i=xs.length→∀ h',Heap.ExtBut I s.heap h'→P none { s with heap:=h' }):wpAny (model prog w) A (pyNext (.ref I)) P E s:=by
 have nk:∀ o,s.heap.get? I=some o→¬ KO o:=fun o e=>by
  obtain ⟨o',e',k,_⟩:=x.obj
  rw [e'] at e; cases e; exact k
 have nI:=x.notOwn R
 unfold Src at c
 split at c
 ·rename_i a
  obtain ⟨vs,n,g,rs⟩:=R _ _ (c.2 H hs)
  have hl:=rs.length
  by_cases hlt:i<xs.length
  ·obtain ⟨v,hv,rv⟩:=rs.get (List.getElem?_eq_getElem hlt)
   refine wpAny_pyNext_list_item x ⟨_,g,rfl,n,rfl⟩ (x:=v) (by simpa using hv) fun h' it' sb=>?_
   exact hn _ v h' s.toks (List.getElem?_eq_getElem hlt) (rv.mono (SameBut.repOf sb R nI nk).2) it' sb
  ·exact wpAny_pyNext_list_end hA x ⟨_,g,rfl,n,rfl⟩ (by simp; lia) fun h' eb=>he (by lia) h' eb
 ·rename_i lo hi'
  obtain ⟨c1,c2,rfl⟩:=c
  have hlen:(rngItems lo hi').length=(hi' - lo).toNat:=by simp [rngItems]
  by_cases hlt:i<(rngItems lo hi').length
  ·refine wpAny_pyNext_range_item x (by lia) fun h' it' sb=>?_
   refine hn (.int (lo+i)) _ h' _ ?_ (.int _ _) ?_ sb
   ·unfold rngItems
    rw [List.getElem?_map,List.getElem?_range (by lia)]
    rfl
   ·show IsRangeIter _ _ _ _ _
    have e1:lo+(i:Int)+1=lo+((i+1:Nat):Int):=by lia
    have e2:(((hi' - lo).toNat:Int) - (i:Int)) - 1=(((hi' - lo).toNat:Int) - ((i+1:Nat):Int)):=by lia
    rw [e1,e2] at it'; exact it'
  ·exact wpAny_pyNext_range_end hA x (by lia) fun h' eb=>he (by lia) h' eb
 ·rename_i y
  obtain ⟨c1,rfl⟩:=c
  obtain ⟨ty,t,hy,x⟩:=x
  have hlen:(y.map fun c=>PV.str [c]).length=y.length:=by simp
  by_cases hlt:i<y.length
  ·have hc:(Str.mk y.toArray).cps[i]?=some y[i]:=by simp [hlt]
   have hq:(y.map fun c=>PV.str [c])[i]?=some (.str [y[i]]):=by simp [hlt]
   rcases hy with rfl | rfl
   ·exact wpAny_pyNext_ascii_item x hc fun h' it' sb=>hn _ _ h' _ hq (.str [y[i]] _) ⟨_,t,.inl rfl,it'⟩ sb
   ·exact wpAny_pyNext_wide_item x hc fun h' it' sb=>hn _ _ h' _ hq (.str [y[i]] _) ⟨_,t,.inr rfl,it'⟩ sb
  ·have hc:(Str.mk y.toArray).cps[i]?=none:=by simp; lia
   rcases hy with rfl | rfl
   ·exact wpAny_pyNext_ascii_end hA x hc fun h' eb=>he (by lia) h' eb
   ·exact wpAny_pyNext_wide_end hA x hc fun h' eb=>he (by lia) h' eb
 ·exact c.elim
end
noncomputable def Fit (d:Nat) (A:Around):Prop:=A.handled=none∧A.depth+d<990∧A.units+4*d+2200<cLine
theorem Fit.mono {d d':Nat} {A:Around} (f:Fit d A) (h:d'≤d):Fit d' A:=⟨f.1,by have:=f.2.1; lia,by have:=f.2.2; lia⟩
theorem Fit.line {d:Nat} {A:Around} (f:Fit d A):A.units+2100<cLine:=by have:=f.2.2; lia
noncomputable def COkD (c:Cx) (prog:Program) (d:Nat) (C:Cl):Prop:=∀ A,Fit d A→COk c prog A C
noncomputable def Kvs (gv:Nat→Value) (P:List Value→Shared→Prop) (s:Shared) (H:MH) (Q:List PV→MH→Prop):Prop :=
 ∀ v p h' tk H',Q p H'→VRs gv h' v p→Rep gv h' H'→Stp s.heap H h' H'→P v { s with heap:=h',toks:=tk }
noncomputable def Kb (gv:Nat→Value) (P:Bool→Shared→Prop) (s:Shared) (H:MH) (Q:Bool→MH→Prop):Prop :=
 ∀ b h' tk H',Q b H'→Rep gv h' H'→Stp s.heap H h' H'→P b { s with heap:=h',toks:=tk }
noncomputable def ofB (Q:Bool→MH→Prop) (p:PV) (H:MH):Prop:=match truth p with
 | some b=>Q b H
 | none=>False
theorem tqI {A B:MH→Prop}:(fun p H=>tq p (A H) (B H))=ofB fun t H=>if t then A H else B H:=by
 funext p H
 unfold tq ofB
 rcases truth p with _ | _ | _ <;> rfl
theorem tqA {A:MH→Prop} {Q:Bool→MH→Prop}:(fun p H=>tq p (A H) (ofB Q p H))=ofB fun t H=>if t then A H else Q false H:=by
 funext p H
 unfold tq ofB
 rcases truth p with _ | _ | _ <;> rfl
theorem tqO {B:MH→Prop} {Q:Bool→MH→Prop}:(fun p H=>tq p (ofB Q p H) (B H))=ofB fun t H=>if t then Q true H else B H:=by
 funext p H
 unfold tq ofB
 rcases truth p with _ | _ | _ <;> rfl
section
variable {c:Cx} {prog:Program} {sc:Scope} {env:Env} {A:Around} {E:Value→Shared→Prop} {s:Shared} {H H':MH} {h':Heap} {tk:Nat} {r:List PV} {P:Value→Shared→Prop} {Q:PV→MH→Prop} {C:Cl}
theorem Kv.trans {gv:Nat→Value} (K:Kv gv P s H Q) (S:Stp s.heap H h' H'):Kv gv P { s with heap:=h',toks:=tk } H' Q :=
 fun v p h2 tk2 H2 q r R2 S2=>K v p h2 tk2 H2 q r R2 (S.trans S2)
theorem Kb.trans {gv:Nat→Value} {P:Bool→Shared→Prop} {Q:Bool→MH→Prop} (K:Kb gv P s H Q) (S:Stp s.heap H h' H'):Kb gv P { s with heap:=h',toks:=tk } H' Q :=
 fun v h2 tk2 H2 q R2 S2=>K v h2 tk2 H2 q R2 (S.trans S2)
noncomputable def SE (c:Cx) (prog:Program) (d:Nat) (C:Cl) (n:Nat):Prop:=∀ (sc:Scope) (e:Expr) (env:Env) (A:Around) (r:List PV) (H:MH) (s:Shared) (P E:Value→Shared→Prop) (Q:PV→MH→Prop),
 Fit d A→FS c sc env s.heap H r→wpX C (cE sc n e) r H Q→Kv c.gv P s H Q→wpAny (model prog c.w) A (eval e env) P E s
noncomputable def ST (c:Cx) (prog:Program) (d:Nat) (C:Cl) (n:Nat):Prop:=∀ (sc:Scope) (e:Expr) (env:Env) (A:Around) (r:List PV) (H:MH) (s:Shared) (P:Bool→Shared→Prop) (E:Value→Shared→Prop) (Q:Bool→MH→Prop),
 Fit d A→FS c sc env s.heap H r→wpX C (cE sc n e) r H (ofB Q)→Kb c.gv P s H Q→wpAny (model prog c.w) A (isTrue e env (eval e env)) P E s
noncomputable def SA (c:Cx) (prog:Program) (d:Nat) (C:Cl) (n:Nat):Prop:=∀ (sc:Scope) (es:List Expr) (env:Env) (A:Around) (r:List PV) (H:MH) (s:Shared) (P:List Value→Shared→Prop) (E:Value→Shared→Prop) (Q:List PV→MH→Prop) (pos:Pos),
 Fit d A→FS c sc env s.heap H r→wpXs C (cEs sc n es) r H Q→Kvs c.gv P s H Q→wpAny (model prog c.w) A (spliced (backTo pos (starEach es env))) P E s
noncomputable def SO (c:Cx) (prog:Program) (d:Nat) (C:Cl) (n:Nat):Prop:=∀ (sc:Scope) (e:Option Expr) (env:Env) (A:Around) (r:List PV) (H:MH) (s:Shared) (P E:Value→Shared→Prop) (Q:PV→MH→Prop),
 Fit d A→FS c sc env s.heap H r→wpX C (cO sc n e) r H Q→Kv c.gv P s H Q→wpAny (model prog c.w) A (valueOrNone (evalOpt e env)) P E s
theorem noStars_any {es:List Expr} (h:noStars es=true) (pos:Pos):(backTo pos (starEach es env)).any (·.1)=false:=by
 induction es with
 | nil=>rfl
 | cons e es ih =>
  refine cj2 (Bool.and_eq_true_iff.mp (show (noStar e&&noStars es)=true from h)) fun h1 h2=>?_
  rw [show starEach (e::es) env=(false,eval e env)::starEach es env by
   induction e using PySem.Expr.casesOn <;> first | rfl | exact Bool.noConfusion h1]
  exact ih h2
theorem attrBase {o:Expr} {name:Str} {whole:Sem Value} (h:okBase o=true):attributeBase o name env whole=whole:=by
 induction o using PySem.Expr.casesOn with
 | Call f args kws pos =>
  rcases args with _ | ⟨a,as⟩
  ·exact absurd h Bool.false_ne_true
  ·induction f using PySem.Expr.casesOn <;> rfl
 | _=>rfl
theorem callEq {f:Expr} {args:List Expr} {pos:Pos} (h:∀ o n p,f≠.Attribute o n p):eval (.Call f args [] pos) env=(do callWith pos (← eval f env) [] (backTo pos (starEach args env)) []):=by
 induction f using PySem.Expr.casesOn <;> first | rfl | exact absurd rfl (h _ _ _)
theorem noSet_marks {op:CmpOp} {e:Expr} (h:noSet e=true):behindInMarks op e=false:=by
 induction e using PySem.Expr.casesOn <;> first | rfl | exact Bool.noConfusion h
theorem noSet_fold {e:Expr} (h:noSet e=true) (x:Value):foldedSetIterable e env x=pure x:=by
 induction e using PySem.Expr.casesOn <;> first | rfl | exact Bool.noConfusion h
theorem backTo_all {l:List (Bool×Sem Value)} {pos:Pos} (h:(backTo pos l).any (·.1)=false):(backTo pos l).all (fun x=>!x.1)=true:=by
 rw [List.all_eq_not_any_not]
 simpa using h
end
section
variable {c:Cx} {prog:Program} {d:Nat} {C:Cl} {n:Nat}
theorem soundA (ih:SE c prog d C n) (ia:SA c prog d C n):SA c prog d C (n+1):=by
 intro sc es env A r H s P E Q pos hf F e K
 induction es using List.casesOn with
 | nil =>
  have e:Q [] H:=e
  exact wpAny_items_nil (K [] [] s.heap s.toks H e .nil F.amb.rep StpP.refl)
 | cons x xs =>
  have e:wpX C (cE sc n x) r H fun p H=>wpXs C (cEs sc n xs) r H fun ps H=>Q (p::ps) H:=e
  have hx:starEach (x::xs) env=(false,eval x env)::starEach xs env:=by
   cases x <;> first | rfl | (cases n <;> exact e.elim)
  refine wpAny_items_cons (ih sc x env A r H s _ E _ (hf.mono (by lia)) F e ?_) hx
  intro v p h' tk H' q rv R S
  refine ia sc xs env A r H' _ _ E _ pos (hf.mono (by lia)) (F.step S R) q ?_
  intro vs ps h2 tk2 H2 q2 rvs R2 S2
  exact K (v::vs) (p::ps) h2 tk2 H2 q2 (.cons (rv.mono (S2.fix0 R)) rvs) R2 (S.trans S2)
theorem soundO (ih:SE c prog d C n):SO c prog d C (n+1):=by
 intro sc e env A r H s P E Q hf F hw K
 induction e using Option.casesOn with
 | none =>
  replace hw:Q .none H:=hw
  exact wpAny_pure (K .none .none s.heap s.toks H hw .none F.amb.rep StpP.refl)
 | some e=>exact ih sc e env A r H s P E Q (hf.mono (by lia)) F hw K
theorem soundV (hn:SE c prog d C n) {sc:Scope} {e:Expr} {env:Env} {A:Around} {r:List PV} {H:MH} {s:Shared} {P:Bool→Shared→Prop} {E:Value→Shared→Prop} {Q:Bool→MH→Prop}
  (hf:Fit d A) (F:FS c sc env s.heap H r) (e1:wpX C (cE sc n e) r H (ofB Q)) (K:Kb c.gv P s H Q):wpAny (model prog c.w) A (eval e env) (fun v s₁=>wpAny (model prog c.w) A (truthy v) P E s₁) E s:=by
 refine hn sc e env A r H s _ E _ hf F e1 ?_
 intro v p h' tk H' q rv R S
 unfold ofB at q
 split at q
 ·rename_i b hb
  exact r_truthy rv hb (K b h' tk H' q R S)
 ·exact q.elim
theorem soundT (X:CxOk c) (hn:SE c prog d C (n+1)) (ih:SE c prog d C n) (it:ST c prog d C n):ST c prog d C (n+1):=by
 intro sc e env A r H s P E Q hf F e1 K
 have gen:(isTrue e env (eval e env)=(do let v←eval e env; standAt e.pos; holding [v] (truthy v)))→wpAny (model prog c.w) A (isTrue e env (eval e env)) P E s:=fun he=>wpAny_isTrue_value (soundV hn hf F e1 K) he
 have hf':Fit d A:=hf.mono (by lia)
 induction e using PySem.Expr.casesOn with
 | UnaryOp op a p =>
  induction op using PySem.UnaryOp.casesOn with
  | Not =>
   replace e1:wpX C (cE sc n a) r H (ofB fun b H=>Q (!b) H):=e1
   refine wpAny_isTrue_Not (it sc a env A r H s _ E (fun b H=>Q (!b) H) hf' F ?_ fun b h' tk H' q R S=>K _ h' tk H' q R S)
   exact e1
  | _=>exact gen rfl
 | BoolOp op vs p =>
  induction op using PySem.BoolOp.casesOn with
  | And =>
   rcases vs with _ | ⟨a,_ | ⟨b,_ | ⟨x,t⟩⟩⟩ <;> try exact False.elim e1
   refine wpAny_isTrue_BoolOp (wpAny_allTrue_And_cons (it sc a env A r H s _ E (fun t H=>if t then wpX C (cE sc n b) r H (ofB Q) else Q false H) hf' F ?_ ?_))
   ·exact Eq.mp (congrArg (wpX C (cE sc n a) r H) tqA) e1
   ·intro t h' tk H' q R S
    induction t using Bool.casesOn with
    | false=>exact K false h' tk H' q R S
    | true =>
     refine wpAny_allTrue_And_cons (it sc b env A r H' _ _ E _ hf' (F.step S R) q ?_)
     intro t h2 tk2 H2 q2 R2 S2
     induction t using Bool.casesOn with
     | false=>exact K false h2 tk2 H2 q2 R2 (S.trans S2)
     | true=>exact wpAny_allTrue_And_nil (K true h2 tk2 H2 q2 R2 (S.trans S2))
  | Or =>
   rcases vs with _ | ⟨a,_ | ⟨b,_ | ⟨x,t⟩⟩⟩ <;> try exact False.elim e1
   refine wpAny_isTrue_BoolOp (wpAny_allTrue_Or_cons (it sc a env A r H s _ E (fun t H=>if t then Q true H else wpX C (cE sc n b) r H (ofB Q)) hf' F ?_ ?_))
   ·exact Eq.mp (congrArg (wpX C (cE sc n a) r H) tqO) e1
   ·intro t h' tk H' q R S
    induction t using Bool.casesOn with
    | true=>exact K true h' tk H' q R S
    | false =>
     refine wpAny_allTrue_Or_cons (it sc b env A r H' _ _ E _ hf' (F.step S R) q ?_)
     intro t h2 tk2 H2 q2 R2 S2
     induction t using Bool.casesOn with
     | true=>exact K true h2 tk2 H2 q2 R2 (S.trans S2)
     | false=>exact wpAny_allTrue_Or_nil (K false h2 tk2 H2 q2 R2 (S.trans S2))
 | IfExp t a b p =>
  rw [arm_isTrue_IfExp]
  refine wpAny_bind (it sc t env A r H s _ E (fun t H=>if t then wpX C (cE sc n a) r H (ofB Q) else wpX C (cE sc n b) r H (ofB Q)) hf' F ?_ ?_)
  ·exact Eq.mp (congrArg (wpX C (cE sc n t) r H) tqI) e1
  ·intro t h' tk H' q R S
   induction t using Bool.casesOn with
   | true=>exact it sc a env A r H' _ _ E _ hf' (F.step S R) q (K.trans S)
   | false=>exact it sc b env A r H' _ _ E _ hf' (F.step S R) q (K.trans S)
 | Compare l ops rs p =>
  rcases ops with _ | ⟨op,_ | ⟨o2,ot⟩⟩ <;> rcases rs with _ | ⟨b,_ | ⟨b2,bt⟩⟩ <;> try exact False.elim e1
  replace e1:wpX C (if noSet b then .cmp op (cE sc n l) (cE sc n b) else .bad) r H (ofB Q):=e1
  split at e1
  ·rename_i hns
   replace e1:wpX C (cE sc n l) r H fun p H=>wpX C (cE sc n b) r H fun q H=>cmpOp op p q H (ofB Q):=e1
   refine wpAny_isTrue_Compare1 ?_ (noSet_marks hns)
   refine ih sc l env A r H s _ E _ hf' F e1 ?_
   intro va pa h' tk H' q rva R S
   refine ih sc b env A r H' _ _ E _ hf' (F.step S R) q ?_
   intro vb pb h2 tk2 H2 q2 rvb R2 S2
   refine r_cmp X.gref hf.line R2 (rva.mono (S2.fix0 R)) rvb q2 ?_
   intro v p h3 tk3 H3 q3 rv R3 S3
   unfold ofB at q3
   split at q3
   ·rename_i t ht
    exact r_truthy rv ht (K t h3 tk3 H3 q3 R3 ((S.trans S2).trans S3))
   ·exact q3.elim
  ·exact e1.elim
 | _=>exact gen rfl
end
theorem closure_go {env:Env} (f:Str×NameKind→List (Str×Addr)→Sem (ForInStep (List (Str×Addr))))
  (hf:∀ n k cs,f (n,k) cs=if k==.free then (do let a←cellOf env n; pure (.yield ((n,a)::cs))) else pure (.yield cs)) :
  ∀ (names:List (Str×NameKind)) (cs:List (Str×Addr)),(∀ y∈names,y.2=.free→∃ a,env.cells.lookup y.1=some a)→(∀ x a,cs.lookup x=some a→env.cells.lookup x=some a) →
   ∃ cl,forIn names cs f=pure cl∧(∀ x a,cl.lookup x=some a→env.cells.lookup x=some a)∧(∀ x,(cl.lookup x).isSome=true→(cs.lookup x).isSome=true∨(x,NameKind.free)∈names) ∧
    (∀ x,(cs.lookup x).isSome=true∨(x,NameKind.free)∈names→(cl.lookup x).isSome=true)
 | [],cs,_,h=>⟨cs,by rw [List.forIn_nil],h,fun x e=>.inl e,fun x e=>by simpa using e⟩
 | (n,k)::r,cs,hc,h=>by
  rw [List.forIn_cons,hf]
  have hr:∀ y∈r,y.2=.free→∃ a,env.cells.lookup y.1=some a:=fun y hy=>hc y (List.mem_cons_of_mem _ hy)
  induction hk:k==NameKind.free using Bool.casesOn with
  | false =>
   obtain ⟨cl,e,a,b,d⟩:=closure_go f hf r cs hr h
   refine ⟨cl,by simpa using e,a,fun x q=>(b x q).imp id fun z=>List.mem_cons_of_mem _ z,fun x q=>d x (q.imp id fun z=>?_)⟩
   rcases List.mem_cons.mp z with z | z
   ·cases z; simp at hk
   ·exact z
  | true =>
   have hk':k=.free:=by simpa using hk
   subst hk'
   obtain ⟨ad,ha⟩:=hc (n,.free) List.mem_cons_self rfl
   obtain ⟨cl,e,a,b,d⟩:=closure_go f hf r ((n,ad)::cs) hr fun x a q=>by
    rw [List.lookup_cons] at q
    induction hx:x==n using Bool.casesOn with
    | true=>rw [hx] at q; cases q; rw [eq_of_beq hx]; exact ha
    | false=>rw [hx] at q; exact h x a q
   refine ⟨cl,?_,a,fun x q=>?_,fun x q=>?_⟩
   ·have:cellOf env n=pure ad:=by unfold cellOf; rw [ha]
    rw [this]
    simpa using e
   ·rcases b x q with z | z
    ·rw [List.lookup_cons] at z
     induction hx:x==n using Bool.casesOn with
     | true=>rw [eq_of_beq hx]; exact .inr List.mem_cons_self
     | false=>rw [hx] at z; exact .inl z
    ·exact .inr (List.mem_cons_of_mem _ z)
   ·refine d x ?_
    rcases q with q | q
    ·left
     rw [List.lookup_cons]
     induction hx:x==n using Bool.casesOn with
     | true=>rfl
     | false=>exact q
    ·rcases List.mem_cons.mp q with q | q
     ·cases q; left; rw [List.lookup_cons]; simp
     ·exact .inr q
theorem closure_ok {env:Env} {scope:Scope} (hc:∀ y∈scope.names,y.2=.free→∃ a,env.cells.lookup y.1=some a) :
  ∃ cl,closureFor scope env=pure cl∧(∀ x a,cl.lookup x=some a→env.cells.lookup x=some a)∧(∀ x,(cl.lookup x).isSome=true→(x,NameKind.free)∈scope.names) ∧
    (∀ x,(x,NameKind.free)∈scope.names→(cl.lookup x).isSome=true):=by
 obtain ⟨cl,e,a,b,d⟩:=closure_go (env:=env) (fun x cs=>if x.2==.free then (do let a←cellOf env x.1; pure (.yield ((x.1,a)::cs))) else pure (.yield cs)) (fun n k cs=>rfl) scope.names [] hc (by intro x a q; simp at q)
 refine ⟨cl,?_,a,fun x q=>(b x q).resolve_left (by simp),fun x q=>d x (.inr q)⟩
 unfold closureFor
 have hfun:(fun (x:Str×NameKind) (r:List (Str×Addr))=>(match x with
   | (name,kind)=>if (kind==.free)=true then (do let a←cellOf env name; pure (ForInStep.yield ((name,a)::r))) else pure (ForInStep.yield r):Sem (ForInStep (List (Str×Addr))))) =
   (fun x cs=>if x.2==.free then (do let a←cellOf env x.1; pure (.yield ((x.1,a)::cs))) else pure (.yield cs)):=by
  funext x r; rfl
 simp only [bind_pure]
 refine Eq.trans ?_ e
 congr 1
theorem idx_lookup {sc:Scope} {x:Str} {i:Nat} {k:NameKind} (h1:idx sc x=some i) (h2:sc.names.lookup x=some k):sc.names[i]?=some (x,k):=by
 unfold idx at h1
 (revert h1 h2; refine genl (sc.names) fun l h1 h2=>?_)
 induction l generalizing i with
 | nil=>simp at h2
 | cons a r ih =>
  obtain ⟨n,k'⟩:=a
  rw [List.lookup_cons] at h2
  rw [List.findIdx?_cons] at h1
  induction hx:x==n using Bool.casesOn with
  | true =>
   have hx':(n==x)=true:=by rw [eq_of_beq hx]; simp
   rw [hx] at h2
   simp only [hx',if_true] at h1
   cases h1; cases h2
   rw [eq_of_beq hx]; rfl
  | false =>
   have hx':(n==x)=false:=by
    induction h:n==x using Bool.casesOn with
    | false=>rfl
    | true=>rw [eq_of_beq h] at hx; simp at hx
   rw [hx] at h2
   simp only [hx',Bool.false_eq_true,if_false] at h1
   induction h3:List.findIdx? (fun p=>p.1==x) r using Option.casesOn with
   | none=>rw [h3] at h1; cases h1
   | some j =>
    rw [h3] at h1; cases h1
    simpa using ih h3 h2
theorem lookup_idx {sc:Scope} {x:Str} {k:NameKind} (h2:sc.names.lookup x=some k):∃ i,idx sc x=some i:=by
 unfold idx
 induction h:List.findIdx? (fun p=>p.1==x) sc.names using Option.casesOn with
 | some i=>exact ⟨i,rfl⟩
 | none =>
  rw [List.findIdx?_eq_none_iff] at h
  obtain ⟨l1,l2,e,_⟩:=List.lookup_eq_some_iff.mp h2
  have:=h (x,k) (by rw [e]; simp)
  simp at this
theorem relabel_kd {csc:Scope} {env:Env} (x:Str):(relabel csc env).names.lookup x=csc.names.lookup x∨(csc.names.lookup x=some .free∧(relabel csc env).names.lookup x=some .cell):=by
 unfold relabel
 dsimp only
 (refine genl (csc.names) fun l=>?_)
 induction l with
 | nil=>exact .inl rfl
 | cons a r ih =>
  obtain ⟨n,k⟩:=a
  induction hx:x==n using Bool.casesOn with
  | true =>
   by_cases hc:(k==NameKind.free&&env.scope.kind==.function&&env.kindOf n==some .cell)=true
   ·have hk:k=.free:=by simp only [Bool.and_eq_true] at hc; simpa using hc.1.1
    right
    subst hk
    simp only [List.map_cons,if_pos hc,List.lookup_cons,hx]
    exact ⟨trivial,trivial⟩
   ·left
    simp only [List.map_cons,if_neg hc,List.lookup_cons,hx]
  | false =>
   by_cases hc:(k==NameKind.free&&env.scope.kind==.function&&env.kindOf n==some .cell)=true
   ·simp only [List.map_cons,if_pos hc,List.lookup_cons,hx]; exact ih
   ·simp only [List.map_cons,if_neg hc,List.lookup_cons,hx]; exact ih
section
variable {c:Cx} {sc csc:Scope} {env:Env} {h h':Heap} {H:MH} {r:List PV}
theorem FS.comp (F:FS c sc env h H r) {x:Str} (hok:compOk sc csc x=true) {cl:List (Str×Addr)} {L:Addr} (hcl:∀ x a,cl.lookup x=some a→env.cells.lookup x=some a) (hcl2:∀ x,(cl.lookup x).isSome=true→(x,NameKind.free)∈csc.names)
  (hcl3:∀ x,(x,NameKind.free)∈csc.names→(cl.lookup x).isSome=true) (hL:h.get? L=none) (k:∀ b o,h.get? b=some o→h'.get? b=some o) (N:h'.Ns L fun _=>none) (R:Rep c.gv h' H) (B:Amb c h' H) (hH:H L=none) :
  FS c csc (compEnvC csc cl L env) h' H (impR r (impOf sc csc)):=by
 unfold compOk at hok
 simp only [Bool.and_eq_true,List.all_eq_true] at hok
 obtain ⟨⟨⟨⟨⟨h1,h2⟩,h3⟩,h4⟩,h5⟩,hl⟩:=hok
 have hl:csc.names.length≤1000:=by simpa using hl
 have noCell:∀ x,csc.names.lookup x≠some .cell:=fun x e=>by
  obtain ⟨l1,l2,e,_⟩:=List.lookup_eq_some_iff.mp e
  have:=h2 (x,.cell) (by rw [e]; simp)
  simp at this
 have freeIn:∀ x,csc.names.lookup x=some .free→(x,NameKind.free)∈csc.names:=fun x e=>by
  obtain ⟨l1,l2,e,_⟩:=List.lookup_eq_some_iff.mp e
  rw [e]; simp
 have freeOut:∀ x,(x,NameKind.free)∈csc.names→csc.names.lookup x=some .free∧(sc.names.lookup x=some .cell∨sc.names.lookup x=some .free):=fun x e=>by
  have:=h5 _ e
  simp only [bne_self_eq_false,Bool.false_or,Bool.and_eq_true,beq_iff_eq,Bool.or_eq_true] at this
  exact this
 have cellOfFree:∀ x a,cl.lookup x=some a→∃ o,h.IsCell a o:=fun x a e=>by
  obtain ⟨z1,z2⟩:=freeOut x (hcl2 x (by rw [e]; rfl))
  obtain ⟨i,hi⟩:=z2.elim lookup_idx lookup_idx
  obtain ⟨a',o,e1,e2,_⟩:=F.cel x i hi z2
  rw [hcl x a e] at e1; cases e1
  exact ⟨o,e2⟩
 have impAt:∀ x i k,idx csc x=some i→csc.names.lookup x=some k→∀ p,(impR r (impOf sc csc))[i]?=some p→p=get r (if k==.free then (idx sc x).getD 9999 else 9999):=fun x i k e1 e2 p e3=>by
  unfold impR impOf at e3
  rw [List.getElem?_map,List.getElem?_map,idx_lookup e1 e2] at e3
  simpa using e3.symm
 have big':get r 9999=.undef:=by
  unfold get
  rw [List.getD_eq_getElem?_getD,List.getElem?_eq_none (by have:=F.rl; lia)]
  rfl
 exact {
  amb:=B
  fn:=by show csc.kind=_; simpa using h1
  g:=F.g
  b:=F.b
  kd:=fun x=>relabel_kd x
  loc:=⟨_,N,fun x i p e1 e2 e3 e4=>by
   have:=impAt x i _ e1 e2 p e3
   rw [if_neg (by decide),big'] at this
   rw [this] at e4; cases e4⟩
  cel:=fun x i e1 e2=>by
   have e2:csc.names.lookup x=some .free:=e2.resolve_left (noCell x)
   obtain ⟨a,ha⟩:=Option.isSome_iff_exists.mp (hcl3 x (freeIn x e2))
   obtain ⟨z1,z2⟩:=freeOut x (freeIn x e2)
   obtain ⟨j,hj⟩:=z2.elim lookup_idx lookup_idx
   obtain ⟨a',o,g1,⟨ob,g2,g2'⟩,g3⟩:=F.cel x j hj z2
   rw [hcl x a ha] at g1; cases g1
   refine ⟨a,o,ha,⟨ob,k _ _ g2,g2'⟩,fun p e3 e4=>?_⟩
   have:=impAt x i _ e1 e2 p e3
   simp only [beq_self_eq_true,if_true,hj,Option.getD_some] at this
   unfold get at this
   rw [List.getD_eq_getElem?_getD] at this
   induction hr:r[j]? using Option.casesOn with
   | none=>rw [hr] at this; rw [this] at e4; cases e4
   | some q =>
    rw [hr] at this
    simp only [Option.getD_some] at this
    subst this
    obtain ⟨v,q1,q2⟩:=g3 p hr e4
    exact ⟨v,q1,q2.mono fun b o e _=>k b o e⟩
  rl:=by unfold impR impOf; rw [List.length_map,List.length_map]; exact hl
  lH:=hH
  lB:=by
   induction q:c.base.get? L using Option.casesOn with
   | none=>exact q
   | some o=>rw [F.amb.keeps _ _ q] at hL; cases hL
  cB:=fun x a e _=>absurd e (noCell x)
  cL:=fun x a e=>by
   obtain ⟨o,ob,e1,_⟩:=cellOfFree x a e
   intro e2
   rw [e2] at e1
   have e1:h.get? L=some ob:=e1
   rw [hL] at e1; cases e1
  cI:=fun x y a e _ _=>absurd e (noCell x) }
end
section
variable {c:Cx} {sc:Scope} {env:Env} {h h':Heap} {H H':MH} {r:List PV} {P:Addr→Prop}
theorem Rep.free {gv:Nat→Value} (R:Rep gv h H) {a:Addr} (e:h.get? a=none):H a=none:=by
 induction q:H a using Option.casesOn with
 | none=>rfl
 | some o =>
  have r:=R _ _ q
  induction o using MO.casesOn with
  | list xs=>obtain ⟨_,_,g,_⟩:=r; rw [e] at g; cases g
  | inst k d=>obtain ⟨_,_,_,g⟩:=r; rw [e] at g; cases g
  | ns m=>obtain ⟨_,_,g,_⟩:=r; rw [e] at g; cases g
theorem Amb.stepP (a:Amb c h H) (S:StpP P h H h' H') (R:Rep c.gv h' H') (hb:∀ b o,c.base.get? b=some o→¬ P b):Amb c h' H':=by
 refine ⟨fun b o e=>?_,R⟩
 obtain ⟨h1,h2⟩:=a.bk b o e
 exact ⟨S.keep b o h1 h2 (hb b o e),S.newH (by rw [h1]; exact fun e=>by cases e) h2⟩
theorem FS.stepP (F:FS c sc env h H r) (S:StpP P h H h' H') (R:Rep c.gv h' H') (fx:Fix h h') (hb:∀ b o,c.base.get? b=some o→¬ P b) (hl:¬ P env.locals) (hc:∀ x a,env.cells.lookup x=some a→¬ P a):FS c sc env h' H' r:=by
 refine { F with amb:=F.amb.stepP S R hb,loc:=?_,cel:=?_,lH:=?_ }
 ·obtain ⟨m,⟨o,es,ep,e1,e2⟩,hm⟩:=F.loc
  exact ⟨m,⟨o,es,ep,S.keep _ _ e1 F.lH hl,e2⟩,fun x i p a b d e=>by obtain ⟨v,q,r⟩:=hm x i p a b d e; exact ⟨v,q,r.mono fx⟩⟩
 ·intro x i a b
  obtain ⟨ca,o,e1,⟨ob,e2,e3⟩,e4⟩:=F.cel x i a b
  exact ⟨ca,o,e1,⟨ob,S.keep _ _ e2 (F.amb.rep.notCell ⟨ob,e2,e3⟩) (hc x ca e1),e3⟩,fun p u w=>by obtain ⟨v,q,r⟩:=e4 p u w; exact ⟨v,q,r.mono fx⟩⟩
 ·obtain ⟨m,⟨o,es,ep,e1,e2⟩,hm⟩:=F.loc
  exact S.newH (by rw [e1]; exact fun e=>by cases e) F.lH
end
section
variable {c:Cx} {prog:Program} {d:Nat} {C:Cl} {n:Nat} {sc csc:Scope} {env:Env} {A:Around} {E:Value→Shared→Prop} {s:Shared} {H:MH} {r:List PV} {P:Value→Shared→Prop} {Q:PV→MH→Prop}
 {x:Str} {vi:Nat} {elt iter:Expr} {ifs:List Expr} {px pos:Pos} {fc fe:PV→MH→(PV→MH→Prop)→Prop}
theorem compGo_nil {src:MH→Prop} {acc:List PV} {K:List PV→MH→Prop} (q:compGo src fc fe [] acc H K):src H∧K acc H:=q
theorem compGo_cons {src:MH→Prop} {acc ys:List PV} {y:PV} {K:List PV→MH→Prop} (q:compGo src fc fe (y::ys) acc H K):fc y H (ofB fun t H=>if t then fe y H (fun p H=>compGo src fc fe ys (acc++[p]) H K) else compGo src fc fe ys acc H K):=by
 refine cast ?_ (show src H∧_ from q).2
 congr 1
 funext p H
 unfold ofB
 rcases truth p with _ | _ | _ <;> rfl
structure CG (c:Cx) (csc:Scope) (cenv:Env) (I D:Addr) (p:PV) (r0:List PV) (vi:Nat) (Z:Addr→Prop) (h1:Heap) (H1:MH) (h':Heap) (H':MH) (i n:Nat) (r':List PV) (vs:List Value) (acc:List PV):Prop where
 it:ItSt h' I p i
 F:FS c csc cenv h' H' r'
 hr:∀ x,r'.set vi x=r0.set vi x
 gD:h'.get? D=some (listOf vs.toArray n)
 rvs:VRs c.gv h' vs acc
 hD:H' D=none
 le:acc.length≤i
 S:StpP Z h1 H1 h' H'
theorem CG.step {cenv:Env} {I D:Addr} {p:PV} {r0 r' r'':List PV} {Z P:Addr→Prop} {h1 h' h'':Heap} {H1 H' H'':MH} {i i' n':Nat} {vs:List Value} {acc:List PV} (G:CG c csc cenv I D p r0 vi Z h1 H1 h' H' i n' r' vs acc)
  (S:StpP P h' H' h'' H'') (F:FS c csc cenv h'' H'' r'') (hr:∀ x,r''.set vi x=r0.set vi x) (it:ItSt h'' I p i') (PZ:∀ b,P b→Z b) (hPD:¬ P D) (fx:Fix h' h'') (hi:i≤i'):CG c csc cenv I D p r0 vi Z h1 H1 h'' H'' i' n' r'' vs acc :=
 ⟨it,F,hr,S.keep _ _ G.gD G.hD hPD,G.rvs.mono fx,S.newH (by rw [G.gD]; exact fun e=>by cases e) G.hD,Nat.le_trans G.le hi,G.S.trans (S.mono PZ)⟩
theorem CG.put {cenv:Env} {I D:Addr} {p q:PV} {v:Value} {r0 r':List PV} {Z:Addr→Prop} {h1 h':Heap} {H1 H':MH} {i n':Nat} {vs:List Value} {acc:List PV} (G:CG c csc cenv I D p r0 vi Z h1 H1 h' H' i n' r' vs acc)
  (rv:VR c.gv h' v q) (hZ:Z D) (hID:I≠D) (hb:∀ b o,c.base.get? b=some o→b≠D) (hl:cenv.locals≠D) (hc:∀ x a,cenv.cells.lookup x=some a→a≠D) (hi:acc.length+1≤i) :
  ∃ m,CG c csc cenv I D p r0 vi Z h1 H1 (h'.update D (Obj.mapSeq fun a=>a.push v)) H' i m r' (vs++[v]) (acc++[q]):=by
 have self7:(h'.update D (Obj.mapSeq fun a=>a.push v)).get? D=some (listOf (vs++[v]).toArray (if (vs++[v]).toArray.size==vs.toArray.size then n' else n'+1)):=by
  rw [Heap.get?_update_self _ G.gD (by rfl)]
  simp [Obj.mapSeq]
 have sb7:Heap.SameBut D h' (h'.update D (Obj.mapSeq fun a=>a.push v)):=Heap.SameBut.update ..
 obtain ⟨R7,fx7⟩:=SameBut.repOf sb7 G.F.amb.rep G.hD fun o e=>by
  rw [G.gD] at e; cases e
  rintro ⟨z | z,_⟩ <;> exact absurd (Value.type.inj z) (by decide)
 have S7:StpP (fun b=>b=D) h' H' _ H':=SameBut.stp sb7 rfl (by rw [self7]; exact fun e=>by cases e)
 exact ⟨_,G.it.keep fun o e=>sb7.extBut _ _ hID e,G.F.stepP S7 R7 fx7 (fun b o e z=>hb b o e z) (fun z=>hl z) fun x a e z=>hc x a e z,G.hr,self7,(G.rvs.mono fx7).append (.cons (rv.mono fx7) .nil),G.hD,by rw [List.length_append]; exact hi,G.S.trans (S7.mono fun b z=>z ▸ hZ)⟩
noncomputable def CI (c:Cx) (csc:Scope) (cenv:Env) (I D:Addr) (p:PV) (r0:List PV) (vi:Nat) (Z:Addr→Prop) (h1:Heap) (H1:MH) (xs:List PV) (W:List PV→List PV→MH→Prop) (s:Shared) (k:Nat) (s':Shared):Prop :=
 ∃ h' H' i n r' vs acc tk,(CG c csc cenv I D p r0 vi Z h1 H1 h' H' i n r' vs acc∧i≤xs.length∧W (xs.drop i) acc H'∧k=xs.length - i)∧s'={ s with heap:=h',toks:=tk }
theorem src_len {p:PV} {xs:List PV} {src:MH→Prop} (h:Src p xs src):xs.length≤2*big:=by
 unfold Src at h
 split at h
 ·have:=h.1; lia
 ·obtain ⟨a1,a2,rfl⟩:=h
  simp [rngItems]; lia
 ·obtain ⟨a1,rfl⟩:=h
  simp; lia
 ·exact h.elim
theorem soundComp (X:CxOk c) (ih:SE c prog d C n) (hf:Fit d A) (F:FS c sc env s.heap H r) (hok:compOk sc csc x=true) (hvi:idx csc x=some vi) (hns:noSet iter=true)
  (htest:∀ cenv r' H s P E Qb x,FS c csc cenv s.heap H r'→r'=(impR r (impOf sc csc)).set vi x→fc x H (ofB Qb)→Kb c.gv P s H Qb →
   wpAny (model prog c.w) A (forIn ifs true fun e r=>if r=true then do let ok←isTrue e cenv (eval e cenv); pure (ForInStep.yield ok) else pure (ForInStep.yield r)) P E s)
  (helt:∀ cenv r' H s P E Q x,FS c csc cenv s.heap H r'→r'=(impR r (impOf sc csc)).set vi x→fe x H Q→Kv c.gv P s H Q→wpAny (model prog c.w) A (eval elt cenv) P E s)
  (e:wpX C (cE sc n iter) r H fun p H=>compOp fc fe p H Q) (K:Kv c.gv P s H Q):wpAny (model prog c.w) A (eval (.ListComp elt [⟨.Name x px,iter,ifs,0⟩] csc pos) env) P E s:=by
 have hok':=hok
 unfold compOk at hok'
 simp only [Bool.and_eq_true,List.all_eq_true] at hok'
 obtain ⟨⟨⟨⟨⟨k1,k2⟩,k3⟩,k4⟩,k5⟩,k6⟩:=hok'
 have hkind:csc.kind=.function:=by simpa using k1
 have hcell:∀ y∈csc.names,y.2≠.cell:=fun y hy=>by simpa using k2 y hy
 have noCell:∀ x,csc.names.lookup x≠some .cell:=fun x e=>by
  obtain ⟨l1,l2,e,_⟩:=List.lookup_eq_some_iff.mp e
  exact hcell (x,.cell) (by rw [e]; simp) rfl
 have kx:csc.names.lookup x=some .local:=by simpa using k4
 have hnames:∀ y∈csc.names,y.2=.local→csc.names.lookup y.1=some .local:=fun y hy e=>by
  have:=k3 y hy
  rw [e] at this
  simpa using this
 obtain ⟨cl,hclos,hc1,hc2,hc3⟩:=closure_ok (env:=env) (scope:=csc) fun y hy e=>by
  have:=k5 y hy
  rw [e] at this
  simp only [bne_self_eq_false,Bool.false_or,Bool.and_eq_true,beq_iff_eq,Bool.or_eq_true] at this
  obtain ⟨i,hi⟩:=this.2.elim lookup_idx lookup_idx
  obtain ⟨a,_,ha,_⟩:=F.cel y.1 i hi this.2
  exact ⟨a,ha⟩
 rw [eval_ListComp]
 refine wpAny_comprehension_free (use:=none) rfl (noSet_fold hns) hclos hkind hnames ?_
 refine ih sc iter env A r H s _ E _ hf F e ?_
 intro v p h1 tk1 H1 q rv R1 S1
 obtain ⟨xs,src,q,hsrc⟩:=iter_src q
 have srcOf:∀ {ys acc H K},compGo src fc fe ys acc H K→src H:=fun {ys acc H K} q=>by
  induction ys using List.casesOn with
  | nil=>unfold compGo at q; exact q.1
  | cons y ys=>unfold compGo at q; exact q.1
 refine r_iter rv hsrc ?_ R1 (srcOf q)
 intro o1 it0
 refine wpAny_newObj_type (wpAny_newFunctionEnv hcell (by intro y hy; simp at hy) (fun h2 N2 sb2=>?_) hkind)
 dsimp only at it0 N2 sb2 ⊢
 (revert it0 N2 sb2; refine genh (h1.objs.size) fun I hI it0 N2 sb2=>?_)
 (revert it0 N2 sb2; refine genh (h1.push o1) fun gI hHI it0 N2 sb2=>?_)
 have eI:gI.objs.size=I+1:=by rw [← hHI,Heap.size_push,hI]
 have kI:∀ b o,h1.get? b=some o→gI.get? b=some o:=fun b o e=>by rw [← hHI]; exact Heap.get?_push_of_some _ e
 (revert N2 sb2; refine genh (gI.objs.size) fun D hD N2 sb2=>?_)
 (revert N2 sb2; refine genh (gI.push { cls:=.type "list", dict:=none,data:=.seq ([]:List Value).toArray }) fun gD hHD N2 sb2=>?_)
 have eD:gD.objs.size=D+1:=by rw [← hHD,Heap.size_push,hD]
 have kD:∀ b o,gI.get? b=some o→gD.get? b=some o:=fun b o e=>by rw [← hHD]; exact Heap.get?_push_of_some _ e
 have gDD:gD.get? D=some (listOf #[] 0):=by rw [← hHD,← hD]; exact Heap.get?_push_size _ rfl
 (revert N2 sb2; refine genh (gD.objs.size) fun L hL N2 sb2=>?_)
 have hID:I≠D:=by lia
 have hIL:I≠L:=by lia
 have hDL:D≠L:=by lia
 have hIL':I<L:=by lia
 have hI1:(I:Nat)≤D:=by rw [← hD,eI]; exact Nat.le_succ _
 have free1:∀ a:Nat,I≤a→h1.get? a=none:=fun a ha=>by
  induction q:h1.get? a using Option.casesOn with
  | none=>rfl
  | some o=>exact absurd (Heap.lt_size q) (by rw [hI]; exact Nat.not_lt.mpr ha)
 have kL:∀ (b:Nat) o,b≠L→gD.get? b=some o→h2.get? b=some o:=fun b o hb e=>sb2.extBut b o hb (Heap.get?_push_of_some _ e)
 have k12:∀ (b:Nat) o,h1.get? b=some o→h2.get? b=some o:=fun b o e=>kL b o (fun z=>by have:=Heap.lt_size e; rw [hI,z] at this; exact Nat.lt_asymm hIL' this) (kD b o (kI b o e))
 have it2:ItSt h2 I p 0:=it0.keep fun o e=>kL I o hIL (kD I o e)
 have gD2:h2.get? D=some (listOf (([]:List Value).toArray) 0):=kL D _ hDL gDD
 have S2:Stp h1 H1 h2 H1:=⟨fun b o e _ _=>k12 b o e,fun b e=>.inl e,fun b e=>by
  induction q:h1.get? b using Option.casesOn with
  | none=>exact absurd q e
  | some o=>rw [k12 b o q]; exact fun e=>by cases e⟩
 have R2:Rep c.gv h2 H1:=fun a m e=>(R1 a m e).mono (S2.fix0 R1) fun ob g=>k12 a ob g
 have F1:=F.step S1 R1
 have F2:FS c csc (compEnvC csc cl L env) h2 H1 (impR r (impOf sc csc)) :=
  F1.comp hok hc1 hc2 hc3 (free1 L (by lia)) k12 N2 R2 (F1.amb.step S2 R2) (R1.free (free1 L (by lia)))
 have cells2:∀ x (a:Nat),(compEnvC csc cl L env).cells.lookup x=some a→a<I:=fun x a e=>by
  have e:cl.lookup x=some a:=e
  have hm:=hc2 x (by rw [e]; rfl)
  have:=k5 _ hm
  simp only [bne_self_eq_false,Bool.false_or,Bool.and_eq_true,beq_iff_eq,Bool.or_eq_true] at this
  obtain ⟨i,hi⟩:=this.2.elim lookup_idx lookup_idx
  obtain ⟨a',o,ha,⟨ob,hb,_⟩,_⟩:=F1.cel x i hi this.2
  rw [hc1 x a e] at ha; cases ha
  have:=Heap.lt_size hb
  rw [hI] at this; exact this
 have baseI:∀ (b:Nat) o,c.base.get? b=some o→b<I:=fun b o e=>by
  have:=Heap.lt_size (F1.amb.keeps b o e)
  rw [hI] at this; exact this
 let Z:Addr→Prop:=fun (b:Nat)=>I≤b
 have PEZ:∀ b,PE csc (compEnvC csc cl L env) b→Z b:=by
  rintro b (z | ⟨x,e,_⟩)
  ·have z:b=L:=z
   subst z; show I≤b; lia
  ·exact absurd e (noCell x)
 have hZ:∀ b,b=D→Z b:=fun b z=>by subst z; exact Nat.le_of_lt (Nat.lt_of_le_of_ne (by rw [← hD,eI]; exact Nat.le_succ _) hID)
 have loop:∀ tk2,codeAny (model prog c.w) A (.compLoop (.ListComp elt [⟨.Name x px,iter,ifs,0⟩] csc pos) 0 (.ref I) (.ref D) (compEnvC csc cl L env)) (compPost (model prog c.w) A E none P (.ref D) L) { s with heap:=h2,toks:=tk2 }:=by
  intro tk2
  refine codeAny_compLoop_tests (CI c csc (compEnvC csc cl L env) I D p (impR r (impOf sc csc)) vi Z h1 H1 xs (fun ys acc H=>compGo src fc fe ys acc H fun out H=>fresh H (.list out) Q) s) ?_ (xs.length - 0)
   ⟨h2,H1,0,0,_,[],[],tk2,⟨⟨it2,F2,fun _=>rfl,gD2,.nil,R1.free (free1 D hI1),Nat.le_refl _,S2.mono fun _ z=>z.elim⟩,Nat.zero_le _,q,rfl⟩,rfl⟩
  intro k s' hk
  refine xe8 hk fun h' H' i n' r' vs acc tk hk=>cj2 hk fun hk e=>cj4 hk fun G hi q' ek=>?_
  clear hk
  subst e ek
  have hxl:=src_len hsrc
  refine r_next hf.1 hsrc G.it hi G.F.amb.rep (srcOf q') ?_ ?_
  ·intro y v3 h3 tk3 hy rv3 it3 sb3
   have nI':=G.it.notOwn G.F.amb.rep
   obtain ⟨R3,fx3⟩:=SameBut.repOf sb3 G.F.amb.rep nI' fun o e=>by
    obtain ⟨o',e',k,_⟩:=G.it.obj
    rw [e'] at e; cases e; exact k
   have S3:StpP (fun b=>b=I) h' H' h3 H':=SameBut.stp sb3 rfl (by obtain ⟨o',e',_⟩:=it3.obj; rw [e']; exact fun e=>by cases e)
   have G3:=G.step S3 (G.F.stepP S3 R3 fx3 (fun b o e (z:b=I)=>Nat.ne_of_lt (baseI b o e) z) (fun z=>hIL z.symm) fun x a e (z:a=I)=>Nat.ne_of_lt (cells2 x a e) z) G.hr it3 (fun b z=>z ▸ Nat.le_refl _) (fun z=>hID z.symm) fx3 (Nat.le_succ _)
   have hle:=G.le
   clear G S3 sb3 R3 fx3
   have hlt:i<xs.length:=(List.getElem?_eq_some_iff.mp hy).1
   have hdrop:xs.drop i=y::xs.drop (i+1):=by
    rw [List.drop_eq_getElem_cons hlt]
    congr 1
    exact (List.getElem?_eq_some_iff.mp hy).2
   rw [hdrop] at q'
   replace q':=compGo_cons q'
   refine wpAny_assign_Name (r_store G3.F hvi (.inl kx) rv3 ?_)
   intro h4 tk4 F4 S4
   rw [G3.hr y] at F4
   have hPD:¬ PE csc (compEnvC csc cl L env) D:=fun z=>z.elim hDL fun z=>xe1 z fun x e=>noCell x e.1
   have hPI:¬ PE csc (compEnvC csc cl L env) I:=fun z=>z.elim hIL fun z=>xe1 z fun x e=>noCell x e.1
   have fx4:Fix h3 h4:=Stp.fix S4 G3.F.amb.rep fun b o z e=>z.elim (fun z=>by
     obtain ⟨m,⟨o',es,ep,e1,e2,_⟩,_⟩:=G3.F.loc
     rw [← z] at e1; rw [e1] at e; cases e; exact .inl ⟨es,ep,e2⟩) fun z=>xe1 z fun x e=>absurd e.1 (noCell x)
   have G4:=G3.step S4 F4 (fun x=>by rw [List.set_set]) (it3.keep fun o e=>S4.keep _ _ e nI' hPI) PEZ hPD fx4 (Nat.le_refl _)
   clear G3 S4 fx4 rv3 it3 nI' hPI hPD
   refine htest _ _ H' _ _ _ (fun t H=>if t then fe y H (fun p H=>compGo src fc fe (xs.drop (i+1)) (acc++[p]) H (fun out H=>fresh H (.list out) Q)) else compGo src fc fe (xs.drop (i+1)) acc H (fun out H=>fresh H (.list out) Q)) y F4 rfl q' ?_
   intro t h5 tk5 H5 q5 R5 S5
   have G5:=G4.step S5 (F4.step S5 R5) G4.hr (G4.it.keep fun o e=>S5.keep _ _ e (G4.it.notOwn F4.amb.rep) id) (fun _ z=>z.elim) id (S5.fix0 F4.amb.rep) (Nat.le_refl _)
   clear G4 F4 S5 R5
   rcases t with _ | _
   ·exact ⟨_,by lia,h5,H5,i+1,n',_,vs,acc,tk5,⟨G5,hlt,q5,rfl⟩,rfl⟩
   ·refine helt _ _ H5 _ _ _ _ y G5.F rfl q5 ?_
    intro v6 p6 h6 tk6 H6 q6 rv6 R6 S6
    have G6:=G5.step S6 (G5.F.step S6 R6) G5.hr (G5.it.keep fun o e=>S6.keep _ _ e (G5.it.notOwn G5.F.amb.rep) id) (fun _ z=>z.elim) id (S6.fix0 G5.F.amb.rep) (Nat.le_refl _)
    clear G5 S6 R6
    have hsz:vs.toArray.size+2<2 ^ 24:=by
     have:=G6.rvs.length
     rw [List.size_toArray]
     unfold big at hxl
     lia
    refine xe1 (G6.put rv6 (hZ D rfl) hID (fun b o e z=>Nat.not_le.mpr (baseI b o e) (hZ b z)) (fun z=>hDL z.symm) (fun x a e z=>Nat.not_le.mpr (cells2 x a e) (hZ a z)) (Nat.succ_le_succ hle)) fun m G7=>?_
    exact call_meets PySem.F.slot_list_append ⟨_,G6.gD,rfl⟩ PySem.F.entry_list_append (PySem.F.args_list_append_2 _ _) (PySem.list_append D _ n' v6 (by rw [sizeLine_eq]; clear hxl; lia)) ⟨G6.gD,_,by lia,_,H6,i+1,m,_,vs++[v6],acc++[p6],tk6,⟨G7,hlt,q6,rfl⟩,rfl⟩
  ·intro hend h3 eb3
   subst hend
   rw [List.drop_length] at q'
   replace q':=compGo_nil q'
   obtain ⟨m',N',_⟩:=G.F.loc
   have hLI:L≠I:=Ne.symm hIL
   refine ⟨m',N'.extBut eb3 hLI,fun h4 sb4=>?_⟩
   have k4:∀ b o,b≠I→b≠L→h'.get? b=some o→h4.get? b=some o:=fun b o n1 n2 e=>sb4.extBut _ _ n2 (eb3 _ _ n1 e)
   have nI':=G.it.notOwn G.F.amb.rep
   have nL':H' L=none:=G.F.lH
   have fx4:Fix h' h4:=fun b o e ko=>by
    refine k4 b o ?_ ?_ e
    ·rintro rfl
     obtain ⟨o',e',k,_⟩:=G.it.obj
     rw [e'] at e; cases e; exact k ko
    ·intro z
     obtain ⟨o',es,ep,e1,e2,_⟩:=N'
     have e1:h'.get? L=some o':=e1
     rw [← z,e] at e1; cases e1
     rcases ko with ⟨_,⟨vs,n,d⟩ | ⟨fs,d⟩⟩ <;> rw [e2] at d <;> cases d
   have gD4:h4.get? D=some (listOf vs.toArray n'):=k4 D _ (Ne.symm hID) hDL G.gD
   refine K (.ref D) (.ref D) h4 tk (upd H' D (.list acc)) (q'.2 D G.hD) (.ref D) ?_ (S1.trans ⟨?_,?_,?_⟩)
   ·intro a m e
    by_cases ha:a=D
    ·rw [ha,upd_self] at e; cases e
     rw [ha]
     exact ⟨vs,n',gD4,G.rvs.mono fx4⟩
    ·rw [upd_other ha] at e
     refine (G.F.amb.rep a m e).mono fx4 fun ob g=>k4 a ob ?_ ?_ g
     ·rintro rfl; rw [nI'] at e; cases e
     ·rintro rfl; rw [nL'] at e; cases e
   ·intro b o e n1 _
    have hbI:(b:Nat)<I:=by have:=Heap.lt_size e; rw [hI] at this; exact this
    exact k4 b o (Nat.ne_of_lt hbI) (fun z=>Nat.lt_asymm hIL' (z ▸ hbI)) (G.S.keep b o e n1 (Nat.not_le.mpr hbI))
   ·intro b e
    by_cases hb:b=D
    ·rw [hb]; exact .inr (free1 _ hI1)
    ·rw [upd_other hb] at e; exact G.S.new b e
   ·intro b e
    have hlt:(b:Nat)<I:=by
     rcases q:h1.get? b with _ | o
     ·exact absurd q e
     ·have:=Heap.lt_size q; rw [hI] at this; exact this
    rcases q:h'.get? b with _ | o
    ·exact absurd q (G.S.live b e)
    ·rw [k4 b o (Nat.ne_of_lt hlt) (fun z=>Nat.lt_asymm hIL' (z ▸ hlt)) q]; exact fun e=>by cases e
 exact codeAny_compStart_list (loop _) (r_reiter it2 (loop _))
end
theorem anIdx_ok {x:Str} {k:Nat} (h:anIdx x=some k):k<36∧x=an k:=by
 unfold anIdx at h
 rw [List.findIdx?_eq_some_iff_getElem] at h
 obtain ⟨h1,h2,_⟩:=h
 have h3:k<36:=h1
 refine ⟨h3,?_⟩
 unfold an
 rw [List.getD_eq_getElem?_getD,List.getElem?_eq_getElem h1]
 exact (eq_of_beq h2).symm
section
variable {c:Cx} {prog:Program} {d:Nat} {C:Cl} {n:Nat} {sc:Scope} {env:Env} {A:Around} {E:Value→Shared→Prop} {s:Shared} {H:MH} {r:List PV} {P:Value→Shared→Prop} {Q:PV→MH→Prop}
theorem getMethodBind (X:CxOk c) {o:Expr} {name:Str} {apos pos:Pos} {args:List Expr} (hb:okBase o=true) (hline:(apos.endLine==pos.line)=true) (hlen:args.length<20) (hns:noStars args=true)
  (h:wpAny (model prog c.w) A (eval o env) (fun ov s₁=>∀ pl,wpAny (model prog c.w) A (getMethod ov name pl) (fun fx s₂=>wpAny (model prog c.w) A (callWith pos fx.1 fx.2 (backTo pos (starEach args env)) []) P E s₂) E s₁) E s) :
  wpAny (model prog c.w) A (eval (.Call (.Attribute o name apos) args [] pos) env) P E s:=by
 rw [arm_eval_Call,attrBase hb]
 have hfew:methodCallForm (args.length+([]:List Keyword).length) (backTo pos (starEach args env)) (backToKw pos (keywordEach [] env))=true:=by
  unfold methodCallForm
  rw [backTo_all (noStars_any hns pos)]
  exact decide_eq_true (p:=args.length+0+0<30) (Nat.lt_of_lt_of_le hlen (by decide))
 have hpos:methodCallPos true o env apos pos=pure pos:=by unfold methodCallPos; simp [hline]
 refine wpAny_bind (wpAny_mono h (fun ov s₁ h₁=>wpAny_bind (wpAny_standAt ?_)) fun _ _ e=>e)
 unfold methodCall calleeOf
 rw [hfew]
 simp only [if_true]
 refine wpAny_bind (wpAny_holding (wpAny_mono (h₁ _) (fun fx s₂ h₂=>?_) fun _ _ e=>e))
 exact wpAny_bind (wpAny_of_eq hpos h₂)
theorem r_unary_not {v:Value} {p:PV} {t:Bool} {M:Model} (rv:VR c.gv s.heap v p) (ht:truth p=some t) (h:P (.bool (!t)) s):wpAny M A (unaryOp .Not v) P E s:=by
 unfold unaryOp
 refine wpAny_holding ?_
 show wpAny M A (do return .bool (!(← truthy v))) P E s
 exact wpAny_bind (r_truthy rv ht (wpAny_pure h))
theorem tests_nil {e:Env} {M:Model} {P:Bool→Shared→Prop} (h:P true s):wpAny (model prog c.w) A (forIn ([]:List Expr) true fun x r=>if r=true then do let ok←isTrue x e (eval x e); pure (ForInStep.yield ok) else pure (ForInStep.yield r)) P E s:=wpAny_pure h
theorem callW_bi {M:Model}:∀ k,k<8→CallW (biVal k) M A c
 | 0,_=>callW_builtin
 | 1,_=>callW_type
 | 2,_=>callW_builtin
 | 3,_=>callW_type
 | 4,_=>callW_builtin
 | 5,_=>callW_type
 | 6,_=>callW_type
 | 7,_=>callW_type
 | _+8,h=>absurd h (Nat.not_lt.mpr (Nat.le_add_left ..))
theorem wX_ite {b:Bool} {x:X} (h:wpX C (if b then x else .bad) r H Q):b=true∧wpX C x r H Q:=by
 rcases b with _ | _
 ·exact False.elim h
 ·exact ⟨rfl,h⟩
theorem wX_opt {o:Option Nat} {f:Nat→X} (h:wpX C (match o with
  | some k=>f k
  | none=>.bad) r H Q):∃ k,o=some k∧wpX C (f k) r H Q:=by
 rcases o with _ | k
 ·exact False.elim h
 ·exact ⟨k,rfl,h⟩
theorem soundE (X:CxOk c) (hC:COkD c prog d C) (ih:SE c prog d C n) (it:ST c prog d C n) (ia:SA c prog d C n) (io:SO c prog d C n):SE c prog d C (n+1):=by
 intro sc e env A r H s P E Q hf F hw K
 have hf':Fit d A:=hf.mono (by lia)
 have hCA:COk c prog A C:=hC A (hf.mono (by lia))
 have R:=F.amb.rep
 induction e using PySem.Expr.casesOn with
 | Constant k u pos =>
  induction k using PySem.Const.casesOn with
  | none =>
   replace hw:Q .none H:=hw
   exact wpAny_Constant_none (K .none .none s.heap s.toks H hw .none R StpP.refl)
  | bool b =>
   replace hw:Q (.bool b) H:=hw
   exact wpAny_Constant_bool (K (.bool b) _ s.heap s.toks H hw (.bool b) R StpP.refl)
  | int i =>
   replace hw:Q (.int i) H:=hw
   exact wpAny_Constant_int (K (.int i s.toks) _ s.heap (s.toks+1) H hw (.int i _) R StpP.refl)
  | str x =>
   replace hw:Q (.str x.cps.toList) H:=hw
   have rx:VR c.gv s.heap (.str x s.toks) (.str x.cps.toList):=by
    have:=VR.str (gv:=c.gv) (h:=s.heap) x.cps.toList s.toks
    simpa using this
   exact wpAny_Constant_str (K (.str x s.toks) _ s.heap (s.toks+1) H hw rx R StpP.refl)
  | _=>exact False.elim hw
 | Name x pos =>
  replace hw:wpX C (cName sc x) r H Q:=hw
  exact (r_load X F hw K).1
 | BoolOp op vs pos =>
  induction op using PySem.BoolOp.casesOn with
  | And =>
   rcases vs with _ | ⟨a,_ | ⟨b,_ | ⟨x,t⟩⟩⟩ <;> try exact False.elim hw
   replace hw:wpX C (cE sc n a) r H fun p H=>tq p (wpX C (cE sc n b) r H Q) (Q p H):=hw
   refine wpAny_And2 (ih sc a env A r H s _ E _ hf' F hw ?_)
   intro v p h' tk H' q rv R' S
   exact tq_elim q (fun ht q=>r_truthy rv ht (ih sc b env A r H' _ _ E _ hf' (F.step S R') q (K.trans S))) fun ht q=>r_truthy rv ht (K v p h' tk H' q rv R' S)
  | Or =>
   rcases vs with _ | ⟨a,_ | ⟨b,_ | ⟨x,t⟩⟩⟩ <;> try exact False.elim hw
   replace hw:wpX C (cE sc n a) r H fun p H=>tq p (Q p H) (wpX C (cE sc n b) r H Q):=hw
   refine wpAny_Or2 (ih sc a env A r H s _ E _ hf' F hw ?_)
   intro v p h' tk H' q rv R' S
   exact tq_elim q (fun ht q=>r_truthy rv ht (K v p h' tk H' q rv R' S)) fun ht q=>r_truthy rv ht (ih sc b env A r H' _ _ E _ hf' (F.step S R') q (K.trans S))
 | UnaryOp op a pos =>
  induction op using PySem.UnaryOp.casesOn with
  | Not =>
   replace hw:wpX C (cE sc n a) r H fun p H=>(match truth p with
    | some t=>Q (.bool (!t)) H
    | none=>False):=hw
   refine wpAny_UnaryOp (ih sc a env A r H s _ E _ hf' F hw ?_)
   intro v p h' tk H' q rv R' S
   split at q
   ·rename_i t ht
    exact r_unary_not rv ht (K _ _ h' tk H' q (.bool _) R' S)
   ·exact q.elim
  | USub =>
   replace hw:wpX C (cE sc n a) r H fun p H=>(match p with
    | .int i=>Q (.int (-i)) H
    | _=>False):=hw
   refine wpAny_UnaryOp (ih sc a env A r H s _ E _ hf' F hw ?_)
   intro v p h' tk H' q rv R' S
   induction p using PV.casesOn with
   | int i=>obtain ⟨_,rfl⟩:=rv.inv; exact neg_int (K _ _ h' (tk+1) H' q (.int _ _) R' S)
   | _=>exact False.elim q
  | _=>exact False.elim hw
 | IfExp t a b pos =>
  refine wpAny_IfExp (it sc t env A r H s _ E (fun t H=>if t then wpX C (cE sc n a) r H Q else wpX C (cE sc n b) r H Q) hf' F ?_ ?_)
  ·exact Eq.mp (congrArg (wpX C (cE sc n t) r H) tqI) hw
  ·intro t h' tk H' q R' S
   induction t using Bool.casesOn with
   | true=>exact ih sc a env A r H' _ _ E _ hf' (F.step S R') q (K.trans S)
   | false=>exact ih sc b env A r H' _ _ E _ hf' (F.step S R') q (K.trans S)
 | BinOp a op b pos =>
  replace hw:wpX C (cE sc n a) r H fun p H=>wpX C (cE sc n b) r H fun q H=>binOp op p q H Q:=hw
  refine wpAny_BinOp (ih sc a env A r H s _ E _ hf' F hw ?_)
  intro va pa h1 tk1 H1 q1 ra R1 S1
  refine ih sc b env A r H1 _ _ E _ hf' (F.step S1 R1) q1 ?_
  intro vb pb h2 tk2 H2 q2 rb R2 S2
  exact r_bin R2 (ra.mono (S2.fix0 R1)) rb q2 ((K.trans (tk:=tk1) S1).trans S2)
 | Compare l ops rs pos =>
  rcases ops with _ | ⟨op,_ | ⟨o2,ot⟩⟩ <;> rcases rs with _ | ⟨b,_ | ⟨b2,bt⟩⟩ <;> try exact False.elim hw
  replace hw:wpX C (if noSet b then .cmp op (cE sc n l) (cE sc n b) else .bad) r H Q:=hw
  refine cj2 (wX_ite hw) fun hns hw=>?_
  ·skip
   replace hw:wpX C (cE sc n l) r H fun p H=>wpX C (cE sc n b) r H fun q H=>cmpOp op p q H Q:=hw
   refine wpAny_Compare1 ?_ (noSet_marks hns)
   refine ih sc l env A r H s _ E _ hf' F hw ?_
   intro va pa h1 tk1 H1 q1 ra R1 S1
   refine ih sc b env A r H1 _ _ E _ hf' (F.step S1 R1) q1 ?_
   intro vb pb h2 tk2 H2 q2 rb R2 S2
   exact r_cmp X.gref hf.line R2 (ra.mono (S2.fix0 R1)) rb q2 ((K.trans (tk:=tk1) S1).trans S2)
 | List es pos =>
  replace hw:wpXs C (cEs sc n es) r H fun ps H=>ps.length≤big∧fresh H (.list ps) Q:=hw
  refine wpAny_List (ia sc es env A r H s _ E _ pos hf' F hw ?_)
  intro vs ps h1 tk1 H1 q rvs R1 S1
  refine ⟨by have:=rvs.length; have:=q.1; rw [sizeLine_eq]; unfold big at this; lia,?_⟩
  exact Kv.newList (s:={ s with heap:=h1,toks:=tk1 }) (n:=0) (tk:=tk1) (K.trans S1) R1 q.2 rvs
 | Tuple es k pos =>
  replace hw:wpXs C (cEs sc n es) r H fun ps H=>ps.length≤big∧Q (.tup ps) H:=hw
  refine wpAny_Tuple (ia sc es env A r H s _ E _ pos hf' F hw ?_)
  intro vs ps h1 tk1 H1 q rvs R1 S1
  refine ⟨by have:=rvs.length; have:=q.1; rw [sizeLine_eq]; unfold big at this; lia,?_⟩
  exact Kv.push (s:={ s with heap:=h1,toks:=tk1 }) (tk:=tk1) (K.trans S1) R1 q.2 (.tup (Heap.get?_push_size _ rfl) (rvs.push _))
 | Dict ks vs pos =>
  rcases ks with _ | ⟨k,kt⟩ <;> rcases vs with _ | ⟨v,vt⟩ <;> try exact False.elim hw
  replace hw:fresh H (.ns []) Q:=hw
  refine wpAny_Dict_empty ?_
  obtain ⟨R',S'⟩:=r_alloc (o:={ cls:=.type "dict", data:=.dict #[] }) (m:=.ns []) R ⟨[],0,Heap.get?_push_size _ rfl,.nil⟩
  exact K _ _ _ s.toks _ (hw _ R.top) (.ref _) R' S'
 | Call f args kws pos =>
  induction kws using List.casesOn with
  | cons k kt =>
   induction f using PySem.Expr.casesOn <;> exact False.elim hw
  | nil =>
   by_cases hfa:∃ o name apos,f=.Attribute o name apos
   ·obtain ⟨o,name,apos,rfl⟩:=hfa
    replace hw:wpX C (if okBase o&&apos.endLine==pos.line&&decide (args.length<20)&&noStars args then (match anIdx name with
     | some k=>.meth (cE sc n o) k (cEs sc n args)
     | none=>.bad) else .bad) r H Q:=hw
    refine cj2 (wX_ite hw) fun hc hw=>?_
    ·skip
     simp only [Bool.and_eq_true,decide_eq_true_eq] at hc
     obtain ⟨⟨⟨hb,hline⟩,hlen⟩,hns⟩:=hc
     refine xe1 (wX_opt hw) fun k h0=>cj2 h0 fun hk hw=>?_
     ·clear h0
      refine cj2 (anIdx_ok hk) fun hk36 he=>?_
      rw [he]
      replace hw:wpX C (cE sc n o) r H fun p H=>(match bindOp C p k H with
       | some g=>wpXs C (cEs sc n args) r H fun ps H=>g ps H Q
       | none=>False):=hw
      refine getMethodBind X hb hline hlen hns (ih sc o env A r H s _ E _ hf' F hw ?_)
      intro ov p h1 tk1 H1 q rv R1 S1 pl
      split at q
      ·rename_i g hg
       refine r_bind X hCA (F.amb.step S1 R1) rv hk36 hg ?_
       intro fv hcw hmo
       refine hcw pos [ov] _ _ _ _ (noStars_any hns pos) ?_
       refine ia sc args env A r H1 _ _ E _ pos hf' (F.step S1 R1) q ?_
       intro vs ps h2 tk2 H2 q2 rvs R2 S2
       refine ⟨((F.amb.step S1 R1).step S2 R2).keeps,?_⟩
       exact hmo _ H2 vs ps P E Q ((F.amb.step S1 R1).step S2 R2) rvs q2 ((K.trans (tk:=tk1) S1).trans S2)
      ·exact q.elim
   ·have hfa':∀ o n p,f≠.Attribute o n p:=fun o n p e=>hfa ⟨o,n,p,e⟩
    replace hw:wpX C (if noStars args then .call (cE sc n f) (cEs sc n args) else .bad) r H Q:=by
     induction f using PySem.Expr.casesOn <;> first | exact hw | exact absurd rfl (hfa' _ _ _)
    refine cj2 (wX_ite hw) fun hns hw=>?_
    ·skip
     replace hw:wpX C (cE sc n f) r H fun p H=>callee p∧wpXs C (cEs sc n args) r H fun ps H=>(match p with
      | .bi k=>biOp k ps H Q
      | .fn k=>C (.fn k) ps H Q
      | _=>False):=hw
     rw [callEq hfa']
     refine wpAny_bind (ih sc f env A r H s _ E _ hf' F hw ?_)
     intro fv p h1 tk1 H1 q rv R1 S1
     obtain ⟨hcal,q⟩:=q
     have F1:=F.step S1 R1
     have body:∀ (g:PV→List PV→MH→Prop),(wpXs C (cEs sc n args) r H1 fun ps H=>g p ps H)→(∀ vs ps h2 tk2 H2,g p ps H2→VRs c.gv h2 vs ps→Rep c.gv h2 H2→Stp h1 H1 h2 H2→wpAny (model prog c.w) A (call fv ([]++vs)) P E { s with heap:=h2,toks:=tk2 }) →
       CallW fv (model prog c.w) A c→wpAny (model prog c.w) A (callWith pos fv [] (backTo pos (starEach args env)) []) P E { s with heap:=h1,toks:=tk1 }:=fun g hg hgo hcw=>by
      refine hcw pos [] _ _ _ _ (noStars_any hns pos) ?_
      refine ia sc args env A r H1 _ _ E _ pos hf' F1 hg ?_
      intro vs ps h2 tk2 H2 q2 rvs R2 S2
      exact ⟨(F1.amb.step S2 R2).keeps,hgo vs ps h2 tk2 H2 q2 rvs R2 S2⟩
     induction p using PV.casesOn with
     | bi k =>
      ·replace rv:=rv.inv
       subst rv
       refine body (fun p ps H=>biOp k ps H Q) q ?_ ?_
       ·intro vs ps h2 tk2 H2 q2 rvs R2 S2
        exact r_bi hf.1 R2 rfl rvs q2 ((K.trans (tk:=tk1) S1).trans S2)
       ·have hk:k<8:=hcal
        exact callW_bi k hk
     | fn k =>
      ·replace rv:=rv.inv
       subst rv
       have hk:k<90:=hcal
       refine body (fun p ps H=>C (.fn k) ps H Q) q ?_ (callW_fn X hk)
       intro vs ps h2 tk2 H2 q2 rvs R2 S2
       exact (hCA k ps H2 Q _ vs P E (F1.amb.step S2 R2) rvs q2 ((K.trans (tk:=tk1) S1).trans S2)).2
     | _=>exact hcal.elim
 | Attribute o name pos =>
  replace hw:wpX C (if okBase o then (match anIdx name with
   | some k=>.attr (cE sc n o) k
   | none=>.bad) else .bad) r H Q:=hw
  refine cj2 (wX_ite hw) fun hb hw=>?_
  ·skip
   refine xe1 (wX_opt hw) fun k h0=>cj2 h0 fun hk hw=>?_
   ·clear h0
    refine cj2 (anIdx_ok hk) fun hk36 he=>?_
    rw [he]
    replace hw:wpX C (cE sc n o) r H fun p H=>attrOp p k H Q:=hw
    rw [arm_eval_Attribute,attrBase hb]
    refine wpAny_bind (ih sc o env A r H s _ E _ hf' F hw ?_)
    intro ov p h1 tk1 H1 q rv R1 S1
    refine wpAny_bind (wpAny_standAt (wpAny_bind (wpAny_holding (r_attr X (F.amb.step S1 R1) rv q ?_))))
    intro v p2 h2 tk2 H2 q2 rv2 R2 S2
    exact wpAny_bind (wpAny_letTemporaryGo (wpAny_pure (K v p2 h2 tk2 H2 q2 rv2 R2 (S1.trans S2))))
 | Subscript o i pos =>
  by_cases hsl:∃ lo hi st sp,i=.Slice lo hi st sp
  ·obtain ⟨lo,hi,st,sp,rfl⟩:=hsl
   replace hw:wpX C (cE sc n o) r H fun p H=>wpX C (cO sc n lo) r H fun a H=>wpX C (cO sc n hi) r H fun b H=>wpX C (cO sc n st) r H fun c H=>sliceOp p a b c H Q:=hw
   refine Subscript_ (ih sc o env A r H s _ E _ hf' F hw ?_)
   intro ov p h1 tk1 H1 q rv R1 S1
   have F1:=F.step S1 R1
   rw [arm_eval_Slice]
   refine wpAny_bind (io sc lo env A r H1 _ _ E _ hf' F1 q ?_)
   intro v2 p2 h2 tk2 H2 q2 rv2 R2 S2
   have F2:=F1.step S2 R2
   refine wpAny_bind (wpAny_holding (io sc hi env A r H2 _ _ E _ hf' F2 q2 ?_))
   intro v3 p3 h3 tk3 H3 q3 rv3 R3 S3
   have F3:=F2.step S3 R3
   refine wpAny_bind (wpAny_holding (io sc st env A r H3 _ _ E _ hf' F3 q3 ?_))
   intro v4 p4 h4 tk4 H4 q4 rv4 R4 S4
   have x2:=S2.fix0 R1
   have x3:=S3.fix0 R2
   have x4:=S4.fix0 R3
   exact r_slice R4 (((rv.mono x2).mono x3).mono x4) ((rv2.mono x3).mono x4) (rv3.mono x4) rv4 q4 ((((K.trans (tk:=tk1) S1).trans (tk:=tk2) S2).trans (tk:=tk3) S3).trans S4)
  ·replace hw:wpX C (.sub (cE sc n o) (cE sc n i)) r H Q:=by
    induction i using PySem.Expr.casesOn <;> first | exact hw | exact absurd ⟨_,_,_,_,rfl⟩ hsl
   replace hw:wpX C (cE sc n o) r H fun p H=>wpX C (cE sc n i) r H fun q H=>subOp p q H Q:=hw
   refine Subscript_ (ih sc o env A r H s _ E _ hf' F hw ?_)
   intro va pa h1 tk1 H1 q1 ra R1 S1
   refine ih sc i env A r H1 _ _ E _ hf' (F.step S1 R1) q1 ?_
   intro vb pb h2 tk2 H2 q2 rb R2 S2
   exact r_sub R2 (ra.mono (S2.fix0 R1)) rb q2 ((K.trans (tk:=tk1) S1).trans S2)
 | ListComp elt gens csc pos =>
  have bad:wpX C .bad r H Q→wpAny (model prog c.w) A (eval (.ListComp elt gens csc pos) env) P E s:=fun h=>h.elim
  rcases gens with _ | ⟨⟨tgt,iter,ifs,asy⟩,_ | ⟨g2,gt⟩⟩
  ·exact bad hw
  ·induction tgt using PySem.Expr.casesOn with
   | Name x px =>
    rcases asy with (_ | a) | a
    ·rcases ifs with _ | ⟨cnd,_ | ⟨c2,ct⟩⟩
     ·replace hw:wpX C (if noSet iter&&compOk sc csc x then (match idx csc x with
       | some vi=>.comp (cE csc n elt) vi (cE sc n iter) (impOf sc csc)
       | none=>.bad) else .bad) r H Q:=hw
      refine cj2 (wX_ite hw) fun hc hw=>?_
      ·skip
       rw [Bool.and_eq_true] at hc
       refine xe1 (wX_opt hw) fun vi h0=>cj2 h0 fun hvi hw=>?_
       ·clear h0
        replace hw:wpX C (cE sc n iter) r H fun p H=>compOp (fun _ H Q=>Q (.bool true) H) (fun x H Q=>wpX C (cE csc n elt) ((impR r (impOf sc csc)).set vi x) H Q) p H Q:=hw
        refine soundComp X ih hf' F hc.2 hvi hc.1 ?_ ?_ hw K
        ·intro cenv r' H' s' P' E' Qb x' F' hr hq KB
         have hq:Qb true H':=hq
         exact tests_nil (M:=model prog c.w) (KB true s'.heap s'.toks H' hq F'.amb.rep StpP.refl)
        ·intro cenv r' H' s' P' E' Q' x' F' hr hq K'
         subst hr
         exact ih csc elt cenv A _ H' s' P' E' Q' hf' F' hq K'
     ·replace hw:wpX C (if noSet iter&&compOk sc csc x then (match idx csc x with
       | some vi=>.compIf (cE csc n elt) vi (cE sc n iter) (cE csc n cnd) (impOf sc csc)
       | none=>.bad) else .bad) r H Q:=hw
      refine cj2 (wX_ite hw) fun hc hw=>?_
      ·skip
       rw [Bool.and_eq_true] at hc
       refine xe1 (wX_opt hw) fun vi h0=>cj2 h0 fun hvi hw=>?_
       ·clear h0
        replace hw:wpX C (cE sc n iter) r H fun p H=>compOp (fun x H Q=>wpX C (cE csc n cnd) ((impR r (impOf sc csc)).set vi x) H Q) (fun x H Q=>wpX C (cE csc n elt) ((impR r (impOf sc csc)).set vi x) H Q) p H Q:=hw
        refine soundComp X ih hf' F hc.2 hvi hc.1 ?_ ?_ hw K
        ·intro cenv r' H' s' P' E' Qb x' F' hr hq KB
         subst hr
         exact wpAny_tests_one (it csc cnd cenv A _ H' s' P' E' Qb hf' F' hq KB)
        ·intro cenv r' H' s' P' E' Q' x' F' hr hq K'
         subst hr
         exact ih csc elt cenv A _ H' s' P' E' Q' hf' F' hq K'
     ·exact bad hw
    ·exact bad (by rcases ifs with _ | ⟨cnd,_ | ⟨c2,ct⟩⟩ <;> exact hw)
    ·exact bad (by rcases ifs with _ | ⟨cnd,_ | ⟨c2,ct⟩⟩ <;> exact hw)
   | _=>exact bad hw
  ·exact bad (by induction tgt using PySem.Expr.casesOn <;> first | exact hw | (rcases ifs with _ | ⟨_,_ | ⟨_,_⟩⟩ <;> first | exact hw | (rcases asy with (_ | _) | _ <;> exact hw)))
 | _=>exact False.elim hw
theorem sound (X:CxOk c) (hC:COkD c prog d C):∀ n,SE c prog d C n∧ST c prog d C n∧SA c prog d C n∧SO c prog d C n
 | 0=>by
  have he:SE c prog d C 0:=by intro sc e env A r H s P E Q hf F hw K; exact hw.elim
  refine ⟨he,?_,?_,?_⟩
  ·intro sc e env A r H s P E Q hf F hw K; exact hw.elim
  ·intro sc es env A r H s P E Q pos hf F hw K
   induction es using List.casesOn with
   | nil =>
    replace hw:Q [] H:=hw
    exact wpAny_items_nil (K [] [] s.heap s.toks H hw .nil F.amb.rep StpP.refl)
   | cons x xs=>exact hw.elim
  ·intro sc e env A r H s P E Q hf F hw K
   induction e using Option.casesOn with
   | none =>
    replace hw:Q .none H:=hw
    exact wpAny_pure (K .none .none s.heap s.toks H hw .none F.amb.rep StpP.refl)
   | some e=>exact hw.elim
 | n+1=>by
  obtain ⟨a,b,e,f⟩:=sound X hC n
  have he:=soundE X hC a b e f
  exact ⟨he,soundT X he a b,soundA a e,soundO a⟩
end
section
variable {prog:Program} {w:World} {A:Around} {E:Value→Shared→Prop}
theorem draw_list {it t:Addr} {items:Array Value} (hne:t≠it):∀ (n i:Nat) (s:Shared) (Q:List Value→Shared→Prop),s.heap.IsListIter it t i→s.heap.IsList t items→i+n≤items.size →
  (∀ h',h'.IsListIter it t (i+n)→Heap.SameBut it s.heap h'→Q ((items.toList.drop i).take n) { s with heap:=h' })→wpAny (model prog w) A (draw (.ref it) n) Q E s
 | 0,i,s,Q,hit,_,_,hQ=>by
  show wpAny _ _ (pure []) Q E s
  exact wpAny_pure (by simpa using hQ s.heap hit (Heap.SameBut.refl ..))
 | n+1,i,s,Q,hit,ht,hle,hQ=>by
  have hlt:i<items.size:=by lia
  show wpAny _ _ (pyNext (.ref it) >>= _) Q E s
  refine wpAny_bind (wpAny_pyNext_list_item hit ht (x:=items[i]) (by simp [hlt]) fun h₁ hit₁ hs₁=>?_)
  refine wpAny_bind (wpAny_holding (draw_list hne n (i+1) _ _ hit₁ (ht.extBut hs₁.extBut hne) (by lia) fun h₂ hit₂ hs₂=>wpAny_pure ?_))
  have hd:items.toList.drop i=items[i]::items.toList.drop (i+1):=by simp [List.drop_eq_getElem_cons,hlt]
  have:=hQ h₂ (by rw [show i+(n+1)=i+1+n by lia]; exact hit₂) (hs₁.trans hs₂)
  rw [hd,List.take_succ_cons] at this
  exact this
theorem unpackItems_list {s:Shared} {t:Addr} {items:Array Value} {Q:List Value→Shared→Prop} (hh:A.handled=none) (ht:s.heap.IsList t items)
  (hQ:∀ h',Heap.ExtBut s.heap.objs.size s.heap h'→Q items.toList { s with heap:=h' }):wpAny (model prog w) A (unpackItems (.ref t) items.size none) Q E s:=by
 have hlt:t≠s.heap.objs.size:=by obtain ⟨o,ho,_⟩:=ht; exact Nat.ne_of_lt (Heap.lt_size ho)
 unfold unpackItems
 refine wpAny_bind ?_
 ·unfold notIterableAtAll
  refine wpAny_bind (wpAny_specialOf ht.typeIs slot_list_iter.lookup ?_)
  refine wpAny_pure ?_
  simp only [Bool.false_eq_true,if_false]
  refine wpAny_bind (wpAny_holding (wpAny_pyIter_list ht ?_))
  refine wpAny_bind (wpAny_holding (draw_list hlt items.size 0 _ _ ⟨_,Heap.get?_push_size _ rfl,rfl,rfl⟩ (ht.push _) (by lia) fun h₁ hit₁ hs₁=>?_))
  have hall:List.take items.size (List.drop 0 items.toList)=items.toList:=by
   rw [List.drop_zero]; exact List.take_of_length_le (by simp)
  rw [hall]
  rw [if_neg (by simp)]
  have ht₁:h₁.IsList t items:=(ht.push _).extBut hs₁.extBut hlt
  refine wpAny_bind (wpAny_holding (wpAny_pyNext_list_end hh hit₁ ht₁ (by simp) fun h₂ he₂=>?_))
  simp only [Option.isSome_none,Bool.false_eq_true,if_false]
  refine wpAny_pure (hQ h₂ fun b o hb e=>he₂ b o hb (hs₁.extBut b o hb (Heap.get?_push_of_some _ e)))
end
section
variable {c:Cx} {prog:Program} {sc:Scope} {env:Env} {A:Around} {E:Value→Shared→Prop} {s:Shared} {H:MH} {r:List PV}
theorem ext_stp {gv:Nat→Value} {h h':Heap} (R:Rep gv h H) (e:Heap.ExtBut h.objs.size h h'):Stp h H h' H∧Rep gv h' H:=by
 have k:∀ b o,h.get? b=some o→h'.get? b=some o:=fun b o g=>e b o (Nat.ne_of_lt (Heap.lt_size g)) g
 refine ⟨⟨fun b o g _ _=>k b o g,fun b z=>.inl z,fun b z=>?_⟩,fun a m z=>(R a m z).mono (fun b o g _=>k b o g) fun ob g=>k _ _ g⟩
 induction q:h.get? b using Option.casesOn with
 | none=>exact absurd q z
 | some o=>rw [k b o q]; exact fun e=>by cases e
theorem r_unpack {gv:Nat→Value} {v:Value} {p:PV} {n:Nat} {K:List PV→Prop} {P:List Value→Shared→Prop} (hA:A.handled=none) (R:Rep gv s.heap H) (rv:VR gv s.heap v p) (e:itemsOp n p H K)
  (h:∀ vs ps h',K ps→ps.length=n→VRs gv h' vs ps→Rep gv h' H→Stp s.heap H h' H→P vs { s with heap:=h' }):wpAny (model prog c.w) A (unpackItems v n none) P E s:=by
 unfold itemsOp at e
 split at e
 ·obtain ⟨rfl,_,k⟩:=e
  ·obtain ⟨a,vs,m,rfl,g,rs⟩:=rv.tupAt
   have hl:=rs.length
   have:=@wpAny_unpackItems_tuple prog c.w A E s a vs.toArray P hA ⟨_,g,rfl,_,rfl⟩ fun h' eb=>by
    obtain ⟨S,R'⟩:=ext_stp R eb
    exact h _ _ h' k rfl (by simpa using rs.mono (S.fix0 R)) R' S
   rw [List.size_toArray,hl] at this
   exact this
 ·rename_i a
  obtain rfl:=rv.inv
  split at e
  ·rename_i xs hx
   obtain ⟨rfl,_,k⟩:=e
   obtain ⟨vs,m,g,rs⟩:=R _ _ hx
   have hl:=rs.length
   have:=@unpackItems_list prog c.w A E s a vs.toArray P hA ⟨_,g,rfl,m,rfl⟩ fun h' eb=>by
    obtain ⟨S,R'⟩:=ext_stp R eb
    exact h _ _ h' k rfl (by simpa using rs.mono (S.fix0 R)) R' S
   rw [List.size_toArray,hl] at this
   exact this
  ·exact e.elim
 ·exact e.elim
theorem PE_fix (F:FS c sc env s.heap H r) {h':Heap} {H':MH} (S:StpP (PE sc env) s.heap H h' H'):Fix s.heap h':=Stp.fix S F.amb.rep fun b o z e=>by
 rcases z with z | ⟨x,kx,ex⟩
 ·obtain ⟨m,⟨o',es,ep,e1,e2,_⟩,_⟩:=F.loc
  rw [← z,e] at e1; cases e1
  exact .inl ⟨es,ep,e2⟩
 ·obtain ⟨i,hi⟩:=lookup_idx kx
  obtain ⟨a',o',g1,⟨ob,g2,g3⟩,_⟩:=F.cel x i hi (.inl kx)
  rw [ex] at g1; cases g1
  rw [e] at g2; cases g2
  exact .inr ⟨_,g3⟩
noncomputable def Places (sc:Scope):List Str→List Nat→Prop
 | [],[]=>True
 | x::xs,i::is=>(idx sc x=some i∧(sc.names.lookup x=some .local∨sc.names.lookup x=some .cell))∧Places sc xs is
 | _,_=>False
theorem r_storeAll:∀ (xs:List Str) {is:List Nat} {ts:List (Value→Sem Unit)} {vs:List Value} {ps:List PV} {r:List PV} {s:Shared} {P:Unit→Shared→Prop},Places sc xs is→vs.length=xs.length→ts.length=xs.length →
  (∀ (i:Nat) x t,xs[i]?=some x→ts[i]?=some t→∀ v Q s,wpAny (model prog c.w) A (storeName env x v) Q E s→wpAny (model prog c.w) A (t v) Q E s) →
  FS c sc env s.heap H r→VRs c.gv s.heap vs ps →
  (∀ h' tk,FS c sc env h' H (setAll is ps r)→StpP (PE sc env) s.heap H h' H→P () { s with heap:=h',toks:=tk })→wpAny (model prog c.w) A (assignInOrder ts vs) P E s:=by
 intro xs
 induction xs with
 | nil =>
  intro is ts vs ps r s P pl hl hl2 ht F rs h
  obtain rfl:vs=[]:=List.length_eq_zero_iff.mp hl
  obtain rfl:ts=[]:=List.length_eq_zero_iff.mp hl2
  obtain rfl:ps=[]:=List.length_eq_zero_iff.mp rs.length.symm
  induction is using List.casesOn with
  | nil=>exact wpAny_pure (h s.heap s.toks F StpP.refl)
  | cons i is=>exact pl.elim
 | cons x xs ih =>
  intro is ts vs ps r s P pl hl hl2 ht F rs h
  induction is using List.casesOn with
  | nil=>exact pl.elim
  | cons i is =>
   induction ts using List.casesOn with
   | nil=>cases hl2
   | cons t ts =>
    induction ps using List.casesOn with
    | nil=>obtain rfl:=rs.none; cases hl
    | cons p ps =>
     obtain ⟨v,vs',rfl,rv,rs'⟩:=rs.un
     obtain ⟨⟨ix,kx⟩,pl⟩:=pl
     show wpAny _ _ (do holding vs' (t v); assignInOrder ts vs') _ _ _
     refine wpAny_bind (wpAny_holding (ht 0 x t rfl rfl v _ s (r_store F ix kx rv ?_)))
     intro h' tk F' S'
     refine ih pl (by simpa using hl) (by simpa using hl2) (fun i x t a b=>ht (i+1) x t (by simpa using a) (by simpa using b)) F' (rs'.mono (PE_fix F S')) ?_
     intro h2 tk2 F2 S2
     exact h h2 tk2 F2 (S'.trans S2)
noncomputable def NmOk (sc:Scope) (env:Env) (es:List Expr) (is:List Nat):Prop:=Places sc (exprNames es) is∧(assignEach es env).length=(exprNames es).length∧(exprNames es).length=is.length∧(assignEach es env).findIdx? (·.1)=none ∧
  ∀ (i:Nat) x t,(exprNames es)[i]?=some x→((assignEach es env).map (·.2))[i]?=some t→∀ (M:Model) A E v Q s,wpAny M A (storeName env x v) Q E s→wpAny M A (t v) Q E s
theorem nmOpt_ok {e:Expr} {x:Str} (h:nmOpt e=some x):∃ p,e=.Name x p:=by
 induction e using PySem.Expr.casesOn with
 | Name y p=>exact ⟨p,by rw [Option.some.inj h]⟩
 | _=>exact nomatch h
theorem nameIdx_ok {es:List Expr} {is:List Nat} (h:nameIdx sc es=some is):NmOk sc env es is:=by
 induction es generalizing is with
 | nil =>
  rw [← Option.some.inj (show some []=some is from h)]
  exact ⟨trivial,rfl,rfl,rfl,fun i x t a _=>by cases i <;> exact nomatch a⟩
 | cons e es ih =>
  obtain ⟨i,h1,h⟩:=Option.bind_eq_some_iff.mp (show (nm1 sc e).bind _=some is from h)
  obtain ⟨is',h2,h⟩:=Option.map_eq_some_iff.mp h
  obtain ⟨x,h3,h4⟩:=Option.bind_eq_some_iff.mp h1
  obtain ⟨p,h5⟩:=nmOpt_ok h3
  rw [← h,h5]
  clear h h1 h3 h5
  by_cases hk:(sc.names.lookup x==some .local||sc.names.lookup x==some .cell)=true
  ·rw [if_pos hk] at h4
   have hk:sc.names.lookup x=some .local∨sc.names.lookup x=some .cell:=by simpa using hk
   obtain ⟨a,b,c,d,f⟩:=ih h2
   have hae:assignEach (.Name x p::es) env=(false,assign (.Name x p) env)::assignEach es env:=rfl
   refine ⟨⟨⟨h4,hk⟩,a⟩,?_,?_,?_,?_⟩
   ·rw [hae,List.length_cons,b]; rfl
   ·show (exprNames es).length+1=is'.length+1; rw [c]
   ·rw [hae,List.findIdx?_cons]; simp [d]
   ·intro k y t h5 h6 M A E v Q s hw
    rw [hae] at h6
    induction k using Nat.casesAuxOn with
    | zero =>
     have h5:some x=some y:=h5
     have h6:some (assign (.Name x p) env)=some t:=h6
     rw [← Option.some.inj h6]
     rw [← Option.some.inj h5] at hw
     exact wpAny_assign_Name hw
    | succ k=>exact f k y t h5 h6 M A E v Q s hw
  ·rw [if_neg hk] at h4; cases h4
theorem Places.append:∀ {xs:List Str} {is:List Nat} {ys:List Str} {js:List Nat},Places sc xs is→Places sc ys js→Places sc (xs++ys) (is++js)
 | [],[],_,_,_,b=>b
 | x::xs,i::is,_,_,a,b=>⟨a.1,a.2.append b⟩
 | [],_::_,_,_,h,_=>h.elim
 | _::_,[],_,_,h,_=>h.elim
theorem Places.reverse:∀ {xs:List Str} {is:List Nat},Places sc xs is→Places sc xs.reverse is.reverse
 | [],[],_=>trivial
 | x::xs,i::is,h=>by
  rw [List.reverse_cons,List.reverse_cons]
  exact h.2.reverse.append ⟨h.1,trivial⟩
 | [],_::_,h=>h.elim
 | _::_,[],h=>h.elim
end
noncomputable def FlR (gv:Nat→Value) (h:Heap):Flow→FL→Prop
 | .next,.next=>True
 | .brk,.brk=>True
 | .cont,.cont=>True
 | .ret v,.ret p=>VR gv h v p
 | _,_=>False
noncomputable def Kq (c:Cx) (sc:Scope) (env:Env) (P:Flow→Shared→Prop) (s:Shared) (H:MH) (Q:QS):Prop :=
 ∀ f fl r' h' tk H',Q fl r' H'→FlR c.gv h' f fl→FS c sc env h' H' r'→StpP (PE sc env) s.heap H h' H'→P f { s with heap:=h',toks:=tk }
noncomputable def SS (c:Cx) (prog:Program) (d:Nat) (C:Cl) (n:Nat):Prop:=∀ (sc:Scope) (st:Stmt) (env:Env) (A:Around) (r:List PV) (H:MH) (s:Shared) (P:Flow→Shared→Prop) (E:Value→Shared→Prop) (Q:QS),
 env.scope=sc→Fit d A→FS c sc env s.heap H r→wpS C (cS sc n st) r H Q→Kq c sc env P s H Q→wpAny (model prog c.w) A (exec st env) P E s
noncomputable def SSs (c:Cx) (prog:Program) (d:Nat) (C:Cl) (n:Nat):Prop:=∀ (sc:Scope) (st:List Stmt) (env:Env) (A:Around) (r:List PV) (H:MH) (s:Shared) (P:Flow→Shared→Prop) (E:Value→Shared→Prop) (Q:QS),
 env.scope=sc→Fit d A→FS c sc env s.heap H r→wpSs C (cSs sc n st) r H Q→Kq c sc env P s H Q→wpAny (model prog c.w) A (execs st env) P E s
section
variable {c:Cx} {prog:Program} {d:Nat} {C:Cl} {n:Nat} {sc:Scope} {env:Env} {A:Around} {E:Value→Shared→Prop} {s:Shared} {H H':MH} {h':Heap} {tk:Nat} {r:List PV} {P:Flow→Shared→Prop} {Q:QS}
theorem Kq.trans (K:Kq c sc env P s H Q) (S:StpP (PE sc env) s.heap H h' H'):Kq c sc env P { s with heap:=h',toks:=tk } H' Q :=
 fun f fl r h2 tk2 H2 q fr F2 S2=>K f fl r h2 tk2 H2 q fr F2 (S.trans S2)
theorem toPE (S:Stp s.heap H h' H'):StpP (PE sc env) s.heap H h' H':=S.mono fun _ z=>z.elim
theorem noInter (F:FS c sc env s.heap H r):interactive env=false:=by
 unfold interactive
 rw [F.fn]; rfl
theorem noSwaps {v:Expr} {t:Option Expr} {l:Nat} (h:isComp v=false):swapsWith v t l env=pure false:=by
 unfold swapsWith
 induction v using PySem.Expr.casesOn <;> first | rfl | exact Bool.noConfusion h
theorem swapped_eq {ts:List Expr} {v:Expr} (h:env.scope=sc):swappedStores ts v env=swappedStores ts v (envD sc):=by
 unfold swappedStores Env.blockKind Env.kindOf
 rw [h]
 rfl
theorem cName_var {x:Str} {i:Nat} (h:cName sc x=.var i):idx sc x=some i∧(sc.names.lookup x=some .local∨sc.names.lookup x=some .cell∨sc.names.lookup x=some .free):=by
 unfold cName at h
 split at h
 ·cases h
 ·split at h
  ·rename_i h1 h2; cases h; exact ⟨h2,.inl h1⟩
  ·rename_i h1 h2; cases h; exact ⟨h2,.inr (.inl h1)⟩
  ·rename_i h1 h2; cases h; exact ⟨h2,.inr (.inr h1)⟩
  ·split at h <;> cases h
  ·cases h
theorem StpP.drop1 {P:Addr→Prop} {I:Addr} {h h':Heap} (S:StpP (fun b=>P b∨b=I) h H h' H') (e:h.get? I=none):StpP P h H h' H' :=
 ⟨fun b o g n p=>S.keep b o g n fun z=>z.elim p fun z=>(by rw [z,e] at g; cases g),S.new,S.live⟩
theorem FS.ext {h h':Heap} {I:Addr} (F:FS c sc env h H r) (k:∀ b o,b≠I→h.get? b=some o→h'.get? b=some o) (nk:∀ o,h.get? I=some o→¬ KO o) (nH:H I=none) (nB:c.base.get? I=none) (nL:I≠env.locals) (nC:∀ x i a,idx sc x=some i→(sc.names.lookup x=some .cell∨sc.names.lookup x=some .free)→env.cells.lookup x=some a→a≠I) :
  FS c sc env h' H r:=by
 have fx:Fix h h':=fun b o e ko=>k b o (by rintro rfl; exact nk o e ko) e
 have R:Rep c.gv h' H:=fun a m e=>(F.amb.rep a m e).mono fx fun ob g=>k a ob (by rintro rfl; rw [nH] at e; cases e) g
 refine { F with amb:=⟨fun b o e=>⟨k b o (by rintro rfl; rw [nB] at e; cases e) (F.amb.bk b o e).1,(F.amb.bk b o e).2⟩,R⟩,loc:=?_,cel:=?_ }
 ·obtain ⟨m,⟨o,es,ep,e1,e2⟩,hm⟩:=F.loc
  exact ⟨m,⟨o,es,ep,k _ _ (Ne.symm nL) e1,e2⟩,fun x i p a b d e=>by obtain ⟨v,q,r⟩:=hm x i p a b d e; exact ⟨v,q,r.mono fx⟩⟩
 ·intro x i a b
  obtain ⟨ca,o,e1,⟨ob,e2,e3⟩,e4⟩:=F.cel x i a b
  exact ⟨ca,o,e1,⟨ob,k _ _ (nC x i ca a b e1) e2,e3⟩,fun p u w=>by obtain ⟨v,q,r⟩:=e4 p u w; exact ⟨v,q,r.mono fx⟩⟩
theorem PE_lt (F:FS c sc env s.heap H r) {b:Addr} (h:PE sc env b):s.heap.get? b≠none:=by
 rcases h with z | ⟨x,kx,ex⟩
 ·obtain ⟨m,⟨o',es,ep,e1,e2,_⟩,_⟩:=F.loc
  rw [z,e1]; exact fun e=>by cases e
 ·obtain ⟨i,hi⟩:=lookup_idx kx
  obtain ⟨a',o',g1,⟨ob,g2,g3⟩,_⟩:=F.cel x i hi (.inl kx)
  rw [ex] at g1; cases g1
  rw [g2]; exact fun e=>by cases e
noncomputable def WI (c:Cx) (sc:Scope) (env:Env) (I:Nat→List PV→MH→Prop) (s:Shared) (H:MH) (k:Nat) (s':Shared):Prop:=∃ h' tk r' H',(I k r' H'∧FS c sc env h' H' r'∧StpP (PE sc env) s.heap H h' H')∧s'={ s with heap:=h',toks:=tk }
noncomputable def FI (c:Cx) (sc:Scope) (env:Env) (I:Addr) (p:PV) (xs:List PV) (W:List PV→List PV→MH→Prop) (s:Shared) (h1:Heap) (H1:MH) (k:Nat) (s':Shared):Prop :=
 ∃ h' tk r' H' j,(ItSt h' I p j∧FS c sc env h' H' r'∧j≤xs.length∧W (xs.drop j) r' H'∧StpP (fun b=>PE sc env b∨b=I) h1 H1 h' H'∧k=xs.length - j)∧s'={ s with heap:=h',toks:=tk }
theorem soundWhile (it:ST c prog d C n) (is:SSs c prog d C n) {t:Expr} {b:List Stmt} {pos:Pos} (hs:env.scope=sc) (hf:Fit d A) (F:FS c sc env s.heap H r)
  (e:wpS C (.whl (cE sc n t) (cSs sc n b)) r H Q) (K:Kq c sc env P s H Q):wpAny (model prog c.w) A (exec (.While t b [] pos) env) P E s:=by
 obtain ⟨I,⟨k0,h0⟩,step⟩:=e
 refine wpAny_While (codeAny_whileLoop (WI c sc env I s H) ?_ k0 ⟨s.heap,s.toks,r,H,⟨h0,F,StpP.refl⟩,rfl⟩)
 intro k s' hk
 refine xe4 hk fun h' tk r' H' hk1=>cj2 hk1 fun hk2 e=>cj3 hk2 fun hI F' S'=>?_
 clear hk hk1 hk2
 subst e
 refine it sc t env A r' H' _ _ _ (fun b' H=>if b' then wpSs C (cSs sc n b) r' H (fun f r H=>match f with
   | .next=>∃ m,m<k∧I m r H
   | .cont=>∃ m,m<k∧I m r H
   | .brk=>Q .next r H
   | .ret p=>Q (.ret p) r H) else Q .next r' H) hf F' ?_ ?_
 ·refine cast ?_ (step k r' H' hI)
  congr 1
  funext p H
  unfold ofB
  induction ht:truth p using Option.casesOn with
  | none=>rfl
  | some t=>cases t <;> rfl
 ·intro bv h2 tk2 H2 q2 R2 S2
  have F2:=F'.step S2 R2
  have S02:StpP (PE sc env) s.heap H h2 H2:=S'.trans (toPE (s:={ s with heap:=h',toks:=tk }) S2)
  induction bv using Bool.casesOn with
  | false=>exact wpAny_execs_nil (K .next .next r' h2 tk2 H2 q2 trivial F2 S02)
  | true =>
   refine is sc b env A r' H2 _ _ _ _ hs hf F2 q2 ?_
   intro f fl r3 h3 tk3 H3 q3 fr F3 S3
   have S03:StpP (PE sc env) s.heap H h3 H3:=S02.trans S3
   induction fl using FL.casesOn with
   | next=>induction f using PySem.Flow.casesOn <;> first | exact fr.elim | exact xe1 q3 fun m q3=>⟨m,q3.1,h3,tk3,r3,H3,⟨q3.2,F3,S03⟩,rfl⟩
   | cont=>induction f using PySem.Flow.casesOn <;> first | exact fr.elim | exact xe1 q3 fun m q3=>⟨m,q3.1,h3,tk3,r3,H3,⟨q3.2,F3,S03⟩,rfl⟩
   | brk=>induction f using PySem.Flow.casesOn <;> first | exact fr.elim | exact K .next .next r3 h3 tk3 H3 q3 trivial F3 S03
   | ret p=>induction f using PySem.Flow.casesOn <;> first | exact fr.elim | exact K (.ret _) (.ret p) r3 h3 tk3 H3 q3 fr F3 S03
theorem soundFor (ih:SE c prog d C n) (is:SSs c prog d C n) {x:Str} {px:Pos} {i:Nat} {iter:Expr} {b:List Stmt} {pos:Pos} (hs:env.scope=sc) (hf:Fit d A) (F:FS c sc env s.heap H r)
  (hns:noSet iter=true) (ix:idx sc x=some i) (kx:sc.names.lookup x=some .local∨sc.names.lookup x=some .cell)
  (e:wpS C (.for_ i (cE sc n iter) (cSs sc n b)) r H Q) (K:Kq c sc env P s H Q):wpAny (model prog c.w) A (exec (.For (.Name x px) iter b [] pos) env) P E s:=by
 replace e:wpX C (cE sc n iter) r H fun p H=>iterOp p H fun xs src=>forGo i src (fun r H Q=>wpSs C (cSs sc n b) r H Q) xs r H Q:=e
 refine wpAny_For ?_ (noSet_fold hns)
 refine ih sc iter env A r H s _ E _ hf F e ?_
 intro v p h1 tk1 H1 q rv R1 S1
 obtain ⟨xs,src,q,hsrc⟩:=iter_src q
 have srcOf:∀ {ys r H},forGo i src (fun r H Q=>wpSs C (cSs sc n b) r H Q) ys r H Q→src H:=fun {ys r H} q=>by
  induction ys using List.casesOn with
  | nil=>exact (show src H∧_ from q).1
  | cons y ys=>exact (show src H∧_ from q).1
 refine r_iter rv hsrc ?_ R1 (srcOf q)
 intro o1 it0
 dsimp only at it0 ⊢
 have F1:=F.step S1 R1
 have fI:h1.get? h1.objs.size=none:=free_top
 have S1p:Stp h1 H1 (h1.push o1) H1:=stp_push o1
 have R1p:Rep c.gv (h1.push o1) H1:=r_rep_push R1
 have F1p:=F1.step S1p R1p
 (revert it0 fI; refine genh (h1.objs.size) fun I hI it0 fI=>?_)
 have nPE:∀ b,PE sc env b→b≠I:=fun b z zz=>by
  have:=PE_lt (s:={ s with heap:=h1 }) F1 z
  rw [zz] at this; exact this fI
 have nL:I≠env.locals:=fun z=>nPE env.locals (.inl rfl) z.symm
 have nB:c.base.get? I=none:=by
  induction q:c.base.get? I using Option.casesOn with
  | none=>rfl
  | some o=>rw [F1.amb.keeps _ _ q] at fI; cases fI
 have nC:∀ x i a,idx sc x=some i→(sc.names.lookup x=some .cell∨sc.names.lookup x=some .free)→env.cells.lookup x=some a→a≠I:=fun x i a hi hk ha z=>by
  obtain ⟨a',o',g1,⟨ob,g2,g3⟩,_⟩:=F1.cel x i hi hk
  rw [ha] at g1; cases g1
  rw [z] at g2
  have g2:h1.get? I=some ob:=g2
  rw [fI] at g2; cases g2
 refine codeAny_forLoop (FI c sc env I p xs (fun ys r H=>forGo i src (fun r H Q=>wpSs C (cSs sc n b) r H Q) ys r H Q) s h1 H1) ?_ (xs.length - 0)
   ⟨h1.push o1,tk1,r,H1,0,⟨it0,F1p,Nat.zero_le _,q,S1p.mono fun _ z=>z.elim,rfl⟩,rfl⟩
 intro k s' hk
 refine xe5 hk fun h' tk r' H' j hk1=>cj2 hk1 fun hk2 e=>cj6 hk2 fun it' F' hj q' SZ ek=>?_
 clear hk hk1 hk2 it0 F1p S1p R1p q
 subst e ek
 have nI':=it'.notOwn F'.amb.rep
 have nk':∀ o,h'.get? I=some o→¬ KO o:=fun o e=>by
  obtain ⟨o',e',k,_⟩:=it'.obj
  rw [e'] at e; cases e; exact k
 refine r_next hf.1 hsrc it' hj F'.amb.rep (srcOf q') ?_ ?_
 ·intro y v3 h3 tk3 hy rv3 it3 sb3
  have F3:=F'.ext (fun b o hb e=>sb3.extBut b o hb e) nk' nI' nB nL nC
  have S3:StpP (fun b=>PE sc env b∨b=I) h' H' h3 H':=SameBut.stp sb3 (.inr rfl) (by obtain ⟨o',e',_⟩:=it3.obj; rw [e']; exact fun e=>by cases e)
  have hlt:j<xs.length:=(List.getElem?_eq_some_iff.mp hy).1
  have hdrop:xs.drop j=y::xs.drop (j+1):=by
   rw [List.drop_eq_getElem_cons hlt]
   congr 1
   exact (List.getElem?_eq_some_iff.mp hy).2
  rw [hdrop] at q'
  have q':=(show src H'∧_ from q').2
  refine wpAny_assign_Name (r_store F3 ix kx rv3 ?_)
  intro h4 tk4 F4 S4
  have it4:ItSt h4 I p (j+1):=it3.keep fun o e=>S4.keep _ _ e nI' fun z=>nPE I z rfl
  refine is sc b env A (r'.set i y) H' _ _ _ _ hs hf F4 q' ?_
  intro f fl r5 h5 tk5 H5 q5 fr F5 S5
  have it5:ItSt h5 I p (j+1):=it4.keep fun o e=>S5.keep _ _ e nI' fun z=>nPE I z rfl
  have S05:StpP (fun b=>PE sc env b∨b=I) h1 H1 h5 H5:=(SZ.trans S3).trans ((S4.mono fun _ z=>.inl z).trans (S5.mono fun _ z=>.inl z))
  have Sfin:StpP (PE sc env) s.heap H h5 H5:=(toPE S1).trans (S05.drop1 fI)
  induction fl using FL.casesOn with
  | next=>induction f using PySem.Flow.casesOn <;> first | exact fr.elim | exact ⟨_,Nat.sub_lt_sub_left hlt (Nat.lt_succ_self j),h5,tk5,r5,H5,j+1,⟨it5,F5,hlt,q5,S05,rfl⟩,rfl⟩
  | cont=>induction f using PySem.Flow.casesOn <;> first | exact fr.elim | exact ⟨_,Nat.sub_lt_sub_left hlt (Nat.lt_succ_self j),h5,tk5,r5,H5,j+1,⟨it5,F5,hlt,q5,S05,rfl⟩,rfl⟩
  | brk=>induction f using PySem.Flow.casesOn <;> first | exact fr.elim | exact K .next .next r5 h5 tk5 H5 q5 trivial F5 Sfin
  | ret p=>induction f using PySem.Flow.casesOn <;> first | exact fr.elim | exact K (.ret _) (.ret p) r5 h5 tk5 H5 q5 fr F5 Sfin
 ·intro hend h3 eb3
  rw [hend,List.drop_length] at q'
  replace q':src H'∧Q .next r' H':=q'
  have F3:=F'.ext (fun b o hb e=>eb3 b o hb e) nk' nI' nB nL nC
  have S03:StpP (PE sc env) h1 H1 h3 H':=by
   have S:=SZ.drop1 fI
   refine ⟨fun b o e n p=>eb3 b o (fun z=>by rw [z,fI] at e; cases e) (S.keep b o e n p),S.new,fun b e=>?_⟩
   induction q:h'.get? b using Option.casesOn with
   | none=>exact absurd q (S.live b e)
   | some o=>rw [eb3 b o (fun z=>by rw [z] at e; exact e fI) q]; exact fun e=>by cases e
  exact wpAny_execs_nil (K .next .next r' h3 tk H' q'.2 trivial F3 ((toPE S1).trans S03))
end
section
variable {c:Cx} {prog:Program} {d:Nat} {C:Cl} {n:Nat} {sc:Scope} {env:Env} {A:Around} {E:Value→Shared→Prop} {s:Shared} {H H':MH} {h':Heap} {tk:Nat} {r:List PV} {P:Flow→Shared→Prop} {Q:QS}
theorem noSole {v t:Expr} {l:Nat} (h:isComp v=false):swapsWithSole [t] v l env=pure false:=by
 show swapsWith v (some t) l env=_
 exact noSwaps h
theorem soundSs (is:SS c prog d C n) (iss:SSs c prog d C n):SSs c prog d C (n+1):=by
 intro sc st env A r H s P E Q hs hf F e K
 induction st using List.casesOn with
 | nil =>
  have e:Q .next r H:=e
  exact wpAny_execs_nil (K .next .next r s.heap s.toks H e trivial F StpP.refl)
 | cons x xs =>
  replace e:wpS C (cS sc n x) r H (sq C (cSs sc n xs) Q):=e
  refine wpAny_execs_cons (is sc x env A r H s _ E _ hs (hf.mono (by lia)) F e ?_)
  intro f fl r1 h1 tk1 H1 q fr F1 S1
  induction fl using FL.casesOn with
  | next=>induction f using PySem.Flow.casesOn <;> first | exact fr.elim | exact iss sc xs env A r1 H1 _ P E Q hs (hf.mono (by lia)) F1 q (K.trans S1)
  | brk=>induction f using PySem.Flow.casesOn <;> first | exact fr.elim | exact K .brk .brk r1 h1 tk1 H1 q trivial F1 S1
  | cont=>induction f using PySem.Flow.casesOn <;> first | exact fr.elim | exact K .cont .cont r1 h1 tk1 H1 q trivial F1 S1
  | ret p=>induction f using PySem.Flow.casesOn <;> first | exact fr.elim | exact K (.ret _) (.ret p) r1 h1 tk1 H1 q fr F1 S1
theorem asg_T (ih:SE c prog d C n) {es:List Expr} {k:Nat} {tp pos:Pos} {e:Expr} {is:List Nat} (hf:Fit d A) (F:FS c sc env s.heap H r) (hs:env.scope=sc) (hc:isComp e=false)
  (hi:nameIdx sc es=some is) (hsw:pureOf (swappedStores [.Tuple es k tp] e (envD sc))=some none) (hw:wpS C (.asgT is (cE sc n e)) r H Q) (K:Kq c sc env P s H Q) :
  wpAny (model prog c.w) A (exec (.Assign [.Tuple es k tp] e pos) env) P E s:=by
 replace hw:wpX C (cE sc n e) r H fun p H=>itemsOp is.length p H fun ps=>Q .next (setAll is ps r) H:=hw
 obtain ⟨pl,l1,l2,fi,hst⟩:=nameIdx_ok (env:=env) hi
 refine wpAny_Assign_stores ?_ (noSole hc) (by rw [swapped_eq hs]; exact of_pureOf hsw)
 refine ih sc e env A r H s _ E _ hf F hw ?_
 intro v p h1 tk1 H1 q rv R1 S1
 have F1:=F.step S1 R1
 show wpAny _ _ (assign (.Tuple es k tp) env v) _ _ _
 rw [arm_assign_Tuple]
 refine wpAny_bind (wpAny_standAt ?_)
 unfold unpack
 rw [l1,l2,fi]
 refine wpAny_bind (wpAny_holding (r_unpack (s:={ s with heap:=h1,toks:=tk1 }) hf.1 R1 rv q ?_))
 intro vs ps h2 k2 hl rvs R2 S2
 have F2:=F1.step S2 R2
 refine r_storeAll (exprNames es) pl (by rw [rvs.length,hl,l2]) (by rw [List.length_map,l1]) (fun i x t a b v Q s hw=>hst i x t a b _ _ _ v Q s hw) F2 rvs ?_
 intro h3 tk3 F3 S3
 exact K .next .next _ h3 tk3 H1 k2 trivial F3 ((toPE S1).trans ((toPE (s:={ s with heap:=h1,toks:=tk1 }) S2).trans S3))
theorem asg_W (ih:SE c prog d C n) {es:List Expr} {k:Nat} {tp pos:Pos} {e:Expr} {is:List Nat} {ns:List Str} (hf:Fit d A) (F:FS c sc env s.heap H r) (hs:env.scope=sc) (hc:isComp e=false)
  (hi:nameIdx sc es=some is) (hsw:pureOf (swappedStores [.Tuple es k tp] e (envD sc))=some (some ns)) (hns:ns=exprNames es) (hw:wpS C (.asgW is (cE sc n e)) r H Q) (K:Kq c sc env P s H Q) :
  wpAny (model prog c.w) A (exec (.Assign [.Tuple es k tp] e pos) env) P E s:=by
 replace hw:wpX C (cE sc n e) r H fun p H=>itemsOp is.length p H fun ps=>Q .next (setAll is.reverse ps.reverse r) H:=hw
 subst hns
 obtain ⟨pl,l1,l2,fi,hst⟩:=nameIdx_ok (env:=env) hi
 rw [exec_Assign_arm]
 refine wpAny_bind (wpAny_standAt ?_)
 have h0:swapsWithSole [.Tuple es k tp] e pos.line env=pure false:=noSole hc
 rw [h0]
 refine wpAny_bind (wpAny_pure ?_)
 rw [if_neg (by decide)]
 refine wpAny_bind (ih sc e env A r H s _ E _ hf F hw ?_)
 intro v p h1 tk1 H1 q rv R1 S1
 have F1:=F.step S1 R1
 rw [swapped_eq hs,of_pureOf hsw]
 refine wpAny_bind (wpAny_pure ?_)
 show wpAny _ _ (do rule "assign.swapped-stores"; let items←unpackItems v (exprNames es).length none; assignInOrder ((exprNames es).reverse.map fun n=>bindName env n) items.reverse; pure Flow.next) _ _ _
 refine wpAny_bind (wpAny_rule ?_)
 rw [l2]
 refine wpAny_bind (r_unpack (s:={ s with heap:=h1,toks:=tk1 }) hf.1 R1 rv q ?_)
 intro vs ps h2 k2 hl rvs R2 S2
 have F2:=F1.step S2 R2
 refine wpAny_bind (r_storeAll (exprNames es).reverse pl.reverse (by rw [List.length_reverse,List.length_reverse,rvs.length,hl,l2]) (by rw [List.length_map]) (fun i x t a b v Q s hw=>?_) F2 rvs.reverse ?_)
 ·rw [List.getElem?_map,a] at b
  cases b
  exact wpAny_bindName hw
 intro h3 tk3 F3 S3
 exact wpAny_pure (K .next .next _ h3 tk3 H1 k2 trivial F3 ((toPE S1).trans ((toPE (s:={ s with heap:=h1,toks:=tk1 }) S2).trans S3)))
theorem getVar {i:Nat} {a:Int} (h:get r i=.int a) {Q:PV→MH→Prop} (q:Q (.int a) H):wpX C (.var i) r H Q:=by
 show (match get r i with
  | .undef=>False
  | p=>Q p H)
 rw [h]
 exact q
theorem noFree {x:Option NameKind} (kx:x=some .local∨x=some .cell∨x=some .free) (h:¬ (x==some .free)=true):x=some .local∨x=some .cell:=by
 rcases kx with k | k | k
 ·exact .inl k
 ·exact .inr k
 ·rw [k] at h; exact absurd rfl h
theorem asVar {x:X} {f:Nat→S} (h:wpS C (match x with
  | .var i=>f i
  | _=>.bad) r H Q):∃ i,x=.var i∧wpS C (f i) r H Q:=by
 induction x using X.casesOn with
 | var i=>exact ⟨i,rfl,h⟩
 | _=>exact False.elim h
theorem soundS (X:CxOk c) (ih:SE c prog d C n) (it:ST c prog d C n) (iss:SSs c prog d C n):SS c prog d C (n+1):=by
 intro sc st env A r H s P E Q hs hf F hw K
 have hf':Fit d A:=hf.mono (by lia)
 have bad:∀ {t:Stmt},wpS C .bad r H Q→wpAny (model prog c.w) A (exec t env) P E s:=fun h=>h.elim
 induction st using PySem.Stmt.casesOn with
 | Expr e pos =>
  replace hw:wpS C (if isComp e then .bad else .expr (cE sc n e)) r H Q:=hw
  split at hw
  ·exact hw.elim
  ·rename_i hc
   replace hw:wpX C (cE sc n e) r H fun _ H=>Q .next r H:=hw
   refine wpAny_Expr_any (ih sc e env A r H s _ E _ hf' F hw ?_) (noInter F) (noSwaps (by simpa using hc))
   intro v p h1 tk1 H1 q rv R1 S1
   exact K .next .next r h1 tk1 H1 q trivial (F.step S1 R1) (toPE S1)
 | Return e pos =>
  induction e using Option.casesOn with
  | none =>
   replace hw:Q (.ret .none) r H:=hw
   exact wpAny_Return_none (K (.ret .none) (.ret .none) r s.heap s.toks H hw (VR.none (gv:=c.gv) (h:=s.heap)) F StpP.refl)
  | some e =>
   replace hw:wpX C (cE sc n e) r H fun p H=>Q (.ret p) r H:=hw
   refine wpAny_Return_some (ih sc e env A r H s _ E _ hf' F hw ?_)
   intro v p h1 tk1 H1 q rv R1 S1
   exact K (.ret v) (.ret p) r h1 tk1 H1 q rv (F.step S1 R1) (toPE S1)
 | Break pos =>
  replace hw:Q .brk r H:=hw
  exact wpAny_Break (K .brk .brk r s.heap s.toks H hw trivial F StpP.refl)
 | Continue pos =>
  replace hw:Q .cont r H:=hw
  exact wpAny_Continue (K .cont .cont r s.heap s.toks H hw trivial F StpP.refl)
 | If t a b pos =>
  refine wpAny_If (it sc t env A r H s _ E (fun t H=>if t then wpSs C (cSs sc n a) r H Q else wpSs C (cSs sc n b) r H Q) hf' F ?_ ?_)
  ·exact Eq.mp (congrArg (wpX C (cE sc n t) r H) tqI) hw
  ·intro t h1 tk1 H1 q R1 S1
   induction t using Bool.casesOn with
   | true=>exact iss sc a env A r H1 _ _ E _ hs hf' (F.step S1 R1) q (K.trans (toPE S1))
   | false=>exact iss sc b env A r H1 _ _ E _ hs hf' (F.step S1 R1) q (K.trans (toPE S1))
 | While t b o pos =>
  induction o using List.casesOn with
  | cons x xs=>exact bad hw
  | nil=>exact soundWhile it iss hs hf' F hw K
 | For tg iter b o pos =>
  induction o using List.casesOn with
  | cons x xs=>exact bad (by induction tg using PySem.Expr.casesOn <;> exact hw)
  | nil =>
   induction tg using PySem.Expr.casesOn with
   | Name x px =>
    replace hw:wpS C (if noSet iter then (match cName sc x with
     | .var i=>if sc.names.lookup x==some .free then .bad else .for_ i (cE sc n iter) (cSs sc n b)
     | _=>.bad) else .bad) r H Q:=hw
    split at hw
    ·rename_i hns
     obtain ⟨i,hi,hw⟩:=asVar (f:=fun i=>if sc.names.lookup x==some .free then .bad else .for_ i (cE sc n iter) (cSs sc n b)) hw
     split at hw
     ·exact hw.elim
     ·rename_i hfree
      obtain ⟨ix,kx⟩:=cName_var hi
      exact soundFor ih iss hs hf' F hns ix (noFree kx hfree) hw K
    ·exact hw.elim
   | _=>exact bad hw
 | Assign ts e pos =>
  rcases ts with _ | ⟨t,_ | ⟨t2,tr⟩⟩
  ·exact bad hw
  ·induction t using PySem.Expr.casesOn with
   | Name x px =>
    replace hw:wpS C (if isComp e then .bad else (match cName sc x with
     | .var i=>if sc.names.lookup x==some .free then .bad else .asg i (cE sc n e)
     | _=>.bad)) r H Q:=hw
    split at hw
    ·exact hw.elim
    ·rename_i hc
     obtain ⟨i,hi,hw⟩:=asVar (f:=fun i=>if sc.names.lookup x==some .free then .bad else .asg i (cE sc n e)) hw
     ·split at hw
      ·exact hw.elim
      ·rename_i hfree
       obtain ⟨ix,kx⟩:=cName_var hi
       have kx':=noFree kx hfree
       replace hw:wpX C (cE sc n e) r H fun p H=>Q .next (r.set i p) H:=hw
       refine wpAny_Assign_Name (ih sc e env A r H s _ E _ hf' F hw ?_) (noSwaps (by simpa using hc))
       intro v p h1 tk1 H1 q rv R1 S1
       refine r_store (F.step S1 R1) ix kx' rv ?_
       intro h2 tk2 F2 S2
       exact K .next .next _ h2 tk2 H1 q trivial F2 ((toPE S1).trans S2)
   | Attribute o name ap =>
    replace hw:wpS C (if isComp e||!okBase o then .bad else (match anIdx name with
     | some k=>.asgA (cE sc n o) k (cE sc n e)
     | none=>.bad)) r H Q:=hw
    split at hw
    ·exact hw.elim
    ·rename_i hc
     simp only [Bool.or_eq_true,not_or,Bool.not_eq_true,Bool.not_eq_true'] at hc
     split at hw
     ·rename_i k hk
      obtain ⟨hk36,rfl⟩:=anIdx_ok hk
      replace hw:wpX C (cE sc n e) r H fun p H=>wpX C (cE sc n o) r H fun q H=>setA q k p H fun H=>Q .next r H:=hw
      refine wpAny_Assign_stores ?_ (noSole hc.1) (by unfold swappedStores; rfl)
      refine ih sc e env A r H s _ E _ hf' F hw ?_
      intro v p h1 tk1 H1 q rv R1 S1
      have F1:=F.step S1 R1
      show wpAny _ _ (assign (.Attribute o (an k) ap) env v) _ _ _
      rw [arm_assign_Attribute]
      refine wpAny_bind (wpAny_holding (ih sc o env A r H1 _ _ E _ hf' F1 q ?_))
      intro ov p2 h2 tk2 H2 q2 rv2 R2 S2
      have F2:=F1.step S2 R2
      refine wpAny_bind (wpAny_standAt (wpAny_bind (wpAny_holding (r_setA X F2.amb rv2 (rv.mono (S2.fix0 R1)) q2 ?_))))
      intro h3 tk3 H3 q3 R3 S3
      exact wpAny_release (K .next .next r h3 tk3 H3 q3 trivial (F2.step S3 R3) (toPE ((S1.trans S2).trans S3)))
     ·exact hw.elim
   | Subscript o i sp =>
    replace hw:wpS C (if isComp e then .bad else (match (generalizing:=false) i with
     | .Slice ..=>.bad
     | i=>.asgS (cE sc n o) (cE sc n i) (cE sc n e))) r H Q:=hw
    split at hw
    ·exact hw.elim
    ·rename_i hc
     replace hw:wpX C (cE sc n e) r H fun p H=>wpX C (cE sc n o) r H fun q H=>wpX C (cE sc n i) r H fun k H=>setS q k p H fun H=>Q .next r H:=by
      induction i using PySem.Expr.casesOn <;> first | exact hw | exact False.elim hw
     refine wpAny_Assign_Subscript (ih sc e env A r H s _ E _ hf' F hw ?_) (noSwaps (by simpa using hc))
     intro v p h1 tk1 H1 q rv R1 S1
     have F1:=F.step S1 R1
     refine ih sc o env A r H1 _ _ E _ hf' F1 q ?_
     intro ov p2 h2 tk2 H2 q2 rv2 R2 S2
     have F2:=F1.step S2 R2
     refine ih sc i env A r H2 _ _ E _ hf' F2 q2 ?_
     intro iv p3 h3 tk3 H3 q3 rv3 R3 S3
     have F3:=F2.step S3 R3
     refine r_setS F3.amb (rv2.mono (S3.fix0 R2)) rv3 ((rv.mono (S2.fix0 R1)).mono (S3.fix0 R2)) q3 ?_
     intro h4 tk4 H4 q4 R4 S4
     exact K .next .next r h4 tk4 H4 q4 trivial (F3.step S4 R4) (toPE (((S1.trans S2).trans S3).trans S4))
   | Tuple es k tp =>
    replace hw:wpS C (if isComp e then .bad else (match nameIdx sc es,pureOf (swappedStores [.Tuple es k tp] e (envD sc)) with
     | some is,some none=>.asgT is (cE sc n e)
     | some is,some (some ns)=>if ns==exprNames es then .asgW is (cE sc n e) else .bad
     | _,_=>.bad)) r H Q:=hw
    split at hw
    ·exact hw.elim
    ·rename_i hc
     have hc:isComp e=false:=by simpa using hc
     split at hw
     ·rename_i is h1 h2; exact asg_T ih hf' F hs hc h1 h2 hw K
     ·rename_i is ns h1 h2
      split at hw
      ·rename_i hns; exact asg_W ih hf' F hs hc h1 h2 (by simpa using hns) hw K
      ·exact hw.elim
     ·exact hw.elim
   | _=>exact bad hw
  ·exact bad (by induction t using PySem.Expr.casesOn <;> exact hw)
 | AugAssign t op e pos =>
  induction t using PySem.Expr.casesOn with
  | Name x px =>
   replace hw:wpS C (match cName sc x with
    | .var i=>if sc.names.lookup x==some .free then .bad else .aug i op (cE sc n e)
    | _=>.bad) r H Q:=hw
   obtain ⟨i,hi,hw⟩:=asVar (f:=fun i=>if sc.names.lookup x==some .free then .bad else .aug i op (cE sc n e)) hw
   ·split at hw
    ·exact hw.elim
    ·rename_i hfree
     obtain ⟨ix,kx⟩:=cName_var hi
     have kx':=noFree kx hfree
     have kg:sc.names.lookup x≠some .globalImplicit:=by rcases kx with k | k | k <;> rw [k] <;> exact fun e=>by cases e
     replace hw:(match get r i with
      | .int a=>wpX C (cE sc n e) r H fun q H=>(match (generalizing:=false) op,q with
       | .Add,.int b=>Q .next (r.set i (.int (a+b))) H
       | _,_=>False)
      | _=>False):=hw
     induction ha:get r i using PV.casesOn with
     | int a =>
      rw [ha] at hw
      refine wpAny_AugAssign_Name ((r_load (C:=C) (pos:=px) X F (Q:=fun p H2=>p=.int a∧H2=H) (by rw [hi]; exact getVar ha ⟨rfl,rfl⟩) ?_).2 kg)
      rintro v p h0 tk0 H0 ⟨rfl,rfl⟩ rv0 R0 S0
      obtain ⟨_,rfl⟩:=rv0.inv
      have F0:=F.step S0 R0
      refine ih sc e env A r H0 _ _ E _ hf' F0 hw ?_
      intro v2 p2 h1 tk1 H1 q rv R1 S1
      induction op using PySem.Operator.casesOn <;> try exact False.elim q
      induction p2 using PV.casesOn with
      | int b =>
       obtain ⟨_,rfl⟩:=rv.inv
       refine iadd_int ?_
       refine r_store (s:={ s with heap:=h1,toks:=tk1+1 }) (F0.step S1 R1) ix kx' (.int _ _) ?_
       intro h2 tk2 F2 S2
       exact K .next .next _ h2 tk2 H1 q trivial F2 ((toPE (S0.trans S1)).trans S2)
      | _=>exact False.elim q
     | _=>rw [ha] at hw; exact False.elim hw
  | Attribute o name ap =>
   replace hw:wpS C (if !okBase o then .bad else (match anIdx name with
    | some k=>.augA (cE sc n o) k op (cE sc n e)
    | none=>.bad)) r H Q:=hw
   split at hw
   ·exact hw.elim
   ·rename_i hb
    split at hw
    ·rename_i k hk
     obtain ⟨hk36,rfl⟩:=anIdx_ok hk
     replace hw:wpX C (cE sc n o) r H fun q H=>attrOp q k H fun p H=>wpX C (cE sc n e) r H fun y H=>(match (generalizing:=false) op,p,y with
      | .Add,.int a,.int b=>setA q k (.int (a+b)) H fun H=>Q .next r H
      | _,_,_=>False):=hw
     refine wpAny_AugAssign_AttributeAny (ih sc o env A r H s _ E _ hf' F hw ?_)
     intro ov p h1 tk1 H1 q rv R1 S1
     have F1:=F.step S1 R1
     refine r_attr X F1.amb rv q ?_
     intro v2 p2 h2 tk2 H2 q2 rv2 R2 S2
     have F2:=F1.step S2 R2
     refine ih sc e env A r H2 _ _ E _ hf' F2 q2 ?_
     intro v3 p3 h3 tk3 H3 q3 rv3 R3 S3
     have F3:=F2.step S3 R3
     induction op using PySem.Operator.casesOn <;> try exact False.elim q3
     induction p2 using PV.casesOn <;> try exact False.elim q3
     induction p3 using PV.casesOn with
     | int b =>
      obtain ⟨_,rfl⟩:=rv2.inv
      obtain ⟨_,rfl⟩:=rv3.inv
      refine iadd_int ?_
      refine r_setA (s:={ s with heap:=h3,toks:=tk3+1 }) X F3.amb ((rv.mono (S2.fix0 R1)).mono (S3.fix0 R2)) (.int _ _) q3 ?_
      intro h4 tk4 H4 q4 R4 S4
      exact K .next .next r h4 tk4 H4 q4 trivial (F3.step S4 R4) (toPE (((S1.trans S2).trans S3).trans S4))
     | _=>exact False.elim q3
    ·exact hw.elim
  | _=>exact bad hw
 | _=>exact bad hw
theorem soundSt (X:CxOk c) (hC:COkD c prog d C):∀ n,SS c prog d C n∧SSs c prog d C n
 | 0=>by
  refine ⟨?_,?_⟩
  ·intro sc st env A r H s P E Q hs hf F hw K; exact hw.elim
  ·intro sc st env A r H s P E Q hs hf F hw K
   induction st using List.casesOn with
   | nil =>
    have e:Q .next r H:=hw
    exact wpAny_execs_nil (K .next .next r s.heap s.toks H e trivial F StpP.refl)
   | cons x xs=>exact hw.elim
 | n+1=>by
  obtain ⟨a,b⟩:=soundSt X hC n
  obtain ⟨e,t,_,_⟩:=sound X hC n
  exact ⟨soundS X e t b,soundSs a b⟩
end
structure FnOk (c:Cx) (k n:Nat) (fd:FuncData) (body:List Stmt):Prop where
 ex:∃ a oc od osl,c.gv k=.ref a∧c.K.lookup a=some ⟨oc,od,.func fd,osl⟩
 body:fd.body=.stmts body
 g:fd.globals=mainGlobals
 b:fd.builtins=builtinsNs
 clo:fd.closure=[]
 code:codeIn c.K fd.code fd.qualname=true
 co:fd.scope.isCoroutine=false
 gen:fd.scope.isGenerator=false
 kind:fd.scope.kind=.function
 free:∀ y∈fd.scope.names,y.2≠.free
 dup:(fd.scope.names.map (·.1)).Nodup
 small:fd.scope.names.length≤1000
 few:n≤fd.scope.names.length
 par:∀ y∈fd.scope.names.take n,y.2=.local∨y.2=.cell
 bind:∀ vals,vals.length=n→bindArgs fd ⟨vals,[]⟩=pure (((fd.scope.names.take n).map (·.1)).zip vals)
theorem cells_some:∀ (names:List (Str×NameKind)) (b:Nat) (acc:List (Str×Addr)) (x:Str),((x,NameKind.cell)∈names∨(acc.lookup x).isSome=true)→((cellsFrom b names acc).lookup x).isSome=true
 | [],b,acc,x,h=>by
  unfold cellsFrom
  exact h.resolve_left (by simp)
 | (n,k)::r,b,acc,x,h=>by
  unfold cellsFrom
  split
  ·rename_i hk
   refine cells_some r _ _ x ?_
   rcases h with h | h
   ·rcases List.mem_cons.mp h with h | h
    ·cases h; right; rw [List.lookup_cons]; simp
    ·exact .inl h
   ·right
    rw [List.lookup_cons]
    induction hx:x==n using Bool.casesOn with
    | true=>rfl
    | false=>exact h
  ·rename_i hk
   refine cells_some r _ _ x ?_
   rcases h with h | h
   ·rcases List.mem_cons.mp h with h | h
    ·cases h; simp at hk
    ·exact .inl h
   ·exact .inr h
theorem bindL_not {kf:Str→Option NameKind} {x:Str}:∀ {bs:List (Str×Value)} {m:Str→Option Value},(∀ y∈bs,y.1≠x)→bindL kf bs m x=m x
 | [],m,_=>rfl
 | (n,v)::r,m,h=>by
  unfold bindL
  rw [bindL_not fun y hy=>h y (List.mem_cons_of_mem _ hy)]
  split
  ·exact if_neg (Ne.symm (h (n,v) List.mem_cons_self))
  ·rfl
theorem bindC_not {kf:Str→Option NameKind} {x:Str}:∀ {bs:List (Str×Value)} {m:Str→Option Value},(∀ y∈bs,y.1≠x)→bindC kf bs m x=m x
 | [],m,_=>rfl
 | (n,v)::r,m,h=>by
  unfold bindC
  rw [bindC_not fun y hy=>h y (List.mem_cons_of_mem _ hy)]
  split
  ·rfl
  ·exact if_neg (Ne.symm (h (n,v) List.mem_cons_self))
theorem bindL_at {kf:Str→Option NameKind} {x:Str} {v:Value} (hk:kf x=some .local):∀ {bs:List (Str×Value)} {m:Str→Option Value},(bs.map (·.1)).Nodup→(x,v)∈bs→bindL kf bs m x=some v
 | (n,w)::r,m,hd,h=>by
  unfold bindL
  rw [List.map_cons,List.nodup_cons] at hd
  rcases List.mem_cons.mp h with h | h
  ·cases h
   rw [bindL_not fun y hy e=>hd.1 (List.mem_map.mpr ⟨y,hy,e⟩),if_pos hk]
   simp
  ·exact bindL_at hk hd.2 h
theorem bindC_at {kf:Str→Option NameKind} {x:Str} {v:Value} (hk:kf x≠some .local):∀ {bs:List (Str×Value)} {m:Str→Option Value},(bs.map (·.1)).Nodup→(x,v)∈bs→bindC kf bs m x=some v
 | (n,w)::r,m,hd,h=>by
  unfold bindC
  rw [List.map_cons,List.nodup_cons] at hd
  rcases List.mem_cons.mp h with h | h
  ·cases h
   rw [bindC_not fun y hy e=>hd.1 (List.mem_map.mpr ⟨y,hy,e⟩),if_neg hk]
   simp
  ·exact bindC_at hk hd.2 h
theorem nodup_lookup:∀ {l:List (Str×NameKind)} {x:Str} {k:NameKind},(l.map (·.1)).Nodup→(x,k)∈l→l.lookup x=some k
 | (n,j)::r,x,k,hd,h=>by
  rw [List.map_cons,List.nodup_cons] at hd
  rw [List.lookup_cons]
  rcases List.mem_cons.mp h with h1 | h1
  ·cases h1; simp
  ·have:(x==n)=false:=by
    rw [beq_eq_false_iff_ne]
    intro e
    exact hd.1 (e ▸ List.mem_map.mpr ⟨(x,k),h1,rfl⟩)
   rw [this]
   exact nodup_lookup hd.2 h1
section
variable {c:Cx} {prog:Program} {d k n m:Nat}
noncomputable def CS (c:Cx) (prog:Program) (d:Nat):Cl:=fun f args H Q=>match f with
 | .fn k=>k<90∧∀ (A:Around) (s:Shared) (vs:List Value) (P E:Value→Shared→Prop),Fit d A→Amb c s.heap H→VRs c.gv s.heap vs args→Kv c.gv P s H Q→codeAny (model prog c.w) A (.call (c.gv k) ⟨vs,[]⟩) (fun r s'=>match r with | .ok (.ret v)=>P v s' | .ok _=>False | .error e=>E e s') s
 | _=>False
theorem CS.ok:COkD c prog d (CS c prog d):=fun A hf k args H Q s vs P E am rs e K=>⟨e.1,wpAny_call (e.2 A s vs P E hf am rs K)⟩
theorem CS.mono {d':Nat} {args:List PV} {H:MH} {Q:PV→MH→Prop} (h:CS c prog d (.fn k) args H Q) (hd:d≤d'):CS c prog d' (.fn k) args H Q :=
 ⟨h.1,fun A s vs P E hf am rs K=>h.2 A s vs P E (hf.mono hd) am rs K⟩
noncomputable def retQ (Q:PV→MH→Prop):QS:=fun fl _ H=>match fl with
 | .ret p=>Q p H
 | .next=>Q .none H
 | _=>False
theorem fnEnter (X:CxOk c) {fd:FuncData} {body:List Stmt} {args:List PV} {H:MH} {A:Around} {s:Shared} {vs:List Value} {R:Result→Shared→Prop} (fo:FnOk c k n fd body) (hn:args.length=n) (hf:Fit (d+1) A) (am:Amb c s.heap H) (hvs:vs.length=n)
  (rg:∀ (i:Nat) p,args[i]?=some p→isU p=false→∃ v,vs[i]?=some v∧VR c.gv s.heap v p)
  (h:∀ env h' tk,env.scope=fd.scope→FS c fd.scope env h' H (args++List.replicate (fd.scope.names.length - n) .undef)→Stp s.heap H h' H→(∀ b o,s.heap.get? b=some o→h'.get? b=some o)→(∀ b,PE fd.scope env b→s.heap.get? b=none)→Fit d (A.deeper env) →
   (∃ m,h'.Ns env.locals m∧∀ x (i:Nat) v,fd.scope.names.lookup x=some .local→idx fd.scope x=some i→i<n→vs[i]?=some v→m x=some v) →
   ∀ E',wpAny (model prog c.w) (A.deeper env) (execs body env) (fun f s'=>R (.ok (.ret (match f with | .ret v=>v | _=>.none))) s') E' { s with heap:=h',toks:=tk }) :
  codeAny (model prog c.w) A (.call (c.gv k) ⟨vs,[]⟩) R s:=by
 obtain ⟨a,oc,od,osl,hgv,hlk⟩:=fo.ex
 rw [hgv]
 have Xin:=am.kin X
 have htl:(fd.scope.names.take n).length=n:=by rw [List.length_take]; have:=fo.few; lia
 have hnm:(((fd.scope.names.take n).map (·.1)).zip vs).map (·.1)=(fd.scope.names.take n).map (·.1):=List.map_fst_zip (by rw [List.length_map,htl,hvs]; exact Nat.le_refl _)
 have hnd:((((fd.scope.names.take n).map (·.1)).zip vs).map (·.1)).Nodup:=by
  rw [hnm,List.map_take]
  exact fo.dup.sublist (List.take_sublist _ _)
 have inNames:∀ y∈((fd.scope.names.take n).map (·.1)).zip vs,∃ k,(y.1,k)∈fd.scope.names∧fd.scope.names.lookup y.1=some k∧(k=.local∨k=.cell):=fun y hy=>by
  have h1:y.1∈(fd.scope.names.take n).map (·.1):=by
   rw [← hnm]; exact List.mem_map.mpr ⟨y,hy,rfl⟩
  obtain ⟨z,hz,e⟩:=List.mem_map.mp h1
  have hz':=List.mem_of_mem_take hz
  refine ⟨z.2,by rw [← e]; exact hz',?_,fo.par z hz⟩
  rw [← e]
  exact nodup_lookup fo.dup hz'
 refine codeAny_call_function (by have:=hf.2.1; show A.depth<1000; lia) (Xin _ _ hlk) rfl fo.co fo.gen fo.body (codeRec_of Xin fo.code) ?_
 rw [fo.bind vs hvs,fo.clo]
 refine wpAny_pure (wpAny_newFunctionEnv_cells fo.kind ?_ ?_)
 ·intro y hy
  obtain ⟨k,h1,h2,h3⟩:=inNames y hy
  rcases h3 with rfl | rfl
  ·exact .inl h2
  ·exact .inr ⟨h2,cells_some _ _ _ _ (.inl h1)⟩
 intro env he s' hi
 have hlim:s'.heap.NoLimit:=(X.lim.keeps am.keeps).keeps hi.toInCall.keep
 refine ⟨hlim,codeAny_func ?_⟩
 have hsc:env.scope=fd.scope:=by rw [he]; rfl
 have hce:env.cells=cellsFrom (s.heap.objs.size+1) fd.scope.names []:=by rw [he]; rfl
 obtain ⟨h',tk,rfl⟩:=hi.toInCall.same
 have kp:∀ b o,s.heap.get? b=some o→h'.get? b=some o:=hi.toInCall.keep
 have S0:Stp s.heap H h' H:=⟨fun b o e _ _=>kp b o e,fun b e=>.inl e,fun b e=>by
  induction q:s.heap.get? b using Option.casesOn with
  | none=>exact absurd q e
  | some o=>rw [kp b o q]; exact fun e=>by cases e⟩
 have fx:Fix s.heap h':=fun b o e _=>kp b o e
 have R0:Rep c.gv h' H:=fun a m e=>(am.rep a m e).mono fx fun ob g=>kp a ob g
 have am':Amb c h' H:=am.step S0 R0
 have ge:∀ b,s.heap.objs.size≤b→s.heap.get? b=none:=fun b hb=>by
  induction q:s.heap.get? b using Option.casesOn with
  | none=>rfl
  | some o=>exact absurd (Heap.lt_size q) (Nat.not_lt.mpr hb)
 have hL:s.heap.get? env.locals=none:=ge _ hi.toInCall.fresh
 have hCn:∀ x a,env.cells.lookup x=some a→s.heap.get? a=none:=fun x a e =>
  ge _ (Nat.le_of_lt (Nat.lt_of_le_of_lt hi.toInCall.fresh (hi.above x a (mem_of_lookup e))))
 have bn:∀ b,s.heap.get? b=none→c.base.get? b=none:=fun b e=>by
  induction q:c.base.get? b using Option.casesOn with
  | none=>rfl
  | some o=>rw [am.keeps b o q] at e; cases e
 have zipAt:∀ x (i:Nat) v,idx fd.scope x=some i→∀ k,fd.scope.names.lookup x=some k→i<n→vs[i]?=some v→(x,v)∈((fd.scope.names.take n).map (·.1)).zip vs:=fun x i v ix k kx hin hv=>by
  have hxi:((fd.scope.names.take n).map (·.1))[i]?=some x:=by
   rw [List.getElem?_map,List.getElem?_take,if_pos (by lia),idx_lookup ix kx]
   rfl
  refine List.mem_of_getElem? (i:=i) ?_
  rw [List.getElem?_zip_eq_some]
  exact ⟨hxi,hv⟩
 have valAt:∀ x (i:Nat) p,idx fd.scope x=some i→∀ k,fd.scope.names.lookup x=some k→(args++List.replicate (fd.scope.names.length - n) PV.undef)[i]?=some p→isU p=false→∃ v,(x,v)∈((fd.scope.names.take n).map (·.1)).zip vs∧VR c.gv h' v p:=fun x i p ix k kx rp up=>by
  have hin:i<args.length:=by
   refine Nat.lt_of_not_le fun hle=>?_
   rw [List.getElem?_append_right hle] at rp
   have:=List.mem_replicate.mp (List.mem_of_getElem? rp)
   rw [this.2] at up; cases up
  rw [List.getElem?_append_left hin] at rp
  obtain ⟨v,hv,rv⟩:=rg i p rp up
  exact ⟨v,zipAt x i v ix k kx (by lia) hv,rv.mono fx⟩
 have FS0:FS c fd.scope env h' H (args++List.replicate (fd.scope.names.length - n) .undef):={
  amb:=am'
  fn:=by rw [hsc]; exact fo.kind
  g:=by rw [he]; exact fo.g
  b:=by rw [he]; exact fo.b
  kd:=fun x=>.inl (by unfold Env.kindOf; rw [hsc])
  loc:=⟨_,hi.toInCall.ns,fun x i p ix kx rp up=>by
   obtain ⟨v,hv,rv⟩:=valAt x i p ix _ kx rp up
   exact ⟨v,bindL_at (by unfold Env.kindOf; rw [hsc]; exact kx) hnd hv,rv⟩⟩
  cel:=fun x i ix kx=>by
   have kx:fd.scope.names.lookup x=some .cell:=kx.resolve_right fun e=>by
    obtain ⟨l1,l2,e,_⟩:=List.lookup_eq_some_iff.mp e
    exact fo.free (x,.free) (by rw [e]; simp) rfl
   have hm:(x,NameKind.cell)∈fd.scope.names:=by
    obtain ⟨l1,l2,e,_⟩:=List.lookup_eq_some_iff.mp kx
    rw [e]; simp
   obtain ⟨a,ha⟩:=Option.isSome_iff_exists.mp (cells_some fd.scope.names (s.heap.objs.size+1) [] x (.inl hm))
   rw [← hce] at ha
   refine ⟨a,_,ha,hi.cell x a ha,fun p rp up=>?_⟩
   obtain ⟨v,hv,rv⟩:=valAt x i p ix _ kx rp up
   exact ⟨v,bindC_at (by unfold Env.kindOf; rw [hsc,kx]; exact fun e=>by cases e) hnd hv,rv⟩
  rl:=by rw [List.length_append,List.length_replicate,hn]; have:=fo.small; have:=fo.few; lia
  lH:=am.rep.free hL
  lB:=bn _ hL
  cB:=fun x a _ e=>bn _ (hCn x a e)
  cL:=fun x a e=>Nat.ne_of_gt (hi.above x a (mem_of_lookup e))
  cI:=fun x y a _ e1 e2=>name_of_addr hi.apart (mem_of_lookup e1) (mem_of_lookup e2) }
 have hfit:Fit d (A.deeper env):=⟨hf.1,by have:=hf.2.1; show A.depth+1+d<990; lia,by have:=hf.2.2; show A.units+3+4*d+2200<cLine; lia⟩
 refine h env h' tk hsc FS0 S0 kp ?_ hfit ⟨_,hi.toInCall.ns,fun x i v kx ix hin hv=>bindL_at (by unfold Env.kindOf; rw [hsc]; exact kx) hnd (zipAt x i v ix _ kx hin hv)⟩ _
 rintro b (z | ⟨x,kx,ex⟩)
 ·rw [z]; exact hL
 ·exact hCn x b ex
theorem fnCall (X:CxOk c) {fd:FuncData} {body:List Stmt} {args:List PV} {H:MH} {Q:PV→MH→Prop} (fo:FnOk c k n fd body) (hk:k<90) (hn:args.length=n) {F:Nat}
  (hw:wpSs (CS c prog d) (cSs fd.scope F body) (args++List.replicate (fd.scope.names.length - n) .undef) H (retQ Q)):CS c prog (d+1) (.fn k) args H Q:=by
 refine ⟨hk,fun A s vs P E hf am rs K=>?_⟩
 refine fnEnter X fo hn hf am (by rw [rs.length,hn]) (fun i p e _=>rs.get e) ?_
 intro env h' tk hsc FS0 S0 kp pn hfit _ E'
 refine (soundSt X CS.ok F).2 fd.scope body env (A.deeper env) _ H _ _ _ (retQ Q) hsc hfit FS0 hw ?_
 intro f fl r2 h2 tk2 H2 q fr F2 S2
 have Sfin:Stp s.heap H h2 H2:=StpP.drop S2 S0 pn
 induction fl using FL.casesOn with
 | next=>induction f using PySem.Flow.casesOn <;> first | exact fr.elim | exact K .none .none h2 tk2 H2 q .none F2.amb.rep Sfin
 | ret p=>induction f using PySem.Flow.casesOn <;> first | exact fr.elim | exact K _ p h2 tk2 H2 q fr F2.amb.rep Sfin
 | brk=>exact q.elim
 | cont=>exact q.elim
end
structure MkOk (c:Cx) (k ki:Nat):Prop where
 ex:∃ C fI,c.gv k=.ref C∧c.gv ki=.ref fI∧makesIn c.K C=true∧findIn c.K (.ref C) "__init__" = some (some (.ref fI))∧typeIn c.K (.ref fI)=some (.type "function")
theorem typeCall_units (C:Addr) (vs:List Value):(Code.builtin "type.__call__" ⟨.ref C::vs,[]⟩).cUnits=1∧(Code.builtin "type.__call__" ⟨.ref C::vs,[]⟩).weight=1:=⟨by kernel_rfl,by kernel_rfl⟩
section
variable {c:Cx} {prog:Program} {d k ki:Nat}
theorem clsCall (X:CxOk c) {args:List PV} {H:MH} {Q:PV→MH→Prop} (mk:MkOk c k ki) (h40:40≤k) (h44:k<44)
  (h:∀ x dx,H x=none→H dx=none→x≠dx→CS c prog d (.fn ki) (.ref x::args) (upd (upd H dx (.ns [])) x (.inst k dx)) (fun p H2=>p=.none∧Q (.ref x) H2)):CS c prog (d+5) (.fn k) args H Q:=by
 refine ⟨by lia,fun A s vs P E hf am rs K=>?_⟩
 obtain ⟨C,fI,hgv,hgi,hm,hi,hty⟩:=mk.ex
 rw [hgv]
 have Xin:=am.kin X
 obtain ⟨h0,g0,d0,t0,os0⟩:=s
 refine make_core (makes_of Xin hm) (looks_findIn Xin hi) (fun self=>bind_fn Xin self hty) (.inl rfl) ?_
 have am:Amb c h0 H:=am
 have R:=am.rep
 have e1:h0.get? h0.objs.size=none:=free_top
 obtain ⟨R1,S1⟩:=r_alloc (o:=emptyDict) (m:=.ns []) R ⟨[],0,Heap.get?_push_size _ rfl,.nil⟩
 have hg1:(h0.push emptyDict).get? h0.objs.size=some emptyDict:=Heap.get?_push_size _ rfl
 have hsz:(h0.push emptyDict).objs.size=h0.objs.size+1:=Heap.size_push ..
 obtain ⟨R2,S2⟩:=r_alloc (o:=instObj C h0.objs.size) (m:=.inst k h0.objs.size) R1 ⟨⟨h40,h44⟩,C,hgv,Heap.get?_push_size _ rfl⟩
 rw [hsz] at R2 S2
 have am2:=(am.step S1 R1).step S2 R2
 have hn1:H (h0.objs.size+1)=none:=by
  have:=R1.top
  rw [hsz,upd_other (Nat.succ_ne_self _)] at this
  exact this
 have hc:=h (h0.objs.size+1) h0.objs.size hn1 R.top (Nat.succ_ne_self _)
 have hu:=typeCall_units C vs
 have hfit:Fit d (A.under (.builtin "type.__call__" ⟨.ref C::vs,[]⟩)):=⟨hf.1,by have:=hf.2.1; show A.depth+_+d<990; lia,by have:=hf.2.2; show A.units+_+4*d+2200<cLine; lia⟩
 have fx:Fix h0 ((h0.push emptyDict).push (instObj C h0.objs.size)):=fun b o e _=>Heap.get?_push_of_some _ (Heap.get?_push_of_some _ e)
 have:=hc.2 (A.under (.builtin "type.__call__" ⟨.ref C::vs,[]⟩)) ⟨(h0.push emptyDict).push (instObj C h0.objs.size),g0,d0,t0,os0⟩ (.ref (h0.objs.size+1)::vs) (fun v s'=>v=.none∧P (.ref (h0.objs.size+1)) s') E hfit am2 (.cons (.ref _) (rs.mono fx)) ?_
 ·rw [hgi] at this
  refine codeAny_mono this fun r s' hr=>?_
  rcases r with e | (v | _ | _ | _) <;> first | exact hr | exact hr.elim
 ·rintro v p h' tk H' ⟨rfl,q⟩ rv R' S'
  obtain rfl:=rv.inv
  exact ⟨rfl,K (.ref _) (.ref _) h' tk H' q (.ref _) R' ((S1.trans S2).trans S')⟩
end
theorem zip_lookup_some {n:Str}:∀ {ns:List Str} {vs:List Value},ns.length=vs.length→n∈ns→∃ v,(ns.zip vs).lookup n=some v
 | [],_,_,h=>by cases h
 | x::ns,[],hl,_=>by cases hl
 | x::ns,v::vs,hl,h=>by
  rw [List.zip_cons_cons,List.lookup_cons]
  induction hx:n==x using Bool.casesOn with
  | true=>exact ⟨v,rfl⟩
  | false =>
   rcases List.mem_cons.mp h with h | h
   ·rw [h] at hx; simp at hx
   ·exact zip_lookup_some (by simpa using hl) h
theorem missing_nil {ns:List Str} {vs:List Value} (hl:ns.length=vs.length):(ns.filter fun n=>((ns.zip vs).lookup n).isNone)=[]:=by
 rw [List.filter_eq_nil_iff]
 intro n hn
 obtain ⟨v,hv⟩:=zip_lookup_some hl hn
 rw [hv]; simp
theorem binds_zip:∀ {ns:List Str} {vs:List Value},ns.Nodup→ns.length=vs.length→(ns.filterMap fun n=>((ns.zip vs).lookup n).map (n,·))=ns.zip vs:=by
 have go:∀ (pre:List (Str×Value)) (ns:List Str) (vs:List Value),ns.Nodup→ns.length=vs.length→(∀ x∈ns,∀ y∈pre,y.1≠x)→(ns.filterMap fun n=>((pre++ns.zip vs).lookup n).map (n,·))=ns.zip vs:=by
  intro pre ns
  induction ns generalizing pre with
  | nil=>intros; rfl
  | cons x ns ih =>
   intro vs hd hl hp
   induction vs using List.casesOn with
   | nil=>cases hl
   | cons v vs =>
    rw [List.nodup_cons] at hd
    have hx:(pre++(x::ns).zip (v::vs)).lookup x=some v:=by
     rw [List.lookup_append,List.zip_cons_cons,List.lookup_cons]
     have:pre.lookup x=none:=by
      rw [List.lookup_eq_none_iff]
      intro p hpp
      simpa using Ne.symm (hp x List.mem_cons_self p hpp)
     rw [this]; simp
    rw [List.filterMap_cons,hx,List.zip_cons_cons]
    simp only [Option.map_some]
    congr 1
    have:=ih (pre++[(x,v)]) vs hd.2 (by simpa using hl) (fun y hy p hpp=>by
     rcases List.mem_append.mp hpp with h | h
     ·exact hp y (List.mem_cons_of_mem _ hy) p h
     ·rw [List.mem_singleton] at h
      rw [h]
      rintro rfl
      exact hd.1 hy)
    rw [List.append_assoc] at this
    exact this
 intro ns vs hd hl
 have:=go [] ns vs hd hl (fun _ _ y hy=>by cases hy)
 simpa using this
noncomputable def Arguments.plain (p:Arguments):Bool:=p.posonlyargs.isEmpty&&(p.vararg.isNone&&(p.kwonlyargs.isEmpty&&p.kwarg.isNone))
noncomputable def isNoneV:Value→Bool
 | .none=>true
 | _=>false
theorem isNoneV_eq {v:Value} (h:isNoneV v=true):v=.none:=by
 induction v using Value.casesOn <;> first | rfl | exact Bool.noConfusion h
theorem bind_ok {fd:FuncData} {vals:List Value} (hp:Arguments.plain fd.params=true) (hd:isNoneV fd.defaults=true) (hn:(fd.params.args.map (·.arg)).Nodup) (hl:fd.params.args.length=vals.length) :
  bindArgs fd ⟨vals,[]⟩=pure ((fd.params.args.map (·.arg)).zip vals):=by
 rcases fd with ⟨name,qualname,⟨po,a,va,ko,kd,kw,df⟩,body,scope,globals,closure,defaults,kwdefaults⟩
 unfold Arguments.plain at hp
 rw [Bool.and_eq_true,Bool.and_eq_true,Bool.and_eq_true] at hp
 obtain ⟨h1,h2,h3,h4⟩:=hp
 obtain rfl:po=[]:=List.isEmpty_iff.mp h1
 obtain rfl:va=none:=Option.isNone_iff_eq_none.mp h2
 obtain rfl:ko=[]:=List.isEmpty_iff.mp h3
 obtain rfl:kw=none:=Option.isNone_iff_eq_none.mp h4
 obtain rfl:defaults=.none:=isNoneV_eq hd
 clear h1 h2 h3 h4 hd
 replace hn:(List.map (fun (x:Arg)=>x.arg) a).Nodup:=hn
 replace hl:a.length=vals.length:=hl
 have hl':(List.map (fun (x:Arg)=>x.arg) a).length=vals.length:=by rw [List.length_map]; exact hl
 have hm:(!((List.take ((List.map (fun (x:Arg)=>x.arg) a).length - (List.drop (0 - (List.map (fun (x:Arg)=>x.arg) a).length) ([]:List Value)).length) (List.map (fun (x:Arg)=>x.arg) a)).filter fun n=>(((List.map (fun (x:Arg)=>x.arg) a).zip vals).lookup n).isNone).isEmpty)=false:=by
  rw [List.drop_nil,List.length_nil,Nat.sub_zero,List.take_length,missing_nil hl']; rfl
 refine (if_neg (c:=(decide (vals.length>(List.map (fun (x:Arg)=>x.arg) a).length)&&true)=true) (by rw [hl']; simp)).trans ?_
 refine (if_neg (c:=(!((List.take ((List.map (fun (x:Arg)=>x.arg) a).length - (List.drop (0 - (List.map (fun (x:Arg)=>x.arg) a).length) ([]:List Value)).length) (List.map (fun (x:Arg)=>x.arg) a)).filter fun n=>(((List.map (fun (x:Arg)=>x.arg) a).zip vals).lookup n).isNone).isEmpty)=true) (by rw [hm]; exact Bool.false_ne_true)).trans ?_
 have hz:∀ k,(List.drop k (List.map (fun (x:Arg)=>x.arg) a)).zip (List.drop (0 - (List.map (fun (x:Arg)=>x.arg) a).length) ([]:List Value))=[]:=fun k=>by rw [List.drop_nil]; exact List.zip_nil_right
 refine Eq.trans (b:=(forIn ([]:List (Str×Value)) _ _ >>= _)) (congrArg (fun l=>(forIn l _ _ >>= _)) (hz _)) ?_
 have e:(List.map (fun (x:Arg)=>x.arg) a++[]).filterMap (fun n=>(((List.map (fun (x:Arg)=>x.arg) a).zip vals).lookup n).map (n,·))=(List.map (fun (x:Arg)=>x.arg) a).zip vals:=by
  rw [List.append_nil]; exact binds_zip hn hl'
 exact congrArg (pure (f:=Sem)) e
noncomputable def fnCond (K:Frag) (fd:FuncData) (n:Nat):Bool:=Arguments.plain fd.params&&(isNoneV fd.defaults&&(fd.globals==mainGlobals&&(fd.builtins==builtinsNs&&(fd.closure.isEmpty&&(codeIn K fd.code fd.qualname&&(!fd.scope.isCoroutine&&(!fd.scope.isGenerator&&(fd.scope.kind==.function &&
    (fd.scope.names.all (fun y=>y.2 != .free)&&(decide (fd.scope.names.map (·.1)).Nodup&&(decide (fd.scope.names.length≤1000)&&(decide (n≤fd.scope.names.length)&&((fd.scope.names.take n).all (fun y=>y.2==.local||y.2==.cell) &&
    fd.params.args.map (·.arg)==(fd.scope.names.take n).map (·.1))))))))))))))
noncomputable def fnRun (K:Frag) (n F:Nat) (fd:FuncData):FuncBody→Option (Ss×Nat)
 | .stmts body=>if fnCond K fd n=true then some (cSs fd.scope F body,fd.scope.names.length - n) else none
 | _=>none
noncomputable def fnDat (K:Frag) (n F:Nat):Data→Option (Ss×Nat)
 | .func fd=>fnRun K n F fd fd.body
 | _=>none
noncomputable def fnChk (K:Frag) (a:Addr) (n F:Nat):Option (Ss×Nat):=match K.lookup a with
 | some o=>fnDat K n F o.data
 | none=>none
noncomputable def FnB (c:Cx) (k n m:Nat) (b:Ss):Prop:=∃ fd body,FnOk c k n fd body∧cSs fd.scope 40 body=b∧fd.scope.names.length - n=m
theorem fnOk_of {c:Cx} {k a n:Nat} {oc:Value} {od:Option Addr} {fd:FuncData} {osl:Array (Option Value)} {body:List Stmt} (hg:c.gv k=.ref a) (hlk:c.K.lookup a=some ⟨oc,od,.func fd,osl⟩) (hb:fd.body=.stmts body) (hc:fnCond c.K fd n=true):FnOk c k n fd body:=by
 unfold fnCond at hc
 simp only [Bool.and_eq_true] at hc
 refine cj8 hc fun h1 h2 h3 h4 h5 h6 h7 hc=>cj8 hc fun h8 h9 h10 h11 h12 h13 h14 h15=>?_
 clear hc
 have h15:fd.params.args.map (·.arg)=(fd.scope.names.take n).map (·.1):=by simpa using h15
 have h11:(fd.scope.names.map (·.1)).Nodup:=of_decide_eq_true h11
 have h13:n≤fd.scope.names.length:=of_decide_eq_true h13
 have hnd:(fd.params.args.map (·.arg)).Nodup:=by
  rw [h15,List.map_take]
  exact h11.sublist (List.take_sublist _ _)
 have hlen:fd.params.args.length=n:=by
  have:=congrArg List.length h15
  rw [List.length_map,List.length_map,List.length_take,Nat.min_eq_left h13] at this
  exact this
 exact ⟨⟨a,oc,od,osl,hg,hlk⟩,hb,by simpa using h3,by simpa using h4,by simpa using h5,h6,by simpa using h7,by simpa using h8,by simpa using h9,fun y hy=>by simpa using List.all_eq_true.mp h10 y hy,h11,of_decide_eq_true h12,h13,
  fun y hy=>by simpa using List.all_eq_true.mp h14 y hy,fun vals hv=>by rw [bind_ok h1 h2 hnd (by rw [hlen,hv]),h15]⟩
theorem fnChk_ok {c:Cx} {k a n m:Nat} {b:Ss} (hg:c.gv k=.ref a) (h:fnChk c.K a n 40=some (b,m)):FnB c k n m b:=by
 unfold fnChk at h
 rcases hlk:c.K.lookup a with _ | ⟨oc,od,dt,osl⟩
 ·rw [hlk] at h; exact nomatch h
 rw [hlk] at h
 induction dt using Data.casesOn with
 | func fd =>
  replace h:fnRun c.K n 40 fd fd.body=some (b,m):=h
  rcases hb:fd.body with body | e
  ·rw [hb] at h
   replace h:(if fnCond c.K fd n=true then some (cSs fd.scope 40 body,fd.scope.names.length - n) else none)=some (b,m):=h
   by_cases hc:fnCond c.K fd n=true
   ·rw [if_pos hc] at h
    exact ⟨fd,body,fnOk_of hg hlk hb hc,congrArg Prod.fst (Option.some.inj h),congrArg Prod.snd (Option.some.inj h)⟩
   ·rw [if_neg hc] at h; exact nomatch h
  ·rw [hb] at h; exact nomatch h
 | _=>exact nomatch h
theorem callB {c:Cx} {prog:Program} {d k n m:Nat} {b:Ss} (X:CxOk c) {args:List PV} {H:MH} {Q:PV→MH→Prop} (fb:FnB c k n m b) (hk:k<90) (hn:args.length=n)
  (hw:wpSs (CS c prog d) b (args++List.replicate m .undef) H (retQ Q)):CS c prog (d+1) (.fn k) args H Q:=by
 obtain ⟨fd,body,fo,rfl,rfl⟩:=fb
 exact fnCall X fo hk hn (F:=40) hw
noncomputable def gvL:List Nat:=[23,30,37,105,112,271,278,285,292,306,334,341,369,390,397,404,516,523,530,579,586,593,600,607,614,628,636,643,650,657,662,669,676,683,23,23,23,23,688,23,94,428,505,568,23,23,23,23,23,23,51,58,65,70,77,84,91,23,23,23,418,425,23,23,23,23,23,23,23,23,446,453,460,467,474,481,488,495,23,23,544,565]
noncomputable def gvA (k:Nat):Nat:=gvL.getD k 23
noncomputable def gvN (k:Nat):Value:=.ref (gvA k)
noncomputable def b0:Ss:=(.cons (.asgW [2,3] (.tup (.cons (.list .nil) (.cons (.list (.cons (.var 0) .nil)) .nil)))) (.cons (.whl (.cmp .Gt (.call (.lit (.bi 0)) (.cons (.var 3) .nil)) (.lit (.int (0)))) (.cons (.asg 4 (.meth (.var 3) 32 .nil)) (.cons (.ite (.cmp .Eq (.sub (.var 4) (.lit (.int (0)))) (.var 1)) (.cons (.expr (.meth (.var 3) 33 (.cons (.list (.cons (.sub (.var 4) (.lit (.int (2)))) (.cons (.sub (.var 4) (.lit (.int (1)))) .nil))) .nil))) .nil) (.cons (.expr (.meth (.var 2) 31 (.cons (.var 4) .nil))) .nil)) .nil))) (.cons (.ret (.var 2)) .nil)))
noncomputable def b1:Ss:=(.cons (.ret (.and2 (.cmp .Eq (.sub (.var 0) (.lit (.int (0)))) (.lit (.str [99,104,97,114,115]))) (.call (.lit (.bi 4)) (.cons (.sub (.var 0) (.lit (.int (1)))) (.cons (.lit (.bi 6)) .nil))))) .nil)
noncomputable def b2:Ss:=(.cons (.asg 1 (.list .nil)) (.cons (.for_ 2 (.var 0) (.cons (.ite (.call (.lit (.fn 1)) (.cons (.var 2) .nil)) (.cons (.ite (.cmp .Eq (.sub (.var 2) (.lit (.int (1)))) (.lit (.str []))) (.cons .cont .nil) .nil) (.cons (.ite (.and2 (.cmp .Gt (.call (.lit (.bi 0)) (.cons (.var 1) .nil)) (.lit (.int (0)))) (.call (.lit (.fn 1)) (.cons (.sub (.var 1) (.bin .Sub (.call (.lit (.bi 0)) (.cons (.var 1) .nil)) (.lit (.int (1))))) .nil))) (.cons (.asg 2 (.tup (.cons (.lit (.str [99,104,97,114,115])) (.cons (.bin .Add (.sub (.meth (.var 1) 32 .nil) (.lit (.int (1)))) (.sub (.var 2) (.lit (.int (1))))) .nil)))) .nil) .nil) .nil)) .nil) (.cons (.expr (.meth (.var 1) 31 (.cons (.var 2) .nil))) .nil))) (.cons (.ret (.var 1)) .nil)))
noncomputable def b3:Ss:=(.cons (.asg 1 (.list .nil)) (.cons (.for_ 2 (.var 0) (.cons (.ite (.cmp .In (.sub (.var 2) (.lit (.int (0)))) (.tup (.cons (.lit (.str [106,117,109,112])) (.cons (.lit (.str [115,112,108,105,116])) .nil)))) (.cons (.asg 3 (.sub (.var 2) (.lit (.int (1))))) (.cons (.whl (.cmp .Eq (.sub (.sub (.var 0) (.var 3)) (.lit (.int (0)))) (.lit (.str [106,117,109,112]))) (.cons (.asg 3 (.sub (.sub (.var 0) (.var 3)) (.lit (.int (1))))) .nil)) (.cons (.asg 2 (.tup (.cons (.sub (.var 2) (.lit (.int (0)))) (.cons (.var 3) .nil)))) .nil))) .nil) (.cons (.expr (.meth (.var 1) 31 (.cons (.var 2) .nil))) .nil))) (.cons (.ret (.var 1)) .nil)))
noncomputable def b4:Ss:=(.cons (.asg 1 (.call (.lit (.fn 40)) .nil)) (.cons (.expr (.meth (.var 1) 16 (.cons (.var 0) .nil))) (.cons (.expr (.meth (.var 1) 15 (.cons (.tup (.cons (.lit (.str [100,111,110,101])) .nil)) .nil))) (.cons (.ret (.call (.lit (.fn 3)) (.cons (.attr (.var 1) 0) .nil))) .nil))))
noncomputable def b5:Ss:=(.cons (.ret (.call (.lit (.bi 4)) (.cons (.var 0) (.cons (.lit (.bi 7)) .nil)))) .nil)
noncomputable def b6:Ss:=(.cons (.ite (.or2 (.and2 (.cmp .NotIn (.sub (.var 0) (.lit (.int (0)))) (.lit (.tup [(.str [108,101,110]),(.str [112,111,115]),(.str [114,112,111,115]),(.str [116,97,98]),(.str [114,116,97,98])]))) (.cmp .NotIn (.sub (.var 0) (.lit (.int (0)))) (.lit (.tup [(.str [97,110,121]),(.str [110,111,116,97,110,121]),(.str [115,112,97,110]),(.str [98,114,101,97,107])])))) (.not1 (.call (.lit (.fn 5)) (.cons (.sub (.var 0) (.lit (.int (1)))) .nil)))) (.cons (.ret (.var 0)) .nil) .nil) (.cons (.asg 2 .bad) (.cons (.ite (.call .bad (.cons (.var 2) .nil)) (.cons (.ret (.lit .none)) .nil) .nil) (.cons (.ite (.cmp .In (.sub (.var 0) (.lit (.int (0)))) (.lit (.tup [(.str [108,101,110]),(.str [112,111,115]),(.str [114,112,111,115]),(.str [116,97,98]),(.str [114,116,97,98])]))) (.cons (.ret (.tup (.cons (.sub (.var 0) (.lit (.int (0)))) (.cons (.call .bad (.cons (.var 2) (.cons (.sub (.var 0) (.lit (.int (0)))) (.cons (.attr (.var 1) 12) .nil)))) .nil)))) .nil) .nil) (.cons (.ret (.tup (.cons (.sub (.var 0) (.lit (.int (0)))) (.cons (.call .bad (.cons (.var 2) (.cons (.sub (.var 0) (.lit (.int (0)))) .nil))) .nil)))) .nil)))))
noncomputable def b7:Ss:=(.cons (.asg 3 (.bin .Add (.var 1) (.call (.lit (.bi 0)) (.cons (.var 2) .nil)))) (.cons (.ret (.ife (.cmp .Eq (.slice (.var 0) (.var 1) (.var 3) (.lit .none)) (.var 2)) (.var 3) (.lit .none))) .nil))
noncomputable def b8:Ss:=(.cons (.ret (.ife (.cmp .LtE (.bin .Add (.var 1) (.var 2)) (.call (.lit (.bi 0)) (.cons (.var 0) .nil))) (.bin .Add (.var 1) (.var 2)) (.lit .none))) .nil)
noncomputable def b9:Ss:=(.cons (.ret (.ife (.cmp .Eq (.bin .Sub (.call (.lit (.bi 0)) (.cons (.var 0) .nil)) (.var 1)) (.var 2)) (.var 1) (.lit .none))) .nil)
noncomputable def b10:Ss:=(.cons (.ret (.ife (.and2 (.cmp .Lt (.var 1) (.call (.lit (.bi 0)) (.cons (.var 0) .nil))) (.cmp .In (.sub (.var 0) (.var 1)) (.var 2))) (.bin .Add (.var 1) (.lit (.int (1)))) (.lit .none))) .nil)
noncomputable def b11:Ss:=(.cons (.ret (.ife (.and2 (.cmp .Lt (.var 1) (.call (.lit (.bi 0)) (.cons (.var 0) .nil))) (.cmp .NotIn (.sub (.var 0) (.var 1)) (.var 2))) (.bin .Add (.var 1) (.lit (.int (1)))) (.lit .none))) .nil)
noncomputable def b12:Ss:=(.cons (.ret (.call (.lit (.bi 5)) (.cons (.call (.lit (.bi 1)) (.cons (.var 1) (.cons (.bin .Add (.call (.lit (.bi 0)) (.cons (.var 0) .nil)) (.lit (.int (1)))) .nil))) .nil))) .nil)
noncomputable def b13:Ss:=(.cons (.ite (.cmp .Eq (.var 0) (.lit (.str [99,104,97,114,115]))) (.cons (.ret (.call (.lit (.fn 7)) (.cons (.var 1) (.cons (.var 2) (.cons (.var 3) .nil))))) .nil) .nil) (.cons (.ite (.cmp .Eq (.var 0) (.lit (.str [108,101,110]))) (.cons (.ret (.call (.lit (.fn 8)) (.cons (.var 1) (.cons (.var 2) (.cons (.var 3) .nil))))) .nil) .nil) (.cons (.ite (.cmp .Eq (.var 0) (.lit (.str [112,111,115]))) (.cons (.ret (.call .bad (.cons (.var 2) (.cons (.var 3) .nil)))) .nil) .nil) (.cons (.ite (.cmp .Eq (.var 0) (.lit (.str [114,112,111,115]))) (.cons (.ret (.call (.lit (.fn 9)) (.cons (.var 1) (.cons (.var 2) (.cons (.var 3) .nil))))) .nil) .nil) (.cons (.ite (.cmp .Eq (.var 0) (.lit (.str [116,97,98]))) (.cons (.ret (.call .bad (.cons (.var 1) (.cons (.var 2) (.cons (.var 3) .nil))))) .nil) .nil) (.cons (.ite (.cmp .Eq (.var 0) (.lit (.str [114,116,97,98]))) (.cons (.ret (.call .bad (.cons (.var 1) (.cons (.var 2) (.cons (.var 3) .nil))))) .nil) .nil) (.cons (.ite (.cmp .Eq (.var 0) (.lit (.str [97,110,121]))) (.cons (.ret (.call (.lit (.fn 10)) (.cons (.var 1) (.cons (.var 2) (.cons (.var 3) .nil))))) .nil) .nil) (.cons (.ite (.cmp .Eq (.var 0) (.lit (.str [110,111,116,97,110,121]))) (.cons (.ret (.call (.lit (.fn 11)) (.cons (.var 1) (.cons (.var 2) (.cons (.var 3) .nil))))) .nil) .nil) (.cons (.ite (.cmp .Eq (.var 0) (.lit (.str [115,112,97,110]))) (.cons (.ret (.call .bad (.cons (.var 1) (.cons (.var 2) (.cons (.var 3) .nil))))) .nil) .nil) (.cons (.ret (.call .bad (.cons (.var 1) (.cons (.var 2) (.cons (.var 3) .nil))))) .nil))))))))))
noncomputable def b14:Ss:=(.cons (.ret (.ife (.cmp .Eq (.sub (.var 0) (.lit (.int (0)))) (.lit (.str [114,101,109]))) (.call .bad (.cons (.var 1) .nil)) (.call (.lit (.fn 13)) (.cons (.sub (.var 0) (.lit (.int (0)))) (.cons (.var 1) (.cons (.var 2) (.cons (.sub (.var 0) (.lit (.int (1)))) .nil))))))) .nil)
noncomputable def b15:Ss:=(.cons (.ite (.cmp .Eq (.var 0) (.lit (.str [97,114,98]))) (.cons (.ret (.call (.lit (.fn 12)) (.cons (.var 1) (.cons (.var 2) .nil)))) .nil) .nil) (.cons (.ite (.cmp .Eq (.var 0) (.lit (.str [98,97,108]))) (.cons (.ret (.call .bad (.cons (.var 1) (.cons (.var 2) .nil)))) .nil) .nil) (.cons (.ite (.cmp .Eq (.var 0) (.lit (.str [114,101,109]))) (.cons (.ret (.list (.cons (.call .bad (.cons (.var 1) .nil)) .nil))) .nil) .nil) (.cons (.asg 4 (.call (.lit (.fn 13)) (.cons (.var 0) (.cons (.var 1) (.cons (.var 2) (.cons (.var 3) .nil)))))) (.cons (.ret (.ife (.cmp .Is (.var 4) (.lit .none)) (.list .nil) (.list (.cons (.var 4) .nil)))) .nil)))))
noncomputable def b16:Ss:=(.cons (.asg 1 (.list .nil)) (.cons (.whl (.cmp .IsNot (.var 0) (.lit .none)) (.cons (.asgT [0,2] (.var 0)) (.cons (.expr (.meth (.var 1) 31 (.cons (.var 2) .nil))) .nil))) (.cons (.expr (.meth (.var 1) 34 .nil)) (.cons (.ret (.var 1)) .nil))))
noncomputable def b17:Ss:=(.cons (.for_ 4 (.call (.lit (.bi 1)) (.cons (.ife (.var 2) (.lit (.int (1))) (.bin .Add (.call (.lit (.bi 0)) (.cons (.var 1) .nil)) (.lit (.int (1))))) .nil)) (.cons (.asgT [5,6] (.meth (.call (.lit (.fn 42)) (.cons (.var 1) (.cons (.var 3) .nil))) 22 (.cons (.var 0) (.cons (.var 4) .nil)))) (.cons (.ite (.cmp .Eq (.var 5) (.lit (.int (0)))) (.cons (.ret (.tup (.cons (.var 4) (.cons (.attr (.var 6) 2) (.cons (.call (.lit (.fn 16)) (.cons (.attr (.var 6) 3) .nil)) .nil))))) .nil) .nil) (.cons (.ite (.cmp .Eq (.var 5) (.lit (.int (2)))) (.cons (.ret (.lit .none)) .nil) .nil) .nil)))) (.cons (.ret (.lit .none)) .nil))
noncomputable def b18:Ss:=(.cons (.ret (.call (.lit (.fn 17)) (.cons (.call (.lit (.fn 4)) (.cons (.var 0) .nil)) (.cons (.var 1) (.cons (.var 2) (.cons (.var 3) .nil)))))) .nil)
noncomputable def b19:Ss:=(.cons (.for_ 4 (.call (.lit (.bi 1)) (.cons (.ife (.var 2) (.lit (.int (1))) (.bin .Add (.call (.lit (.bi 0)) (.cons (.var 1) .nil)) (.lit (.int (1))))) .nil)) (.cons (.asg 5 (.call (.lit (.fn 20)) (.cons (.var 0) (.cons (.var 1) (.cons (.var 4) (.cons (.var 3) .nil)))))) (.cons (.ite (.cmp .IsNot (.var 5) (.lit .none)) (.cons (.ret (.ife (.cmp .Eq (.var 5) (.lit (.str [108,111,115,116]))) (.lit .none) (.var 5))) .nil) .nil) .nil))) (.cons (.ret (.lit .none)) .nil))
noncomputable def b20:Ss:=(.cons (.asg 4 (.call (.lit (.fn 21)) (.cons (.var 0) (.cons (.var 1) (.cons (.var 2) (.cons (.var 3) .nil)))))) (.cons (.ret (.ife (.or2 (.cmp .Is (.var 4) (.lit .none)) (.cmp .Eq (.var 4) (.lit (.str [108,111,115,116])))) (.var 4) (.tup (.cons (.var 2) (.cons (.sub (.var 4) (.lit (.int (0)))) (.cons (.sub (.var 4) (.lit (.int (1)))) .nil)))))) .nil))
noncomputable def b21:Ss:=(.cons (.asg 4 (.list (.cons (.tup (.cons (.tup (.cons (.var 0) (.cons (.lit .none) .nil))) (.cons (.var 2) (.cons (.tup .nil) .nil)))) .nil))) (.cons (.whl (.cmp .Gt (.call (.lit (.bi 0)) (.cons (.var 4) .nil)) (.lit (.int (0)))) (.cons (.asg 5 (.meth (.var 4) 32 .nil)) (.cons (.ite (.cmp .Is (.var 5) (.lit .none)) (.cons (.ret (.lit (.str [108,111,115,116]))) .nil) .nil) (.cons (.asgT [6,7,8] (.var 5)) (.cons (.whl (.cmp .IsNot (.var 6) (.lit .none)) (.cons (.expr (.meth (.var 3) 29 .nil)) (.cons (.asg 5 (.call (.lit (.fn 22)) (.cons (.var 6) (.cons (.var 7) (.cons (.var 8) (.cons (.var 1) (.cons (.var 4) (.cons (.var 3) .nil)))))))) (.cons (.ite (.cmp .Is (.var 5) (.lit .none)) (.cons .brk .nil) .nil) (.cons (.ite (.cmp .Eq (.var 5) (.lit (.str [108,111,115,116]))) (.cons (.ret (.lit (.str [108,111,115,116]))) .nil) .nil) (.cons (.asgT [6,7,8] (.var 5)) .nil)))))) (.cons (.ite (.cmp .Is (.var 6) (.lit .none)) (.cons (.ret (.tup (.cons (.var 7) (.cons (.call (.lit (.bi 5)) (.cons (.var 8) .nil)) .nil)))) .nil) .nil) .nil)))))) (.cons (.ret (.lit .none)) .nil)))
noncomputable def b22:Ss:=(.cons (.asgT [6,7] (.var 0)) (.cons (.asg 8 (.sub (.var 6) (.lit (.int (0))))) (.cons (.ite (.cmp .In (.var 8) (.tup (.cons (.lit (.str [99,97,116])) (.cons (.lit (.str [97,108,116])) (.cons (.lit (.str [97,114,98,110,111])) (.cons (.lit (.str [108,97,116,101,114])) (.cons (.lit (.str [110,111,119])) .nil))))))) (.cons (.ret (.call (.lit (.fn 23)) (.cons (.var 6) (.cons (.var 7) (.cons (.var 1) (.cons (.var 2) (.cons (.var 4) .nil))))))) .nil) .nil) (.cons (.ite (.cmp .Eq (.slice (.var 8) (.lit .none) (.lit (.int (4))) (.lit .none)) (.lit (.str [101,110,100,32]))) (.cons (.ret (.call (.lit (.fn 24)) (.cons (.var 6) (.cons (.var 7) (.cons (.var 1) (.cons (.var 2) (.cons (.var 3) (.cons (.var 4) (.cons (.var 5) .nil))))))))) .nil) .nil) (.cons (.ite (.cmp .Eq (.var 8) (.lit (.str [99,117,114,115,111,114]))) (.cons (.ret (.ife .bad (.tup (.cons (.var 7) (.cons (.var 1) (.cons (.var 2) .nil)))) (.lit .none))) .nil) .nil) (.cons (.ite (.cmp .Eq (.var 8) (.lit (.str [100,101,108,97,121]))) (.cons (.asg 9 .bad) (.cons (.ret (.ife (.call .bad (.cons (.var 9) .nil)) (.lit .none) (.tup (.cons (.tup (.cons (.call .bad (.cons (.var 9) .nil)) (.cons (.var 7) .nil))) (.cons (.var 1) (.cons (.var 2) .nil)))))) .nil)) .nil) (.cons (.ite (.cmp .In (.var 8) (.tup (.cons (.lit (.str [102,101,110,99,101])) (.cons (.lit (.str [97,98,111,114,116])) (.cons (.lit (.str [102,97,105,108])) (.cons (.lit (.str [115,117,99,99,101,101,100])) .nil)))))) (.cons (.ret (.call .bad (.cons (.var 0) (.cons (.var 1) (.cons (.var 2) (.cons (.var 4) .nil)))))) .nil) .nil) (.cons (.ret (.call (.lit (.fn 25)) (.cons (.var 6) (.cons (.var 7) (.cons (.var 1) (.cons (.var 2) (.cons (.var 3) (.cons (.var 4) (.cons (.var 5) .nil))))))))) .nil))))))))
noncomputable def b23:Ss:=(.cons (.asg 5 (.sub (.var 0) (.lit (.int (0))))) (.cons (.ite (.cmp .Eq (.var 5) (.lit (.str [99,97,116]))) (.cons (.ret (.tup (.cons (.tup (.cons (.sub (.var 0) (.lit (.int (1)))) (.cons (.tup (.cons (.sub (.var 0) (.lit (.int (2)))) (.cons (.var 1) .nil))) .nil))) (.cons (.var 2) (.cons (.var 3) .nil))))) .nil) .nil) (.cons (.ite (.cmp .Eq (.var 5) (.lit (.str [97,108,116]))) (.cons (.expr (.meth (.var 4) 31 (.cons (.tup (.cons (.tup (.cons (.sub (.var 0) (.lit (.int (2)))) (.cons (.var 1) .nil))) (.cons (.var 2) (.cons (.var 3) .nil)))) .nil))) (.cons (.ret (.tup (.cons (.tup (.cons (.sub (.var 0) (.lit (.int (1)))) (.cons (.var 1) .nil))) (.cons (.var 2) (.cons (.var 3) .nil))))) .nil)) .nil) (.cons (.ite (.cmp .Eq (.var 5) (.lit (.str [97,114,98,110,111]))) (.cons (.expr (.meth (.var 4) 31 (.cons (.tup (.cons (.tup (.cons (.sub (.var 0) (.lit (.int (1)))) (.cons (.tup (.cons (.tup (.cons (.lit (.str [101,110,100,32,114,111,117,110,100])) (.cons (.var 0) (.cons (.var 2) .nil)))) (.cons (.var 1) .nil))) .nil))) (.cons (.var 2) (.cons (.var 3) .nil)))) .nil))) (.cons (.ret (.tup (.cons (.var 1) (.cons (.var 2) (.cons (.var 3) .nil))))) .nil)) .nil) (.cons (.ret (.tup (.cons (.tup (.cons (.sub (.var 0) (.lit (.int (1)))) (.cons (.tup (.cons (.tup (.cons (.bin .Add (.lit (.str [101,110,100,32])) (.var 5)) (.cons (.sub (.var 0) (.lit (.int (2)))) (.cons (.var 2) .nil)))) (.cons (.var 1) .nil))) .nil))) (.cons (.var 2) (.cons (.var 3) .nil))))) .nil)))))
noncomputable def b24:Ss:=(.cons (.asgT [7,8,9] (.var 0)) (.cons (.ite (.cmp .Eq (.var 7) (.lit (.str [101,110,100,32,108,97,116,101,114]))) (.cons (.ret (.tup (.cons (.var 1) (.cons (.var 2) (.cons (.bin .Add (.var 3) (.tup (.cons (.tup (.cons (.var 8) (.cons (.slice (.var 4) (.var 9) (.var 2) (.lit .none)) .nil))) .nil))) .nil))))) .nil) .nil) (.cons (.ite (.cmp .Eq (.var 7) (.lit (.str [101,110,100,32,110,111,119]))) (.cons (.ret (.ife .bad (.tup (.cons (.var 1) (.cons (.var 2) (.cons (.var 3) .nil)))) (.lit .none))) .nil) .nil) (.cons (.ret (.ife (.cmp .Eq (.var 2) (.var 9)) (.lit .none) (.tup (.cons (.tup (.cons (.var 8) (.cons (.var 1) .nil))) (.cons (.var 2) (.cons (.var 3) .nil)))))) .nil))))
noncomputable def b25:Ss:=(.cons (.asg 7 (.sub (.var 0) (.lit (.int (0))))) (.cons (.ite (.cmp .Eq (.var 7) (.lit (.str [97,114,98]))) (.cons (.ite (.cmp .Lt (.var 2) (.call (.lit (.bi 0)) (.cons (.var 4) .nil))) (.cons (.expr (.meth (.var 5) 31 (.cons (.tup (.cons (.tup (.cons (.var 0) (.cons (.var 1) .nil))) (.cons (.bin .Add (.var 2) (.lit (.int (1)))) (.cons (.var 3) .nil)))) .nil))) .nil) .nil) (.cons (.ret (.tup (.cons (.var 1) (.cons (.var 2) (.cons (.var 3) .nil))))) .nil)) .nil) (.cons (.ite (.cmp .Eq (.var 7) (.lit (.str [98,97,108]))) (.cons (.asg 8 (.call .bad (.cons (.var 4) (.cons (.var 2) .nil)))) (.cons (.for_ 9 (.slice (.var 8) (.lit .none) (.lit (.int (0))) (.neg (.lit (.int (1))))) (.cons (.expr (.meth (.var 5) 31 (.cons (.tup (.cons (.var 1) (.cons (.var 9) (.cons (.var 3) .nil)))) .nil))) .nil)) (.cons (.ret (.ife (.cmp .Gt (.call (.lit (.bi 0)) (.cons (.var 8) .nil)) (.lit (.int (0)))) (.tup (.cons (.var 1) (.cons (.sub (.var 8) (.lit (.int (0)))) (.cons (.var 3) .nil)))) (.lit .none))) .nil))) .nil) (.cons (.asg 10 (.call (.lit (.fn 6)) (.cons (.var 0) (.cons (.var 6) .nil)))) (.cons (.ite (.cmp .Is (.var 10) (.lit .none)) (.cons (.ret (.lit .none)) .nil) .nil) (.cons (.asg 9 (.call (.lit (.fn 14)) (.cons (.var 10) (.cons (.var 4) (.cons (.var 2) .nil))))) (.cons (.ret (.ife (.cmp .Is (.var 9) (.lit .none)) (.lit .none) (.tup (.cons (.var 1) (.cons (.var 9) (.cons (.var 3) .nil)))))) .nil)))))))
noncomputable def b26:Ss:=(.cons (.asgT [2,3] (.var 0)) (.cons (.asgS (.var 0) (.lit (.int (1))) (.bin .Add (.var 3) (.lit (.int (1))))) (.cons (.ite (.cmp .Lt (.var 3) (.call (.lit (.bi 0)) (.cons (.var 2) .nil))) (.cons (.ret (.bin .Mod (.call (.lit (.bi 2)) (.cons (.call (.lit (.bi 3)) (.cons (.sub (.var 2) (.var 3)) .nil)) .nil)) (.var 1))) .nil) .nil) (.cons (.ret (.bin .Mod (.bin .Add (.bin .Add (.bin .Add (.bin .Mult (.lit (.int (7))) (.var 3)) (.bin .FloorDiv (.bin .Mult (.var 3) (.var 3)) (.lit (.int (3))))) (.lit (.int (6)))) (.call (.lit (.bi 0)) (.cons (.var 2) .nil))) (.var 1))) .nil))))
noncomputable def b27:Ss:=(.cons (.asg 2 (.ife (.cmp .Gt (.var 1) (.lit (.int (0)))) (.call (.lit (.fn 26)) (.cons (.var 0) (.cons (.lit (.int (8))) .nil))) (.call (.lit (.fn 26)) (.cons (.var 0) (.cons (.lit (.int (5))) .nil))))) (.cons (.ite (.cmp .Eq (.var 2) (.lit (.int (0)))) (.cons (.ret (.tup (.cons (.lit (.str [99,104,97,114,115])) (.cons (.sub (.list (.cons (.lit (.str [97])) (.cons (.lit (.str [97,98])) (.cons (.lit (.str [98])) (.cons (.lit (.str [99,97])) (.cons (.lit (.str [])) .nil)))))) (.call (.lit (.fn 26)) (.cons (.var 0) (.cons (.lit (.int (5))) .nil)))) .nil)))) .nil) .nil) (.cons (.ite (.cmp .Eq (.var 2) (.lit (.int (1)))) (.cons (.ret (.tup (.cons (.lit (.str [108,101,110])) (.cons (.call (.lit (.fn 26)) (.cons (.var 0) (.cons (.lit (.int (3))) .nil))) .nil)))) .nil) .nil) (.cons (.ite (.cmp .Lt (.var 2) (.lit (.int (4)))) (.cons (.ret (.tup (.cons (.sub (.list (.cons (.lit (.str [97,110,121])) (.cons (.lit (.str [110,111,116,97,110,121])) .nil))) (.bin .Sub (.var 2) (.lit (.int (2))))) (.cons (.sub (.list (.cons (.lit (.str [97])) (.cons (.lit (.str [98,99])) (.cons (.lit (.str [97,98])) .nil)))) (.call (.lit (.fn 26)) (.cons (.var 0) (.cons (.lit (.int (3))) .nil)))) .nil)))) .nil) .nil) (.cons (.ite (.cmp .Eq (.var 2) (.lit (.int (4)))) (.cons (.ret (.tup (.cons (.lit (.str [97,114,98])) .nil))) .nil) .nil) (.cons (.ite (.cmp .Eq (.var 2) (.lit (.int (5)))) (.cons (.ret (.tup (.cons (.lit (.str [99,97,116])) (.cons (.call (.lit (.fn 27)) (.cons (.var 0) (.cons (.bin .Sub (.var 1) (.lit (.int (1)))) .nil))) (.cons (.call (.lit (.fn 27)) (.cons (.var 0) (.cons (.bin .Sub (.var 1) (.lit (.int (1)))) .nil))) .nil))))) .nil) .nil) (.cons (.ite (.cmp .Eq (.var 2) (.lit (.int (6)))) (.cons (.ret (.tup (.cons (.lit (.str [97,114,98,110,111])) (.cons (.call (.lit (.fn 27)) (.cons (.var 0) (.cons (.bin .Sub (.var 1) (.lit (.int (1)))) .nil))) .nil)))) .nil) .nil) (.cons (.ret (.tup (.cons (.lit (.str [97,108,116])) (.cons (.call (.lit (.fn 27)) (.cons (.var 0) (.cons (.bin .Sub (.var 1) (.lit (.int (1)))) .nil))) (.cons (.call (.lit (.fn 27)) (.cons (.var 0) (.cons (.bin .Sub (.var 1) (.lit (.int (1)))) .nil))) .nil))))) .nil))))))))
noncomputable def b28:Ss:=(.cons (.asg 1 (.tup (.cons (.lit (.str [110,111,116,104,105,110,103])) .nil))) (.cons (.for_ 2 (.var 0) (.cons (.asg 1 (.call (.lit (.fn 29)) (.cons (.var 1) (.cons (.var 2) .nil)))) .nil)) (.cons (.ret (.var 1)) .nil)))
noncomputable def b29:Ss:=(.cons (.ite (.or2 (.cmp .Eq (.var 0) (.tup (.cons (.lit (.str [110,111,110,101])) .nil))) (.cmp .Eq (.var 1) (.tup (.cons (.lit (.str [110,111,110,101])) .nil)))) (.cons (.ret (.tup (.cons (.lit (.str [110,111,110,101])) .nil))) .nil) .nil) (.cons (.ite (.cmp .Eq (.var 0) (.tup (.cons (.lit (.str [110,111,116,104,105,110,103])) .nil))) (.cons (.ret (.var 1)) .nil) .nil) (.cons (.ret (.ife (.cmp .Eq (.var 1) (.tup (.cons (.lit (.str [110,111,116,104,105,110,103])) .nil))) (.var 0) (.tup (.cons (.lit (.str [98,101,104,105,110,100])) (.cons (.var 0) (.cons (.var 1) .nil)))))) .nil)))
noncomputable def b30:Ss:=(.cons (.asg 1 (.sub (.var 0) (.lit (.int (0))))) (.cons (.ite (.cmp .Eq (.var 1) (.lit (.str [99,104,97,114,115]))) (.cons (.ret (.call (.lit (.fn 28)) (.cons (.comp (.tup (.cons (.lit (.str [108,111,116])) (.cons (.var 1) .nil))) 1 (.sub (.var 0) (.lit (.int (1)))) [9999,9999]) .nil))) .nil) .nil) (.cons (.ite (.cmp .Eq (.var 1) (.lit (.str [108,101,110]))) (.cons (.ret (.call (.lit (.fn 28)) (.cons (.bin .Mult (.list (.cons (.lit (.tup [(.str [108,111,116]),(.str [97,98,99])])) .nil)) (.sub (.var 0) (.lit (.int (1))))) .nil))) .nil) .nil) (.cons (.ite (.or2 (.cmp .Eq (.var 1) (.lit (.str [97,110,121]))) (.cmp .Eq (.var 1) (.lit (.str [110,111,116,97,110,121])))) (.cons (.ret (.tup (.cons (.lit (.str [108,111,116])) (.cons (.meth (.lit (.str [])) 35 (.cons (.compIf (.var 1) 1 (.lit (.str [97,98,99])) (.cmp .Eq (.cmp .In (.var 1) (.sub (.var 3) (.lit (.int (1))))) (.cmp .Eq (.var 2) (.lit (.str [97,110,121])))) [9999,9999,1,0]) .nil)) .nil)))) .nil) .nil) (.cons (.ite (.cmp .Eq (.var 1) (.lit (.str [97,114,98]))) (.cons (.ret (.tup (.cons (.lit (.str [111,102,116,101,110])) (.cons (.lit (.tup [(.str [108,111,116]),(.str [97,98,99])])) .nil)))) .nil) .nil) (.cons (.ite (.cmp .Eq (.var 1) (.lit (.str [97,114,98,110,111]))) (.cons (.ret (.tup (.cons (.lit (.str [111,102,116,101,110])) (.cons (.call (.lit (.fn 30)) (.cons (.sub (.var 0) (.lit (.int (1)))) .nil)) .nil)))) .nil) .nil) (.cons (.ret (.call (.ife (.cmp .Eq (.var 1) (.lit (.str [99,97,116]))) (.lit (.fn 29)) (.lit (.fn 31))) (.cons (.call (.lit (.fn 30)) (.cons (.sub (.var 0) (.lit (.int (1)))) .nil)) (.cons (.call (.lit (.fn 30)) (.cons (.sub (.var 0) (.lit (.int (2)))) .nil)) .nil)))) .nil)))))))
noncomputable def b31:Ss:=(.cons (.ite (.or2 (.cmp .Eq (.var 0) (.tup (.cons (.lit (.str [110,111,110,101])) .nil))) (.cmp .Eq (.var 0) (.var 1))) (.cons (.ret (.var 1)) .nil) .nil) (.cons (.ret (.ife (.cmp .Eq (.var 1) (.tup (.cons (.lit (.str [110,111,110,101])) .nil))) (.var 0) (.tup (.cons (.lit (.str [101,105,116,104,101,114])) (.cons (.var 0) (.cons (.var 1) .nil)))))) .nil))
noncomputable def b32:Ss:=(.cons (.ite (.cmp .In (.sub (.var 0) (.lit (.int (0)))) (.tup (.cons (.lit (.str [110,111,110,101])) (.cons (.lit (.str [108,111,116])) .nil)))) (.cons (.ret (.lit (.bool false))) .nil) .nil) (.cons (.ite (.cmp .In (.sub (.var 0) (.lit (.int (0)))) (.tup (.cons (.lit (.str [110,111,116,104,105,110,103])) (.cons (.lit (.str [111,102,116,101,110])) .nil)))) (.cons (.ret (.lit (.bool true))) .nil) .nil) (.cons (.asgW [1,2] (.tup (.cons (.call (.lit (.fn 32)) (.cons (.sub (.var 0) (.lit (.int (1)))) .nil)) (.cons (.call (.lit (.fn 32)) (.cons (.sub (.var 0) (.lit (.int (2)))) .nil)) .nil)))) (.cons (.ret (.ife (.cmp .Eq (.sub (.var 0) (.lit (.int (0)))) (.lit (.str [98,101,104,105,110,100]))) (.and2 (.var 1) (.var 2)) (.or2 (.var 1) (.var 2)))) .nil))))
noncomputable def b33:Ss:=(.cons (.ite (.cmp .In (.sub (.var 0) (.lit (.int (0)))) (.tup (.cons (.lit (.str [110,111,110,101])) (.cons (.lit (.str [110,111,116,104,105,110,103])) .nil)))) (.cons (.ret (.tup (.cons (.lit (.str [110,111,110,101])) .nil))) .nil) .nil) (.cons (.ite (.cmp .Eq (.sub (.var 0) (.lit (.int (0)))) (.lit (.str [108,111,116]))) (.cons (.ret (.ife (.cmp .In (.var 1) (.sub (.var 0) (.lit (.int (1))))) (.tup (.cons (.lit (.str [110,111,116,104,105,110,103])) .nil)) (.tup (.cons (.lit (.str [110,111,110,101])) .nil)))) .nil) .nil) (.cons (.ite (.cmp .Eq (.sub (.var 0) (.lit (.int (0)))) (.lit (.str [111,102,116,101,110]))) (.cons (.ret (.call (.lit (.fn 29)) (.cons (.call (.lit (.fn 33)) (.cons (.sub (.var 0) (.lit (.int (1)))) (.cons (.var 1) .nil))) (.cons (.var 0) .nil)))) .nil) .nil) (.cons (.ite (.cmp .Eq (.sub (.var 0) (.lit (.int (0)))) (.lit (.str [101,105,116,104,101,114]))) (.cons (.ret (.call (.lit (.fn 31)) (.cons (.call (.lit (.fn 33)) (.cons (.sub (.var 0) (.lit (.int (1)))) (.cons (.var 1) .nil))) (.cons (.call (.lit (.fn 33)) (.cons (.sub (.var 0) (.lit (.int (2)))) (.cons (.var 1) .nil))) .nil)))) .nil) .nil) (.cons (.asg 2 (.call (.lit (.fn 29)) (.cons (.call (.lit (.fn 33)) (.cons (.sub (.var 0) (.lit (.int (1)))) (.cons (.var 1) .nil))) (.cons (.sub (.var 0) (.lit (.int (2)))) .nil)))) (.cons (.ret (.ife (.call (.lit (.fn 32)) (.cons (.sub (.var 0) (.lit (.int (1)))) .nil)) (.call (.lit (.fn 31)) (.cons (.var 2) (.cons (.call (.lit (.fn 33)) (.cons (.sub (.var 0) (.lit (.int (2)))) (.cons (.var 1) .nil))) .nil))) (.var 2))) .nil))))))
noncomputable def b38:Ss:=(.cons (.asg 1 (.list (.cons (.slice (.var 0) (.lit .none) (.lit (.int (30))) (.lit .none)) (.cons (.lit (.int (0))) .nil)))) (.cons (.asg 2 (.meth (.lit (.str [])) 35 (.cons (.comp (.sub (.lit (.str [97,98,99])) (.call (.lit (.fn 26)) (.cons (.var 3) (.cons (.lit (.int (3))) .nil)))) 1 (.call (.lit (.bi 1)) (.cons (.call (.lit (.fn 26)) (.cons (.var 1) (.cons (.lit (.int (4))) .nil))) .nil)) [9999,9999,9999,1]) .nil))) (.cons (.asg 3 (.call (.lit (.fn 27)) (.cons (.var 1) (.cons (.lit (.int (2))) .nil)))) (.cons (.asg 4 (.call (.lit (.fn 30)) (.cons (.var 3) .nil))) (.cons (.for_ 5 (.var 2) (.cons (.asg 4 (.call (.lit (.fn 33)) (.cons (.var 4) (.cons (.var 5) .nil)))) .nil)) (.cons (.asg 6 (.tup (.cons (.lit (.str [99,97,116])) (.cons (.var 3) (.cons (.tup (.cons (.lit (.str [114,112,111,115])) (.cons (.lit (.int (0))) .nil))) .nil))))) (.cons (.asg 7 (.ife (.call (.lit (.fn 32)) (.cons (.var 4) .nil)) (.tup (.cons (.lit (.int (0))) (.cons (.call (.lit (.bi 0)) (.cons (.var 2) .nil)) (.cons (.list .nil) .nil)))) (.lit .none))) (.cons (.ite (.cmp .NotEq (.call (.lit (.fn 18)) (.cons (.var 6) (.cons (.var 2) (.cons (.lit (.bool true)) (.cons (.call (.lit (.fn 43)) (.cons .dict0 (.cons (.lit (.int (99999))) (.cons (.list .nil) .nil)))) .nil))))) (.var 7)) (.cons (.ret (.lit (.bool false))) .nil) .nil) (.cons (.ret (.cmp .Eq (.call (.lit (.fn 19)) (.cons (.var 6) (.cons (.var 2) (.cons (.lit (.bool true)) (.cons (.call (.lit (.fn 43)) (.cons .dict0 (.cons (.lit (.int (99999))) (.cons (.list .nil) .nil)))) .nil))))) (.var 7))) .nil)))))))))
noncomputable def b50:Ss:=(.cons (.asgA (.var 0) 0 (.list .nil)) .nil)
noncomputable def b51:Ss:=(.cons (.expr (.meth (.attr (.var 0) 0) 31 (.cons (.var 1) .nil))) (.cons (.ret (.bin .Sub (.call (.lit (.bi 0)) (.cons (.attr (.var 0) 0) .nil)) (.lit (.int (1))))) .nil))
noncomputable def b52:Ss:=(.cons (.asg 2 (.list (.cons (.tup (.cons (.lit (.str [112,117,116])) (.cons (.var 1) .nil))) .nil))) (.cons (.whl (.cmp .Gt (.call (.lit (.bi 0)) (.cons (.var 2) .nil)) (.lit (.int (0)))) (.cons (.asgT [3,4] (.meth (.var 2) 32 .nil)) (.cons (.ite (.cmp .Eq (.var 3) (.lit (.str [112,117,116]))) (.cons (.expr (.meth (.var 2) 33 (.cons (.slice (.meth (.var 0) 17 (.cons (.var 4) .nil)) (.lit .none) (.lit .none) (.neg (.lit (.int (1))))) .nil))) .nil) (.cons (.ite (.cmp .Eq (.var 3) (.lit (.str [101,109,105,116]))) (.cons (.expr (.meth (.var 0) 15 (.cons (.var 4) .nil))) .nil) (.cons (.expr (.meth (.var 0) 20 (.cons (.var 3) (.cons (.var 4) .nil)))) .nil)) .nil)) .nil))) .nil))
noncomputable def b53:Ss:=(.cons (.asg 2 (.sub (.var 1) (.lit (.int (0))))) (.cons (.ite (.cmp .Eq (.var 2) (.lit (.str [99,97,116]))) (.cons (.ret (.comp (.tup (.cons (.lit (.str [112,117,116])) (.cons (.var 1) .nil))) 1 (.call (.lit (.fn 2)) (.cons (.call (.lit (.fn 0)) (.cons (.var 1) (.cons (.lit (.str [99,97,116])) .nil))) .nil)) [9999,9999,9999])) .nil) .nil) (.cons (.ite (.cmp .Eq (.var 2) (.lit (.str [97,108,116]))) (.cons (.ret (.meth (.var 0) 18 (.cons (.call (.lit (.fn 0)) (.cons (.var 1) (.cons (.lit (.str [97,108,116])) .nil))) .nil))) .nil) .nil) (.cons (.ite (.cmp .Eq (.var 2) (.lit (.str [97,114,98,110,111]))) (.cons (.ret (.meth (.var 0) 19 (.cons (.sub (.var 1) (.lit (.int (1)))) .nil))) .nil) .nil) (.cons (.ite (.or2 (.cmp .Eq (.var 2) (.lit (.str [108,97,116,101,114]))) (.cmp .Eq (.var 2) (.lit (.str [110,111,119])))) (.cons (.expr (.meth (.var 0) 15 (.cons (.tup (.cons (.lit (.str [109,97,114,107])) .nil)) .nil))) (.cons (.ret (.list (.cons (.tup (.cons (.lit (.str [112,117,116])) (.cons (.sub (.var 1) (.lit (.int (1)))) .nil))) (.cons (.tup (.cons (.lit (.str [101,109,105,116])) (.cons (.tup (.cons (.ife (.cmp .Eq (.var 2) (.lit (.str [108,97,116,101,114]))) (.lit (.str [110,97,109,101])) (.lit (.str [115,101,116]))) (.cons (.sub (.var 1) (.lit (.int (2)))) .nil))) .nil))) .nil)))) .nil)) .nil) (.cons (.ite (.cmp .In (.var 2) (.lit (.tup [(.str [99,104,97,114,115]),(.str [108,101,110]),(.str [112,111,115]),(.str [114,112,111,115]),(.str [116,97,98]),(.str [114,116,97,98]),(.str [97,110,121]),(.str [110,111,116,97,110,121]),(.str [115,112,97,110]),(.str [98,114,101,97,107]),(.str [114,101,109])]))) (.cons (.expr (.meth (.var 0) 15 (.cons (.tup (.cons (.lit (.str [111,110,101])) (.cons (.var 2) (.cons (.ife (.cmp .Gt (.call (.lit (.bi 0)) (.cons (.var 1) .nil)) (.lit (.int (1)))) (.sub (.var 1) (.lit (.int (1)))) (.lit .none)) .nil)))) .nil))) .nil) (.cons (.ite (.or2 (.cmp .Eq (.var 2) (.lit (.str [97,114,98]))) (.cmp .Eq (.var 2) (.lit (.str [98,97,108])))) (.cons (.expr (.meth (.var 0) 15 (.cons (.tup (.cons (.lit (.str [119,97,121,115])) (.cons (.var 2) .nil))) .nil))) .nil) (.cons (.expr (.meth (.var 0) 15 (.cons (.ife (.cmp .In (.var 2) (.lit (.tup [(.str [102,101,110,99,101]),(.str [102,97,105,108]),(.str [97,98,111,114,116]),(.str [115,117,99,99,101,101,100])]))) (.tup (.cons (.var 2) .nil)) (.tup (.cons (.ife (.cmp .Eq (.var 2) (.lit (.str [99,117,114,115,111,114]))) (.lit (.str [112,108,97,99,101])) (.lit (.str [97,115,107]))) (.cons (.sub (.var 1) (.lit (.int (1)))) .nil)))) .nil))) .nil)) .nil)) (.cons (.ret (.list .nil)) .nil)))))))
noncomputable def b54:Ss:=(.cons (.asgW [2,3] (.tup (.cons (.list .nil) (.cons (.list (.cons (.neg (.lit (.int (1)))) (.cons (.list .nil) .nil))) .nil)))) (.cons (.for_ 4 (.slice (.var 1) (.lit .none) (.bin .Sub (.call (.lit (.bi 0)) (.cons (.var 1) .nil)) (.lit (.int (1)))) (.lit .none)) (.cons (.expr (.meth (.var 2) 33 (.cons (.list (.cons (.tup (.cons (.lit (.str [111,112,101,110])) (.cons (.var 3) .nil))) (.cons (.tup (.cons (.lit (.str [112,117,116])) (.cons (.var 4) .nil))) (.cons (.tup (.cons (.lit (.str [115,104,117,116])) (.cons (.var 3) .nil))) .nil)))) .nil))) .nil)) (.cons (.ret (.bin .Add (.var 2) (.list (.cons (.tup (.cons (.lit (.str [112,117,116])) (.cons (.sub (.var 1) (.bin .Sub (.call (.lit (.bi 0)) (.cons (.var 1) .nil)) (.lit (.int (1))))) .nil))) (.cons (.tup (.cons (.lit (.str [109,101,101,116])) (.cons (.var 3) .nil))) .nil))))) .nil)))
noncomputable def b55:Ss:=(.cons (.asg 2 (.meth (.var 0) 15 (.cons (.lit .none) .nil))) (.cons (.asg 3 (.meth (.var 0) 15 (.cons (.lit .none) .nil))) (.cons (.asgS (.attr (.var 0) 0) (.var 2) (.tup (.cons (.lit (.str [115,112,108,105,116])) (.cons (.call (.lit (.bi 0)) (.cons (.attr (.var 0) 0) .nil)) .nil)))) (.cons (.expr (.meth (.var 0) 15 (.cons (.tup (.cons (.lit (.str [109,97,114,107])) .nil)) .nil))) (.cons (.ret (.list (.cons (.tup (.cons (.lit (.str [112,117,116])) (.cons (.var 1) .nil))) (.cons (.tup (.cons (.lit (.str [101,109,105,116])) (.cons (.tup (.cons (.lit (.str [103,97,105,110])) .nil)) .nil))) (.cons (.tup (.cons (.lit (.str [101,109,105,116])) (.cons (.tup (.cons (.lit (.str [106,117,109,112])) (.cons (.var 2) .nil))) .nil))) (.cons (.tup (.cons (.lit (.str [109,101,101,116])) (.cons (.list (.cons (.var 2) (.cons (.list (.cons (.var 3) .nil)) .nil))) .nil))) .nil)))))) .nil)))))
noncomputable def b56:Ss:=(.cons (.ite (.cmp .Eq (.var 1) (.lit (.str [111,112,101,110]))) (.cons (.asgS (.var 2) (.lit (.int (0))) (.meth (.var 0) 15 (.cons (.lit .none) .nil))) .nil) (.cons (.ite (.cmp .Eq (.var 1) (.lit (.str [115,104,117,116]))) (.cons (.expr (.meth (.sub (.var 2) (.lit (.int (1)))) 31 (.cons (.meth (.var 0) 15 (.cons (.lit .none) .nil)) .nil))) (.cons (.asgS (.attr (.var 0) 0) (.sub (.var 2) (.lit (.int (0)))) (.tup (.cons (.lit (.str [115,112,108,105,116])) (.cons (.call (.lit (.bi 0)) (.cons (.attr (.var 0) 0) .nil)) .nil)))) .nil)) (.cons (.for_ 3 (.sub (.var 2) (.lit (.int (1)))) (.cons (.asgS (.attr (.var 0) 0) (.var 3) (.tup (.cons (.lit (.str [106,117,109,112])) (.cons (.call (.lit (.bi 0)) (.cons (.attr (.var 0) 0) .nil)) .nil)))) .nil)) .nil)) .nil)) .nil)
noncomputable def b60:Ss:=(.cons (.asgA (.var 0) 0 (.var 1)) (.cons (.asgA (.var 0) 1 (.var 2)) (.cons (.asgA (.var 0) 2 (.var 3)) (.cons (.asgA (.var 0) 3 (.var 4)) (.cons (.asgA (.var 0) 4 (.var 5)) (.cons (.asgA (.var 0) 5 (.var 6)) .nil))))))
noncomputable def b61:Ss:=(.cons (.ret (.call (.lit (.fn 41)) (.cons (.attr (.var 0) 0) (.cons (.var 1) (.cons (.attr (.var 0) 2) (.cons (.attr (.var 0) 3) (.cons (.attr (.var 0) 4) (.cons (.attr (.var 0) 5) .nil)))))))) .nil)
noncomputable def b70:Ss:=(.cons (.asgA (.var 0) 6 (.var 1)) (.cons (.asgA (.var 0) 7 (.var 2)) (.cons (.asgA (.var 0) 8 (.list .nil)) .nil)))
noncomputable def b71:Ss:=(.cons (.asg 3 (.call (.lit (.fn 41)) (.cons (.var 1) (.cons (.lit (.int (0))) (.cons (.var 2) (.cons (.lit .none) (.cons (.lit .none) (.cons (.lit .none) .nil)))))))) (.cons (.whl (.cmp .IsNot (.var 3) (.lit .none)) (.cons (.expr (.meth (.attr (.var 0) 7) 29 .nil)) (.cons (.asg 4 (.sub (.attr (.var 3) 0) (.attr (.var 3) 1))) (.cons (.ite (.and2 (.cmp .Eq (.sub (.var 4) (.lit (.int (0)))) (.lit (.str [100,111,110,101]))) (.cmp .Is (.attr (.var 3) 5) (.lit .none))) (.cons (.ret (.tup (.cons (.lit (.int (0))) (.cons (.var 3) .nil)))) .nil) .nil) (.cons (.ite (.cmp .Eq (.sub (.var 4) (.lit (.int (0)))) (.lit (.str [97,98,111,114,116]))) (.cons (.ret (.tup (.cons (.lit (.int (2))) (.cons (.lit .none) .nil)))) .nil) .nil) (.cons (.ite (.not1 (.meth (.var 0) 24 (.cons (.var 4) (.cons (.var 3) .nil)))) (.cons (.asg 3 (.meth (.var 0) 23 .nil)) (.cons (.ite (.and2 (.cmp .IsNot (.var 3) (.lit .none)) (.cmp .Is (.attr (.var 3) 0) (.lit .none))) (.cons (.ret (.tup (.cons (.lit (.int (2))) (.cons (.lit .none) .nil)))) .nil) .nil) .nil)) .nil) .nil)))))) (.cons (.ret (.tup (.cons (.lit (.int (1))) (.cons (.lit .none) .nil)))) .nil)))
noncomputable def b72:Ss:=(.cons (.ret (.ife (.cmp .Gt (.call (.lit (.bi 0)) (.cons (.attr (.var 0) 8) .nil)) (.lit (.int (0)))) (.meth (.attr (.var 0) 8) 32 .nil) (.lit .none))) .nil)
noncomputable def b73:Ss:=(.cons (.asg 3 (.sub (.var 1) (.lit (.int (0))))) (.cons (.ite (.cmp .Eq (.var 3) (.lit (.str [111,110,101]))) (.cons (.ret (.meth (.var 0) 25 (.cons (.var 1) (.cons (.var 2) .nil)))) .nil) .nil) (.cons (.ite (.cmp .Eq (.var 3) (.lit (.str [115,112,108,105,116]))) (.cons (.expr (.meth (.attr (.var 0) 8) 31 (.cons (.meth (.var 2) 21 (.cons (.sub (.var 1) (.lit (.int (1)))) .nil)) .nil))) .nil) (.cons (.ite (.cmp .Eq (.var 3) (.lit (.str [106,117,109,112]))) (.cons (.asgA (.var 2) 1 (.sub (.var 1) (.lit (.int (1))))) (.cons (.ret (.lit (.bool true))) .nil)) (.cons (.ite (.cmp .Eq (.var 3) (.lit (.str [109,97,114,107]))) (.cons (.asgA (.var 2) 4 (.tup (.cons (.attr (.var 2) 4) (.cons (.attr (.var 2) 2) .nil)))) .nil) (.cons (.ite (.cmp .In (.var 3) (.tup (.cons (.lit (.str [110,97,109,101])) (.cons (.lit (.str [115,101,116])) (.cons (.lit (.str [103,97,105,110])) .nil))))) (.cons (.ite (.not1 (.meth (.var 0) 26 (.cons (.var 1) (.cons (.var 2) .nil)))) (.cons (.ret (.lit (.bool false))) .nil) .nil) .nil) (.cons (.ite (.cmp .Eq (.var 3) (.lit (.str [112,108,97,99,101]))) (.cons (.ite (.not1 .bad) (.cons (.ret (.lit (.bool false))) .nil) .nil) .nil) (.cons (.ret (.meth (.var 0) 27 (.cons (.var 1) (.cons (.var 2) .nil)))) .nil)) .nil)) .nil)) .nil)) .nil)) (.cons (.augA (.var 2) 1 .Add (.lit (.int (1)))) (.cons (.ret (.lit (.bool true))) .nil)))))
noncomputable def b74:Ss:=(.cons (.asg 3 (.sub (.var 1) (.lit (.int (2))))) (.cons (.ite (.call (.lit (.bi 4)) (.cons (.var 3) (.cons (.lit (.bi 7)) .nil))) (.cons (.asg 4 (.call (.lit (.fn 6)) (.cons (.tup (.cons (.sub (.var 1) (.lit (.int (1)))) (.cons (.var 3) .nil))) (.cons (.attr (.var 0) 7) .nil)))) (.cons (.ite (.cmp .Is (.var 4) (.lit .none)) (.cons (.ret (.lit (.bool false))) .nil) .nil) (.cons (.asg 3 (.sub (.var 4) (.lit (.int (1))))) .nil))) .nil) (.cons (.asg 5 (.call (.lit (.fn 14)) (.cons (.tup (.cons (.sub (.var 1) (.lit (.int (1)))) (.cons (.var 3) .nil))) (.cons (.attr (.var 0) 6) (.cons (.attr (.var 2) 2) .nil))))) (.cons (.ite (.cmp .Is (.var 5) (.lit .none)) (.cons (.ret (.lit (.bool false))) .nil) .nil) (.cons (.asgA (.var 2) 2 (.var 5)) (.cons (.augA (.var 2) 1 .Add (.lit (.int (1)))) (.cons (.ret (.lit (.bool true))) .nil)))))))
noncomputable def b75:Ss:=(.cons (.asgT [3,4] (.attr (.var 2) 4)) (.cons (.asgA (.var 2) 4 (.var 3)) (.cons (.asg 5 (.slice (.attr (.var 0) 6) (.var 4) (.attr (.var 2) 2) (.lit .none))) (.cons (.ite (.cmp .Eq (.sub (.var 1) (.lit (.int (0)))) (.lit (.str [103,97,105,110]))) (.cons (.ret (.cmp .Gt (.attr (.var 2) 2) (.var 4))) .nil) .nil) (.cons (.ite (.cmp .Eq (.sub (.var 1) (.lit (.int (0)))) (.lit (.str [115,101,116]))) (.cons (.ret .bad) .nil) .nil) (.cons (.asgA (.var 2) 3 (.tup (.cons (.attr (.var 2) 3) (.cons (.tup (.cons (.sub (.var 1) (.lit (.int (1)))) (.cons (.var 5) .nil))) .nil)))) (.cons (.ret (.lit (.bool true))) .nil)))))))
noncomputable def b76:Ss:=(.cons (.asg 3 (.sub (.var 1) (.lit (.int (0))))) (.cons (.ite (.cmp .Eq (.var 3) (.lit (.str [102,97,105,108]))) (.cons (.ret (.lit (.bool false))) .nil) .nil) (.cons (.ite (.cmp .Eq (.var 3) (.lit (.str [119,97,121,115]))) (.cons (.ret (.meth (.var 0) 28 (.cons (.var 2) (.cons (.call (.lit (.fn 15)) (.cons (.sub (.var 1) (.lit (.int (1)))) (.cons (.attr (.var 0) 6) (.cons (.attr (.var 2) 2) (.cons (.lit .none) .nil))))) .nil)))) .nil) .nil) (.cons (.ite (.cmp .Eq (.var 3) (.lit (.str [97,115,107]))) (.cons (.ret .bad) .nil) .nil) (.cons (.ite (.cmp .Eq (.var 3) (.lit (.str [100,111,110,101]))) (.cons .bad (.cons (.ret (.lit (.bool true))) .nil)) .nil) (.cons (.ite (.cmp .Eq (.var 3) (.lit (.str [102,101,110,99,101]))) (.cons (.expr (.meth (.attr (.var 0) 8) 31 (.cons (.call (.lit (.fn 41)) (.cons (.lit .none) (.cons (.lit (.int (0))) (.cons (.lit (.int (0))) (.cons (.lit .none) (.cons (.lit .none) (.cons (.lit .none) .nil))))))) .nil))) .nil) (.cons (.ite (.cmp .Eq (.var 3) (.lit (.str [115,117,99,99,101,101,100]))) (.cons (.expr (.meth (.attr (.var 0) 8) 31 (.cons (.meth (.var 2) 21 (.cons (.attr (.var 2) 1) .nil)) .nil))) .nil) .nil) .nil)) (.cons (.augA (.var 2) 1 .Add (.lit (.int (1)))) (.cons (.ret (.lit (.bool true))) .nil))))))))
noncomputable def b77:Ss:=(.cons (.ite (.cmp .Eq (.call (.lit (.bi 0)) (.cons (.var 2) .nil)) (.lit (.int (0)))) (.cons (.ret (.lit (.bool false))) .nil) .nil) (.cons (.augA (.var 1) 1 .Add (.lit (.int (1)))) (.cons (.for_ 3 (.slice (.var 2) (.lit .none) (.lit (.int (0))) (.neg (.lit (.int (1))))) (.cons (.asg 4 (.meth (.var 1) 21 (.cons (.attr (.var 1) 1) .nil))) (.cons (.asgA (.var 4) 2 (.var 3)) (.cons (.expr (.meth (.attr (.var 0) 8) 31 (.cons (.var 4) .nil))) .nil)))) (.cons (.asgA (.var 1) 2 (.sub (.var 2) (.lit (.int (0))))) (.cons (.ret (.lit (.bool true))) .nil)))))
noncomputable def b80:Ss:=(.cons (.asgA (.var 0) 9 (.var 1)) (.cons (.asgA (.var 0) 10 (.var 2)) (.cons (.asgA (.var 0) 11 (.var 3)) (.cons (.asgA (.var 0) 12 (.lit (.int (64)))) (.cons (.asgA (.var 0) 13 (.lit (.int (0)))) (.cons (.asgA (.var 0) 14 (.list .nil)) .nil))))))
noncomputable def b81:Ss:=(.cons (.augA (.var 0) 13 .Add (.lit (.int (1)))) (.cons (.ite (.cmp .Gt (.attr (.var 0) 13) (.attr (.var 0) 10)) (.cons .bad .nil) .nil) .nil))
noncomputable def tokOf:Value→Tok
 | .str _ t=>t
 | .int _ t=>t
 | _=>0
noncomputable def adrOf:Value→Addr
 | .ref a=>a
 | _=>0
noncomputable def strVal (v:Value):PV→Bool
 | .str x=>v==.str ⟨x.toArray⟩ (tokOf v)
 | .int j=>v==.int j (tokOf v)
 | _=>false
noncomputable def strVals:List Value→List PV→Bool
 | vs,[]=>vs.isEmpty
 | [],_::_=>false
 | v::vs,p::ps=>strVal v p&&strVals vs ps
noncomputable def tupIn (K:Frag) (a:Addr) (xs:List PV):Bool:=match K.lookup a with
  | some ⟨.type T,none,.seq vs _,sl⟩=>T == "tuple" && (sl.isEmpty&&strVals vs.toList xs)
  | _=>false
noncomputable def glVal (K:Frag) (v:Value):PV→Bool
 | .fn k=>v==gvN k
 | .tup xs=>v==.ref (adrOf v)&&tupIn K (adrOf v) xs
 | .str x=>strVal v (.str x)
 | .int x=>strVal v (.int x)
 | _=>false
noncomputable def glChk (K:Frag) (x:Str) (p:PV):Bool:=match nsIn K mainGlobals x with
 | some (some v)=>glVal K v p
 | some none=>(match p with
  | .bi k=>bootBuiltins x==some (biVal k)&&x != "__name__"
  | _=>false)
 | none=>false
noncomputable def clsAddr (k:Nat):Addr:=gvA k
noncomputable def clsChk (K:Frag) (k:Nat):Bool :=
 findIn K (.ref (clsAddr k)) "__getattribute__" == some (some (.builtin "object.__getattribute__"))&&(findIn K (.ref (clsAddr k)) "__getattr__" == some none&&(findIn K (.ref (clsAddr k)) "__setattr__" == some (some (.builtin "object.__setattr__")) &&
 (plainOver K (clsAddr k)&&((clsIn K (clsAddr k)).any (fun cd=>cd.hasDict&&!cd.mro.isEmpty)&&((List.range 15).all (fun n=>findIn K (.ref (clsAddr k)) (an n)==some none) &&
 (List.range 36).all (fun n=>match mth k n with
  | some f=>findIn K (.ref (clsAddr k)) (an n)==some (some (gvN f))&&typeIn K (gvN f)==some (.type "function")
  | none=>true))))))
noncomputable def mkChk (K:Frag) (k ki:Nat):Bool:=makesIn K (clsAddr k)&&(findIn K (.ref (clsAddr k)) "__init__" == some (some (gvN ki))&&typeIn K (gvN ki)==some (.type "function"))
noncomputable def cxChk (K:Frag):Bool :=
 (List.range 90).all (fun k=>keepIn K (gvN k))&&(gl.all (fun y=>glChk K y.1 y.2)&&(clsChk K 40&&(clsChk K 41&&(clsChk K 42&&(clsChk K 43&&(mkChk K 40 50&&(mkChk K 41 60&&(mkChk K 42 70&&mkChk K 43 80))))))))
theorem gvN_ref (k:Nat):∃ C,gvN k=.ref C:=by
 exact ⟨_,rfl⟩
theorem strVal_ok {gv:Nat→Value} {h:Heap} {v:Value} {p:PV} (e:strVal v p=true):VR gv h v p:=by
 induction p using PV.casesOn with
 | str x=>exact ⟨_,eq_of_beq e⟩
 | int x=>exact ⟨_,eq_of_beq e⟩
 | _=>exact Bool.noConfusion e
theorem strVals_ok {gv:Nat→Value} {h:Heap} {vs:List Value} {ps:List PV} (e:strVals vs ps=true):VRs gv h vs ps:=by
 induction ps generalizing vs with
 | nil =>
  rcases vs with _ | ⟨v,vs⟩
  ·exact .nil
  ·exact Bool.noConfusion e
 | cons p ps ih =>
  rcases vs with _ | ⟨v,vs⟩
  ·exact Bool.noConfusion e
  ·exact cj2 (Bool.and_eq_true_iff.mp (show (strVal v p&&strVals vs ps)=true from e)) fun a b=>.cons (strVal_ok a) (ih b)
theorem tupIn_ok {K:Frag} {h:Heap} (X:K.In h) {a:Addr} {xs:List PV} (e:tupIn K a xs=true):VR gvN h (.ref a) (.tup xs):=by
 unfold tupIn at e
 split at e
 ·rename_i T vs n sl hlk
  simp only [Bool.and_eq_true] at e
  obtain ⟨e1,e2,e3⟩:=e
  have e1:T = "tuple" := by simpa using e1
  have e2:sl=#[]:=by simpa using e2
  exact .tup (vs:=vs.toList) (n:=n) (by rw [X _ _ hlk,e1,e2]) (strVals_ok e3)
 ·cases e
theorem glVal_ok {K:Frag} {h:Heap} (X:K.In h) {v:Value} {p:PV} (e:glVal K v p=true):VR gvN h v p:=by
 induction p using PV.casesOn with
 | fn k=>exact eq_of_beq e
 | tup xs=>exact cj2 (Bool.and_eq_true_iff.mp (show (v==.ref (adrOf v)&&tupIn K (adrOf v) xs)=true from e)) fun a b=>by rw [eq_of_beq a]; exact tupIn_ok X b
 | str x=>exact strVal_ok e
 | int x=>exact strVal_ok e
 | _=>exact Bool.noConfusion e
theorem clsChk_ok {K:Frag} {k:Nat} {C:Addr} (h40:40≤k) (h44:k<44) (hC:gvN k=.ref C) (e:clsChk K k=true):ClsOk K gvN k C:=by
 have hC':C=clsAddr k:=(Value.ref.inj hC).symm
 subst hC'
 unfold clsChk at e
 simp only [Bool.and_eq_true] at e
 obtain ⟨e1,e2,e3,e4,e5,e6,e7⟩:=e
 refine ⟨eq_of_beq e1,eq_of_beq e2,eq_of_beq e3,e4,e5,fun n hn=>?_,fun n f hm=>?_⟩
 ·exact eq_of_beq (List.all_eq_true.mp e6 n (List.mem_range.mpr hn))
 ·have hn:n<36:=(mth_ok hm).1
  have:=List.all_eq_true.mp e7 n (List.mem_range.mpr hn)
  rw [hm] at this
  simp only [Bool.and_eq_true] at this
  obtain ⟨a,ha⟩:=gvN_ref f
  rw [ha] at this
  exact ⟨a,ha,eq_of_beq this.1,eq_of_beq this.2⟩
theorem cxOk_of {w:World} {K:Frag} {base:Heap} {mg mb:Str→Option Value} {p:Program} {loose:List Str} (X:K.In base) (T:TopRead p loose mg mb base) (e:cxChk K=true):CxOk ⟨w,K,gvN,base,mg,mb⟩:=by
 unfold cxChk at e
 simp only [Bool.and_eq_true] at e
 obtain ⟨e1,e2,c0,c1,c2,c3,_⟩:=e
 refine ⟨X,T.g,T.b,T.nolimit,gvN_ref,fun k hk=>List.all_eq_true.mp e1 k (List.mem_range.mpr hk),fun k h1 h2 C hC=>?_,fun x q hx=>?_⟩
 ·refine clsChk_ok h1 h2 hC ?_
  have:k=40∨k=41∨k=42∨k=43:=by lia
  rcases this with rfl | rfl | rfl | rfl <;> assumption
 ·have hm:(x,q)∈gl:=by
   obtain ⟨l1,l2,e,_⟩:=List.lookup_eq_some_iff.mp hx
   rw [e]; simp
  have:=List.all_eq_true.mp e2 _ hm
  unfold glChk at this
  split at this
  ·rename_i v hv
   exact .inl ⟨v,mg_of X T.g hv,glVal_ok X this⟩
  ·rename_i hv
   split at this
   ·rename_i k hk
    have hk:q=.bi k:=hk
    subst hk
    rw [Bool.and_eq_true] at this
    refine .inr ⟨mg_none_of X T.g hv,biVal k,?_,.bi k⟩
    exact (T.builtins x (by simpa using this.2)).trans (eq_of_beq this.1)
   ·cases this
  ·cases this
theorem mkOk_of {w:World} {K:Frag} {base:Heap} {mg mb:Str→Option Value} (e:cxChk K=true):MkOk ⟨w,K,gvN,base,mg,mb⟩ 40 50∧MkOk ⟨w,K,gvN,base,mg,mb⟩ 41 60∧MkOk ⟨w,K,gvN,base,mg,mb⟩ 42 70∧MkOk ⟨w,K,gvN,base,mg,mb⟩ 43 80:=by
 unfold cxChk at e
 simp only [Bool.and_eq_true] at e
 obtain ⟨_,_,_,_,_,_,m0,m1,m2,m3⟩:=e
 have go:∀ {k ki a b:Nat},gvN k=.ref a→gvN ki=.ref b→clsAddr k=a→mkChk K k ki=true→MkOk ⟨w,K,gvN,base,mg,mb⟩ k ki:=fun {k ki a b} h1 h2 h3 h=>by
  unfold mkChk at h
  rw [h3,h2] at h
  simp only [Bool.and_eq_true] at h
  exact ⟨a,b,h1,h2,h.1,eq_of_beq h.2.1,eq_of_beq h.2.2⟩
 exact ⟨go rfl rfl rfl m0,go rfl rfl rfl m1,go rfl rfl rfl m2,go rfl rfl rfl m3⟩
structure Fns (c:Cx):Prop where
 X:CxOk c
 m40:MkOk c 40 50
 m41:MkOk c 41 60
 m42:MkOk c 42 70
 m43:MkOk c 43 80
 f0:FnB c 0 2 4 b0
 f1:FnB c 1 1 2 b1
 f2:FnB c 2 1 4 b2
 f3:FnB c 3 1 5 b3
 f4:FnB c 4 1 4 b4
 f5:FnB c 5 1 2 b5
 f6:FnB c 6 2 7 b6
 f7:FnB c 7 3 2 b7
 f8:FnB c 8 3 1 b8
 f9:FnB c 9 3 1 b9
 f10:FnB c 10 3 1 b10
 f11:FnB c 11 3 1 b11
 f12:FnB c 12 2 3 b12
 f13:FnB c 13 4 10 b13
 f14:FnB c 14 3 2 b14
 f15:FnB c 15 4 5 b15
 f16:FnB c 16 1 2 b16
 f17:FnB c 17 4 9 b17
 f18:FnB c 18 4 2 b18
 f19:FnB c 19 4 6 b19
 f20:FnB c 20 4 3 b20
 f21:FnB c 21 4 9 b21
 f22:FnB c 22 6 10 b22
 f23:FnB c 23 5 1 b23
 f24:FnB c 24 7 3 b24
 f25:FnB c 25 7 8 b25
 f26:FnB c 26 2 5 b26
 f27:FnB c 27 2 3 b27
 f28:FnB c 28 1 3 b28
 f29:FnB c 29 2 0 b29
 f30:FnB c 30 1 6 b30
 f31:FnB c 31 2 0 b31
 f32:FnB c 32 1 3 b32
 f33:FnB c 33 2 5 b33
 f38:FnB c 38 1 17 b38
 f50:FnB c 50 1 0 b50
 f51:FnB c 51 2 1 b51
 f52:FnB c 52 2 6 b52
 f53:FnB c 53 2 15 b53
 f54:FnB c 54 2 8 b54
 f55:FnB c 55 2 10 b55
 f56:FnB c 56 3 6 b56
 f60:FnB c 60 7 0 b60
 f61:FnB c 61 2 1 b61
 f70:FnB c 70 3 0 b70
 f71:FnB c 71 3 8 b71
 f72:FnB c 72 1 1 b72
 f73:FnB c 73 3 9 b73
 f74:FnB c 74 3 7 b74
 f75:FnB c 75 3 5 b75
 f76:FnB c 76 3 9 b76
 f77:FnB c 77 3 3 b77
 f80:FnB c 80 4 0 b80
 f81:FnB c 81 1 1 b81
section
variable {C:Cl} {H:MH} {r:List PV} {Q:PV→MH→Prop}
theorem wpX_var {i:Nat}:wpX C (.var i) r H Q=(isU (get r i)=false∧Q (get r i) H):=by
 show (match get r i with
  | .undef=>False
  | p=>Q p H)=_
 induction get r i using PV.casesOn with
 | undef=>exact propext ⟨fun h=>h.elim,fun h=>by cases h.1⟩
 | _=>exact propext ⟨fun h=>⟨rfl,h⟩,fun h=>h.2⟩
theorem wx_lit {p:PV}:wpX C (.lit p) r H Q=Q p H:=rfl
theorem wx_and {a b:X}:wpX C (.and2 a b) r H Q=wpX C a r H fun p H=>(match truth p with
  | some true=>wpX C b r H Q
  | some false=>Q p H
  | none=>False):=rfl
theorem wx_or {a b:X}:wpX C (.or2 a b) r H Q=wpX C a r H fun p H=>(match truth p with
  | some true=>Q p H
  | some false=>wpX C b r H Q
  | none=>False):=rfl
theorem wx_not {a:X}:wpX C (.not1 a) r H Q=wpX C a r H fun p H=>(match truth p with
  | some t=>Q (.bool (!t)) H
  | none=>False):=rfl
theorem wx_neg {a:X}:wpX C (.neg a) r H Q=wpX C a r H fun p H=>(match p with
  | .int i=>Q (.int (-i)) H
  | _=>False):=rfl
theorem wx_ife {t a b:X}:wpX C (.ife t a b) r H Q=wpX C t r H fun p H=>(match truth p with
  | some true=>wpX C a r H Q
  | some false=>wpX C b r H Q
  | none=>False):=rfl
theorem wx_bin {op:Operator} {a b:X}:wpX C (.bin op a b) r H Q=wpX C a r H fun p H=>wpX C b r H fun q H=>binOp op p q H Q:=rfl
theorem wx_cmp {op:CmpOp} {a b:X}:wpX C (.cmp op a b) r H Q=wpX C a r H fun p H=>wpX C b r H fun q H=>cmpOp op p q H Q:=rfl
theorem wx_tup {xs:Xs}:wpX C (.tup xs) r H Q=wpXs C xs r H fun ps H=>ps.length≤big∧Q (.tup ps) H:=rfl
theorem wx_list {xs:Xs}:wpX C (.list xs) r H Q=wpXs C xs r H fun ps H=>ps.length≤big∧fresh H (.list ps) Q:=rfl
theorem wx_dict:wpX C .dict0 r H Q=fresh H (.ns []) Q:=rfl
theorem wx_call {f:X} {xs:Xs}:wpX C (.call f xs) r H Q=wpX C f r H fun p H=>callee p∧wpXs C xs r H fun ps H=>(match p with
  | .bi k=>biOp k ps H Q
  | .fn k=>C (.fn k) ps H Q
  | _=>False):=rfl
theorem wx_meth {o:X} {n:Nat} {xs:Xs}:wpX C (.meth o n xs) r H Q=wpX C o r H fun p H=>(match bindOp C p n H with
  | some g=>wpXs C xs r H fun ps H=>g ps H Q
  | none=>False):=rfl
theorem wx_attr {o:X} {n:Nat}:wpX C (.attr o n) r H Q=wpX C o r H fun p H=>attrOp p n H Q:=rfl
theorem wx_sub {o i:X}:wpX C (.sub o i) r H Q=wpX C o r H fun p H=>wpX C i r H fun q H=>subOp p q H Q:=rfl
theorem wx_slice {o lo hi st:X}:wpX C (.slice o lo hi st) r H Q=wpX C o r H fun p H=>wpX C lo r H fun a H=>wpX C hi r H fun b H=>wpX C st r H fun c H=>sliceOp p a b c H Q:=rfl
theorem wx_comp {elt it:X} {vi:Nat} {imp:List Nat}:wpX C (.comp elt vi it imp) r H Q=wpX C it r H fun p H=>compOp (fun _ H Q=>Q (.bool true) H) (fun x H Q=>wpX C elt ((impR r imp).set vi x) H Q) p H Q:=rfl
theorem wx_compIf {elt it cond:X} {vi:Nat} {imp:List Nat}:wpX C (.compIf elt vi it cond imp) r H Q=wpX C it r H fun p H=>compOp (fun x H Q=>wpX C cond ((impR r imp).set vi x) H Q) (fun x H Q=>wpX C elt ((impR r imp).set vi x) H Q) p H Q:=rfl
end
inductive Lf where
 | chars (x:List Nat)
 | len (n:Nat)
 | any (b:Bool) (x:List Nat)
 | rpos (n:Nat)
noncomputable def kindL:Lf→List Nat
 | .chars _=>[99,104,97,114,115]
 | .len _=>[108,101,110]
 | .any true _=>[97,110,121]
 | .any false _=>[110,111,116,97,110,121]
 | .rpos _=>[114,112,111,115]
theorem kindL_q1:∀ (x_1:List Nat),kindL (Lf.chars x_1)=[99,104,97,114,115]:=by intros; rfl
theorem kindL_q2:∀ (n:Nat),kindL (Lf.len n)=[108,101,110]:=by intros; rfl
theorem kindL_q3:∀ (x_1:List Nat),kindL (Lf.any true x_1)=[97,110,121]:=by intros; rfl
theorem kindL_q4:∀ (x_1:List Nat),kindL (Lf.any false x_1)=[110,111,116,97,110,121]:=by intros; rfl
theorem kindL_q5:∀ (n:Nat),kindL (Lf.rpos n)=[114,112,111,115]:=by intros; rfl
noncomputable def toldL:Lf→PV
 | .chars x=>.str x
 | .len n=>.int n
 | .any _ x=>.str x
 | .rpos n=>.int n
noncomputable def encL (l:Lf):PV:=.tup [.str (kindL l),toldL l]
noncomputable def leafEnd (s:List Nat) (l:Lf) (p:Nat):Option Nat:=match l with
 | .chars x=>if (s.drop p).take x.length=x then some (p+x.length) else none
 | .len n=>if p+n≤s.length then some (p+n) else none
 | .any b x=>if p<s.length∧x.contains (s.getD p 0)=b then some (p+1) else none
 | .rpos n=>if (s.length:Int) - p=n then some p else none
theorem leafEnd_q1:∀ (s:List Nat) (p:Nat) (x_1:List Nat),leafEnd s (Lf.chars x_1) p=if List.take (List.length x_1) (List.drop p s)=x_1 then some (p+List.length x_1) else none:=by intros; rfl
theorem leafEnd_q2:∀ (s:List Nat) (p n:Nat),leafEnd s (Lf.len n) p=if p+n≤List.length s then some (p+n) else none:=by intros; rfl
theorem leafEnd_q3:∀ (s:List Nat) (p:Nat) (b:Bool) (x_1:List Nat),leafEnd s (Lf.any b x_1) p=if p<List.length s∧List.contains x_1 (List.getD s p 0)=b then some (p+1) else none:=by intros; rfl
theorem leafEnd_q4:∀ (s:List Nat) (p n:Nat),leafEnd s (Lf.rpos n) p=if ((List.length s:Nat):Int) - (p:Int)=(n:Int) then some p else none:=by intros; rfl
noncomputable def resV:Option Nat→PV
 | some q=>.int q
 | none=>.none
noncomputable def Ev (C:Cl) (x:X) (r:List PV) (H:MH) (v:PV):Prop:=∀ K:PV→MH→Prop,K v H→wpX C x r H K
section
variable {C:Cl} {x t:X} {a b ss:Ss} {r:List PV} {H:MH} {Q:QS} {v:PV} {i:Nat}
theorem ifF (e:Ev C t r H (.bool false)) (k:wpSs C ss r H Q):wpSs C (.cons (.ite t a .nil) ss) r H Q:=by
 exact e _ k
theorem ifT (e:Ev C t r H (.bool true)) (k:wpSs C a r H fun f r H=>match f with
   | .next=>wpSs C ss r H Q
   | .brk=>Q .brk r H
   | .cont=>Q .cont r H
   | .ret p=>Q (.ret p) r H):wpSs C (.cons (.ite t a b) ss) r H Q:=by
 exact e _ k
theorem ifE (e:Ev C t r H (.bool false)) (k:wpSs C b r H fun f r H=>match f with
   | .next=>wpSs C ss r H Q
   | .brk=>Q .brk r H
   | .cont=>Q .cont r H
   | .ret p=>Q (.ret p) r H):wpSs C (.cons (.ite t a b) ss) r H Q:=by
 exact e _ k
theorem retE (e:Ev C x r H v) (k:Q (.ret v) r H):wpSs C (.cons (.ret x) ss) r H Q:=by
 exact e _ k
theorem retW (k:wpX C x r H fun p H=>Q (.ret p) r H):wpSs C (.cons (.ret x) ss) r H Q:=by
 exact k
theorem asgE (e:Ev C x r H v) (k:wpSs C ss (r.set i v) H Q):wpSs C (.cons (.asg i x) ss) r H Q:=by
 exact e _ k
theorem asgW' (k:wpX C x r H fun v H=>wpSs C ss (r.set i v) H Q):wpSs C (.cons (.asg i x) ss) r H Q:=by
 exact k
theorem exprW (k:wpX C x r H fun _ H=>wpSs C ss r H Q):wpSs C (.cons (.expr x) ss) r H Q:=by
 exact k
theorem nilW (k:Q .next r H):wpSs C .nil r H Q:=by
 exact k
theorem ev_eq {y z:List Nat} (h:get r i=.str y):Ev C (.cmp .Eq (.var i) (.lit (.str z))) r H (.bool (decide (y=z))):=fun K k=>by
 rw [wx_cmp,wpX_var,h]
 exact ⟨rfl,k⟩
theorem ev_eqF {y z:List Nat} (h:get r i=.str y) (n:y≠z):Ev C (.cmp .Eq (.var i) (.lit (.str z))) r H (.bool false):=by
 have:=ev_eq (C:=C) (H:=H) (z:=z) h
 rwa [decide_eq_false n] at this
theorem ev_eqT {y z:List Nat} (h:get r i=.str y) (n:y=z):Ev C (.cmp .Eq (.var i) (.lit (.str z))) r H (.bool true):=by
 have:=ev_eq (C:=C) (H:=H) (z:=z) h
 rwa [decide_eq_true n] at this
theorem skipK {y z:List Nat} (h:get r i=.str y) (n:y≠z) (k:wpSs C ss r H Q):wpSs C (.cons (.ite (.cmp .Eq (.var i) (.lit (.str z))) a .nil) ss) r H Q:=ifF (ev_eqF h n) k
theorem asgTv {is:List Nat} {ps:List PV} (h:get r i=.tup ps) (hl:ps.length=is.length) (hs:is.length≤1000) (k:wpSs C ss (setAll is ps r) H Q):wpSs C (.cons (.asgT is (.var i)) ss) r H Q:=by
 suffices h2:wpX C (.var i) r H (fun p H=>itemsOp is.length p H fun ps=>wpSs C ss (setAll is ps r) H Q) from h2
 rw [wpX_var,h]
 exact ⟨rfl,hl,hs,k⟩
theorem ev_var (h:get r i=v) (u:isU v=false):Ev C (.var i) r H v:=fun K k=>by
 rw [wpX_var,h]; exact ⟨u,k⟩
theorem Ev.cast {w:PV} (e:Ev C x r H v) (h:v=w):Ev C x r H w:=h ▸ e
end
noncomputable def cq (C:Cl) (p:PV) (xs:Xs) (r:List PV) (H:MH) (Q:PV→MH→Prop):Prop:=callee p∧wpXs C xs r H fun ps H=>(match p with
  | .bi k=>biOp k ps H Q
  | .fn k=>C (.fn k) ps H Q
  | _=>False)
noncomputable def mq (C:Cl) (p:PV) (n:Nat) (xs:Xs) (r:List PV) (H:MH) (Q:PV→MH→Prop):Prop:=match bindOp C p n H with
 | some g=>wpXs C xs r H fun ps H=>g ps H Q
 | none=>False
section
variable {C:Cl} {H:MH} {r:List PV} {Q:PV→MH→Prop} {A B:Prop} {a b c e0 e1 e2 e3 e4 e5 e6 p q:PV} {l:List PV} {x y:X} {xs:Xs} {S:QS}
theorem tq_T (h:A):tq (.bool true) A B:=h
theorem tq_F (h:B):tq (.bool false) A B:=h
theorem x_lit (h:Q p H):wpX C (.lit p) r H Q:=h
theorem x_var {i:Nat} (u:isU (get r i)=false) (h:Q (get r i) H):wpX C (.var i) r H Q:=wpX_var ▸ ⟨u,h⟩
theorem x_v0 (u:isU a=false) (h:Q a H):wpX C (.var 0) (a::l) H Q:=x_var (r:=a::l) u h
theorem x_v1 (u:isU a=false) (h:Q a H):wpX C (.var 1) (e0::a::l) H Q:=x_var (r:=e0::a::l) u h
theorem x_v2 (u:isU a=false) (h:Q a H):wpX C (.var 2) (e0::e1::a::l) H Q:=x_var (r:=e0::e1::a::l) u h
theorem x_v3 (u:isU a=false) (h:Q a H):wpX C (.var 3) (e0::e1::e2::a::l) H Q:=x_var (r:=e0::e1::e2::a::l) u h
theorem x_v4 (u:isU a=false) (h:Q a H):wpX C (.var 4) (e0::e1::e2::e3::a::l) H Q:=x_var (r:=e0::e1::e2::e3::a::l) u h
theorem x_v5 (u:isU a=false) (h:Q a H):wpX C (.var 5) (e0::e1::e2::e3::e4::a::l) H Q:=x_var (r:=e0::e1::e2::e3::e4::a::l) u h
theorem x_v6 (u:isU a=false) (h:Q a H):wpX C (.var 6) (e0::e1::e2::e3::e4::e5::a::l) H Q:=x_var (r:=e0::e1::e2::e3::e4::e5::a::l) u h
theorem x_v7 (u:isU a=false) (h:Q a H):wpX C (.var 7) (e0::e1::e2::e3::e4::e5::e6::a::l) H Q:=x_var (r:=e0::e1::e2::e3::e4::e5::e6::a::l) u h
theorem x_v8 {e7:PV} (u:isU a=false) (h:Q a H):wpX C (.var 8) (e0::e1::e2::e3::e4::e5::e6::e7::a::l) H Q:=x_var (r:=e0::e1::e2::e3::e4::e5::e6::e7::a::l) u h
theorem x_v9 {e7 e8:PV} (u:isU a=false) (h:Q a H):wpX C (.var 9) (e0::e1::e2::e3::e4::e5::e6::e7::e8::a::l) H Q:=x_var (r:=e0::e1::e2::e3::e4::e5::e6::e7::e8::a::l) u h
theorem x_v10 {e7:PV} {e8:PV} {e9:PV} (u:isU a=false) (h:Q a H):wpX C (.var 10) (e0::e1::e2::e3::e4::e5::e6::e7::e8::e9::a::l) H Q:=x_var (r:=e0::e1::e2::e3::e4::e5::e6::e7::e8::e9::a::l) u h
theorem x_and (h:wpX C x r H fun p H=>tq p (wpX C y r H Q) (Q p H)):wpX C (.and2 x y) r H Q:=h
theorem x_or (h:wpX C x r H fun p H=>tq p (Q p H) (wpX C y r H Q)):wpX C (.or2 x y) r H Q:=h
theorem x_not (h:wpX C x r H fun p H=>tq p (Q (.bool false) H) (Q (.bool true) H)):wpX C (.not1 x) r H Q:=by
 have e:(fun (p:PV) H=>tq p (Q (.bool false) H) (Q (.bool true) H))=fun p H=>(match truth p with | some t=>Q (.bool (!t)) H | none=>False):=by
  funext p H
  unfold tq
  induction truth p using Option.casesOn with
  | none=>rfl
  | some t=>cases t <;> rfl
 rw [e] at h
 exact h
theorem x_neg1 {i:Int} (h:Q (.int (-i)) H):wpX C (.neg (.lit (.int i))) r H Q:=h
theorem x_ife {t:X} (h:wpX C t r H fun p H=>tq p (wpX C x r H Q) (wpX C y r H Q)):wpX C (.ife t x y) r H Q:=h
theorem x_bin {op:Operator} (h:wpX C x r H fun p H=>wpX C y r H fun q H=>binOp op p q H Q):wpX C (.bin op x y) r H Q:=h
theorem x_cmp {op:CmpOp} (h:wpX C x r H fun p H=>wpX C y r H fun q H=>cmpOp op p q H Q):wpX C (.cmp op x y) r H Q:=h
theorem x_tup (h:wpXs C xs r H fun ps H=>ps.length≤big∧Q (.tup ps) H):wpX C (.tup xs) r H Q:=h
theorem x_list (h:wpXs C xs r H fun ps H=>ps.length≤big∧fresh H (.list ps) Q):wpX C (.list xs) r H Q:=h
theorem x_fn {k:Nat} (hk:k<90) (h:wpXs C xs r H fun ps H=>C (.fn k) ps H Q):wpX C (.call (.lit (.fn k)) xs) r H Q:=⟨hk,h⟩
theorem x_bi {k:Nat} (hk:k<8) (h:wpXs C xs r H fun ps H=>biOp k ps H Q):wpX C (.call (.lit (.bi k)) xs) r H Q:=⟨hk,h⟩
theorem x_call {f:X} (h:wpX C f r H fun p H=>cq C p xs r H Q):wpX C (.call f xs) r H Q:=h
theorem c_fn {k:Nat} (hk:k<90) (h:wpXs C xs r H fun ps H=>C (.fn k) ps H Q):cq C (.fn k) xs r H Q:=⟨hk,h⟩
theorem x_meth {n:Nat} (h:wpX C x r H fun p H=>mq C p n xs r H Q):wpX C (.meth x n xs) r H Q:=h
theorem x_attr {n:Nat} (h:wpX C x r H fun p H=>attrOp p n H Q):wpX C (.attr x n) r H Q:=h
theorem x_sub (h:wpX C x r H fun p H=>wpX C y r H fun q H=>subOp p q H Q):wpX C (.sub x y) r H Q:=h
theorem x_slice {lo hi st:X} (h:wpX C x r H fun p H=>wpX C lo r H fun a H=>wpX C hi r H fun b H=>wpX C st r H fun c H=>sliceOp p a b c H Q):wpX C (.slice x lo hi st) r H Q:=h
theorem x_comp {vi:Nat} {imp:List Nat} (h:wpX C y r H fun p H=>compOp (fun _ H Q=>Q (.bool true) H) (fun z H Q=>wpX C x ((impR r imp).set vi z) H Q) p H Q):wpX C (.comp x vi y imp) r H Q:=h
theorem xs_nil {Q:List PV→MH→Prop} (h:Q [] H):wpXs C .nil r H Q:=h
theorem xs_cons {Q:List PV→MH→Prop} (h:wpX C x r H fun p H=>wpXs C xs r H fun ps H=>Q (p::ps) H):wpXs C (.cons x xs) r H Q:=h
theorem o_eqT {x:List Nat} (h:Q (.bool true) H):cmpOp .Eq (.str x) (.str x) H Q:=by
 show Q (.bool (decide (x=x))) H
 rw [decide_eq_true rfl]; exact h
theorem o_eqF {x y:List Nat} (n:x≠y) (h:Q (.bool false) H):cmpOp .Eq (.str x) (.str y) H Q:=by
 show Q (.bool (decide (x=y))) H
 rw [decide_eq_false n]; exact h
theorem o_eqE {x y:List Nat} (e:x=y) (h:Q (.bool true) H):cmpOp .Eq (.str x) (.str y) H Q:=by
 subst e; exact o_eqT h
theorem o_eqS {x y:List Nat} (h:Q (.bool (decide (x=y))) H):cmpOp .Eq (.str x) (.str y) H Q:=h
theorem o_eqI {x y:Int} (h:Q (.bool (decide (x=y))) H):cmpOp .Eq (.int x) (.int y) H Q:=h
theorem o_eqB {x y:Bool} (h:Q (.bool (decide (x=y))) H):cmpOp .Eq (.bool x) (.bool y) H Q:=h
theorem o_gt {x y:Int} (h:Q (.bool (decide (y<x))) H):cmpOp .Gt (.int x) (.int y) H Q:=h
theorem o_isT (h:Q (.bool true) H):cmpOp .Is .none .none H Q:=⟨rfl,h⟩
theorem o_isF (b:isBi p=false) (n:isNone p=false) (h:Q (.bool false) H):cmpOp .Is p .none H Q:=⟨b,by rw [n]; exact h⟩
theorem o_nisT (b:isBi p=false) (n:isNone p=false) (h:Q (.bool true) H):cmpOp .IsNot p .none H Q:=⟨b,by rw [n]; exact h⟩
theorem o_nisF (h:Q (.bool false) H):cmpOp .IsNot .none .none H Q:=⟨rfl,h⟩
theorem o_inC {k:Nat} {y:List Nat} (h:Q (.bool (y.contains k)) H):cmpOp .In (.str [k]) (.str y) H Q:=h
theorem o_ninC {k:Nat} {y:List Nat} (h:Q (.bool (!y.contains k)) H):cmpOp .NotIn (.str [k]) (.str y) H Q:=h
theorem o_inT {x:List Nat} {ys:List PV} {zs:List (List Nat)} (b:Bool) (e:strsOf ys=some zs) (hb:zs.contains x=b) (h:Q (.bool b) H):cmpOp .In (.str x) (.tup ys) H Q:=by
 show (match strsOf ys with | some zs=>Q (.bool (zs.contains x)) H | none=>False)
 rw [e]
 show Q (.bool (zs.contains x)) H
 rw [hb]; exact h
theorem o_ninT {x:List Nat} {ys:List PV} {zs:List (List Nat)} (b:Bool) (e:strsOf ys=some zs) (hb:zs.contains x=!b) (h:Q (.bool b) H):cmpOp .NotIn (.str x) (.tup ys) H Q:=by
 show (match strsOf ys with | some zs=>Q (.bool (!zs.contains x)) H | none=>False)
 rw [e]
 show Q (.bool (!zs.contains x)) H
 rw [hb,Bool.not_not]; exact h
theorem o_inT1 {x:List Nat} {ys:List PV} {zs:List (List Nat)} (e:strsOf ys=some zs) (hb:zs.contains x=true) (h:Q (.bool true) H):cmpOp .In (.str x) (.tup ys) H Q:=o_inT true e hb h
theorem o_inT0 {x:List Nat} {ys:List PV} {zs:List (List Nat)} (e:strsOf ys=some zs) (hb:zs.contains x=false) (h:Q (.bool false) H):cmpOp .In (.str x) (.tup ys) H Q:=o_inT false e hb h
theorem o_ninT1 {x:List Nat} {ys:List PV} {zs:List (List Nat)} (e:strsOf ys=some zs) (hb:zs.contains x=false) (h:Q (.bool true) H):cmpOp .NotIn (.str x) (.tup ys) H Q:=o_ninT true e hb h
theorem o_ninT0 {x:List Nat} {ys:List PV} {zs:List (List Nat)} (e:strsOf ys=some zs) (hb:zs.contains x=true) (h:Q (.bool false) H):cmpOp .NotIn (.str x) (.tup ys) H Q:=o_ninT false e hb h
theorem o_add {x y:Int} (h:Q (.int (x+y)) H):binOp .Add (.int x) (.int y) H Q:=h
theorem o_subI {x y:Int} (h:Q (.int (x - y)) H):binOp .Sub (.int x) (.int y) H Q:=h
theorem o_t0 (hl:(a::l).length≤big) (h:Q a H):subOp (.tup (a::l)) (.int 0) H Q:=⟨by decide,by simp only [List.length_cons]; lia,hl,h⟩
theorem o_t1 (hl:(a::b::l).length≤big) (h:Q b H):subOp (.tup (a::b::l)) (.int 1) H Q:=⟨by decide,by simp only [List.length_cons]; lia,hl,h⟩
theorem o_t2 (hl:(a::b::c::l).length≤big) (h:Q c H):subOp (.tup (a::b::c::l)) (.int 2) H Q:=⟨by decide,by simp only [List.length_cons]; lia,hl,h⟩
theorem o_lenS {x:List Nat} (hl:x.length≤big) (h:Q (.int x.length) H):biOp 0 [.str x] H Q:=⟨hl,h⟩
theorem o_lenT {x:List PV} (hl:x.length≤big) (h:Q (.int x.length) H):biOp 0 [.tup x] H Q:=⟨hl,h⟩
theorem i_len {a:Addr} {zs:List PV} {n:Nat} (e:H a=some (.list zs)) (hn:zs.length=n) (h:n≤big∧Q (.int n) H):biOp 0 [.ref a] H Q:=by
 show (match H a with
  | some (.list xs)=>xs.length≤big∧Q (.int xs.length) H
  | _=>False)
 rw [e]; subst hn; exact h
theorem i_sub {a:Addr} {zs:List PV} {n:Nat} {k:Int} (e:H a=some (.list zs)) (hn:zs.length=n) (h:0≤k∧k<n∧n≤big∧Q (zs.getD k.toNat .undef) H):subOp (.ref a) (.int k) H Q:=by
 show (match H a with
  | some (.list xs)=>0≤k∧k<xs.length∧xs.length≤big∧Q (xs.getD k.toNat .undef) H
  | _=>False)
 rw [e]; subst hn; exact h
theorem i_slice {l:Addr} {zs:List PV} {lo hi st:PV} (e:H l=some (.list zs)) (h:sliceL zs lo hi st H Q):sliceOp (.ref l) lo hi st H Q:=by
 show (match H l with
  | some (.list xs)=>sliceL xs lo hi st H Q
  | _=>False)
 rw [e]; exact h
theorem i_listM {a:Addr} {zs:List PV} {n:Nat} {args:List PV} (e:H a=some (.list zs)) (h:listM a zs n args H Q):listMeth a n args H Q:=by
 unfold listMeth
 rw [e]; exact h
theorem i_setS {a:Addr} {zs:List PV} {n:Nat} {k:Int} {Q:MH→Prop} (e:H a=some (.list zs)) (hn:zs.length=n) (h:0≤k∧k<n∧n≤big∧Q (upd H a (.list (zs.set k.toNat p)))):setS (.ref a) (.int k) p H Q:=by
 show (match H a with
  | some (.list xs)=>0≤k∧k<xs.length∧xs.length≤big∧Q (upd H a (.list (xs.set k.toNat p)))
  | _=>False)
 rw [e]; subst hn; exact h
theorem i_iter {a:Addr} {zs:List PV} {n:Nat} {K:List PV→(MH→Prop)→Prop} (e:H a=some (.list zs)) (hn:zs.length=n) (h:n≤big∧K zs fun H'=>H' a=some (.list zs)):iterOp (.ref a) H K:=by
 show (match H a with
  | some (.list xs)=>xs.length≤big∧K xs fun H'=>H' a=some (.list xs)
  | _=>False)
 rw [e]; subst hn; exact h
theorem i_items {a:Addr} {zs:List PV} {n:Nat} {K:List PV→Prop} (e:H a=some (.list zs)) (h:zs.length=n∧n≤1000∧K zs):itemsOp n (.ref a) H K:=by
 show (match H a with
  | some (.list xs)=>xs.length=n∧n≤1000∧K xs
  | _=>False)
 rw [e]; exact h
theorem i_add {a b:Addr} {zs ys:List PV} (e:H a=some (.list zs)) (f:H b=some (.list ys)) (h:zs.length+ys.length≤big∧fresh H (.list (zs++ys)) Q):binOp .Add (.ref a) (.ref b) H Q:=by
 show (match H a,H b with
  | some (.list xs),some (.list ys)=>xs.length+ys.length≤big∧fresh H (.list (xs++ys)) Q
  | _,_=>False)
 rw [e,f]; exact h
theorem i_mul {a:Addr} {zs:List PV} {n:Int} (e:H a=some (.list zs)) (h:0≤n∧n≤1000∧zs.length≤1000∧fresh H (.list (List.replicate n.toNat zs).flatten) Q):binOp .Mult (.ref a) (.int n) H Q:=by
 show (match H a with
  | some (.list xs)=>0≤n∧n≤1000∧xs.length≤1000∧fresh H (.list (List.replicate n.toNat xs).flatten) Q
  | _=>False)
 rw [e]; exact h
theorem i_str {a:Addr} {ys:List PV} {zs:List (List Nat)} {x:List Nat} (e:H a=some (.list ys)) (hz:strsOf ys=some zs) (h:x=[]∧zs.flatten.length≤big∧zs.length≤big∧Q (.str zs.flatten) H):strMeth x 35 [.ref a] H Q:=by
 show (match H a with
  | some (.list ys)=>(match strsOf ys with
   | some zs=>x=[]∧zs.flatten.length≤big∧zs.length≤big∧Q (.str zs.flatten) H
   | none=>False)
  | _=>False)
 rw [e]
 show (match strsOf ys with
   | some zs=>x=[]∧zs.flatten.length≤big∧zs.length≤big∧Q (.str zs.flatten) H
   | none=>False)
 rw [hz]; exact h
theorem o_lenL {a:Addr} {zs:List PV} (e:H a=some (.list zs)) (hl:zs.length≤big) (h:Q (.int zs.length) H):biOp 0 [.ref a] H Q:=by
 exact i_len e rfl ⟨hl,h⟩
theorem o_isS {x:List Nat} (h:Q (.bool true) H):biOp 4 [.str x,.bi 6] H Q:=h
theorem o_isTs {x:List Nat} (h:Q (.bool false) H):biOp 4 [.str x,.bi 7] H Q:=h
theorem o_isTi {x:Int} (h:Q (.bool false) H):biOp 4 [.int x,.bi 7] H Q:=h
theorem o_int {x:Int} (h:Q (.int x) H):biOp 3 [.int x] H Q:=h
theorem o_abs {x:Int} (h:Q (.int x.natAbs) H):biOp 2 [.int x] H Q:=h
theorem o_mod {x y:Int} (hy:0<y) (h:Q (.int (x % y)) H):binOp .Mod (.int x) (.int y) H Q:=⟨hy,h⟩
theorem o_mul {x y:Int} (h1:x.natAbs<2 ^ 31) (h2:y.natAbs<2 ^ 31) (h:Q (.int (x*y)) H):binOp .Mult (.int x) (.int y) H Q:=⟨h1,h2,h⟩
theorem o_fdiv {x y:Int} (h1:0<y) (h2:y<1000) (h:Q (.int (x / y)) H):binOp .FloorDiv (.int x) (.int y) H Q:=⟨h1,h2,h⟩
theorem o_listT {zs:List PV} (hl:zs.length≤big) (h:fresh H (.list zs) Q):biOp 5 [.tup zs] H Q:=⟨hl,h⟩
theorem o_range {n:Int} (hn:n.natAbs≤big) (h:Q (.rng 0 n) H):biOp 1 [.int n] H Q:=⟨hn,h⟩
theorem tq_dT {P:Prop} [Decidable P] (e:P) (h:A):tq (.bool (decide P)) A B:=by rw [decide_eq_true e]; exact h
theorem tq_dF {P:Prop} [Decidable P] (e:¬ P) (h:B):tq (.bool (decide P)) A B:=by rw [decide_eq_false e]; exact h
theorem tq_eT {b:Bool} (e:b=true) (h:A):tq (.bool b) A B:=by rw [e]; exact h
theorem tq_eF {b:Bool} (e:b=false) (h:B):tq (.bool b) A B:=by rw [e]; exact h
theorem o_addS {x y:List Nat} (hl:x.length+y.length≤big) (h:Q (.str (x++y)) H):binOp .Add (.str x) (.str y) H Q:=⟨hl,h⟩
theorem o_addN {p q:Nat} (h:Q (.int ((p+q:Nat):Int)) H):binOp .Add (.int p) (.int q) H Q:=h
theorem o_add1 {p:Nat} (h:Q (.int ((p+1:Nat):Int)) H):binOp .Add (.int p) (.int 1) H Q:=h
theorem o_ltN {p q:Nat} (h:Q (.bool (decide (p<q))) H):cmpOp .Lt (.int p) (.int q) H Q:=by
 show Q (.bool (decide ((p:Int)<q))) H
 rw [decide_eq_decide.mpr Int.ofNat_lt]; exact h
theorem o_leN {p q:Nat} (h:Q (.bool (decide (p≤q))) H):cmpOp .LtE (.int p) (.int q) H Q:=by
 show Q (.bool (decide ((p:Int)≤q))) H
 rw [decide_eq_decide.mpr Int.ofNat_le]; exact h
theorem o_gtN {p q:Nat} (h:Q (.bool (decide (q<p))) H):cmpOp .Gt (.int p) (.int q) H Q:=by
 show Q (.bool (decide ((q:Int)<p))) H
 rw [decide_eq_decide.mpr Int.ofNat_lt]; exact h
theorem o_gt0 {q:Nat} (h:Q (.bool (decide (0<q))) H):cmpOp .Gt (.int q) (.int 0) H Q:=o_gtN (q:=0) h
theorem o_gt1 {q:Nat} (h:Q (.bool (decide (1<q))) H):cmpOp .Gt (.int q) (.int 1) H Q:=o_gtN (q:=1) h
theorem o_eqN {p q:Nat} (h:Q (.bool (decide (p=q))) H):cmpOp .Eq (.int p) (.int q) H Q:=by
 show Q (.bool (decide ((p:Int)=q))) H
 rw [decide_eq_decide.mpr Int.ofNat_inj]; exact h
theorem o_slN {x:List Nat} {p q:Nat} (hl:x.length≤big) (h:Q (.str ((x.drop p).take (q - p))) H):sliceOp (.str x) (.int p) (.int q) .none H Q:=⟨Int.natCast_nonneg p,Int.natCast_nonneg q,hl,h⟩
theorem o_sl4 {x:List Nat} (hl:x.length≤big) (h:Q (.str (x.take 4)) H):sliceOp (.str x) .none (.int 4) .none H Q:=⟨by decide,hl,h⟩
theorem o_sN {x:List Nat} {p:Nat} (hp:p<x.length) (hl:x.length≤big) (h:Q (.str [x.getD p 0]) H):subOp (.str x) (.int p) H Q:=⟨Int.natCast_nonneg p,Int.ofNat_lt.mpr hp,hl,h⟩
theorem o_lN {a:Addr} {zs:List PV} {k:Nat} (e:H a=some (.list zs)) (hk:k<zs.length) (hl:zs.length≤big) (h:Q (zs.getD k .undef) H):subOp (.ref a) (.int k) H Q:=by
 exact i_sub e rfl ⟨Int.natCast_nonneg k,Int.ofNat_lt.mpr hk,hl,h⟩
theorem o_attr {a dd:Addr} {k n:Nat} {m:List (Nat×PV)} (e1:H a=some (.inst k dd)) (e2:H dd=some (.ns m)) (e3:m.lookup n=some p) (h:Q p H):attrOp (.ref a) n H Q:=by
 show (match H a with
  | some (.inst _ d)=>(match H d with
   | some (.ns m)=>(match m.lookup n with
    | some p=>Q p H
    | none=>False)
   | _=>False)
  | _=>False)
 rw [e1]
 show (match H dd with
   | some (.ns m)=>(match m.lookup n with
    | some p=>Q p H
    | none=>False)
   | _=>False)
 rw [e2]
 show (match m.lookup n with
    | some p=>Q p H
    | none=>False)
 rw [e3]; exact h
theorem o_setA {a dd:Addr} {k n:Nat} {m:List (Nat×PV)} {Q:MH→Prop} (e1:H a=some (.inst k dd)) (e2:H dd=some (.ns m)) (hn:n<15) (hm:m.length≤100) (h:Q (upd H dd (.ns (putA n p m)))):setA (.ref a) n p H Q:=by
 show (match H a with
  | some (.inst _ d)=>(match H d with
   | some (.ns m)=>n<15∧m.length≤100∧Q (upd H d (.ns (putA n p m)))
   | _=>False)
  | _=>False)
 rw [e1]
 show (match H dd with
   | some (.ns m)=>n<15∧m.length≤100∧Q (upd H dd (.ns (putA n p m)))
   | _=>False)
 rw [e2]; exact ⟨hn,hm,h⟩
theorem bind_inst {C:Cl} {H:MH} {a da:Addr} {k n f:Nat} {m:List (Nat×PV)} (e1:H a=some (.inst k da)) (e2:H da=some (.ns m)) (e4:mth k n=some f) (e3:(m.lookup n).isNone=true):bindOp C (.ref a) n H=some fun args H Q=>C (.fn f) (.ref a::args) H Q:=by
 show (match H a with
  | some (.list _)=>if 31≤n∧n≤34 then some (listMeth a n) else none
  | some (.inst k d)=>(match H d,mth k n with
   | some (.ns m),some f=>if (m.lookup n).isNone then some fun args H Q=>C (.fn f) (.ref a::args) H Q else none
   | _,_=>none)
  | _=>none)=_
 rw [e1]
 show (match H da,mth k n with
   | some (.ns m),some f=>if (m.lookup n).isNone then some fun args H Q=>C (.fn f) (.ref a::args) H Q else none
   | _,_=>none)=_
 rw [e2,e4]
 exact if_pos e3
theorem bind_list {C:Cl} {H:MH} {a:Addr} {n:Nat} {zs:List PV} (e:H a=some (.list zs)) (hn:31≤n∧n≤34):bindOp C (.ref a) n H=some (listMeth a n):=by
 show (match H a with
  | some (.list _)=>if 31≤n∧n≤34 then some (listMeth a n) else none
  | some (.inst k d)=>(match H d,mth k n with
   | some (.ns m),some f=>if (m.lookup n).isNone then some fun args H Q=>C (.fn f) (.ref a::args) H Q else none
   | _,_=>none)
  | _=>none)=_
 rw [e]
 exact if_pos hn
theorem x_listM {a:Addr} {zs:List PV} {n:Nat} (e:H a=some (.list zs)) (hn:31≤n∧n≤34) (h:wpXs C xs r H fun ps H=>listMeth a n ps H Q) :
  mq C (.ref a) n xs r H Q:=by
 unfold mq
 rw [bind_list e hn]; exact h
theorem o_app {a:Addr} {zs:List PV} (e:H a=some (.list zs)) (hl:zs.length<big) (h:Q .none (upd H a (.list (zs++[p])))):listMeth a 31 [p] H Q:=by
 exact i_listM e ⟨hl,h⟩
theorem o_pop {a:Addr} {zs:List PV} (e:H a=some (.list zs)) (hn:zs≠[]) (hl:zs.length≤big) (h:Q (zs.getLastD .undef) (upd H a (.list zs.dropLast))):listMeth a 32 [] H Q:=by
 exact i_listM e ⟨hn,hl,h⟩
theorem o_pop1 {a:Addr} {zs:List PV} (e:H a=some (.list (zs++[p]))) (hl:(zs++[p]).length≤big) (h:Q p (upd H a (.list zs))):listMeth a 32 [] H Q:=by
 refine o_pop e (by simp) hl ?_
 rw [List.getLastD_concat,List.dropLast_concat]
 exact h
theorem o_ext {a b:Addr} {zs ys:List PV} (e:H a=some (.list zs)) (f:H b=some (.list ys)) (hl:zs.length+ys.length≤big) (h:Q .none (upd H a (.list (zs++ys)))):listMeth a 33 [.ref b] H Q:=by
 refine i_listM e ?_
 show (match H b with
  | some (.list ys)=>zs.length+ys.length≤big∧Q .none (upd H a (.list (zs++ys)))
  | _=>False)
 rw [f]; exact ⟨hl,h⟩
theorem s_ret {ss:Ss} (h:wpX C x r H fun p H=>S (.ret p) r H):wpSs C (.cons (.ret x) ss) r H S:=h
theorem s_a1 {ss:Ss} (h:wpX C x (e0::a::l) H fun v H=>wpSs C ss (e0::v::l) H S):wpSs C (.cons (.asg 1 x) ss) (e0::a::l) H S:=h
theorem s_a2 {ss:Ss} (h:wpX C x (e0::e1::a::l) H fun v H=>wpSs C ss (e0::e1::v::l) H S):wpSs C (.cons (.asg 2 x) ss) (e0::e1::a::l) H S:=h
theorem s_a3 {ss:Ss} (h:wpX C x (e0::e1::e2::a::l) H fun v H=>wpSs C ss (e0::e1::e2::v::l) H S):wpSs C (.cons (.asg 3 x) ss) (e0::e1::e2::a::l) H S:=h
theorem s_a5 {ss:Ss} (h:wpX C x (e0::e1::e2::e3::e4::a::l) H fun v H=>wpSs C ss (e0::e1::e2::e3::e4::v::l) H S):wpSs C (.cons (.asg 5 x) ss) (e0::e1::e2::e3::e4::a::l) H S:=h
theorem s_a7 {ss:Ss} (h:wpX C x (e0::e1::e2::e3::e4::e5::e6::a::l) H fun v H=>wpSs C ss (e0::e1::e2::e3::e4::e5::e6::v::l) H S):wpSs C (.cons (.asg 7 x) ss) (e0::e1::e2::e3::e4::e5::e6::a::l) H S:=h
theorem s_a8 {e7:PV} {ss:Ss} (h:wpX C x (e0::e1::e2::e3::e4::e5::e6::e7::a::l) H fun v H=>wpSs C ss (e0::e1::e2::e3::e4::e5::e6::e7::v::l) H S):wpSs C (.cons (.asg 8 x) ss) (e0::e1::e2::e3::e4::e5::e6::e7::a::l) H S:=h
theorem s_a9 {e7:PV} {e8:PV} {ss:Ss} (h:wpX C x (e0::e1::e2::e3::e4::e5::e6::e7::e8::a::l) H fun v H=>wpSs C ss (e0::e1::e2::e3::e4::e5::e6::e7::e8::v::l) H S):wpSs C (.cons (.asg 9 x) ss) (e0::e1::e2::e3::e4::e5::e6::e7::e8::a::l) H S:=h
theorem s_a10 {e7:PV} {e8:PV} {e9:PV} {ss:Ss} (h:wpX C x (e0::e1::e2::e3::e4::e5::e6::e7::e8::e9::a::l) H fun v H=>wpSs C ss (e0::e1::e2::e3::e4::e5::e6::e7::e8::e9::v::l) H S):wpSs C (.cons (.asg 10 x) ss) (e0::e1::e2::e3::e4::e5::e6::e7::e8::e9::a::l) H S:=h
theorem s_expr {ss:Ss} (h:wpX C x r H fun _ H=>wpSs C ss r H S):wpSs C (.cons (.expr x) ss) r H S:=h
theorem s_if {t:X} {u v ss:Ss} (h:wpX C t r H fun p H=>tq p (wpSs C u r H (sq C ss S)) (wpSs C v r H (sq C ss S))):wpSs C (.cons (.ite t u v) ss) r H S:=h
theorem q_next {ss:Ss} (h:wpSs C ss r H S):sq C ss S .next r H:=h
theorem q_ret {ss:Ss} (h:S (.ret p) r H):sq C ss S (.ret p) r H:=h
theorem q_end (h:Q p H):retQ Q (.ret p) r H:=h
theorem s_augA {n:Nat} {o:X} {ss:Ss} {m:Int} (h:wpX C o r H fun q H=>attrOp q n H fun p H=>∃ i,p=.int i∧setA q n (.int (i+m)) H fun H=>wpSs C ss r H S):wpSs C (.cons (.augA o n .Add (.lit (.int m))) ss) r H S:=by
 have e:(fun (q:PV) H=>attrOp q n H fun p H=>∃ i,p=PV.int i∧setA q n (.int (i+m)) H fun H=>wpSs C ss r H S)=fun q H=>attrOp q n H fun p H=>wpX C (.lit (.int m)) r H fun y H=>(match (Operator.Add:Operator),p,y with
   | .Add,.int a,.int b=>setA q n (.int (a+b)) H fun H=>sq C ss S .next r H
   | _,_,_=>False):=by
  funext q H
  congr 1
  funext p H
  induction p using PV.casesOn <;> simp [wx_lit,sq]
 rw [e] at h
 exact h
theorem w_asgA {o:X} {n:Nat} {ss:Ss} (h:wpX C x r H fun p H=>wpX C o r H fun q H=>setA q n p H fun H=>wpSs C ss r H S):wpSs C (.cons (.asgA o n x) ss) r H S:=h
theorem w_asgS {o i:X} {ss:Ss} (h:wpX C x r H fun p H=>wpX C o r H fun q H=>wpX C i r H fun k H=>setS q k p H fun H=>wpSs C ss r H S):wpSs C (.cons (.asgS o i x) ss) r H S:=h
theorem w_asgT {is:List Nat} {ss:Ss} (h:wpX C x r H fun p H=>itemsOp is.length p H fun ps=>wpSs C ss (setAll is ps r) H S):wpSs C (.cons (.asgT is x) ss) r H S:=h
theorem w_asgW {is:List Nat} {ss:Ss} (h:wpX C x r H fun p H=>itemsOp is.length p H fun ps=>wpSs C ss (setAll is.reverse ps.reverse r) H S):wpSs C (.cons (.asgW is x) ss) r H S:=h
theorem w_for {i:Nat} {b ss:Ss} (h:wpX C x r H fun p H=>iterOp p H fun xs src=>forGo i src (fun r H Q=>wpSs C b r H Q) xs r H (sq C ss S)):wpSs C (.cons (.for_ i x b) ss) r H S:=h
theorem s_eqT {i:Nat} {z:List Nat} {u v ss:Ss} (g:get r i=.str z) (h:wpSs C u r H (sq C ss S)):wpSs C (.cons (.ite (.cmp .Eq (.var i) (.lit (.str z))) u v) ss) r H S :=
 s_if (x_cmp (x_var (by rw [g]; rfl) (by rw [g]; exact x_lit (o_eqT (tq_T h)))))
theorem s_eqF {i:Nat} {y z:List Nat} {u v ss:Ss} (g:get r i=.str y) (n:y≠z) (h:wpSs C v r H (sq C ss S)):wpSs C (.cons (.ite (.cmp .Eq (.var i) (.lit (.str z))) u v) ss) r H S :=
 s_if (x_cmp (x_var (by rw [g]; rfl) (by rw [g]; exact x_lit (o_eqF n (tq_F h)))))
theorem s_nil (h:S .next r H):wpSs C .nil r H S:=h
end
 def wkQ:List Lean.Syntax→List Lean.Syntax
 | []=>[]
 | a::l=>a::.node .none `null #[]::wkQ l
 def wkP (l:List Lean.Syntax):Lean.Syntax:=obD `Lean.Parser.Tactic.paren [.atom .none "(", obD `Lean.Parser.Tactic.tacticSeq [obD `Lean.Parser.Tactic.tacticSeq1Indented [obD `null (wkQ l)]],.atom .none ")"]
 def wkB:List Lean.Syntax→List Lean.Syntax
 | []=>[]
 | a::l=>obA a::wkB l
 def wkF (l:List Lean.Syntax):Lean.Syntax:=obD `Lean.Parser.Tactic.first [.atom .none "first", obD `null (wkB l)]
 def wkN (s:String):Lean.Syntax:=Lean.mkIdent (.str `Mine s)
 def wkH (q:Lean.Syntax):Nat→List Lean.Syntax
 | 0=>[q]
 | k+1=>q::wkH q k
 def wkR (tr:Lean.Syntax) (k:Nat):List String→List Lean.Syntax
 | []=>[]
 | s::l=>tr.setArg 1 (obD `Lean.Parser.Term.app [wkN s,obD `null (wkH (obG (obG (obG tr 1) 1) 0) k)])::wkR tr k l
 def wkX (t f a b:Lean.Syntax):Lean.Syntax:=Id.run (t.replaceM fun s=>if s.isIdent then (if s.getId.eraseMacroScopes==`f then some f else none) else if s.getKind==`Lean.Parser.Tactic.skip then some a else if s.getKind==`Lean.Parser.Tactic.done then some b else none)
 def wkS (ss:List Lean.Syntax) (c:Char):Lean.Syntax:=if c=='S' then ss.getD 0 .missing else if c=='c' then ss.getD 1 .missing else if c=='D' then ss.getD 2 .missing else if c=='A' then ss.getD 3 .missing else if c=='r' then ss.getD 4 .missing
 else if c=='B' then obO (ss.getD 3 .missing) (ss.getD 2 .missing) else if c=='R' then obO (ss.getD 4 .missing) (ss.getD 3 .missing) else obO (ss.getD 1 .missing) (ss.getD 3 .missing)
 def wkC (tc:Lean.Syntax) (ss:List Lean.Syntax):List Char→List Lean.Syntax
 | []=>[]
 | c::l=>wkX tc tc (wkS ss c) tc::wkC tc ss l
 def wkL (ts ss:List Lean.Syntax) (k:List Char) (w:List String):Lean.Syntax :=
 if k.headD '.'=='*' then ts.getD 3 .missing
 else if k.headD '.'=='?' then (if k.length==4 then ts.getD 4 .missing else wkX (ts.getD 2 .missing) (wkN (w.headD "")) (wkS ss (k.getD 1 '.')) (wkS ss (k.getD 2 '.')))
 else
 let k:=if k.headD '.'=='.' then [] else k
 wkP (wkX (ts.getD 5 .missing) .missing (wkF (wkR (ts.getD 0 .missing) k.length w)) .missing::wkC (ts.getD 1 .missing) ss k)
 def wkT (ts ss:List Lean.Syntax):List String→List Lean.Syntax
 | []=>[]
 | r::l=>wkL ts ss ((r.splitOn " ").headD "").toList ((r.splitOn " ").drop 1)::wkT ts ss l
 def wkU (x:Lean.Syntax):List String→List Lean.Syntax
 | []=>[]
 | s::l=>wkX x (wkN s) x x::wkU x l
 def wkE (a b:Lean.Syntax) (ts ss:List Lean.Syntax):Lean.TSyntax `tactic :=
 ⟨wkX a .missing (wkF (wkT ts ss ("r s_eqT;?rC s_eqF;. x_lit x_cmp x_sub x_tup xs_cons xs_nil x_and x_or x_not x_neg1 x_ife x_bin x_list x_meth x_slice x_attr s_if s_ret s_nil s_expr q_next q_ret q_end s_a1 s_a2 s_a3 s_a5 s_a7 s_a8 s_a9 s_a10 tq_T tq_F o_eqT o_eqN o_ltN o_gt0 o_gt1 o_gtN o_leN o_eqI o_eqB o_gt o_isT o_nisF o_inC o_ninC o_addN o_add1 o_add o_subI o_int o_abs o_isS o_isTs o_isTi;S x_v0 x_v1 x_v2 x_v3 x_v4 x_v5 x_v6 x_v7 x_v8 x_v9 x_v10;c x_fn x_bi c_fn;. x_call;A tq_dT o_addS o_slN o_mod;A tq_dF;A tq_eT;A tq_eF;C o_eqF;R o_eqE;. o_eqS;D o_t0 o_t1 o_t2 o_lenT;rR o_isF o_nisT;B o_sl4 o_range o_lenS o_listT;AA o_sN;*;?rR o_inT1;?rR o_inT0;?rR o_ninT1;?rR o_ninT0;?Ac x_listM;?AA o_app;?AA o_pop1;?AAA o_lN;CC o_mul;cc o_fdiv;?AA o_lenL".splitOn ";"))) .missing⟩
 def wkV (a b x:Lean.Syntax):Lean.TSyntax `tactic:=⟨wkF (a::b::wkU x ("isU_told isU_N isU_C isU_R isU_O isU_M".splitOn " "))⟩
local macro_rules | `(tactic| lcg_sub)=>do return wkV (← `(tactic| rfl)) (← `(tactic| assumption)) (← `(tactic| exact f _))
local macro_rules | `(tactic| walk_at "mw")=>do
 let ts:=[(← `(tactic| refine f ?_)).raw,(← `(tactic| · skip)).raw,(← `(tactic| ((with_reducible refine' f ?ka ?kb ?_); (case ka=>skip); (case kb=>done)))).raw,(← `(tactic| ((with_reducible refine ⟨?_,?_⟩); · exact of_decide_eq_true rfl))).raw,
  (← `(tactic| ((with_reducible refine' o_lN ?ka ?kb ?kc ?_); (case ka=>assumption); (case kb=>assumption); (case kc=>assumption)))).raw,(← `(tactic| with_reducible skip)).raw]
 let ss:=[(← `(tactic| lcg_sub)).raw,(← `(tactic| decide)).raw,(← `(tactic| exact of_decide_eq_true rfl)).raw,(← `(tactic| assumption)).raw,(← `(tactic| rfl)).raw]
 return wkE (← `(tactic| ((try dsimp only [List.cons_append,List.nil_append,List.replicate,List.set_cons_zero,List.set_cons_succ]); repeat skip))) .missing ts ss
section
variable {c:Cx} {prog:Program} {d:Nat} {H:MH} {Q:PV→MH→Prop} {s:List Nat} {p:Nat}
theorem s7 (W:Fns c) {x:List Nat} (hs:s.length≤big) (hx:x.length≤big) (h:Q (resV (leafEnd s (.chars x) p)) H):CS c prog (d+1) (.fn 7) [.str s,.int p,.str x] H Q:=by
 refine callB W.X W.f7 (by decide) rfl ?_
 show wpSs _ _ [.str s,.int p,.str x,.undef,.undef] H _
 unfold b7
 simp only [leafEnd_q1,leafEnd_q2,leafEnd_q3,leafEnd_q4] at h
 walk_at "mw"
 have e:p+x.length - p=x.length:=Nat.add_sub_cancel_left ..
 rw [e]
 by_cases hc:List.take x.length (List.drop p s)=x
 ·rw [if_pos hc] at h
  walk_at "mw"
  exact h
 ·rw [if_neg hc] at h
  walk_at "mw"
  exact h
theorem s8 (W:Fns c) {n:Nat} (hs:s.length≤big) (h:Q (resV (leafEnd s (.len n) p)) H):CS c prog (d+1) (.fn 8) [.str s,.int p,.int n] H Q:=by
 refine callB W.X W.f8 (by decide) rfl ?_
 show wpSs _ _ [.str s,.int p,.int n,.undef] H _
 unfold b8
 simp only [leafEnd_q1,leafEnd_q2,leafEnd_q3,leafEnd_q4] at h
 by_cases hc:p+n≤s.length
 ·rw [if_pos hc] at h
  walk_at "mw"
  exact h
 ·rw [if_neg hc] at h
  walk_at "mw"
  exact h
theorem s9 (W:Fns c) {n:Nat} (hs:s.length≤big) (h:Q (resV (leafEnd s (.rpos n) p)) H):CS c prog (d+1) (.fn 9) [.str s,.int p,.int n] H Q:=by
 refine callB W.X W.f9 (by decide) rfl ?_
 show wpSs _ _ [.str s,.int p,.int n,.undef] H _
 unfold b9
 simp only [leafEnd_q1,leafEnd_q2,leafEnd_q3,leafEnd_q4] at h
 by_cases hc:(s.length:Int) - p=n
 ·rw [if_pos hc] at h
  walk_at "mw"
  exact h
 ·rw [if_neg hc] at h
  walk_at "mw"
  exact h
theorem s10 (W:Fns c) {x:List Nat} (hs:s.length≤big) (h:Q (resV (leafEnd s (.any true x) p)) H):CS c prog (d+1) (.fn 10) [.str s,.int p,.str x] H Q:=by
 refine callB W.X W.f10 (by decide) rfl ?_
 show wpSs _ _ [.str s,.int p,.str x,.undef] H _
 unfold b10
 simp only [leafEnd_q1,leafEnd_q2,leafEnd_q3,leafEnd_q4] at h
 by_cases hp:p<s.length
 ·induction hc:x.contains (s.getD p 0) using Bool.casesOn with
  | true=>rw [if_pos ⟨hp,hc⟩] at h; walk_at "mw"; exact h
  | false=>rw [if_neg fun z=>Bool.noConfusion (hc.symm.trans z.2)] at h; walk_at "mw"; exact h
 ·rw [if_neg fun z=>hp z.1] at h
  walk_at "mw"
  exact h
theorem s11 (W:Fns c) {x:List Nat} (hs:s.length≤big) (h:Q (resV (leafEnd s (.any false x) p)) H):CS c prog (d+1) (.fn 11) [.str s,.int p,.str x] H Q:=by
 refine callB W.X W.f11 (by decide) rfl ?_
 show wpSs _ _ [.str s,.int p,.str x,.undef] H _
 unfold b11
 simp only [leafEnd_q1,leafEnd_q2,leafEnd_q3,leafEnd_q4] at h
 by_cases hp:p<s.length
 ·induction hc:x.contains (s.getD p 0) using Bool.casesOn with
  | false =>
   rw [if_pos ⟨hp,hc⟩] at h; walk_at "mw"
   refine tq_eT (by rw [hc]; rfl) ?_
   walk_at "mw"; exact h
  | true =>
   rw [if_neg fun z=>Bool.noConfusion (hc.symm.trans z.2)] at h; walk_at "mw"
   refine tq_eF (by rw [hc]; rfl) ?_
   walk_at "mw"; exact h
 ·rw [if_neg fun z=>hp z.1] at h
  walk_at "mw"
  exact h
noncomputable def leafOk:Lf→Prop
 | .chars x=>x.length≤big∧∀ c∈x,c<1114112
 | .any _ x=>∀ c∈x,c<1114112
 | _=>True
theorem s13 (W:Fns c) {l:Lf} (hl:leafOk l) (hs:s.length≤big) (h:Q (resV (leafEnd s l p)) H):CS c prog (d+2) (.fn 13) [.str (kindL l),.str s,.int p,toldL l] H Q:=by
 refine callB W.X W.f13 (by decide) rfl ?_
 unfold b13
 induction l using Lf.casesOn with
 | chars x =>
  show wpSs _ _ [.str [99,104,97,114,115],.str s,.int p,.str x,.undef,.undef,.undef,.undef,.undef,.undef,.undef,.undef,.undef,.undef] H _
  walk_at "mw"
  exact s7 W hs hl.1 h
 | len n =>
  show wpSs _ _ [.str [108,101,110],.str s,.int p,.int n,.undef,.undef,.undef,.undef,.undef,.undef,.undef,.undef,.undef,.undef] H _
  walk_at "mw"
  exact s8 W hs h
 | any b x =>
  cases b
  ·show wpSs _ _ [.str [110,111,116,97,110,121],.str s,.int p,.str x,.undef,.undef,.undef,.undef,.undef,.undef,.undef,.undef,.undef,.undef] H _
   walk_at "mw"
   exact s11 W hs h
  ·show wpSs _ _ [.str [97,110,121],.str s,.int p,.str x,.undef,.undef,.undef,.undef,.undef,.undef,.undef,.undef,.undef,.undef] H _
   walk_at "mw"
   exact s10 W hs h
 | rpos n =>
  show wpSs _ _ [.str [114,112,111,115],.str s,.int p,.int n,.undef,.undef,.undef,.undef,.undef,.undef,.undef,.undef,.undef,.undef] H _
  walk_at "mw"
  exact s9 W hs h
theorem isU_told (l:Lf):isU (toldL l)=false:=by cases l <;> rfl
theorem s14 (W:Fns c) {l:Lf} (hl:leafOk l) (hs:s.length≤big) (h:Q (resV (leafEnd s l p)) H):CS c prog (d+3) (.fn 14) [encL l,.str s,.int p] H Q:=by
 refine callB W.X W.f14 (by decide) rfl ?_
 have hk:kindL l≠[114,101,109]:=by cases l <;> (try rename_i b x; cases b) <;> (intro e; cases e)
 show wpSs _ _ [.tup [.str (kindL l),toldL l],.str s,.int p,.undef,.undef] H _
 unfold b14
 walk_at "mw"
 exact s13 W hl hs h
theorem s5 (W:Fns c) {l:Lf} (h:Q (.bool false) H):CS c prog (d+1) (.fn 5) [toldL l] H Q:=by
 refine callB W.X W.f5 (by decide) rfl ?_
 unfold b5
 induction l using Lf.casesOn with
 | chars x=>show wpSs _ _ [.str x,.undef,.undef] H _; walk_at "mw"; exact h
 | any b x=>show wpSs _ _ [.str x,.undef,.undef] H _; walk_at "mw"; exact h
 | len n=>show wpSs _ _ [.int n,.undef,.undef] H _; walk_at "mw"; exact h
 | rpos n=>show wpSs _ _ [.int n,.undef,.undef] H _; walk_at "mw"; exact h
theorem s6 (W:Fns c) {l:Lf} {host:PV} (h:Q (encL l) H):CS c prog (d+2) (.fn 6) [encL l,host] H Q:=by
 refine callB W.X W.f6 (by decide) rfl ?_
 have h5:∀ Q:PV→MH→Prop,Q (.bool false) H→CS c prog (d+1) (.fn 5) [toldL l] H Q:=fun Q h=>s5 W h
 unfold b6
 induction l using Lf.casesOn with
 | chars x =>
  show wpSs _ _ [.tup [.str [99,104,97,114,115],.str x],host,.undef,.undef,.undef,.undef,.undef,.undef,.undef] H _
  walk_at "mw"
  exact h
 | len n =>
  show wpSs _ _ [.tup [.str [108,101,110],.int n],host,.undef,.undef,.undef,.undef,.undef,.undef,.undef] H _
  walk_at "mw"
  refine h5 _ ?_
  walk_at "mw"
  exact h
 | rpos n =>
  show wpSs _ _ [.tup [.str [114,112,111,115],.int n],host,.undef,.undef,.undef,.undef,.undef,.undef,.undef] H _
  walk_at "mw"
  refine h5 _ ?_
  walk_at "mw"
  exact h
 | any b x =>
  cases b
  ·show wpSs _ _ [.tup [.str [110,111,116,97,110,121],.str x],host,.undef,.undef,.undef,.undef,.undef,.undef,.undef] H _
   walk_at "mw"
   refine h5 _ ?_
   walk_at "mw"
   exact h
  ·show wpSs _ _ [.tup [.str [97,110,121],.str x],host,.undef,.undef,.undef,.undef,.undef,.undef,.undef] H _
   walk_at "mw"
   refine h5 _ ?_
   walk_at "mw"
   exact h
end
inductive Nd where
 | lf (l:Lf)
 | arb
 | cat (a b:Nd)
 | arbno (a:Nd)
 | alt (a b:Nd)
set_option genCtorIdx false in
inductive It where
 | nd (n:Nd)
 | rnd (n:Nd) (p:Nat)
noncomputable def encN:Nd→PV
 | .lf l=>encL l
 | .arb=>.tup [.str [97,114,98]]
 | .cat a b=>.tup [.str [99,97,116],encN a,encN b]
 | .arbno a=>.tup [.str [97,114,98,110,111],encN a]
 | .alt a b=>.tup [.str [97,108,116],encN a,encN b]
noncomputable def okN:Nd→Prop
 | .lf l=>leafOk l
 | .arb=>True
 | .cat a b=>okN a∧okN b
 | .arbno a=>okN a
 | .alt a b=>okN a∧okN b
noncomputable def encI:It→PV
 | .nd n=>encN n
 | .rnd n p=>.tup [.str [101,110,100,32,114,111,117,110,100],encN n,.int p]
noncomputable def okI:It→Prop
 | .nd n=>okN n
 | .rnd n _=>okN n
noncomputable def encC:List It→PV
 | []=>.none
 | i::r=>.tup [encI i,encC r]
noncomputable def okC (c:List It):Prop:=∀ i∈c,okI i
abbrev Wy:=List It×Nat
noncomputable def encW (w:Wy):PV:=.tup [encC w.1,.int w.2,.tup []]
noncomputable def stepP (s:List Nat):It→List It→Nat→Option (Option Wy×Wy)
 | .nd (.lf l),r,p=>(leafEnd s l p).map fun q=>(none,r,q)
 | .nd .arb,r,p=>some (if p<s.length then some (.nd .arb::r,p+1) else none,r,p)
 | .nd (.cat a b),r,p=>some (none,.nd a::.nd b::r,p)
 | .nd (.alt a b),r,p=>some (some (.nd b::r,p),.nd a::r,p)
 | .nd (.arbno a),r,p=>some (some (.nd a::.rnd (.arbno a) p::r,p),r,p)
 | .rnd n p0,r,p=>if p=p0 then none else some (none,.nd n::r,p)
theorem stepP_q1:∀ (s:List Nat) (x:List It) (x_1:Nat) (l:Lf),stepP s (It.nd (Nd.lf l)) x x_1=Option.map (fun (q:Nat)=>(none,x,q)) (leafEnd s l x_1):=by intros; rfl
theorem stepP_q2:∀ (s:List Nat) (x:List It) (x_1:Nat),stepP s (It.nd Nd.arb) x x_1=some (if x_1<List.length s then some (It.nd Nd.arb::x,x_1+1) else none,x,x_1):=by intros; rfl
theorem stepP_q3:∀ (s:List Nat) (x:List It) (x_1:Nat) (a b:Nd),stepP s (It.nd (Nd.cat a b)) x x_1=some (none,It.nd a::It.nd b::x,x_1):=by intros; rfl
theorem stepP_q4:∀ (s:List Nat) (x:List It) (x_1:Nat) (a b:Nd),stepP s (It.nd (Nd.alt a b)) x x_1=some (some (It.nd b::x,x_1),It.nd a::x,x_1):=by intros; rfl
theorem stepP_q5:∀ (s:List Nat) (x:List It) (x_1:Nat) (a:Nd),stepP s (It.nd (Nd.arbno a)) x x_1=some (some (It.nd a::It.rnd (Nd.arbno a) x_1::x,x_1),x,x_1):=by intros; rfl
theorem stepP_q6:∀ (s:List Nat) (x:List It) (x_1:Nat) (n:Nd) (p0:Nat),stepP s (It.rnd n p0) x x_1=if x_1=p0 then none else some (none,It.nd n::x,x_1):=by intros; rfl
noncomputable def stepQ (s:List Nat) (i:It) (r:List It) (p:Nat) (pl:Addr) (Zs:List PV) (H:MH) (Q:PV→MH→Prop):Prop:=match stepP s i r p with
 | none=>Q .none H
 | some (none,w)=>Q (encW w) H
 | some (some u,w)=>Q (encW w) (upd H pl (.list (Zs++[encW u])))
theorem isU_N (n:Nd):isU (encN n)=false:=by cases n <;> rfl
theorem isU_C (c:List It):isU (encC c)=false:=by cases c <;> rfl
theorem isBi_C (c:List It):isBi (encC c)=false:=by cases c <;> rfl
theorem isNone_C (c:List It):isNone (encC c)=c.isEmpty:=by cases c <;> rfl
theorem kindL_ne (l:Lf):kindL l≠[97,114,98]∧kindL l≠[98,97,108]∧kindL l≠[99,97,116]∧kindL l≠[97,108,116]∧kindL l≠[97,114,98,110,111]∧kindL l≠[108,97,116,101,114]∧kindL l≠[110,111,119] ∧
  (kindL l).take 4≠[101,110,100,32]∧kindL l≠[99,117,114,115,111,114]∧kindL l≠[100,101,108,97,121]∧kindL l≠[102,101,110,99,101]∧kindL l≠[97,98,111,114,116]∧kindL l≠[102,97,105,108]∧kindL l≠[115,117,99,99,101,101,100] ∧
  kindL l≠[114,101,109]:=by
 cases l <;> (try rename_i b x; cases b) <;> (simp only [kindL_q1,kindL_q2,kindL_q3,kindL_q4,kindL_q5]; decide)
section
variable {c:Cx} {prog:Program} {d:Nat} {H:MH} {Q:PV→MH→Prop} {s:List Nat} {p:Nat} {r:List It} {pl ho:Addr} {Zs:List PV}
theorem s23c (W:Fns c) {a b:Nd} (h:Q (encW (.nd a::.nd b::r,p)) H):CS c prog (d+1) (.fn 23) [encN (.cat a b),encC r,.int p,.tup [],.ref pl] H Q:=by
 refine callB W.X W.f23 (by decide) rfl ?_
 show wpSs _ _ [.tup [.str [99,97,116],encN a,encN b],encC r,.int p,.tup [],.ref pl,.undef] H _
 unfold b23
 walk_at "mw"
 exact h
theorem s23a (W:Fns c) {a b:Nd} (hp:H pl=some (.list Zs)) (hl:Zs.length<big) (h:Q (encW (.nd a::r,p)) (upd H pl (.list (Zs++[encW (.nd b::r,p)])))):CS c prog (d+1) (.fn 23) [encN (.alt a b),encC r,.int p,.tup [],.ref pl] H Q:=by
 refine callB W.X W.f23 (by decide) rfl ?_
 show wpSs _ _ [.tup [.str [97,108,116],encN a,encN b],encC r,.int p,.tup [],.ref pl,.undef] H _
 unfold b23
 walk_at "mw"
 exact h
theorem s23o (W:Fns c) {a:Nd} (hp:H pl=some (.list Zs)) (hl:Zs.length<big) (h:Q (encW (r,p)) (upd H pl (.list (Zs++[encW (.nd a::.rnd (.arbno a) p::r,p)])))):CS c prog (d+1) (.fn 23) [encN (.arbno a),encC r,.int p,.tup [],.ref pl] H Q:=by
 refine callB W.X W.f23 (by decide) rfl ?_
 show wpSs _ _ [.tup [.str [97,114,98,110,111],encN a],encC r,.int p,.tup [],.ref pl,.undef] H _
 unfold b23
 walk_at "mw"
 exact h
theorem s24 (W:Fns c) {n:Nd} {p0:Nat} (h:Q (if p=p0 then .none else encW (.nd n::r,p)) H):CS c prog (d+1) (.fn 24) [encI (.rnd n p0),encC r,.int p,.tup [],.str s,.ref pl,.ref ho] H Q:=by
 refine callB W.X W.f24 (by decide) rfl ?_
 show wpSs _ _ [.tup [.str [101,110,100,32,114,111,117,110,100],encN n,.int p0],encC r,.int p,.tup [],.str s,.ref pl,.ref ho,.undef,.undef,.undef] H _
 unfold b24
 refine asgTv rfl rfl (by decide) ?_
 show wpSs _ _ [.tup [.str [101,110,100,32,114,111,117,110,100],encN n,.int p0],encC r,.int p,.tup [],.str s,.ref pl,.ref ho,.str [101,110,100,32,114,111,117,110,100],encN n,.int p0] H _
 by_cases hc:p=p0
 ·rw [if_pos hc] at h
  walk_at "mw"
  exact h
 ·rw [if_neg hc] at h
  walk_at "mw"
  exact h
theorem s25a (W:Fns c) (hs:s.length≤big) (hp:H pl=some (.list Zs)) (hl:Zs.length<big) (h:stepQ s (.nd .arb) r p pl Zs H Q):CS c prog (d+1) (.fn 25) [encN .arb,encC r,.int p,.tup [],.str s,.ref pl,.ref ho] H Q:=by
 refine callB W.X W.f25 (by decide) rfl ?_
 show wpSs _ _ [.tup [.str [97,114,98]],encC r,.int p,.tup [],.str s,.ref pl,.ref ho,.undef,.undef,.undef,.undef,.undef,.undef,.undef,.undef] H _
 unfold b25
 unfold stepQ at h
 simp only [stepP_q1,stepP_q2,stepP_q3,stepP_q4,stepP_q5,stepP_q6] at h
 by_cases hc:p<s.length
 ·rw [if_pos hc] at h
  walk_at "mw"
  exact h
 ·rw [if_neg hc] at h
  walk_at "mw"
  exact h
theorem s25l (W:Fns c) {l:Lf} (hl:leafOk l) (hs:s.length≤big) (h:stepQ s (.nd (.lf l)) r p pl Zs H Q):CS c prog (d+4) (.fn 25) [encL l,encC r,.int p,.tup [],.str s,.ref pl,.ref ho] H Q:=by
 refine callB W.X W.f25 (by decide) rfl ?_
 obtain ⟨k1,k2,_⟩:=kindL_ne l
 show wpSs _ _ [encL l,encC r,.int p,.tup [],.str s,.ref pl,.ref ho,.undef,.undef,.undef,.undef,.undef,.undef,.undef,.undef] H _
 unfold b25 encL
 walk_at "mw"
 refine s6 (d:=d+1) W ?_
 walk_at "mw"
 refine s14 (d:=d) W hl hs ?_
 unfold stepQ at h
 simp only [stepP_q1,stepP_q2,stepP_q3,stepP_q4,stepP_q5,stepP_q6] at h
 induction hq:leafEnd s l p using Option.casesOn with
 | none =>
  rw [hq] at h
  show wpSs _ _ [encL l,encC r,.int p,.tup [],.str s,.ref pl,.ref ho,.str (kindL l),.undef,.none,encL l,.undef,.undef,.undef,.undef] H _
  walk_at "mw"
  exact h
 | some q =>
  rw [hq] at h
  show wpSs _ _ [encL l,encC r,.int p,.tup [],.str s,.ref pl,.ref ho,.str (kindL l),.undef,.int q,encL l,.undef,.undef,.undef,.undef] H _
  walk_at "mw"
  exact h
theorem kindL_cs (l:Lf):([[99,97,116],[97,108,116],[97,114,98,110,111],[108,97,116,101,114],[110,111,119]]:List (List Nat)).contains (kindL l)=false ∧
  ([[102,101,110,99,101],[97,98,111,114,116],[102,97,105,108],[115,117,99,99,101,101,100]]:List (List Nat)).contains (kindL l)=false∧(kindL l).length≤big:=by
 induction l using Lf.casesOn with
 | any b x=>rcases b with _ | _ <;> exact ⟨rfl,rfl,of_decide_eq_true rfl⟩
 | _=>exact ⟨rfl,rfl,of_decide_eq_true rfl⟩
theorem stepQ_rnd {n:Nd} {p0:Nat} (h:stepQ s (.rnd n p0) r p pl Zs H Q):Q (if p=p0 then .none else encW (.nd n::r,p)) H:=by
 unfold stepQ at h
 replace h:(match (if p=p0 then none else some (none,(It.nd n::r,p)):Option (Option Wy×Wy)) with
  | none=>Q .none H
  | some (none,w)=>Q (encW w) H
  | some (some u,w)=>Q (encW w) (upd H pl (.list (Zs++[encW u])))):=h
 by_cases hp:p=p0
 ·rw [if_pos hp] at h ⊢; exact h
 ·rw [if_neg hp] at h ⊢; exact h
theorem s22 (W:Fns c) {i:It} (hi:okI i) (hs:s.length≤big) (hp:H pl=some (.list Zs)) (hl:Zs.length<big) (h:stepQ s i r p pl Zs H Q):CS c prog (d+5) (.fn 22) [encC (i::r),.int p,.tup [],.str s,.ref pl,.ref ho] H Q:=by
 refine callB W.X W.f22 (by decide) rfl ?_
 unfold b22
 refine asgTv (ps:=[encI i,encC r]) rfl rfl (by decide) ?_
 (refine genh (encC (i::r)) fun x0 hx=>?_)
 induction i using It.casesOn with
 | rnd n p0 =>
  show wpSs _ _ [x0,.int p,.tup [],.str s,.ref pl,.ref ho,.tup [.str [101,110,100,32,114,111,117,110,100],encN n,.int p0],encC r,.undef,.undef,.undef,.undef,.undef,.undef,.undef,.undef] H _
  walk_at "mw"
  exact s24 (d:=d+3) (n:=n) (p0:=p0) W (stepQ_rnd h)
 | nd n =>
  induction n using Nd.casesOn with
  | cat a b =>
   show wpSs _ _ [x0,.int p,.tup [],.str s,.ref pl,.ref ho,.tup [.str [99,97,116],encN a,encN b],encC r,.undef,.undef,.undef,.undef,.undef,.undef,.undef,.undef] H _
   walk_at "mw"
   exact s23c (d:=d+3) W h
  | alt a b =>
   show wpSs _ _ [x0,.int p,.tup [],.str s,.ref pl,.ref ho,.tup [.str [97,108,116],encN a,encN b],encC r,.undef,.undef,.undef,.undef,.undef,.undef,.undef,.undef] H _
   walk_at "mw"
   exact s23a (d:=d+3) W hp hl h
  | arbno a =>
   show wpSs _ _ [x0,.int p,.tup [],.str s,.ref pl,.ref ho,.tup [.str [97,114,98,110,111],encN a],encC r,.undef,.undef,.undef,.undef,.undef,.undef,.undef,.undef] H _
   walk_at "mw"
   exact s23o (d:=d+3) W hp hl h
  | arb =>
   show wpSs _ _ [x0,.int p,.tup [],.str s,.ref pl,.ref ho,.tup [.str [97,114,98]],encC r,.undef,.undef,.undef,.undef,.undef,.undef,.undef,.undef] H _
   walk_at "mw"
   exact s25a (d:=d+3) W hs hp hl h
  | lf l =>
   have k0:=kindL_ne l
   have k1:=k0.1
   have k2:=k0.2.1
   have k3:=k0.2.2.1
   have k4:=k0.2.2.2.1
   have k5:=k0.2.2.2.2.1
   have k0:=k0.2.2.2.2.2
   have k6:=k0.1
   have k7:=k0.2.1
   have k8:=k0.2.2.1
   have k9:=k0.2.2.2.1
   have k10:=k0.2.2.2.2.1
   have k0:=k0.2.2.2.2.2
   have k11:=k0.1
   have k12:=k0.2.1
   have k13:=k0.2.2.1
   have k14:=k0.2.2.2.1
   have k15:=k0.2.2.2.2
   obtain ⟨c1,c2,c3⟩:=kindL_cs l
   show wpSs _ _ [x0,.int p,.tup [],.str s,.ref pl,.ref ho,.tup [.str (kindL l),toldL l],encC r,.undef,.undef,.undef,.undef,.undef,.undef,.undef,.undef] H _
   walk_at "mw"
   exact s25l (d:=d) W hi hs h
end
noncomputable def totB:List Wy→Option Nat→Prop
 | [],o=>o=none
 | ([],p)::_,o=>o=some p
 | _,_=>False
noncomputable def totS (s:List Nat) (R:List Wy→Option Nat→Prop):List Wy→Option Nat→Prop
 | (i::r,p)::Zs,o=>(match stepP s i r p with
  | none=>R Zs o
  | some (none,w)=>R (w::Zs) o
  | some (some u,w)=>R (w::u::Zs) o)
 | _,_=>False
noncomputable def Tot (s:List Nat) (Zs:List Wy) (K:Nat) (o:Option Nat):Prop:=Nat.rec (motive:=fun _=>List Wy→Option Nat→Prop) totB (fun _ R=>totS s R) K Zs o
noncomputable def Ex (s:List Nat) (c:List It) (p k:Nat):Option Nat→Prop
 | some q=>∀ Zs,Tot s ((c,p)::Zs) k (some q)
 | none=>∀ Zs k2 o,Tot s Zs k2 o→Tot s ((c,p)::Zs) (k+k2) o
theorem Tot.suc {s:List Nat} {i:It} {r:List It} {p K:Nat} {Zs:List Wy} {o:Option Nat} (t:match stepP s i r p with
  | none=>Tot s Zs K o
  | some (none,w)=>Tot s (w::Zs) K o
  | some (some u,w)=>Tot s (w::u::Zs) K o):Tot s ((i::r,p)::Zs) (K+1) o:=t
section
variable {s:List Nat} {i:It} {r:List It} {p k k2 q:Nat} {u w:Wy} {o:Option Nat}
theorem Ex.done (p:Nat):Ex s [] p 0 (some p):=fun _=>rfl
theorem Ex.fail (h:stepP s i r p=none):Ex s (i::r) p 1 none:=fun Zs k2 o t=>by
 rw [Nat.add_comm]; refine Tot.suc ?_; rw [h]; exact t
theorem Ex.go (h:stepP s i r p=some (none,w)) (e:Ex s w.1 w.2 k o):Ex s (i::r) p (k+1) o:=by
 rcases o with _ | q
 ·exact fun Zs k2 o t=>by rw [Nat.add_right_comm]; refine Tot.suc ?_; rw [h]; exact e Zs k2 o t
 ·exact fun Zs=>Tot.suc (by rw [h]; exact e Zs)
theorem Ex.hit (h:stepP s i r p=some (some u,w)) (e:Ex s w.1 w.2 k (some q)):Ex s (i::r) p (k+1) (some q):=fun Zs=>Tot.suc (by rw [h]; exact e (u::Zs))
theorem Ex.miss (h:stepP s i r p=some (some u,w)) (e1:Ex s w.1 w.2 k none) (e2:Ex s u.1 u.2 k2 o):Ex s (i::r) p (k+1+k2) o:=by
 rw [Nat.add_right_comm]
 rcases o with _ | q
 ·exact fun Zs k3 o t=>by rw [show k+k2+1+k3=(k+(k2+k3))+1 by lia]; refine Tot.suc ?_; rw [h]; exact e1 (u::Zs) (k2+k3) o (e2 Zs k3 o t)
 ·exact fun Zs=>Tot.suc (by rw [h]; exact e1 (u::Zs) k2 (some q) (e2 Zs))
end
theorem Tot.empty {s:List Nat} {p K:Nat} {Zs:List Wy} {o:Option Nat} (t:Tot s (([],p)::Zs) K o):o=some p:=by
 rcases K with _ | K
 ·exact t
 ·exact t.elim
theorem Tot.step {s:List Nat} {i:It} {r:List It} {p K:Nat} {Zs:List Wy} {o:Option Nat} (t:Tot s ((i::r,p)::Zs) K o):match stepP s i r p with
  | none=>∃ K',K=K'+1∧Tot s Zs K' o
  | some (none,w)=>∃ K',K=K'+1∧Tot s (w::Zs) K' o
  | some (some u,w)=>∃ K',K=K'+1∧Tot s (w::u::Zs) K' o:=by
 rcases K with _ | K
 ·exact t.elim
 ·replace t:match stepP s i r p with
   | none=>Tot s Zs K o
   | some (none,w)=>Tot s (w::Zs) K o
   | some (some u,w)=>Tot s (w::u::Zs) K o:=t
  rcases hq:stepP s i r p with _ | ⟨_ | u,w⟩ <;> rw [hq] at t <;> exact ⟨K,rfl,t⟩
theorem Tot.nilO {s:List Nat} {K:Nat} {o:Option Nat} (t:Tot s [] K o):o=none:=by
 rcases K with _ | K
 ·exact t
 ·exact t.elim
noncomputable def Frm (F:List Addr) (H H':MH):Prop:=∀ a,H a≠none→a∉F→H' a=H a
theorem Frm.refl {F:List Addr} {H:MH}:Frm F H H:=fun _ _ _=>rfl
theorem Frm.trans {F:List Addr} {H H1 H2:MH} (x:Frm F H H1) (y:Frm F H1 H2):Frm F H H2:=fun a n f=>by rw [y a (by rw [x a n f]; exact n) f,x a n f]
theorem Frm.mono {F G:List Addr} {H H1:MH} (x:Frm F H H1) (h:∀ a∈F,a∈G):Frm G H H1:=fun a n f=>x a n fun z=>f (h a z)
theorem Frm.upd {F:List Addr} {H:MH} {a:Addr} {o:MO} (h:a∈F∨H a=none):Frm F H (upd H a o):=fun b n f=>by
 refine upd_other ?_
 rintro rfl
 rcases h with h | h
 ·exact f h
 ·exact n h
noncomputable def hostNs (v f l:PV) (n:Nat):MO:=.ns [(9,v),(10,.int 99999),(11,f),(12,.int 64),(13,.int n),(14,l)]
structure HostAt (H:MH) (ho dh:Addr) (v f l:PV) (n:Nat):Prop where
 i:H ho=some (.inst 43 dh)
 d:H dh=some (hostNs v f l n)
noncomputable def lq (I:Nat→List PV→MH→Prop) (n:Nat) (Q:QS):QS:=fun f r H=>match f with
 | .next=>∃ m,m<n∧I m r H
 | .cont=>∃ m,m<n∧I m r H
 | .brk=>Q .next r H
 | .ret p=>Q (.ret p) r H
theorem whlE {C:Cl} {t:X} {b ss:Ss} {r:List PV} {H:MH} {Q:QS} (I:Nat→List PV→MH→Prop) (h0:∃ n,I n r H)
  (step:∀ n r H,I n r H→∃ tv,Ev C t r H (.bool tv)∧(tv=true→wpSs C b r H (lq I n (sq C ss Q)))∧(tv=false→wpSs C ss r H Q)):wpSs C (.cons (.whl t b) ss) r H Q:=by
 show Exists _
 refine ⟨I,h0,fun n r H hI=>?_⟩
 obtain ⟨tv,e,h1,h2⟩:=step n r H hI
 refine e _ ?_
 induction tv using Bool.casesOn with
 | true=>exact h1 rfl
 | false=>exact h2 rfl
section
variable {c:Cx} {prog:Program} {d:Nat} {H:MH} {Q:PV→MH→Prop} {s:List Nat} {p:Nat} {ho dh:Addr} {v f l:PV} {n:Nat}
theorem s81 (W:Fns c) (hh:HostAt H ho dh v f l n) (hn:n+1≤99999) (h:Q .none (upd H dh (hostNs v f l (n+1)))):CS c prog (d+1) (.fn 81) [.ref ho] H Q:=by
 refine callB W.X W.f81 (by decide) rfl ?_
 have hne:ho≠dh:=by
  rintro rfl
  have:=hh.i
  rw [hh.d] at this; cases this
 show wpSs _ _ [.ref ho,.undef] H _
 unfold b81
 refine s_augA (x_v0 rfl (o_attr hh.i hh.d rfl ⟨n,rfl,?_⟩))
 refine o_setA hh.i hh.d (by decide) (of_decide_eq_true rfl) ?_
 have e1:upd H dh (hostNs v f l (n+1)) ho=some (.inst 43 dh):=by rw [upd_other hne]; exact hh.i
 show wpSs _ (.cons (.ite (.cmp .Gt (.attr (.var 0) 13) (.attr (.var 0) 10)) (.cons .bad .nil) .nil) .nil) [.ref ho,.undef] (upd H dh (hostNs v f l (n+1))) _
 have hgt:¬ 99999<n+1:=by lia
 refine s_if (x_cmp (x_attr (x_v0 rfl (o_attr e1 upd_self rfl (x_attr (x_v0 rfl (o_attr e1 upd_self rfl (o_gtN (q:=99999) (tq_dF hgt ?_)))))))))
 exact h
theorem ex_step (W:Fns c) {r:List PV} {H:MH} {K:PV→MH→Prop} (hr:get r 3=.ref ho) (hh:HostAt H ho dh v f l n) (hn:n+1≤99999) (h:K .none (upd H dh (hostNs v f l (n+1)))):wpX (CS c prog (d+1)) (.meth (.var 3) 29 .nil) r H K:=by
 rw [wx_meth,wpX_var,hr]
 refine ⟨rfl,?_⟩
 have hb:bindOp (CS c prog (d+1)) (.ref ho) 29 H=some fun args H Q=>CS c prog (d+1) (.fn 81) (.ref ho::args) H Q:=bind_inst hh.i hh.d rfl rfl
 rw [hb]
 exact s81 W hh hn h
structure TriedQ (H:MH) (dh:Addr) (o:Option Nat) (Q:PV→MH→Prop):Prop where
 no:o=none→∀ H',Frm [dh] H H'→Q .none H'
 yes:∀ q,o=some q→∀ H' l,Frm [dh] H H'→H' l=some (.list [])→Q (.tup [.int q,.ref l]) H'
end
theorem brkW {C:Cl} {ss:Ss} {r:List PV} {H:MH} {Q:QS} (k:Q .brk r H):wpSs C (.cons .brk ss) r H Q:=by
 exact k
theorem contW {C:Cl} {ss:Ss} {r:List PV} {H:MH} {Q:QS} (k:Q .cont r H):wpSs C (.cons .cont ss) r H Q:=by
 exact k
theorem data_str {H:MH} {x:List Nat} (h:∀ c∈x,c<1114112):(PV.str x).data H=some (.str ⟨x.toArray⟩):=by
 simp only [PVdata_q1,PVdata_q3,PVdata_q4,PVdata_q5,PVdata_q6]
 rw [if_pos]
 rw [List.all_eq_true]
 exact fun c hc=>decide_eq_true (h c hc)
theorem datas_some {H:MH}:∀ {xs:List PV},(∀ x∈xs,∃ d,x.data H=some d)→∃ ds,datas H xs=some ds
 | [],_=>⟨[],by simp only [datas_q1,datas_q2]⟩
 | x::xs,h=>by
  obtain ⟨d,hd⟩:=h x List.mem_cons_self
  obtain ⟨ds,hds⟩:=datas_some fun y hy=>h y (List.mem_cons_of_mem _ hy)
  exact ⟨d::ds,by simp only [datas_q1,datas_q2,hd,hds]⟩
theorem data_tup {H:MH} {xs:List PV} (h:∀ x∈xs,∃ d,x.data H=some d):∃ ds,(PV.tup xs).data H=some (.tuple ds):=by
 obtain ⟨ds,hds⟩:=datas_some h
 exact ⟨ds,by simp only [PVdata_q1,PVdata_q3,PVdata_q4,PVdata_q5,PVdata_q6,hds,Option.map_some]⟩
theorem data_int {H:MH} {i:Int}:(PV.int i).data H=some (.int i):=by simp only [PVdata_q1,PVdata_q3,PVdata_q4,PVdata_q5,PVdata_q6]
theorem data_none {H:MH}:PV.none.data H=some .none:=by simp only [PVdata_q1,PVdata_q3,PVdata_q4,PVdata_q5,PVdata_q6]
theorem kindL_small (l:Lf):∀ c∈kindL l,c<1114112:=by
 cases l <;> (try rename_i b x; cases b) <;> (simp only [kindL_q1,kindL_q2,kindL_q3,kindL_q4,kindL_q5]; decide)
theorem data_L {H:MH} {l:Lf} (h:leafOk l):∃ d,(encL l).data H=some d:=by
 obtain ⟨ds,e⟩:=data_tup (H:=H) (xs:=[.str (kindL l),toldL l]) fun x hx=>by
  rcases List.mem_cons.mp hx with rfl | hx
  ·exact ⟨_,data_str (kindL_small l)⟩
  ·obtain rfl:=List.mem_singleton.mp hx
   induction l using Lf.casesOn with
   | chars x=>exact ⟨_,data_str h.2⟩
   | len n=>exact ⟨_,data_int⟩
   | any b x=>exact ⟨_,data_str h⟩
   | rpos n=>exact ⟨_,data_int⟩
 exact ⟨_,e⟩
theorem data_N {H:MH}:∀ {n:Nd},okN n→∃ d,(encN n).data H=some d
 | .lf l,h=>data_L h
 | .arb,h=>by
  obtain ⟨ds,e⟩:=data_tup (H:=H) (xs:=[.str [97,114,98]]) fun x hx=>by
   obtain rfl:=List.mem_singleton.mp hx
   exact ⟨_,data_str (by decide)⟩
  exact ⟨_,e⟩
 | .cat a b,h=>by
  obtain ⟨da,ha⟩:=data_N (H:=H) (n:=a) h.1
  obtain ⟨db,hb⟩:=data_N (H:=H) (n:=b) h.2
  obtain ⟨ds,e⟩:=data_tup (H:=H) (xs:=[.str [99,97,116],encN a,encN b]) fun x hx=>by
   simp only [List.mem_cons,List.not_mem_nil,or_false] at hx
   rcases hx with rfl | rfl | rfl
   ·exact ⟨_,data_str (by decide)⟩
   ·exact ⟨da,ha⟩
   ·exact ⟨db,hb⟩
  exact ⟨_,e⟩
 | .alt a b,h=>by
  obtain ⟨da,ha⟩:=data_N (H:=H) (n:=a) h.1
  obtain ⟨db,hb⟩:=data_N (H:=H) (n:=b) h.2
  obtain ⟨ds,e⟩:=data_tup (H:=H) (xs:=[.str [97,108,116],encN a,encN b]) fun x hx=>by
   simp only [List.mem_cons,List.not_mem_nil,or_false] at hx
   rcases hx with rfl | rfl | rfl
   ·exact ⟨_,data_str (by decide)⟩
   ·exact ⟨da,ha⟩
   ·exact ⟨db,hb⟩
  exact ⟨_,e⟩
 | .arbno a,h=>by
  obtain ⟨da,ha⟩:=data_N (H:=H) (n:=a) h
  obtain ⟨ds,e⟩:=data_tup (H:=H) (xs:=[.str [97,114,98,110,111],encN a]) fun x hx=>by
   simp only [List.mem_cons,List.not_mem_nil,or_false] at hx
   rcases hx with rfl | rfl
   ·exact ⟨_,data_str (by decide)⟩
   ·exact ⟨da,ha⟩
  exact ⟨_,e⟩
theorem data_I {H:MH} {i:It} (h:okI i):∃ d,(encI i).data H=some d:=by
 induction i using It.casesOn with
 | nd n=>exact data_N h
 | rnd n p =>
  obtain ⟨da,ha⟩:=data_N (H:=H) (n:=n) h
  obtain ⟨ds,e⟩:=data_tup (H:=H) (xs:=[.str [101,110,100,32,114,111,117,110,100],encN n,.int p]) fun x hx=>by
   simp only [List.mem_cons,List.not_mem_nil,or_false] at hx
   rcases hx with rfl | rfl | rfl
   ·exact ⟨_,data_str (by decide)⟩
   ·exact ⟨da,ha⟩
   ·exact ⟨_,data_int⟩
  exact ⟨_,e⟩
theorem data_C {H:MH}:∀ {ch:List It},okC ch→∃ d,(encC ch).data H=some d
 | [],_=>⟨_,data_none⟩
 | i::r,h=>by
  obtain ⟨d1,h1⟩:=data_I (H:=H) (h i List.mem_cons_self)
  obtain ⟨d2,h2⟩:=data_C (H:=H) (ch:=r) fun j hj=>h j (List.mem_cons_of_mem _ hj)
  obtain ⟨ds,e⟩:=data_tup (H:=H) (xs:=[encI i,encC r]) fun x hx=>by
   simp only [List.mem_cons,List.not_mem_nil,or_false] at hx
   rcases hx with rfl | rfl
   ·exact ⟨d1,h1⟩
   ·exact ⟨d2,h2⟩
  exact ⟨_,e⟩
theorem data_W {H:MH} {w:Wy} (h:okC w.1):∃ ds,(encW w).data H=some (.tuple ds):=by
 obtain ⟨d1,h1⟩:=data_C (H:=H) h
 refine data_tup fun x hx=>?_
 simp only [List.mem_cons,List.not_mem_nil,or_false] at hx
 rcases hx with rfl | rfl | rfl
 ·exact ⟨d1,h1⟩
 ·exact ⟨_,data_int⟩
 ·obtain ⟨ds,e⟩:=data_tup (H:=H) (xs:=[]) fun x hx=>by cases hx
  exact ⟨_,e⟩
theorem eqTS {H:MH} {xs:List PV} {ds:List PyData} {y:List Nat} {K:Bool→Prop} (h:(PV.tup xs).data H=some (.tuple ds)) (hy:∀ c∈y,c<1114112) (k:K false):eqOp H (.tup xs) (.str y) K:=by
 refine ⟨false,⟨_,_,h,data_str hy,?_,rfl⟩,k⟩
 exact Nat.le_trans (Nat.min_le_right _ _) (by simp [PyData.depth])
theorem okStep {s:List Nat} {i:It} {r:List It} {p:Nat} (hi:okI i) (hr:okC r):∀ u w,stepP s i r p=some (u,w)→okC w.1∧∀ x,u=some x→okC x.1:=by
 have cons:∀ {j:It} {t:List It},okI j→okC t→okC (j::t):=fun a b x hx=>by
  rcases List.mem_cons.mp hx with rfl | hx
  ·exact a
  ·exact b x hx
 intro u w h
 induction i using It.casesOn with
 | rnd n p0 =>
  simp only [stepP_q1,stepP_q2,stepP_q3,stepP_q4,stepP_q5,stepP_q6] at h
  split at h
  ·cases h
  ·cases h; exact ⟨cons hi hr,fun x e=>by cases e⟩
 | nd n =>
  induction n using Nd.casesOn with
  | lf l =>
   simp only [stepP_q1,stepP_q2,stepP_q3,stepP_q4,stepP_q5,stepP_q6,Option.map_eq_some_iff] at h
   obtain ⟨q,_,h⟩:=h
   cases h; exact ⟨hr,fun x e=>by cases e⟩
  | arb =>
   simp only [stepP_q1,stepP_q2,stepP_q3,stepP_q4,stepP_q5,stepP_q6] at h
   cases h
   refine ⟨hr,fun x e=>?_⟩
   split at e
   ·cases e; exact cons trivial hr
   ·cases e
  | cat a b=>simp only [stepP_q1,stepP_q2,stepP_q3,stepP_q4,stepP_q5,stepP_q6] at h; cases h; exact ⟨cons hi.1 (cons hi.2 hr),fun x e=>by cases e⟩
  | alt a b=>simp only [stepP_q1,stepP_q2,stepP_q3,stepP_q4,stepP_q5,stepP_q6] at h; cases h; exact ⟨cons hi.1 hr,fun x e=>by cases e; exact cons hi.2 hr⟩
  | arbno a=>simp only [stepP_q1,stepP_q2,stepP_q3,stepP_q4,stepP_q5,stepP_q6] at h; cases h; exact ⟨hr,fun x e=>by cases e; exact cons hi (cons hi hr)⟩
theorem frm_up {F:List Addr} {H H':MH} {a:Addr} {o:MO} (x:Frm F H H') (h:a∈F∨H a=none):Frm F H (upd H' a o):=fun b n f=>by
 rw [upd_other,x b n f]
 rintro rfl
 rcases h with h | h
 ·exact f h
 ·exact n h
theorem viaK {C:Cl} {x:X} {r:List PV} {H:MH} {Q:PV→MH→Prop} (A:(PV→MH→Prop)→Prop) (e:∀ K,A K→wpX C x r H K) (k:A Q):wpX C x r H Q:=e _ k
theorem HostAt.other {H:MH} {ho dh a:Addr} {v f l:PV} {n:Nat} {o:MO} (h:HostAt H ho dh v f l n) (h1:a≠ho) (h2:a≠dh):HostAt (upd H a o) ho dh v f l n :=
 ⟨by rw [upd_other (Ne.symm h1)]; exact h.i,by rw [upd_other (Ne.symm h2)]; exact h.d⟩
theorem HostAt.ne {H:MH} {ho dh:Addr} {v f l:PV} {n:Nat} (h:HostAt H ho dh v f l n):ho≠dh:=by
 rintro rfl
 have:=h.i
 rw [h.d] at this; cases this
theorem HostAt.inc {H:MH} {ho dh:Addr} {v f l:PV} {n m:Nat} (h:HostAt H ho dh v f l n):HostAt (upd H dh (hostNs v f l m)) ho dh v f l m :=
 ⟨by rw [upd_other h.ne]; exact h.i,upd_self⟩
noncomputable def encS (Zs:List Wy):List PV:=(Zs.map encW).reverse
theorem encS_cons {w:Wy} {Zs:List Wy}:encS (w::Zs)=encS Zs++[encW w]:=by simp [encS]
theorem encS_len {Zs:List Wy}:(encS Zs).length=Zs.length:=by simp [encS]
section
variable {c:Cx} {prog:Program} {d:Nat} {H:MH} {Q:PV→MH→Prop} {s:List Nat} {ho dh:Addr} {v f l:PV} {st K b:Nat} {node:Nd} {o:Option Nat}
structure G21 (H:MH) (pl ho dh:Addr) (v f l:PV) (s:List Nat) (o:Option Nat) (T Zs:List Wy) (n st m:Nat) (H1:MH):Prop where
 p:H1 pl=some (.list (encS Zs))
 h:HostAt H1 ho dh v f l st
 t:Tot s T m o
 le:st+m≤99999
 ln:Zs.length≤n
 ok:∀ w∈Zs,okC w.1
 fr:Frm [dh] H H1
noncomputable def r21 (node:Nd) (s:List Nat) (b:Nat) (ho pl:Addr) (x5 x6 x7 x8:PV):List PV:=[encN node,.str s,.int b,.ref ho,.ref pl,x5,x6,x7,x8,.undef,.undef,.undef,.undef]
noncomputable def I21 (H:MH) (node:Nd) (b:Nat) (pl ho dh:Addr) (v f l:PV) (s:List Nat) (o:Option Nat) (m:Nat) (r:List PV) (H1:MH):Prop :=
 ∃ Zs st x5 x6 x7 x8,G21 H pl ho dh v f l s o Zs Zs (st+1) st m H1∧r=r21 node s b ho pl x5 x6 x7 x8
noncomputable def J21 (H:MH) (node:Nd) (b:Nat) (pl ho dh:Addr) (v f l:PV) (s:List Nat) (o:Option Nat) (m0 m:Nat) (r:List PV) (H1:MH):Prop :=
 ∃ Zs st ch at_ x5,(G21 H pl ho dh v f l s o ((ch,at_)::Zs) Zs st st m H1∧m≤m0∧okC ch)∧r=r21 node s b ho pl x5 (encC ch) (.int (at_:Nat)) (.tup [])
theorem Tot.pos {s:List Nat} {i:It} {r':List It} {at_:Nat} {Zs:List Wy} {m:Nat} {o:Option Nat} (ht:Tot s ((i::r',at_)::Zs) m o):∃ K,m=K+1:=by
 have hst:=ht.step
 rcases hq:stepP s i r' at_ with _ | ⟨_ | u,w'⟩ <;> rw [hq] at hst <;> exact ⟨_,hst.choose_spec.1⟩
theorem stepQ_ok {i:It} {r':List It} {at_ K':Nat} {Zs:List Wy} {pl:Addr} {H3:MH} {K:PV→MH→Prop} (ht:Tot s ((i::r',at_)::Zs) (K'+1) o) (hi:okI i) (hr:okC r') (hZ:∀ w∈Zs,okC w.1)
  (h0:Tot s Zs K' o→K .none H3) (h1:∀ w' Z,Tot s (w'::Z) K' o→okC w'.1→(∀ w∈Z,okC w.1)→(Z=Zs∨∃ u,Z=u::Zs)→∀ H4,(Z=Zs∧H4=H3∨(∃ u,Z=u::Zs)∧H4=upd H3 pl (.list (encS Z)))→K (encW w') H4):stepQ s i r' at_ pl (encS Zs) H3 K:=by
 have hst:=ht.step
 unfold stepQ
 rcases hq:stepP s i r' at_ with _ | ⟨u,w'⟩
 ·rw [hq] at hst
  refine xe1 hst fun K2 q=>?_
  rw [← Nat.succ.inj q.1] at q
  exact h0 q.2
 ·obtain ⟨okw,oku⟩:=okStep hi hr u w' hq
  rcases u with _ | u
  ·rw [hq] at hst
   refine xe1 hst fun K2 q=>?_
   rw [← Nat.succ.inj q.1] at q
   exact h1 w' Zs q.2 okw hZ (.inl rfl) H3 (.inl ⟨rfl,rfl⟩)
  ·rw [hq] at hst
   refine xe1 hst fun K2 q=>?_
   rw [← Nat.succ.inj q.1] at q
   refine h1 w' (u::Zs) q.2 okw (fun z hz=>?_) (.inr ⟨u,rfl⟩) _ (.inr ⟨⟨u,rfl⟩,by rw [encS_cons]⟩)
   rcases List.mem_cons.mp hz with e | hz
   ·rw [e]; exact oku u rfl
   ·exact hZ z hz
theorem s21 (W:Fns c) (hok:okN node) (hs:s.length≤big) (hH:HostAt H ho dh v f l st) (hx:Ex s [.nd node] b K o) (hK:st+K≤99999) (q:TriedQ H dh o Q):CS c prog (d+6) (.fn 21) [encN node,.str s,.int b,.ref ho] H Q:=by
 refine callB W.X W.f21 (by decide) rfl ?_
 have uN:=isU_N node
 refine asgW' ?_
 refine viaK (fun K=>∀ pl,H pl=none→K (.ref pl) (upd H pl (.list [encW ([.nd node],b)]))) (fun K k=>by walk_at "mw"; exact k) ?_
 intro pl hpl
 have npo:pl≠ho:=by rintro rfl; rw [hH.i] at hpl; cases hpl
 have npd:pl≠dh:=by rintro rfl; rw [hH.d] at hpl; cases hpl
 refine whlE (I21 H node b pl ho dh v f l s o) ⟨K,[([.nd node],b)],st,.undef,.undef,.undef,.undef,⟨upd_self,hH.other npo npd,?_,hK,Nat.le_add_left _ _,fun w hw=>by
   obtain rfl:=List.mem_singleton.mp hw
   intro i hi
   obtain rfl:=List.mem_singleton.mp hi
   exact hok,frm_up Frm.refl (.inr hpl)⟩,rfl⟩ ?_
 ·rcases o with _ | q
  ·exact hx [] 0 none rfl
  ·exact hx []
 clear hx hK hH hok
 intro m r H1 h
 refine xe6 h fun Zs st' x5 x6 x7 x8 h1=>cj2 h1 fun G e=>?_
 clear h h1
 subst e
 have hZb:Zs.length≤big:=by have:=G.ln; have:=G.le; unfold big; lia
 have hp:=G.p
 refine ⟨decide (0<Zs.length),fun K k=>by rw [← encS_len (Zs:=Zs)] at k hZb; unfold r21; walk_at "mw"; exact k,?_,?_⟩
 ·intro hpos
  have hpos:=of_decide_eq_true hpos
  rcases Zs with _ | ⟨w,Zs'⟩
  ·cases hpos
  rw [encS_cons] at hp
  refine asgW' ?_
  refine viaK (fun K=>K (encW w) (upd H1 pl (.list (encS Zs')))) (fun K k=>?_) ?_
  ·have hZ1:(encS Zs'++[encW w]).length≤big:=by rw [← encS_cons,encS_len]; exact hZb
   unfold r21
   walk_at "mw"
   exact k
  refine ifF (fun K k=>by unfold r21; walk_at "mw"; exact k) ?_
  refine asgTv (ps:=[encC w.1,.int w.2,.tup []]) rfl rfl (by decide) ?_
  refine whlE (J21 H node b pl ho dh v f l s o m) ⟨m,Zs',st',w.1,w.2,encW w,⟨⟨upd_self,G.h.other npo npd,G.t,G.le,Nat.le_of_succ_le_succ G.ln,fun z hz=>G.ok z (List.mem_cons_of_mem _ hz),frm_up G.fr (.inr hpl)⟩,Nat.le_refl _,G.ok w List.mem_cons_self⟩,rfl⟩ ?_
  clear G hp hZb hpos
  intro m2 r2 H2 h
  refine xe5 h fun Zs2 st2 ch at_ x5 h1=>cj2 h1 fun h2 e=>cj3 h2 fun G hm hokc=>?_
  clear h h1 h2
  subst e
  refine ⟨!ch.isEmpty,fun K k=>by unfold r21; walk_at "mw"; exact ⟨isBi_C ch,by rw [isNone_C]; exact k⟩,?_,?_⟩
  ·intro hne
   rcases ch with _ | ⟨i,r'⟩
   ·exact Bool.noConfusion hne
   obtain ⟨K',e⟩:=G.t.pos
   subst e
   have hle:=G.le
   have hln:=G.ln
   refine exprW (ex_step (d:=d+4) W rfl G.h (by lia) ?_)
   have hp3:(upd H2 dh (hostNs v f l (st2+1))) pl=some (.list (encS Zs2)):=by rw [upd_other npd]; exact G.p
   have hh3:=G.h.inc (m:=st2+1)
   have hfr3:Frm [dh] H (upd H2 dh (hostNs v f l (st2+1))):=frm_up G.fr (.inl List.mem_cons_self)
   (revert hp3 hh3 hfr3; refine genl (upd H2 dh (hostNs v f l (st2+1))) fun H3 hp3 hh3 hfr3=>?_)
   have hoi:=hokc i List.mem_cons_self
   have hor:okC r':=fun j hj=>hokc j (List.mem_cons_of_mem _ hj)
   refine asgW' ?_
   refine viaK (fun K=>stepQ s i r' at_ pl (encS Zs2) H3 K) (fun K k=>?_) ?_
   ·have:=s22 (prog:=prog) (d:=d) (ho:=ho) (Q:=K) W hoi hs hp3 (by rw [encS_len]; unfold big; lia) k
    unfold r21
    walk_at "mw"
    exact this
   refine stepQ_ok G.t hoi hor G.ok (fun ht3=>?_) (fun w' Z ht3 okw okZ hZ H4 h4=>?_)
   ·refine ifT (fun K k=>by unfold r21; walk_at "mw"; exact k) ?_
    refine brkW ?_
    refine ifF (fun K k=>by unfold r21; walk_at "mw"; exact k) (nilW ?_)
    exact ⟨K',by lia,Zs2,st2+1,.none,encC (i::r'),.int at_,.tup [],⟨hp3,hh3,ht3,by lia,by lia,G.ok,hfr3⟩,rfl⟩
   ·refine ifF (fun K k=>by unfold r21; walk_at "mw"; exact k) ?_
    refine ifF (fun K k=>?_) ?_
    ·refine x_cmp (x_var rfl (x_lit ?_))
     obtain ⟨ds,hd⟩:=data_W (H:=H4) okw
     exact eqTS hd (by decide) k
    ·refine asgTv (ps:=[encC w'.1,.int w'.2,.tup []]) rfl rfl (by decide) (nilW ?_)
     refine ⟨K',by lia,Z,st2+1,w'.1,w'.2,encW w',⟨⟨?_,?_,ht3,by lia,?_,okZ,?_⟩,by lia,okw⟩,rfl⟩
     ·rcases h4 with ⟨e,e4⟩ | ⟨_,e4⟩
      ·rw [e,e4]; exact hp3
      ·rw [e4]; exact upd_self
     ·rcases h4 with ⟨e,e4⟩ | ⟨_,e4⟩
      ·rw [e4]; exact hh3
      ·rw [e4]; exact hh3.other npo npd
     ·rcases hZ with e | ⟨u,e⟩
      ·rw [e]; lia
      ·rw [e,List.length_cons]; lia
     ·rcases h4 with ⟨e,e4⟩ | ⟨_,e4⟩
      ·rw [e4]; exact hfr3
      ·rw [e4]; exact frm_up hfr3 (.inr hpl)
  ·intro hz
   rcases ch with _ | ⟨i,r'⟩
   ·refine ifT (fun K k=>by unfold r21; walk_at "mw"; exact o_isT k) (retW ?_)
    refine viaK (fun K=>∀ l',H2 l'=none→K (.tup [.int at_,.ref l']) (upd H2 l' (.list []))) (fun K k=>by unfold r21; walk_at "mw"; exact fun a ha=>xs_nil ⟨of_decide_eq_true rfl,k a ha⟩) ?_
    intro l' hl'
    have hfr5:Frm [dh] H (upd H2 l' (.list [])):=by
     intro a n f
     have h5:=G.fr a n f
     have h6:a≠l':=by
      rintro rfl
      rw [hl'] at h5
      exact n h5.symm
     rw [upd_other h6]; exact h5
    exact q.yes at_ G.t.empty _ l' hfr5 upd_self
   ·exact Bool.noConfusion hz
 ·intro hz
  have hz:=of_decide_eq_false hz
  rcases Zs with _ | ⟨w,Zs'⟩
  ·exact retE (v:=.none) (fun K k=>x_lit k) (q.no G.t.nilO _ G.fr)
  ·exact (hz (Nat.succ_pos _)).elim
end
theorem asgAW {C:Cl} {io n:Nat} {x:X} {ss:Ss} {r:List PV} {H:MH} {Q:QS} {a dd:Addr} {k:Nat} {m:List (Nat×PV)} {v:PV} (hg:get r io=.ref a) (h1:H a=some (.inst k dd)) (h2:H dd=some (.ns m)) (e:Ev C x r H v) (hn:n<15) (hm:m.length≤100)
  (kk:wpSs C ss r (upd H dd (.ns (putA n v m))) Q):wpSs C (.cons (.asgA (.var io) n x) ss) r H Q:=by
 refine w_asgA (e _ ?_)
 rw [wpX_var,hg]
 refine ⟨rfl,?_⟩
 unfold setA
 simp only [h1,h2]
 exact ⟨hn,hm,kk⟩
theorem ev_lit {C:Cl} {p:PV} {r:List PV} {H:MH}:Ev C (.lit p) r H p:=fun K k=>by rw [wx_lit]; exact k
noncomputable def fq (C:Cl) (i:Nat) (src:MH→Prop) (b:Ss) (xs:List PV) (Q:QS):QS:=fun f r H=>match f with
 | .next=>forGo i src (fun r H Q=>wpSs C b r H Q) xs r H Q
 | .cont=>forGo i src (fun r H Q=>wpSs C b r H Q) xs r H Q
 | .brk=>Q .next r H
 | .ret p=>Q (.ret p) r H
theorem forE {C:Cl} {i:Nat} {it:X} {b ss:Ss} {r:List PV} {H:MH} {Q:QS} {v:PV} {xs:List PV} {src:MH→Prop} (e:Ev C it r H v) (hi:∀ K:List PV→(MH→Prop)→Prop,K xs src→iterOp v H K)
  (k:forGo i src (fun r H Q=>wpSs C b r H Q) xs r H (sq C ss Q)):wpSs C (.cons (.for_ i it b) ss) r H Q:=by
 exact w_for (e _ (hi _ k))
theorem forNil {C:Cl} {i:Nat} {b:Ss} {r:List PV} {H:MH} {Q:QS} {src:MH→Prop} (h:src H) (k:Q .next r H):forGo i src (fun r H Q=>wpSs C b r H Q) [] r H Q:=by
 unfold forGo; exact ⟨h,k⟩
theorem forCons {C:Cl} {i:Nat} {b:Ss} {r:List PV} {H:MH} {Q:QS} {src:MH→Prop} {x:PV} {xs:List PV} (h:src H) (k:wpSs C b (r.set i x) H (fq C i src b xs Q)):forGo i src (fun r H Q=>wpSs C b r H Q) (x::xs) r H Q:=by
 unfold forGo; exact ⟨h,k⟩
theorem fqNil {C:Cl} {i:Nat} {b:Ss} {r:List PV} {H:MH} {Q:QS} {src:MH→Prop} (h:src H) (k:Q .next r H):fq C i src b [] Q .next r H:=by
 unfold fq forGo
 exact ⟨h,k⟩
section
variable {c:Cx} {prog:Program} {d:Nat} {H:MH} {Q:PV→MH→Prop} {s:List Nat} {ho dh:Addr} {v f l:PV} {st K b:Nat} {node:Nd} {o:Option Nat}
structure MatQ (H:MH) (dh:Addr) (b:Nat) (o:Option Nat) (Q:PV→MH→Prop):Prop where
 no:o=none→∀ H',Frm [dh] H H'→Q .none H'
 yes:∀ q,o=some q→∀ H' l,Frm [dh] H H'→H' l=some (.list [])→Q (.tup [.int b,.int q,.ref l]) H'
theorem data_ref {H:MH} {l:Addr} (h:H l=some (.list [])):(PV.ref l).data H=some (.list []):=by
 simp only [PVdata_q1,PVdata_q3,PVdata_q4,PVdata_q5,PVdata_q6,h]
theorem s20 (W:Fns c) (hok:okN node) (hs:s.length≤big) (hH:HostAt H ho dh v f l st) (hx:Ex s [.nd node] b K o) (hK:st+K≤99999) (q:MatQ H dh b o Q):CS c prog (d+7) (.fn 20) [encN node,.str s,.int b,.ref ho] H Q:=by
 refine callB W.X W.f20 (by decide) rfl ?_
 have uN:=isU_N node
 refine asgW' (viaK (fun K=>TriedQ H dh o K) (fun K k=>?_) ⟨fun ho H' hf=>?_,fun qq ho H' l' hf hl=>?_⟩)
 ·have:=s21 (prog:=prog) (d:=d) (Q:=K) (b:=b) W hok hs hH hx hK k
  walk_at "mw"
  exact this
 ·refine retE (v:=.none) (fun K k=>by walk_at "mw"; exact k) (q.no ho H' hf)
 ·refine retW ?_
  rw [wx_ife,wx_or,wx_cmp,wpX_var]
  refine ⟨rfl,?_⟩
  refine x_lit ?_
  refine ⟨rfl,?_⟩
  show wpX _ (.cmp .Eq (.var 4) (.lit (.str [108,111,115,116]))) _ _ _
  refine x_cmp (x_var rfl ?_)
  refine x_lit ?_
  obtain ⟨ds,hd⟩:=data_tup (H:=H') (xs:=[.int qq,.ref l']) fun x hx=>by
   simp only [List.mem_cons,List.not_mem_nil,or_false] at hx
   rcases hx with rfl | rfl
   ·exact ⟨_,data_int⟩
   ·exact ⟨_,data_ref hl⟩
  refine eqTS hd (by decide) ?_
  show wpX _ (.tup _) _ _ _
  have:=q.yes qq ho H' l' hf hl
  walk_at "mw"
  exact this
theorem s19 (W:Fns c) (hok:okN node) (hs:s.length≤big) (hH:HostAt H ho dh v f l st) (hx:Ex s [.nd node] 0 K o) (hK:st+K≤99999) (q:MatQ H dh 0 o Q):CS c prog (d+8) (.fn 19) [encN node,.str s,.bool true,.ref ho] H Q:=by
 refine callB W.X W.f19 (by decide) rfl ?_
 have uN:=isU_N node
 refine forE (v:=.rng 0 1) (xs:=[.int 0]) (src:=fun _=>True) (fun K k=>by walk_at "mw"; exact k) (fun K k=>⟨by decide,by decide,k⟩) (forCons trivial ?_)
 refine asgW' (viaK (fun K=>MatQ H dh 0 o K) (fun K k=>?_) ⟨fun ho' H' hf=>?_,fun qq ho' H' l' hf hl=>?_⟩)
 ·have:=s20 (prog:=prog) (d:=d) (Q:=K) (b:=0) W hok hs hH hx hK k
  walk_at "mw"
  exact this
 ·refine ifF (fun K k=>by walk_at "mw"; exact k) (nilW ?_)
  refine fqNil trivial ?_
  show wpSs _ (.cons (.ret (.lit .none)) .nil) _ _ _
  exact retE (v:=.none) ev_lit (q.no ho' H' hf)
 ·refine ifT (fun K k=>by walk_at "mw"; exact k) (retW ?_)
  rw [wx_ife,wx_cmp,wpX_var]
  refine ⟨rfl,?_⟩
  refine x_lit ?_
  obtain ⟨ds,hd⟩:=data_tup (H:=H') (xs:=[.int 0,.int qq,.ref l']) fun x hx=>by
   simp only [List.mem_cons,List.not_mem_nil,or_false] at hx
   rcases hx with rfl | rfl | rfl
   ·exact ⟨_,data_int⟩
   ·exact ⟨_,data_int⟩
   ·exact ⟨_,data_ref hl⟩
  refine eqTS hd (by decide) ?_
  show wpX _ (.var 5) _ _ _
  rw [wpX_var]
  exact ⟨rfl,q.yes qq ho' H' l' hf hl⟩
theorem s43 (W:Fns c) (uv:isU v=false) (uf:isU f=false) (h:∀ H' ho dh l,Frm [] H H'→H ho=none→H dh=none→HostAt H' ho dh v f l 0→Q (.ref ho) H'):CS c prog (d+6) (.fn 43) [v,.int 99999,f] H Q:=by
 refine clsCall (d:=d+1) W.X W.m43 (by decide) (by decide) fun x dx hx hdx hne=>?_
 refine callB W.X W.f80 (by decide) rfl ?_
 have step:∀ (H1:MH) (m:List (Nat×PV)) (n:Nat) (v':PV),H1 x=some (.inst 43 dx)→Frm [] H H1→(upd H1 dx (.ns (putA n v' m))) x=some (.inst 43 dx)∧(upd H1 dx (.ns (putA n v' m))) dx=some (.ns (putA n v' m))∧Frm [] H (upd H1 dx (.ns (putA n v' m))) :=
  fun H1 m n v' h1 h2=>⟨by rw [upd_other hne]; exact h1,upd_self,frm_up h2 (.inr hdx)⟩
 have a0:(upd (upd H dx (.ns [])) x (.inst 43 dx)) x=some (.inst 43 dx):=upd_self
 have b0:(upd (upd H dx (.ns [])) x (.inst 43 dx)) dx=some (.ns []):=by rw [upd_other (Ne.symm hne)]; exact upd_self
 have c0:Frm [] H (upd (upd H dx (.ns [])) x (.inst 43 dx)):=frm_up (frm_up Frm.refl (.inr hdx)) (.inr hx)
 (revert a0 b0 c0; refine genl (upd (upd H dx (.ns [])) x (.inst 43 dx)) fun H0 a0 b0 c0=>?_)
 obtain ⟨a1,b1,c1⟩:=step H0 [] 9 v a0 c0
 refine asgAW (v:=v) rfl a0 b0 (ev_var rfl uv) (by decide) (by simp) ?_
 (revert a1 b1 c1; refine genl (upd H0 dx _) fun H1 a1 b1 c1=>?_)
 obtain ⟨a2,b2,c2⟩:=step H1 _ 10 (.int 99999) a1 c1
 refine asgAW (v:=.int 99999) rfl a1 b1 (ev_var rfl rfl) (by decide) (by simp [putA_q1,putA_q2]) ?_
 (revert a2 b2 c2; refine genl (upd H1 dx _) fun H2 a2 b2 c2=>?_)
 obtain ⟨a3,b3,c3⟩:=step H2 _ 11 f a2 c2
 refine asgAW (v:=f) rfl a2 b2 (ev_var rfl uf) (by decide) (by simp [putA_q1,putA_q2]) ?_
 (revert a3 b3 c3; refine genl (upd H2 dx _) fun H3 a3 b3 c3=>?_)
 obtain ⟨a4,b4,c4⟩:=step H3 _ 12 (.int 64) a3 c3
 refine asgAW rfl a3 b3 ev_lit (by decide) (by simp [putA_q1,putA_q2]) ?_
 (revert a4 b4 c4; refine genl (upd H3 dx _) fun H4 a4 b4 c4=>?_)
 obtain ⟨a5,b5,c5⟩:=step H4 _ 13 (.int 0) a4 c4
 refine asgAW rfl a4 b4 ev_lit (by decide) (by simp [putA_q1,putA_q2]) ?_
 (revert a5 b5 c5; refine genl (upd H4 dx _) fun H5 a5 b5 c5=>?_)
 refine w_asgA ?_
 refine viaK (fun K=>∀ l',H5 l'=none→K (.ref l') (upd H5 l' (.list []))) (fun K k=>by walk_at "mw"; exact k) ?_
 intro l' hl'
 have n1:l'≠dx:=by rintro rfl; rw [b5] at hl'; cases hl'
 have n2:l'≠x:=by rintro rfl; rw [a5] at hl'; cases hl'
 have hl0:H l'=none:=by
  induction q:H l' using Option.casesOn with
  | none=>rfl
  | some z =>
   have:=c5 l' (by rw [q]; exact fun e=>by cases e) (by simp)
   rw [hl',q] at this; cases this
 have a6:(upd H5 l' (.list [])) x=some (.inst 43 dx):=by rw [upd_other (Ne.symm n2)]; exact a5
 have b6:=(show (upd H5 l' (.list [])) dx=H5 dx from upd_other (Ne.symm n1)).trans b5
 have c6:Frm [] H (upd H5 l' (.list [])):=frm_up c5 (.inr hl0)
 (revert a6 b6 c6; refine genl (upd H5 l' (.list [])) fun H6 a6 b6 c6=>?_)
 obtain ⟨a7,b7,c7⟩:=step H6 _ 14 (.ref l') a6 c6
 refine x_var rfl ?_
 show setA (.ref x) 14 (.ref l') H6 _
 unfold setA
 simp only [a6,b6]
 refine ⟨by decide,by simp [putA_q1,putA_q2],?_⟩
 refine ⟨rfl,h _ x dx (.ref l') c7 hx hdx ⟨a7,?_⟩⟩
 rw [b7]; rfl
end
noncomputable def star (f:(Nat→Bool)→Nat→Bool) (β:Nat→Bool):Nat→Nat→Bool
 | 0,_=>false
 | k+1,p=>β p||f (fun q=>!decide (q=p)&&star f β k q) p
theorem star_q1:∀ (f:(Nat→Bool)→Nat→Bool) (β:Nat→Bool) (x:Nat),star f β 0 x=false:=by intros; rfl
theorem star_q2:∀ (f:(Nat→Bool)→Nat→Bool) (β:Nat→Bool) (x k:Nat),star f β (k+1) x=(β x||f (fun (q:Nat)=>!decide (q=x)&&star f β k q) x):=by intros; rfl
noncomputable def arbB (β:Nat→Bool):Nat→Nat→Bool
 | 0,_=>false
 | k+1,p=>β p||arbB β k (p+1)
theorem arbB_q1:∀ (β:Nat→Bool) (x:Nat),arbB β 0 x=false:=by intros; rfl
theorem arbB_q2:∀ (β:Nat→Bool) (x k:Nat),arbB β (k+1) x=(β x||arbB β k (x+1)):=by intros; rfl
noncomputable def mt (s:List Nat):Nd→(Nat→Bool)→Nat→Bool
 | .lf l,β,p=>(match leafEnd s l p with
  | some q=>β q
  | none=>false)
 | .arb,β,p=>arbB β (s.length+1 - p) p
 | .cat a b,β,p=>mt s a (mt s b β) p
 | .alt a b,β,p=>mt s a β p||mt s b β p
 | .arbno a,β,p=>star (mt s a) β (s.length+1 - p) p
theorem mt_q1:∀ (s:List Nat) (x:Nat→Bool) (x_1:Nat) (l:Lf),mt s (Nd.lf l) x x_1=match leafEnd s l x_1 with | some q=>x q | none=>false:=by intros; rfl
theorem mt_q2:∀ (s:List Nat) (x:Nat→Bool) (x_1:Nat),mt s Nd.arb x x_1=arbB x (List.length s+1 - x_1) x_1:=by intros; rfl
theorem mt_q3:∀ (s:List Nat) (x:Nat→Bool) (x_1:Nat) (a b:Nd),mt s (Nd.cat a b) x x_1=mt s a (mt s b x) x_1:=by intros; rfl
theorem mt_q4:∀ (s:List Nat) (x:Nat→Bool) (x_1:Nat) (a b:Nd),mt s (Nd.alt a b) x x_1=(mt s a x x_1||mt s b x x_1):=by intros; rfl
noncomputable def arbC (κ:Nat→Nat):Nat→Nat→Nat
 | 0,_=>0
 | k+1,p=>1+κ p+arbC κ k (p+1)
theorem arbC_q1:∀ (κ:Nat→Nat) (x:Nat),arbC κ 0 x=0:=by intros; rfl
theorem arbC_q2:∀ (κ:Nat→Nat) (x k:Nat),arbC κ (k+1) x=1+κ x+arbC κ k (x+1):=by intros; rfl
noncomputable def starC (f:(Nat→Nat)→Nat→Nat) (κ:Nat→Nat):Nat→Nat→Nat
 | 0,_=>0
 | k+1,p=>1+κ p+f (fun q=>1+starC f κ k q) p
theorem starC_q2:∀ (f:(Nat→Nat)→Nat→Nat) (κ:Nat→Nat) (x k:Nat),starC f κ (k+1) x=1+κ x+f (fun (q:Nat)=>1+starC f κ k q) x:=by intros; rfl
noncomputable def cost (N:Nat):Nd→(Nat→Nat)→Nat→Nat
 | .lf _,κ,p=>arbC κ (N+1 - p) p
 | .arb,κ,p=>arbC κ (N+1 - p) p
 | .cat a b,κ,p=>1+cost N a (cost N b κ) p
 | .alt a b,κ,p=>1+cost N a κ p+cost N b κ p
 | .arbno a,κ,p=>starC (cost N a) κ (N+1 - p) p
theorem cost_q1:∀ (N:Nat) (x:Nat→Nat) (x_1:Nat) (l:Lf),cost N (Nd.lf l) x x_1=arbC x (N+1 - x_1) x_1:=by intros; rfl
theorem cost_q3:∀ (N:Nat) (x:Nat→Nat) (x_1:Nat) (a b:Nd),cost N (Nd.cat a b) x x_1=1+cost N a (cost N b x) x_1:=by intros; rfl
noncomputable def res (s:List Nat) (b:Bool):Option Nat:=if b then some s.length else none
theorem leaf_le {s:List Nat} {l:Lf} {p q:Nat} (hp:p≤s.length) (h:leafEnd s l p=some q):p≤q∧q≤s.length:=by
 induction l using Lf.casesOn with
 | chars x =>
  simp only [leafEnd_q1,leafEnd_q2,leafEnd_q3,leafEnd_q4] at h
  split at h
  ·rename_i hx
   cases h
   have:=congrArg List.length hx
   rw [List.length_take,List.length_drop] at this
   lia
  ·cases h
 | len n =>
  simp only [leafEnd_q1,leafEnd_q2,leafEnd_q3,leafEnd_q4] at h
  split at h
  ·cases h; lia
  ·cases h
 | any b x =>
  simp only [leafEnd_q1,leafEnd_q2,leafEnd_q3,leafEnd_q4] at h
  split at h
  ·rename_i hx; cases h; have:=hx.1; lia
  ·cases h
 | rpos n =>
  simp only [leafEnd_q1,leafEnd_q2,leafEnd_q3,leafEnd_q4] at h
  split at h
  ·cases h; lia
  ·cases h
theorem arbC_pos {κ:Nat→Nat} {N p q:Nat} (hp:p≤q) (hq:q≤N):1+κ q≤arbC κ (N+1 - p) p:=by
 obtain ⟨j,rfl⟩:=Nat.exists_eq_add_of_le hp
 have:∀ j k p,j<k→1+κ (p+j)≤arbC κ k p:=by
  intro j
  induction j with
  | zero=>intro k p hk; induction k using Nat.casesAuxOn with
   | zero=>cases hk
   | succ k=>simp only [arbC_q1,arbC_q2,Nat.add_zero]; lia
  | succ j ih=>intro k p hk; induction k using Nat.casesAuxOn with
   | zero=>cases hk
   | succ k =>
    have:=ih k (p+1) (by lia)
    simp only [arbC_q1,arbC_q2]
    rw [show p+(j+1)=p+1+j by lia]
    lia
 exact this j _ p (by lia)
section
variable {s:List Nat}
theorem ex_push {i:It} {r:List It} {p:Nat} {u w:Wy} {b1 b2:Bool} {k1 k2 c1 c2:Nat} (h:stepP s i r p=some (some u,w)) (e1:Ex s w.1 w.2 k1 (res s b1)) (l1:k1≤c1) (e2:Ex s u.1 u.2 k2 (res s b2)) (l2:k2≤c2) :
  ∃ k,k≤1+c1+c2∧Ex s (i::r) p k (res s (b1||b2)):=by
 induction b1 using Bool.casesOn with
 | true=>exact ⟨k1+1,by lia,.hit h e1⟩
 | false=>exact ⟨k1+1+k2,by lia,.miss h e1 e2⟩
theorem ex_nd:∀ (n:Nd) (rest:List It) (β:Nat→Bool) (κ:Nat→Nat) (p:Nat),p≤s.length→(∀ q,p≤q→q≤s.length→∃ k,k≤κ q∧Ex s rest q k (res s (β q))) →
  ∃ k,k≤cost s.length n κ p∧Ex s (.nd n::rest) p k (res s (mt s n β p))
 | .lf l,rest,β,κ,p,hp,hr=>by
  have h1:=arbC_pos (κ:=κ) (Nat.le_refl p) hp
  induction hl:leafEnd s l p using Option.casesOn with
  | none =>
   refine ⟨1,by simp only [cost_q1,cost_q3]; lia,?_⟩
   simp only [mt_q1,mt_q2,mt_q3,mt_q4,hl]
   exact .fail (by simp only [stepP_q1,stepP_q2,stepP_q3,stepP_q4,stepP_q5,stepP_q6,hl,Option.map_none])
  | some q =>
   obtain ⟨h2,h3⟩:=leaf_le hp hl
   obtain ⟨k,lk,ek⟩:=hr q h2 h3
   have h4:=arbC_pos (κ:=κ) h2 h3
   refine ⟨k+1,by simp only [cost_q1,cost_q3]; lia,?_⟩
   simp only [mt_q1,mt_q2,mt_q3,mt_q4,hl]
   exact .go (w:=(rest,q)) (by simp only [stepP_q1,stepP_q2,stepP_q3,stepP_q4,stepP_q5,stepP_q6,hl,Option.map_some]) ek
 | .arb,rest,β,κ,p,hp,hr=>by
  have:∀ k p',p≤p'→p'≤s.length→k=s.length+1 - p'→∃ c,c≤arbC κ k p'∧Ex s (.nd .arb::rest) p' c (res s (arbB β k p')):=by
   intro k
   induction k with
   | zero=>intro p' _ hp' hk; lia
   | succ k ih =>
    intro p' hpp hp' hk
    obtain ⟨k1,l1,e1⟩:=hr p' hpp hp'
    by_cases hlt:p'<s.length
    ·obtain ⟨k2,l2,e2⟩:=ih (p'+1) (by lia) (by lia) (by lia)
     have hst:stepP s (.nd .arb) rest p'=some (some (.nd .arb::rest,p'+1),(rest,p')):=by simp only [stepP_q1,stepP_q2,stepP_q3,stepP_q4,stepP_q5,stepP_q6,hlt,if_true]
     obtain ⟨c,lc,ec⟩:=ex_push hst e1 l1 e2 l2
     exact ⟨c,lc,ec⟩
    ·have hst:stepP s (.nd .arb) rest p'=some (none,(rest,p')):=by simp only [stepP_q1,stepP_q2,stepP_q3,stepP_q4,stepP_q5,stepP_q6,hlt,if_false]
     obtain rfl:k=0:=by lia
     refine ⟨k1+1,by simp only [arbC_q1,arbC_q2]; lia,?_⟩
     simp only [arbB_q1,arbB_q2,Bool.or_false]
     exact .go hst e1
  exact this _ p (Nat.le_refl _) hp rfl
 | .cat a b,rest,β,κ,p,hp,hr=>by
  obtain ⟨k,lk,ek⟩:=ex_nd a (.nd b::rest) (mt s b β) (cost s.length b κ) p hp fun q hq1 hq2=>ex_nd b rest β κ q hq2 fun q' h1 h2=>hr q' (by lia) h2
  exact ⟨k+1,by simp only [cost_q1,cost_q3]; lia,.go (w:=(.nd a::.nd b::rest,p)) rfl ek⟩
 | .alt a b,rest,β,κ,p,hp,hr=>by
  obtain ⟨k1,l1,e1⟩:=ex_nd a rest β κ p hp hr
  obtain ⟨k2,l2,e2⟩:=ex_nd b rest β κ p hp hr
  have hst:stepP s (.nd (.alt a b)) rest p=some (some (.nd b::rest,p),(.nd a::rest,p)):=rfl
  exact ex_push hst e1 l1 e2 l2
 | .arbno a,rest,β,κ,p,hp,hr=>by
  have:∀ k p',p≤p'→p'≤s.length→s.length+1 - p'≤k→∃ c,c≤starC (cost s.length a) κ k p'∧Ex s (.nd (.arbno a)::rest) p' c (res s (star (mt s a) β k p')):=by
   intro k
   induction k with
   | zero=>intro p' _ hp' hk; lia
   | succ k ih =>
    intro p' hpp hp' hk
    obtain ⟨k1,l1,e1⟩:=hr p' hpp hp'
    have hst:stepP s (.nd (.arbno a)) rest p'=some (some (.nd a::.rnd (.arbno a) p'::rest,p'),(rest,p')):=rfl
    obtain ⟨k2,l2,e2⟩:=ex_nd a (.rnd (.arbno a) p'::rest) (fun q=>!decide (q=p')&&star (mt s a) β k q) (fun q=>1+starC (cost s.length a) κ k q) p' hp' fun q hpq hq=>by
     by_cases hqp:q=p'
     ·refine ⟨1,by lia,?_⟩
      simp only [hqp,decide_true,Bool.not_true,Bool.false_and]
      exact .fail (by simp only [stepP_q1,stepP_q2,stepP_q3,stepP_q4,stepP_q5,stepP_q6,if_true])
     ·obtain ⟨k3,l3,e3⟩:=ih q (by lia) hq (by lia)
      refine ⟨k3+1,by lia,?_⟩
      simp only [hqp,decide_false,Bool.not_false,Bool.true_and]
      exact .go (w:=(.nd (.arbno a)::rest,q)) (by simp only [stepP_q1,stepP_q2,stepP_q3,stepP_q4,stepP_q5,stepP_q6,hqp,if_false]) e3
    obtain ⟨c,lc,ec⟩:=ex_push hst e1 l1 e2 l2
    exact ⟨c,lc,ec⟩
  exact this _ p (Nat.le_refl _) hp (Nat.le_refl _)
end
noncomputable def dpt:Nd→Nat
 | .lf _=>0
 | .arb=>0
 | .cat a b=>max (dpt a) (dpt b)+1
 | .alt a b=>max (dpt a) (dpt b)+1
 | .arbno a=>dpt a+1
theorem dpt_q1:∀ (l:Lf),dpt (Nd.lf l)=0:=by intros; rfl
theorem dpt_q2:dpt Nd.arb=0:=by intros; rfl
theorem dpt_q3:∀ (a b:Nd),dpt (Nd.cat a b)=max (dpt a) (dpt b)+1:=by intros; rfl
theorem dpt_q4:∀ (a b:Nd),dpt (Nd.alt a b)=max (dpt a) (dpt b)+1:=by intros; rfl
theorem dpt_q5:∀ (a:Nd),dpt (Nd.arbno a)=dpt a+1:=by intros; rfl
noncomputable def Wb (N:Nat):Nat→(Nat→Nat)→Nat→Nat
 | 0,κ,p=>arbC κ (N+1 - p) p
 | d+1,κ,p=>max (arbC κ (N+1 - p) p) (max (1+Wb N d (Wb N d κ) p) (max (1+2*Wb N d κ p) (starC (Wb N d) κ (N+1 - p) p)))
theorem arbC_le {κ κ':Nat→Nat} (h:∀ q,κ q≤κ' q):∀ k p,arbC κ k p≤arbC κ' k p
 | 0,_=>Nat.le_refl _
 | k+1,p=>by
  simp only [arbC_q1,arbC_q2]
  have:=arbC_le h k (p+1)
  have:=h p
  lia
theorem starC_le {f g:(Nat→Nat)→Nat→Nat} (hfg:∀ κ κ':Nat→Nat,(∀ q,κ q≤κ' q)→∀ p,f κ p≤g κ' p) {κ κ':Nat→Nat} (h:∀ q,κ q≤κ' q):∀ k p,starC f κ k p≤starC g κ' k p
 | 0,_=>Nat.le_refl _
 | k+1,p=>by
  simp only [starC_q2]
  have h1:=hfg (fun q=>1+starC f κ k q) (fun q=>1+starC g κ' k q) (fun q=>by have:=starC_le hfg h k q; lia) p
  have:=h p
  lia
theorem dpt_s {x y d:Nat} (h:max x y+1≤d):∃ e,d=e+1∧x≤e∧y≤e:=by
 rcases d with _ | e
 ·exact (Nat.not_succ_le_zero _ h).elim
 ·exact ⟨e,rfl,Nat.le_trans (Nat.le_max_left ..) (Nat.le_of_succ_le_succ h),Nat.le_trans (Nat.le_max_right ..) (Nat.le_of_succ_le_succ h)⟩
theorem max_2 {a b c d x:Nat} (h:x≤b):x≤max a (max b (max c d)):=Nat.le_trans h (Nat.le_trans (Nat.le_max_left ..) (Nat.le_max_right ..))
theorem max_3 {a b c d x:Nat} (h:x≤c):x≤max a (max b (max c d)):=Nat.le_trans h (Nat.le_trans (Nat.le_max_left ..) (Nat.le_trans (Nat.le_max_right ..) (Nat.le_max_right ..)))
theorem max_4 {a b c d x:Nat} (h:x≤d):x≤max a (max b (max c d)):=Nat.le_trans h (Nat.le_trans (Nat.le_max_right ..) (Nat.le_trans (Nat.le_max_right ..) (Nat.le_max_right ..)))
theorem two_le {x y w:Nat} (h1:x≤w) (h2:y≤w):1+x+y≤1+2*w:=by lia
theorem cost_le (N:Nat) (n:Nd):∀ d,dpt n≤d→∀ κ κ':Nat→Nat,(∀ q,κ q≤κ' q)→∀ p,cost N n κ p≤Wb N d κ' p:=by
 have leaf:∀ d (κ κ':Nat→Nat),(∀ q,κ q≤κ' q)→∀ p,arbC κ (N+1 - p) p≤Wb N d κ' p:=fun d κ κ' h p=>by
  rcases d with _ | d
  ·exact arbC_le h (N+1 - p) p
  ·exact Nat.le_trans (arbC_le h (N+1 - p) p) (Nat.le_max_left _ _)
 induction n with
 | lf l=>exact fun d _=>leaf d
 | arb=>exact fun d _=>leaf d
 | cat a b iha ihb=>exact fun d hd κ κ' h p=>xe1 (dpt_s hd) fun e q=>by rw [q.1]; exact max_2 (Nat.add_le_add_left (iha e q.2.1 _ _ (ihb e q.2.2 κ κ' h) p) 1)
 | alt a b iha ihb=>exact fun d hd κ κ' h p=>xe1 (dpt_s hd) fun e q=>by rw [q.1]; exact max_3 (two_le (iha e q.2.1 κ κ' h p) (ihb e q.2.2 κ κ' h p))
 | arbno a iha =>
  exact fun d hd κ κ' h p=>by
   rcases d with _ | e
   ·exact (Nat.not_succ_le_zero _ hd).elim
   ·exact max_4 (starC_le (iha e (Nat.le_of_succ_le_succ hd)) h (N+1 - p) p)
theorem Wb_small:∀ N,N≤3→Wb N 2 (fun p=>arbC (fun _=>0) (N+1 - p) p) 0≤60000:=by
 have:∀ N:Fin 4,Wb N.1 2 (fun p=>arbC (fun _=>0) (N.1+1 - p) p) 0≤60000:=by decide +kernel
 intro N hN
 exact this ⟨N,by lia⟩
theorem plain_ex {s:List Nat} {n:Nd} (hs:s.length≤3) (hd:dpt n≤2):∃ K,K≤60001∧Ex s [.nd (.cat n (.lf (.rpos 0)))] 0 K (res s (mt s n (fun p=>decide (p=s.length)) 0)):=by
 obtain ⟨k,lk,ek⟩:=ex_nd n [.nd (.lf (.rpos 0))] (fun p=>decide (p=s.length)) (fun p=>arbC (fun _=>0) (s.length+1 - p) p) 0 (Nat.zero_le _) fun q _ hq=>by
  have h1:=arbC_pos (κ:=fun _=>0) (Nat.le_refl q) hq
  by_cases he:q=s.length
  ·subst he
   refine ⟨1,by omega,?_⟩
   simp only [decide_true,res,if_true]
   exact .go (w:=([],s.length)) (by simp [stepP_q1,stepP_q2,stepP_q3,stepP_q4,stepP_q5,stepP_q6,leafEnd_q1,leafEnd_q2,leafEnd_q3,leafEnd_q4]) (.done _)
  ·refine ⟨1,by lia,?_⟩
   simp only [he,decide_false,res]
   refine .fail ?_
   have:¬ ((s.length:Int) - q=0):=by lia
   simp [stepP_q1,stepP_q2,stepP_q3,stepP_q4,stepP_q5,stepP_q6,leafEnd_q1,leafEnd_q2,leafEnd_q3,leafEnd_q4,this]
 have h2:=cost_le s.length n 2 hd (fun p=>arbC (fun _=>0) (s.length+1 - p) p) (fun p=>arbC (fun _=>0) (s.length+1 - p) p) (fun _=>Nat.le_refl _) 0
 have h3:=Wb_small s.length hs
 exact ⟨k+1,by lia,.go (w:=(.nd n::.nd (.lf (.rpos 0))::[],0)) rfl ek⟩
inductive Rx where
 | no
 | eps
 | lot (x:List Nat)
 | often (r:Rx)
 | beh (a b:Rx)
 | eith (a b:Rx)
noncomputable def strD (x:List Nat):PyData:=.str ⟨x.toArray⟩
noncomputable def encR:Rx→PV
 | .no=>.tup [.str [110,111,110,101]]
 | .eps=>.tup [.str [110,111,116,104,105,110,103]]
 | .lot x=>.tup [.str [108,111,116],.str x]
 | .often r=>.tup [.str [111,102,116,101,110],encR r]
 | .beh a b=>.tup [.str [98,101,104,105,110,100],encR a,encR b]
 | .eith a b=>.tup [.str [101,105,116,104,101,114],encR a,encR b]
theorem encR_q1:encR Rx.no=PV.tup [PV.str [110,111,110,101]]:=by intros; rfl
theorem encR_q2:encR Rx.eps=PV.tup [PV.str [110,111,116,104,105,110,103]]:=by intros; rfl
theorem encR_q3:∀ (x_1:List Nat),encR (Rx.lot x_1)=PV.tup [PV.str [108,111,116],PV.str x_1]:=by intros; rfl
theorem encR_q4:∀ (r:Rx),encR (Rx.often r)=PV.tup [PV.str [111,102,116,101,110],encR r]:=by intros; rfl
theorem encR_q5:∀ (a b:Rx),encR (Rx.beh a b)=PV.tup [PV.str [98,101,104,105,110,100],encR a,encR b]:=by intros; rfl
theorem encR_q6:∀ (a b:Rx),encR (Rx.eith a b)=PV.tup [PV.str [101,105,116,104,101,114],encR a,encR b]:=by intros; rfl
noncomputable def datR:Rx→PyData
 | .no=>.tuple [strD [110,111,110,101]]
 | .eps=>.tuple [strD [110,111,116,104,105,110,103]]
 | .lot x=>.tuple [strD [108,111,116],strD x]
 | .often r=>.tuple [strD [111,102,116,101,110],datR r]
 | .beh a b=>.tuple [strD [98,101,104,105,110,100],datR a,datR b]
 | .eith a b=>.tuple [strD [101,105,116,104,101,114],datR a,datR b]
theorem datR_q1:datR Rx.no=PyData.tuple [strD [110,111,110,101]]:=by intros; rfl
theorem datR_q2:datR Rx.eps=PyData.tuple [strD [110,111,116,104,105,110,103]]:=by intros; rfl
theorem datR_q3:∀ (x_1:List Nat),datR (Rx.lot x_1)=PyData.tuple [strD [108,111,116],strD x_1]:=by intros; rfl
theorem datR_q4:∀ (r:Rx),datR (Rx.often r)=PyData.tuple [strD [111,102,116,101,110],datR r]:=by intros; rfl
theorem datR_q5:∀ (a b:Rx),datR (Rx.beh a b)=PyData.tuple [strD [98,101,104,105,110,100],datR a,datR b]:=by intros; rfl
theorem datR_q6:∀ (a b:Rx),datR (Rx.eith a b)=PyData.tuple [strD [101,105,116,104,101,114],datR a,datR b]:=by intros; rfl
noncomputable def rEq (a b:Rx):Bool:=(datR a).eqv (datR b)
theorem strD_eq {x y:List Nat} (h:(strD x).eqv (strD y)=true):x=y:=by
 have:((⟨x.toArray⟩:Str)==⟨y.toArray⟩)=true:=h
 rw [arr_eq] at this
 exact of_decide_eq_true this
noncomputable def kdR:Rx→List Nat
 | .no=>[110,111,110,101]
 | .eps=>[110,111,116,104,105,110,103]
 | .lot _=>[108,111,116]
 | .often _=>[111,102,116,101,110]
 | .beh _ _=>[98,101,104,105,110,100]
 | .eith _ _=>[101,105,116,104,101,114]
noncomputable def arR:Rx→List PyData
 | .no=>[]
 | .eps=>[]
 | .lot x=>[strD x]
 | .often r=>[datR r]
 | .beh a b=>[datR a,datR b]
 | .eith a b=>[datR a,datR b]
theorem datR_t (a:Rx):datR a=.tuple (strD (kdR a)::arR a):=by induction a using Rx.casesOn <;> rfl
theorem rEq_t {a b:Rx} (h:(datR a).eqv (datR b)=true):kdR a=kdR b∧PyData.eqvAll (arR a) (arR b)=true:=by
 rw [datR_t a,datR_t b] at h
 simp only [PyData.eqv,PyData.eqvAll,Bool.and_eq_true] at h
 exact ⟨strD_eq h.1,h.2⟩
theorem eqv_1 {x y:PyData} (h:PyData.eqvAll [x] [y]=true):x.eqv y=true:=by
 simp only [PyData.eqvAll,Bool.and_eq_true] at h; exact h.1
theorem eqv_2 {x y u v:PyData} (h:PyData.eqvAll [x,u] [y,v]=true):x.eqv y=true∧u.eqv v=true:=by
 simp only [PyData.eqvAll,Bool.and_eq_true] at h; exact ⟨h.1,h.2.1⟩
theorem rEq_ok {a b:Rx} (h:rEq a b=true):a=b:=by
 replace h:(datR a).eqv (datR b)=true:=h
 induction a generalizing b with
 | no=>induction b using Rx.casesOn <;> first | rfl | exact nomatch (rEq_t h).1
 | eps=>induction b using Rx.casesOn <;> first | rfl | exact nomatch (rEq_t h).1
 | lot x=>induction b using Rx.casesOn <;> first | exact congrArg Rx.lot (strD_eq (eqv_1 (rEq_t h).2)) | exact nomatch (rEq_t h).1
 | often r ih=>induction b using Rx.casesOn <;> first | exact congrArg Rx.often (ih (eqv_1 (rEq_t h).2)) | exact nomatch (rEq_t h).1
 | beh a c iha ihc=>induction b using Rx.casesOn <;> first | exact congr (congrArg Rx.beh (iha (eqv_2 (rEq_t h).2).1)) (ihc (eqv_2 (rEq_t h).2).2) | exact nomatch (rEq_t h).1
 | eith a c iha ihc=>induction b using Rx.casesOn <;> first | exact congr (congrArg Rx.eith (iha (eqv_2 (rEq_t h).2).1)) (ihc (eqv_2 (rEq_t h).2).2) | exact nomatch (rEq_t h).1
noncomputable def behS (a b:Rx):Rx:=if rEq a .no||rEq b .no then .no else if rEq a .eps then b else if rEq b .eps then a else .beh a b
noncomputable def eithS (a b:Rx):Rx:=if rEq a .no||rEq a b then b else if rEq b .no then a else .eith a b
noncomputable def nullR:Rx→Bool
 | .no=>false
 | .eps=>true
 | .lot _=>false
 | .often _=>true
 | .beh a b=>nullR a&&nullR b
 | .eith a b=>nullR a||nullR b
theorem nullR_q1:nullR Rx.no=false:=by intros; rfl
theorem nullR_q2:nullR Rx.eps=true:=by intros; rfl
theorem nullR_q3:∀ (x_1:List Nat),nullR (Rx.lot x_1)=false:=by intros; rfl
theorem nullR_q4:∀ (r:Rx),nullR (Rx.often r)=true:=by intros; rfl
theorem nullR_q5:∀ (a b:Rx),nullR (Rx.beh a b)=(nullR a&&nullR b):=by intros; rfl
theorem nullR_q6:∀ (a b:Rx),nullR (Rx.eith a b)=(nullR a||nullR b):=by intros; rfl
noncomputable def dR:Rx→Nat→Rx
 | .no,_=>.no
 | .eps,_=>.no
 | .lot x,c=>if x.contains c then .eps else .no
 | .often r,c=>behS (dR r c) (.often r)
 | .eith a b,c=>eithS (dR a c) (dR b c)
 | .beh a b,c=>if nullR a then eithS (behS (dR a c) b) (dR b c) else behS (dR a c) b
theorem dR_q1:∀ (x:Nat),dR Rx.no x=Rx.no:=by intros; rfl
theorem dR_q2:∀ (x:Nat),dR Rx.eps x=Rx.no:=by intros; rfl
theorem dR_q3:∀ (x:Nat) (x_2:List Nat),dR (Rx.lot x_2) x=if List.contains x_2 x=true then Rx.eps else Rx.no:=by intros; rfl
theorem dR_q4:∀ (x:Nat) (r:Rx),dR (Rx.often r) x=behS (dR r x) (Rx.often r):=by intros; rfl
theorem dR_q5:∀ (x:Nat) (a b:Rx),dR (Rx.eith a b) x=eithS (dR a x) (dR b x):=by intros; rfl
theorem dR_q6:∀ (x:Nat) (a b:Rx),dR (Rx.beh a b) x=if nullR a=true then eithS (behS (dR a x) b) (dR b x) else behS (dR a x) b:=by intros; rfl
noncomputable def abc:List Nat:=[97,98,99]
noncomputable def rowR (ps:List Rx):Rx:=ps.foldl behS .eps
noncomputable def ofN:Nd→Rx
 | .lf (.chars x)=>rowR (x.map fun c=>.lot [c])
 | .lf (.len n)=>rowR (List.replicate n (.lot abc))
 | .lf (.any b x)=>.lot (abc.filter fun c=>x.contains c==b)
 | .lf (.rpos _)=>.no
 | .arb=>.often (.lot abc)
 | .arbno a=>.often (ofN a)
 | .cat a b=>behS (ofN a) (ofN b)
 | .alt a b=>eithS (ofN a) (ofN b)
theorem ofN_q1:∀ (x_1:List Nat),ofN (Nd.lf (Lf.chars x_1))=rowR (List.map (fun (c:Nat)=>Rx.lot [c]) x_1):=by intros; rfl
theorem ofN_q2:∀ (n:Nat),ofN (Nd.lf (Lf.len n))=rowR (List.replicate n (Rx.lot abc)):=by intros; rfl
theorem ofN_q3:∀ (b:Bool) (x_1:List Nat),ofN (Nd.lf (Lf.any b x_1))=Rx.lot (List.filter (fun (c:Nat)=>List.contains x_1 c==b) abc):=by intros; rfl
theorem ofN_q5:ofN Nd.arb=Rx.often (Rx.lot abc):=by intros; rfl
theorem ofN_q6:∀ (a:Nd),ofN (Nd.arbno a)=Rx.often (ofN a):=by intros; rfl
theorem ofN_q7:∀ (a b:Nd),ofN (Nd.cat a b)=behS (ofN a) (ofN b):=by intros; rfl
theorem ofN_q8:∀ (a b:Nd),ofN (Nd.alt a b)=eithS (ofN a) (ofN b):=by intros; rfl
noncomputable def noR:Nd→Prop
 | .lf (.rpos _)=>False
 | .lf _=>True
 | .arb=>True
 | .arbno a=>noR a
 | .cat a b=>noR a∧noR b
 | .alt a b=>noR a∧noR b
section
variable {s:List Nat}
noncomputable def mR (s:List Nat):Rx→(Nat→Bool)→Nat→Bool
 | .no,_,_=>false
 | .eps,β,p=>β p
 | .lot x,β,p=>decide (p<s.length)&&(x.contains (s.getD p 0)&&β (p+1))
 | .often r,β,p=>star (mR s r) β (s.length+1 - p) p
 | .beh a b,β,p=>mR s a (mR s b β) p
 | .eith a b,β,p=>mR s a β p||mR s b β p
theorem mR_q1:∀ (s:List Nat) (x:Nat→Bool) (x_1:Nat),mR s Rx.no x x_1=false:=by intros; rfl
theorem mR_q2:∀ (s:List Nat) (x:Nat→Bool) (x_1:Nat),mR s Rx.eps x x_1=x x_1:=by intros; rfl
theorem mR_q3:∀ (s:List Nat) (x:Nat→Bool) (x_1:Nat) (x_3:List Nat),mR s (Rx.lot x_3) x x_1=(decide (x_1<List.length s)&&(List.contains x_3 (List.getD s x_1 0)&&x (x_1+1))):=by intros; rfl
theorem mR_q4:∀ (s:List Nat) (x:Nat→Bool) (x_1:Nat) (r:Rx),mR s (Rx.often r) x x_1=star (mR s r) x (List.length s+1 - x_1) x_1:=by intros; rfl
theorem mR_q5:∀ (s:List Nat) (x:Nat→Bool) (x_1:Nat) (a b:Rx),mR s (Rx.beh a b) x x_1=mR s a (mR s b x) x_1:=by intros; rfl
theorem mR_q6:∀ (s:List Nat) (x:Nat→Bool) (x_1:Nat) (a b:Rx),mR s (Rx.eith a b) x x_1=(mR s a x x_1||mR s b x x_1):=by intros; rfl
theorem star_cong {f g:(Nat→Bool)→Nat→Bool} {N:Nat} (hfg:∀ (β β':Nat→Bool) p,p≤N→(∀ q,p≤q→q≤N→β q=β' q)→f β p=g β' p) {β β':Nat→Bool} :
  ∀ k k' p,p≤N→N+1 - p≤k→N+1 - p≤k'→(∀ q,p≤q→q≤N→β q=β' q)→star f β k p=star g β' k' p
 | 0,_,p,hp,h1,_,_=>by lia
 | _,0,p,hp,_,h2,_=>by lia
 | k+1,k'+1,p,hp,h1,h2,h=>by
  simp only [star_q1,star_q2]
  rw [h p (Nat.le_refl _) hp]
  congr 1
  refine hfg _ _ p hp fun q hq1 hq2=>?_
  by_cases hqp:q=p
  ·simp [hqp]
  ·rw [star_cong hfg k k' q hq2 (by lia) (by lia) fun q' a b=>h q' (by lia) b]
theorem mR_cong:∀ (r:Rx) (β β':Nat→Bool) p,p≤s.length→(∀ q,p≤q→q≤s.length→β q=β' q)→mR s r β p=mR s r β' p
 | .no,_,_,_,_,_=>rfl
 | .eps,_,_,p,hp,h=>h p (Nat.le_refl _) hp
 | .lot x,β,β',p,hp,h=>by
  simp only [mR_q1,mR_q2,mR_q3,mR_q4,mR_q5,mR_q6]
  by_cases hlt:p<s.length
  ·rw [h (p+1) (by lia) (by lia)]
  ·simp [hlt]
 | .often r,β,β',p,hp,h=>star_cong (fun β β' p hp h=>mR_cong r β β' p hp h) _ _ p hp (Nat.le_refl _) (Nat.le_refl _) h
 | .beh a b,β,β',p,hp,h=>mR_cong a _ _ p hp fun q h1 h2=>mR_cong b β β' q h2 fun q' h3 h4=>h q' (by lia) h4
 | .eith a b,β,β',p,hp,h=>by
  simp only [mR_q1,mR_q2,mR_q3,mR_q4,mR_q5,mR_q6]
  rw [mR_cong a β β' p hp h,mR_cong b β β' p hp h]
theorem mR_behS (a b:Rx) (β:Nat→Bool) (p:Nat):mR s (behS a b) β p=mR s a (mR s b β) p:=by
 have hno:∀ (a:Rx) p,mR s a (fun _=>false) p=false:=by
  intro a
  induction a with
  | no=>intro p; rfl
  | eps=>intro p; rfl
  | lot x=>intro p; simp [mR_q1,mR_q2,mR_q3,mR_q4,mR_q5,mR_q6]
  | often r ih =>
   intro p
   have:∀ k p,star (mR s r) (fun _=>false) k p=false:=by
    intro k
    induction k with
    | zero=>intro p; rfl
    | succ k ihk =>
     intro p
     simp only [star_q1,star_q2,Bool.false_or,ihk,Bool.and_false]
     exact ih p
   exact this _ p
  | beh a b iha ihb =>
   intro p
   simp only [mR_q1,mR_q2,mR_q3,mR_q4,mR_q5,mR_q6]
   rw [show mR s b (fun _=>false)=fun _=>false from funext ihb]
   exact iha p
  | eith a b iha ihb=>intro p; simp only [mR_q1,mR_q2,mR_q3,mR_q4,mR_q5,mR_q6,iha,ihb,Bool.or_false]
 unfold behS
 by_cases h1:rEq a .no=true
 ·rw [rEq_ok h1]; simp [h1,mR_q1,mR_q2,mR_q3,mR_q4,mR_q5,mR_q6,show rEq .no .no=true from by rw [rEq_ok h1] at h1; exact h1]
 ·by_cases h2:rEq b .no=true
  ·have hb:=rEq_ok h2
   subst hb
   rw [if_pos (by simp [h2])]
   show false=mR s a (fun _=>false) p
   rw [hno]
  ·rw [if_neg (by simp [h1,h2])]
   by_cases h3:rEq a .eps=true
   ·rw [if_pos h3,rEq_ok h3]; rfl
   ·rw [if_neg h3]
    by_cases h4:rEq b .eps=true
    ·rw [if_pos h4,rEq_ok h4]; rfl
    ·rw [if_neg h4]; rfl
theorem mR_eithS (a b:Rx) (β:Nat→Bool) (p:Nat):mR s (eithS a b) β p=(mR s a β p||mR s b β p):=by
 unfold eithS
 by_cases h1:rEq a .no=true
 ·rw [if_pos (by simp [h1]),rEq_ok h1]; simp [mR_q1,mR_q2,mR_q3,mR_q4,mR_q5,mR_q6]
 ·by_cases h2:rEq a b=true
  ·rw [if_pos (by simp [h2]),rEq_ok h2,Bool.or_self]
  ·rw [if_neg (by simp [h1,h2])]
   by_cases h3:rEq b .no=true
   ·rw [if_pos h3,rEq_ok h3]; simp [mR_q1,mR_q2,mR_q3,mR_q4,mR_q5,mR_q6]
   ·rw [if_neg h3]; rfl
theorem mR_end:∀ (r:Rx) (β:Nat→Bool),mR s r β s.length=(nullR r&&β s.length)
 | .no,_=>by simp [mR_q1,mR_q2,mR_q3,mR_q4,mR_q5,mR_q6,nullR_q1,nullR_q2,nullR_q3,nullR_q4,nullR_q5,nullR_q6]
 | .eps,_=>by simp [mR_q1,mR_q2,mR_q3,mR_q4,mR_q5,mR_q6,nullR_q1,nullR_q2,nullR_q3,nullR_q4,nullR_q5,nullR_q6]
 | .lot x,β=>by simp [mR_q1,mR_q2,mR_q3,mR_q4,mR_q5,mR_q6,nullR_q1,nullR_q2,nullR_q3,nullR_q4,nullR_q5,nullR_q6]
 | .often r,β=>by
  simp only [mR_q1,mR_q2,mR_q3,mR_q4,mR_q5,mR_q6,nullR_q1,nullR_q2,nullR_q3,nullR_q4,nullR_q5,nullR_q6,Bool.true_and]
  rw [show s.length+1 - s.length=0+1 by lia]
  simp only [star_q1,star_q2,Bool.and_false]
  rw [mR_end r]; simp
 | .beh a b,β=>by
  simp only [mR_q1,mR_q2,mR_q3,mR_q4,mR_q5,mR_q6,nullR_q1,nullR_q2,nullR_q3,nullR_q4,nullR_q5,nullR_q6]
  rw [mR_end a,mR_end b,Bool.and_assoc]
 | .eith a b,β=>by
  simp only [mR_q1,mR_q2,mR_q3,mR_q4,mR_q5,mR_q6,nullR_q1,nullR_q2,nullR_q3,nullR_q4,nullR_q5,nullR_q6]
  rw [mR_end a,mR_end b]
  cases nullR a <;> cases nullR b <;> cases β s.length <;> rfl
theorem mR_der:∀ (r:Rx) (β:Nat→Bool) (p:Nat),p<s.length→mR s r β p=((nullR r&&β p)||mR s (dR r (s.getD p 0)) β (p+1))
 | .no,_,_,_=>by simp [mR_q1,mR_q2,mR_q3,mR_q4,mR_q5,mR_q6,nullR_q1,nullR_q2,nullR_q3,nullR_q4,nullR_q5,nullR_q6,dR_q1,dR_q2,dR_q3,dR_q4,dR_q5,dR_q6]
 | .eps,β,p,_=>by simp [mR_q1,mR_q2,mR_q3,mR_q4,mR_q5,mR_q6,nullR_q1,nullR_q2,nullR_q3,nullR_q4,nullR_q5,nullR_q6,dR_q1,dR_q2,dR_q3,dR_q4,dR_q5,dR_q6]
 | .lot x,β,p,hp=>by
  simp only [mR_q1,mR_q2,mR_q3,mR_q4,mR_q5,mR_q6,nullR_q1,nullR_q2,nullR_q3,nullR_q4,nullR_q5,nullR_q6,dR_q1,dR_q2,dR_q3,dR_q4,dR_q5,dR_q6,hp,decide_true,Bool.true_and,Bool.false_and,Bool.false_or]
  cases h:x.contains (s.getD p 0) <;> simp [mR_q1,mR_q2,mR_q3,mR_q4,mR_q5,mR_q6]
 | .often r,β,p,hp=>by
  simp only [nullR_q1,nullR_q2,nullR_q3,nullR_q4,nullR_q5,nullR_q6,dR_q1,dR_q2,dR_q3,dR_q4,dR_q5,dR_q6,Bool.true_and]
  rw [mR_behS]
  simp only [mR_q1,mR_q2,mR_q3,mR_q4,mR_q5,mR_q6]
  rw [show s.length+1 - p=(s.length - p)+1 by lia]
  simp only [star_q1,star_q2]
  rw [mR_der r _ p hp]
  simp only [decide_true,Bool.not_true,Bool.false_and,Bool.and_false,Bool.false_or]
  congr 1
  refine mR_cong _ _ _ (p+1) (by lia) fun q h1 h2=>?_
  have hqp:¬ q=p:=by lia
  simp only [hqp,decide_false,Bool.not_false,Bool.true_and]
  exact star_cong (fun β β' p hp h=>mR_cong r β β' p hp h) _ _ q h2 (by lia) (Nat.le_refl _) fun _ _ _=>rfl
 | .beh a b,β,p,hp=>by
  simp only [mR_q1,mR_q2,mR_q3,mR_q4,mR_q5,mR_q6,nullR_q1,nullR_q2,nullR_q3,nullR_q4,nullR_q5,nullR_q6]
  rw [mR_der a _ p hp,mR_der b _ p hp]
  simp only [dR_q1,dR_q2,dR_q3,dR_q4,dR_q5,dR_q6]
  induction ha:nullR a using Bool.casesOn with
  | false=>simp only [Bool.false_and,Bool.false_or]; rw [if_neg (by decide),mR_behS]
  | true =>
   simp only [Bool.true_and,if_true]
   rw [mR_eithS,mR_behS]
   cases nullR b&&β p <;> simp [Bool.or_comm]
 | .eith a b,β,p,hp=>by
  simp only [mR_q1,mR_q2,mR_q3,mR_q4,mR_q5,mR_q6,nullR_q1,nullR_q2,nullR_q3,nullR_q4,nullR_q5,nullR_q6,dR_q1,dR_q2,dR_q3,dR_q4,dR_q5,dR_q6]
  rw [mR_der a _ p hp,mR_der b _ p hp,mR_eithS]
  cases nullR a <;> cases nullR b <;> cases β p <;> simp
noncomputable def toldAfter (r:Rx) (cs:List Nat):Rx:=cs.foldl dR r
theorem told_ok (r:Rx):∀ k,k≤s.length→mR s (toldAfter r (s.take k)) (fun p=>decide (p=s.length)) k=mR s r (fun p=>decide (p=s.length)) 0
 | 0,_=>by simp [toldAfter]
 | k+1,hk=>by
  rw [← told_ok r k (by lia),mR_der _ _ k (by lia)]
  have h1:¬ k=s.length:=by lia
  simp only [h1,decide_false,Bool.and_false,Bool.false_or]
  unfold toldAfter
  rw [List.take_succ_eq_append_getElem (by lia),List.foldl_append]
  simp [List.getD_eq_getElem?_getD,List.getElem?_eq_getElem (show k<s.length by lia)]
theorem null_ok (r:Rx):nullR (toldAfter r s)=mR s r (fun p=>decide (p=s.length)) 0:=by
 have:=told_ok (s:=s) r s.length (Nat.le_refl _)
 rw [List.take_length,mR_end] at this
 simpa using this
noncomputable def rowM (s:List Nat):List Rx→(Nat→Bool)→Nat→Bool
 | [],β,p=>β p
 | r::rs,β,p=>mR s r (rowM s rs β) p
theorem rowM_q1:∀ (s:List Nat) (x:Nat→Bool) (x_1:Nat),rowM s [] x x_1=x x_1:=by intros; rfl
theorem rowM_q2:∀ (s:List Nat) (x:Nat→Bool) (x_1:Nat) (r:Rx) (rs:List Rx),rowM s (r::rs) x x_1=mR s r (rowM s rs x) x_1:=by intros; rfl
theorem mR_row:∀ (ps:List Rx) (a:Rx) (β:Nat→Bool) (p:Nat),mR s (ps.foldl behS a) β p=mR s a (rowM s ps β) p
 | [],a,β,p=>rfl
 | r::rs,a,β,p=>by
  rw [List.foldl_cons,mR_row rs,mR_behS]; rfl
theorem mt_cong:∀ (n:Nd) (β β':Nat→Bool) p,p≤s.length→(∀ q,p≤q→q≤s.length→β q=β' q)→mt s n β p=mt s n β' p
 | .lf l,β,β',p,hp,h=>by
  simp only [mt_q1,mt_q2,mt_q3,mt_q4]
  induction hl:leafEnd s l p using Option.casesOn with
  | none=>rfl
  | some q=>obtain ⟨h1,h2⟩:=leaf_le hp hl; exact h q h1 h2
 | .arb,β,β',p,hp,h=>by
  have:∀ k p',p≤p'→p'+k≤s.length+1→arbB β k p'=arbB β' k p':=by
   intro k
   induction k with
   | zero=>intros; rfl
   | succ k ih =>
    intro p' h1 h2
    simp only [arbB_q1,arbB_q2]
    rw [h p' h1 (by lia),ih (p'+1) (by lia) (by lia)]
  exact this _ p (Nat.le_refl _) (by lia)
 | .cat a b,β,β',p,hp,h=>mt_cong a _ _ p hp fun q h1 h2=>mt_cong b β β' q h2 fun q' h3 h4=>h q' (by lia) h4
 | .alt a b,β,β',p,hp,h=>by simp only [mt_q1,mt_q2,mt_q3,mt_q4]; rw [mt_cong a β β' p hp h,mt_cong b β β' p hp h]
 | .arbno a,β,β',p,hp,h=>star_cong (fun β β' p hp h=>mt_cong a β β' p hp h) _ _ p hp (Nat.le_refl _) (Nat.le_refl _) h
theorem chars_ok:∀ (x:List Nat) (β:Nat→Bool) (p:Nat),p≤s.length→rowM s (x.map fun c=>.lot [c]) β p=mt s (.lf (.chars x)) β p
 | [],β,p,_=>by simp [rowM_q1,rowM_q2,mt_q1,mt_q2,mt_q3,mt_q4,leafEnd_q1,leafEnd_q2,leafEnd_q3,leafEnd_q4]
 | c::x,β,p,hp=>by
  simp only [List.map_cons,rowM_q1,rowM_q2,mR_q1,mR_q2,mR_q3,mR_q4,mR_q5,mR_q6]
  by_cases hlt:p<s.length
  ·rw [chars_ok x β (p+1) (by lia)]
   have hd:s.drop p=s[p]::s.drop (p+1):=List.drop_eq_getElem_cons hlt
   simp only [mt_q1,mt_q2,mt_q3,mt_q4,leafEnd_q1,leafEnd_q2,leafEnd_q3,leafEnd_q4,hd,List.length_cons,List.take_succ_cons,List.cons.injEq]
   by_cases hc:s[p]=c
   ·by_cases hx:List.take x.length (List.drop (p+1) s)=x
    ·simp [hlt,hc,hx,List.getD_eq_getElem?_getD]
     rw [show p+(x.length+1)=p+1+x.length by lia]
    ·simp [hlt,hc,hx,List.getD_eq_getElem?_getD]
   ·simp [hlt,hc,List.getD_eq_getElem?_getD]
  ·have hd:s.drop p=[]:=List.drop_eq_nil_of_le (by lia)
   simp [mt_q1,mt_q2,mt_q3,mt_q4,leafEnd_q1,leafEnd_q2,leafEnd_q3,leafEnd_q4,hd,hlt]
theorem len_ok (hs:∀ c∈s,c∈abc):∀ (n:Nat) (β:Nat→Bool) (p:Nat),p≤s.length→rowM s (List.replicate n (.lot abc)) β p=mt s (.lf (.len n)) β p
 | 0,β,p,hp=>by simp [rowM_q1,rowM_q2,mt_q1,mt_q2,mt_q3,mt_q4,leafEnd_q1,leafEnd_q2,leafEnd_q3,leafEnd_q4,hp]
 | n+1,β,p,hp=>by
  rw [List.replicate_succ]
  simp only [rowM_q1,rowM_q2,mR_q1,mR_q2,mR_q3,mR_q4,mR_q5,mR_q6]
  by_cases hlt:p<s.length
  ·rw [len_ok hs n β (p+1) (by lia)]
   have hin:abc.contains (s.getD p 0)=true:=by
    rw [List.getD_eq_getElem?_getD,List.getElem?_eq_getElem hlt]
    simpa using hs s[p] (List.getElem_mem hlt)
   simp only [hlt,decide_true,hin,Bool.true_and,mt_q1,mt_q2,mt_q3,mt_q4,leafEnd_q1,leafEnd_q2,leafEnd_q3,leafEnd_q4]
   rw [show p+(n+1)=p+1+n by lia]
  ·have:¬ p+(n+1)≤s.length:=by lia
   simp [hlt,mt_q1,mt_q2,mt_q3,mt_q4,leafEnd_q1,leafEnd_q2,leafEnd_q3,leafEnd_q4,this]
theorem of_ok (hs:∀ c∈s,c∈abc):∀ (n:Nd),noR n→∀ (β:Nat→Bool) (p:Nat),p≤s.length→mR s (ofN n) β p=mt s n β p
 | .lf (.chars x),_,β,p,hp=>by
  simp only [ofN_q1,ofN_q2,ofN_q3,ofN_q5,ofN_q6,ofN_q7,ofN_q8,rowR]
  rw [mR_row]
  exact chars_ok x β p hp
 | .lf (.len n),_,β,p,hp=>by
  simp only [ofN_q1,ofN_q2,ofN_q3,ofN_q5,ofN_q6,ofN_q7,ofN_q8,rowR]
  rw [mR_row]
  exact len_ok hs n β p hp
 | .lf (.any b x),_,β,p,hp=>by
  simp only [ofN_q1,ofN_q2,ofN_q3,ofN_q5,ofN_q6,ofN_q7,ofN_q8,mR_q1,mR_q2,mR_q3,mR_q4,mR_q5,mR_q6,mt_q1,mt_q2,mt_q3,mt_q4,leafEnd_q1,leafEnd_q2,leafEnd_q3,leafEnd_q4]
  by_cases hlt:p<s.length
  ·have hin:s.getD p 0∈abc:=by
    rw [List.getD_eq_getElem?_getD,List.getElem?_eq_getElem hlt]
    exact hs s[p] (List.getElem_mem hlt)
   simp only [hlt,decide_true,Bool.true_and,true_and]
   by_cases hc:x.contains (s.getD p 0)=b
   ·have h2:(abc.filter fun c=>x.contains c==b).contains (s.getD p 0)=true:=by
     rw [List.contains_iff_mem,List.mem_filter]
     exact ⟨hin,by rw [hc]; simp⟩
    rw [h2,if_pos hc,Bool.true_and]
   ·have h2:(abc.filter fun c=>x.contains c==b).contains (s.getD p 0)=false:=by
     rw [Bool.eq_false_iff]
     intro hcon
     rw [List.contains_iff_mem,List.mem_filter] at hcon
     exact hc (eq_of_beq hcon.2)
    rw [h2,if_neg hc,Bool.false_and]
  ·simp [hlt]
 | .arb,_,β,p,hp=>by
  simp only [ofN_q1,ofN_q2,ofN_q3,ofN_q5,ofN_q6,ofN_q7,ofN_q8,mR_q1,mR_q2,mR_q3,mR_q4,mR_q5,mR_q6,mt_q1,mt_q2,mt_q3,mt_q4]
  have:∀ k p,p≤s.length→k=s.length+1 - p→star (mR s (.lot abc)) β k p=arbB β k p:=by
   intro k
   induction k with
   | zero=>intro p hp hk; lia
   | succ k ih =>
    intro p hp hk
    simp only [star_q1,star_q2,arbB_q1,arbB_q2]
    congr 1
    show (decide (p<s.length)&&(abc.contains (s.getD p 0)&&(!decide (p+1=p)&&star (mR s (.lot abc)) β k (p+1))))=arbB β k (p+1)
    by_cases hlt:p<s.length
    ·have hin:abc.contains (s.getD p 0)=true:=by
      rw [List.getD_eq_getElem?_getD,List.getElem?_eq_getElem hlt]
      simpa using hs s[p] (List.getElem_mem hlt)
     have hne:¬ p+1=p:=by lia
     simp only [hlt,decide_true,hin,Bool.true_and,hne,decide_false,Bool.not_false]
     rw [ih (p+1) (by lia) (by lia)]
    ·obtain rfl:k=0:=by lia
     simp [hlt,arbB_q1,arbB_q2]
  exact this _ p hp rfl
 | .arbno a,hn,β,p,hp=>star_cong (fun β β' p hp h=>(of_ok hs a hn β p hp).trans (mt_cong a β β' p hp h)) _ _ p hp (Nat.le_refl _) (Nat.le_refl _) fun _ _ _=>rfl
 | .cat a b,hn,β,p,hp=>by
  simp only [ofN_q1,ofN_q2,ofN_q3,ofN_q5,ofN_q6,ofN_q7,ofN_q8,mt_q1,mt_q2,mt_q3,mt_q4]
  rw [mR_behS,of_ok hs a hn.1 _ p hp]
  exact mt_cong a _ _ p hp fun q _ hq=>of_ok hs b hn.2 β q hq
 | .alt a b,hn,β,p,hp=>by
  simp only [ofN_q1,ofN_q2,ofN_q3,ofN_q5,ofN_q6,ofN_q7,ofN_q8,mt_q1,mt_q2,mt_q3,mt_q4]
  rw [mR_eithS,of_ok hs a hn.1 β p hp,of_ok hs b hn.2 β p hp]
theorem law_null {n:Nd} (hs:∀ c∈s,c∈abc) (hn:noR n):nullR (toldAfter (ofN n) s)=mt s n (fun p=>decide (p=s.length)) 0:=by
 rw [null_ok,of_ok hs n hn _ 0 (Nat.zero_le _)]
end
noncomputable def rdp:Rx→Nat
 | .no=>1
 | .eps=>1
 | .lot _=>1
 | .often r=>rdp r+1
 | .beh a b=>max (rdp a) (rdp b)+1
 | .eith a b=>max (rdp a) (rdp b)+1
theorem rdp_q1:rdp Rx.no=1:=by intros; rfl
theorem rdp_q2:rdp Rx.eps=1:=by intros; rfl
theorem rdp_q3:∀ (x_1:List Nat),rdp (Rx.lot x_1)=1:=by intros; rfl
theorem rdp_q4:∀ (r:Rx),rdp (Rx.often r)=rdp r+1:=by intros; rfl
theorem rdp_q5:∀ (a b:Rx),rdp (Rx.beh a b)=max (rdp a) (rdp b)+1:=by intros; rfl
theorem rdp_q6:∀ (a b:Rx),rdp (Rx.eith a b)=max (rdp a) (rdp b)+1:=by intros; rfl
noncomputable def okR:Rx→Prop
 | .lot x=>∀ c∈x,c<1114112
 | .often r=>okR r
 | .beh a b=>okR a∧okR b
 | .eith a b=>okR a∧okR b
 | _=>True
theorem rdp_dat:∀ r:Rx,(datR r).depth=rdp r
 | .no=>rfl
 | .eps=>rfl
 | .lot x=>rfl
 | .often r=>by simp [datR_q1,datR_q2,datR_q3,datR_q4,datR_q5,datR_q6,PyData.depth,PyData.depthAll,rdp_q1,rdp_q2,rdp_q3,rdp_q4,rdp_q5,rdp_q6,strD,rdp_dat r]
 | .beh a b=>by simp [datR_q1,datR_q2,datR_q3,datR_q4,datR_q5,datR_q6,PyData.depth,PyData.depthAll,rdp_q1,rdp_q2,rdp_q3,rdp_q4,rdp_q5,rdp_q6,strD,rdp_dat a,rdp_dat b]
 | .eith a b=>by simp [datR_q1,datR_q2,datR_q3,datR_q4,datR_q5,datR_q6,PyData.depth,PyData.depthAll,rdp_q1,rdp_q2,rdp_q3,rdp_q4,rdp_q5,rdp_q6,strD,rdp_dat a,rdp_dat b]
theorem rdp_pos (r:Rx):1≤rdp r:=by cases r <;> simp [rdp_q1,rdp_q2,rdp_q3,rdp_q4,rdp_q5,rdp_q6]
theorem rdp_beh (a b:Rx):rdp (behS a b)≤max (rdp a) (rdp b)+1:=by
 unfold behS
 have:=rdp_pos a
 repeat' split
 all_goals try simp only [rdp_q1,rdp_q2,rdp_q3,rdp_q4,rdp_q5,rdp_q6]
 all_goals lia
theorem rdp_eith (a b:Rx):rdp (eithS a b)≤max (rdp a) (rdp b)+1:=by
 unfold eithS
 repeat' split
 all_goals try simp only [rdp_q1,rdp_q2,rdp_q3,rdp_q4,rdp_q5,rdp_q6]
 all_goals lia
theorem rdp_d (c:Nat) (r:Rx):rdp (dR r c)≤2*rdp r+1:=by
 have k1:∀ {x z n:Nat},z≤max x (n+1)+1→x≤2*n+1→z≤2*(n+1)+1:=by lia
 have k2:∀ {x y z a b:Nat},z≤max x y+1→x≤2*a+1→y≤2*b+1→z≤2*(max a b+1)+1:=by lia
 have k3:∀ {x z a b:Nat},z≤max x b+1→x≤2*a+1→z≤2*(max a b+1)+1:=by lia
 have k4:∀ {x y z u a b:Nat},z≤max u y+1→u≤max x b+1→x≤2*a+1→y≤2*b+1→z≤2*(max a b+1)+1:=by lia
 induction r with
 | no=>exact (by decide:1≤2*1+1)
 | eps=>exact (by decide:1≤2*1+1)
 | lot x =>
  show rdp (if x.contains c then .eps else .no)≤_
  rcases x.contains c with _ | _ <;> exact (by decide:1≤2*1+1)
 | often r ih=>exact k1 (rdp_beh (dR r c) (.often r)) ih
 | eith a b iha ihb=>exact k2 (rdp_eith (dR a c) (dR b c)) iha ihb
 | beh a b iha ihb =>
  show rdp (if nullR a then eithS (behS (dR a c) b) (dR b c) else behS (dR a c) b)≤_
  rcases nullR a with _ | _
  ·exact k3 (rdp_beh (dR a c) b) iha
  ·exact k4 (rdp_eith (behS (dR a c) b) (dR b c)) (rdp_beh (dR a c) b) iha ihb
theorem okR_beh {a b:Rx} (ha:okR a) (hb:okR b):okR (behS a b):=by
 unfold behS
 repeat' split
 all_goals first | trivial | assumption | exact ⟨ha,hb⟩
theorem okR_eith {a b:Rx} (ha:okR a) (hb:okR b):okR (eithS a b):=by
 unfold eithS
 repeat' split
 all_goals first | trivial | assumption | exact ⟨ha,hb⟩
theorem okR_d (c:Nat):∀ r:Rx,okR r→okR (dR r c)
 | .no,_=>trivial
 | .eps,_=>trivial
 | .lot x,_=>by simp only [dR_q1,dR_q2,dR_q3,dR_q4,dR_q5,dR_q6]; split <;> trivial
 | .often r,h=>okR_beh (okR_d c r h) h
 | .eith a b,h=>okR_eith (okR_d c a h.1) (okR_d c b h.2)
 | .beh a b,h=>by
  simp only [dR_q1,dR_q2,dR_q3,dR_q4,dR_q5,dR_q6]
  split
  ·exact okR_eith (okR_beh (okR_d c a h.1) h.2) (okR_d c b h.2)
  ·exact okR_beh (okR_d c a h.1) h.2
theorem isU_R (r:Rx):isU (encR r)=false:=by cases r <;> rfl
theorem data_R {H:MH}:∀ {r:Rx},okR r→(encR r).data H=some (datR r)
 | .no,_=>by simp [encR_q1,encR_q2,encR_q3,encR_q4,encR_q5,encR_q6,datR_q1,datR_q2,datR_q3,datR_q4,datR_q5,datR_q6,PVdata_q1,PVdata_q3,PVdata_q4,PVdata_q5,PVdata_q6,datas_q1,datas_q2,strD]
 | .eps,_=>by simp [encR_q1,encR_q2,encR_q3,encR_q4,encR_q5,encR_q6,datR_q1,datR_q2,datR_q3,datR_q4,datR_q5,datR_q6,PVdata_q1,PVdata_q3,PVdata_q4,PVdata_q5,PVdata_q6,datas_q1,datas_q2,strD]
 | .lot x,h=>by
  have:=data_str (H:=H) h
  simp only [encR_q1,encR_q2,encR_q3,encR_q4,encR_q5,encR_q6,datR_q1,datR_q2,datR_q3,datR_q4,datR_q5,datR_q6,PVdata_q1,PVdata_q3,PVdata_q4,PVdata_q5,PVdata_q6,datas_q1,datas_q2] at this ⊢
  rw [this]
  simp [strD]
 | .often r,h=>by
  have:=data_R (H:=H) (r:=r) h
  simp [encR_q1,encR_q2,encR_q3,encR_q4,encR_q5,encR_q6,datR_q1,datR_q2,datR_q3,datR_q4,datR_q5,datR_q6,PVdata_q1,PVdata_q3,PVdata_q4,PVdata_q5,PVdata_q6,datas_q1,datas_q2,this,strD]
 | .beh a b,h=>by
  have h1:=data_R (H:=H) (r:=a) h.1
  have h2:=data_R (H:=H) (r:=b) h.2
  simp [encR_q1,encR_q2,encR_q3,encR_q4,encR_q5,encR_q6,datR_q1,datR_q2,datR_q3,datR_q4,datR_q5,datR_q6,PVdata_q1,PVdata_q3,PVdata_q4,PVdata_q5,PVdata_q6,datas_q1,datas_q2,h1,h2,strD]
 | .eith a b,h=>by
  have h1:=data_R (H:=H) (r:=a) h.1
  have h2:=data_R (H:=H) (r:=b) h.2
  simp [encR_q1,encR_q2,encR_q3,encR_q4,encR_q5,encR_q6,datR_q1,datR_q2,datR_q3,datR_q4,datR_q5,datR_q6,PVdata_q1,PVdata_q3,PVdata_q4,PVdata_q5,PVdata_q6,datas_q1,datas_q2,h1,h2,strD]
section
variable {C:Cl} {x y:X} {r:List PV} {H:MH} {a b:Rx} {u v:Bool}
theorem ev_cmpR (ha:okR a) (hb:okR b) (hd:min (rdp a) (rdp b)≤2000) (ex:Ev C x r H (encR a)) (ey:Ev C y r H (encR b)):Ev C (.cmp .Eq x y) r H (.bool (rEq a b)):=fun K k=>by
 rw [wx_cmp]
 refine ex _ (ey _ ?_)
 have h:∃ q,EqR H (encR a) (encR b) q∧K (.bool q) H:=⟨_,⟨_,_,data_R ha,data_R hb,by rw [rdp_dat,rdp_dat]; exact hd,rfl⟩,k⟩
 induction a using Rx.casesOn <;> induction b using Rx.casesOn <;> exact h
theorem ev_or {p q:X} (ep:Ev C p r H (.bool u)) (eq:Ev C q r H (.bool v)):Ev C (.or2 p q) r H (.bool (u||v)):=fun K k=>by
 rw [wx_or]
 refine ep _ ?_
 induction u using Bool.casesOn with
 | true=>exact k
 | false=>exact eq _ k
theorem ev_and {p q:X} (ep:Ev C p r H (.bool u)) (eq:Ev C q r H (.bool v)):Ev C (.and2 p q) r H (.bool (u&&v)):=fun K k=>by
 rw [wx_and]
 refine ep _ ?_
 induction u using Bool.casesOn with
 | false=>exact k
 | true=>exact eq _ k
theorem ev_ife {t p q:X} {z w:PV} (et:Ev C t r H (.bool u)) (ep:u=true→Ev C p r H z) (eq:u=false→Ev C q r H w):Ev C (.ife t p q) r H (if u then z else w):=fun K k=>by
 rw [wx_ife]
 refine et _ ?_
 induction u using Bool.casesOn with
 | true=>exact ep rfl _ k
 | false=>exact eq rfl _ k
theorem ev_no:Ev C (.tup (.cons (.lit (.str [110,111,110,101])) .nil)) r H (encR .no):=fun K k=>by
 walk_at "mw"; exact k
theorem ev_eps:Ev C (.tup (.cons (.lit (.str [110,111,116,104,105,110,103])) .nil)) r H (encR .eps):=fun K k=>by
 walk_at "mw"; exact k
end
section
variable {c:Cx} {prog:Program} {d:Nat} {H:MH} {Q:PV→MH→Prop}
theorem s29 (W:Fns c) {a b:Rx} (ha:okR a) (hb:okR b) (h:Q (encR (behS a b)) H):CS c prog (d+1) (.fn 29) [encR a,encR b] H Q:=by
 refine callB W.X W.f29 (by decide) rfl ?_
 have m1:∀ z:Rx,min (rdp z) 1≤2000:=fun z=>Nat.le_trans (Nat.min_le_right _ _) (by decide)
 have ea:∀ {C:Cl},Ev C (.var 0) ([encR a,encR b]++List.replicate 0 .undef) H (encR a):=fun {C}=>ev_var rfl (isU_R a)
 have eb:∀ {C:Cl},Ev C (.var 1) ([encR a,encR b]++List.replicate 0 .undef) H (encR b):=fun {C}=>ev_var rfl (isU_R b)
 unfold behS at h
 by_cases h1:(rEq a .no||rEq b .no)=true
 ·rw [if_pos h1] at h
  exact ifT ((ev_or (ev_cmpR (b:=.no) ha trivial (m1 a) ea ev_no) (ev_cmpR (b:=.no) hb trivial (m1 b) eb ev_no)).cast (by rw [h1])) (retE ev_no h)
 ·rw [if_neg h1] at h
  refine ifF ((ev_or (ev_cmpR (b:=.no) ha trivial (m1 a) ea ev_no) (ev_cmpR (b:=.no) hb trivial (m1 b) eb ev_no)).cast (by rw [Bool.eq_false_iff.mpr h1])) ?_
  by_cases h2:rEq a .eps=true
  ·rw [if_pos h2] at h
   exact ifT ((ev_cmpR (b:=.eps) ha trivial (m1 a) ea ev_eps).cast (by rw [h2])) (retE eb h)
  ·rw [if_neg h2] at h
   refine ifF ((ev_cmpR (b:=.eps) ha trivial (m1 a) ea ev_eps).cast (by rw [Bool.eq_false_iff.mpr h2])) ?_
   refine retE (ev_ife (z:=encR a) (w:=encR (.beh a b)) (ev_cmpR (b:=.eps) hb trivial (m1 b) eb ev_eps) (fun _=>ea) fun _ K k=>?_) ?_
   ·walk_at "mw"; exact k
   ·by_cases h3:rEq b .eps=true
    ·rw [if_pos h3] at h ⊢; exact h
    ·rw [if_neg h3] at h ⊢; exact h
theorem s31 (W:Fns c) {a b:Rx} (ha:okR a) (hb:okR b) (hd:min (rdp a) (rdp b)≤2000) (h:Q (encR (eithS a b)) H):CS c prog (d+1) (.fn 31) [encR a,encR b] H Q:=by
 refine callB W.X W.f31 (by decide) rfl ?_
 have m1:∀ z:Rx,min (rdp z) 1≤2000:=fun z=>Nat.le_trans (Nat.min_le_right _ _) (by decide)
 have ea:∀ {C:Cl},Ev C (.var 0) ([encR a,encR b]++List.replicate 0 .undef) H (encR a):=fun {C}=>ev_var rfl (isU_R a)
 have eb:∀ {C:Cl},Ev C (.var 1) ([encR a,encR b]++List.replicate 0 .undef) H (encR b):=fun {C}=>ev_var rfl (isU_R b)
 unfold eithS at h
 by_cases h1:(rEq a .no||rEq a b)=true
 ·rw [if_pos h1] at h
  exact ifT ((ev_or (ev_cmpR (b:=.no) ha trivial (m1 a) ea ev_no) (ev_cmpR ha hb hd ea eb)).cast (by rw [h1])) (retE eb h)
 ·rw [if_neg h1] at h
  refine ifF ((ev_or (ev_cmpR (b:=.no) ha trivial (m1 a) ea ev_no) (ev_cmpR ha hb hd ea eb)).cast (by rw [Bool.eq_false_iff.mpr h1])) ?_
  refine retE (ev_ife (z:=encR a) (w:=encR (.eith a b)) (ev_cmpR (b:=.no) hb trivial (m1 b) eb ev_no) (fun _=>ea) fun _ K k=>?_) ?_
  ·walk_at "mw"; exact k
  ·by_cases h3:rEq b .no=true
   ·rw [if_pos h3] at h ⊢; exact h
   ·rw [if_neg h3] at h ⊢; exact h
noncomputable def kindR:Rx→List Nat
 | .no=>[110,111,110,101]
 | .eps=>[110,111,116,104,105,110,103]
 | .lot _=>[108,111,116]
 | .often _=>[111,102,116,101,110]
 | .beh _ _=>[98,101,104,105,110,100]
 | .eith _ _=>[101,105,116,104,101,114]
theorem ev_kind {C:Cl} {r:List PV} {i:Nat} {a:Rx} (h:get r i=encR a):Ev C (.sub (.var i) (.lit (.int 0))) r H (.str (kindR a)):=fun K k=>by
 rw [wx_sub,wpX_var,h]
 refine ⟨isU_R a,?_⟩
 refine x_lit ?_
 induction a using Rx.casesOn <;> exact ⟨by decide,of_decide_eq_true rfl,of_decide_eq_true rfl,k⟩
theorem ev_inR {C:Cl} {r:List PV} {x y z:X} {k a b:List Nat} (hx:Ev C x r H (.str k)):Ev C (.cmp .In x (.tup (.cons (.lit (.str a)) (.cons (.lit (.str b)) .nil)))) r H (.bool ([a,b].contains k)):=fun K kk=>by
 refine x_cmp ?_
 refine hx _ ?_
 walk_at "mw"
 exact kk
theorem ev_eqS {C:Cl} {r:List PV} {x:X} {k a:List Nat} (hx:Ev C x r H (.str k)):Ev C (.cmp .Eq x (.lit (.str a))) r H (.bool (decide (k=a))):=fun K kk=>by
 refine x_cmp ?_
 refine hx _ ?_
 refine x_lit ?_
 exact kk
theorem s32 (W:Fns c):∀ (r:Rx) (d:Nat) (Q:PV→MH→Prop),Q (.bool (nullR r)) H→CS c prog (d+rdp r) (.fn 32) [encR r] H Q:=by
 have two:∀ (a b:Rx) (d:Nat) (bt:Rx) (kb:Bool),(∀ (d:Nat) (Q:PV→MH→Prop),Q (.bool (nullR a)) H→CS c prog (d+rdp a) (.fn 32) [encR a] H Q)→(∀ (d:Nat) (Q:PV→MH→Prop),Q (.bool (nullR b)) H→CS c prog (d+rdp b) (.fn 32) [encR b] H Q) →
   (encR bt=.tup [.str (kindR bt),encR a,encR b])→(kindR bt=[98,101,104,105,110,100]∧kb=true∨kindR bt=[101,105,116,104,101,114]∧kb=false)→∀ Q:PV→MH→Prop,Q (.bool (if kb then nullR a&&nullR b else nullR a||nullR b)) H→CS c prog (d+(max (rdp a) (rdp b)+1)) (.fn 32) [encR bt] H Q:=by
  intro a b d bt kb iha ihb he hk Q h
  refine callB W.X W.f32 (by decide) rfl (d:=d+max (rdp a) (rdp b)) ?_
  refine ifF ((ev_inR (y:=.lit .none) (z:=.lit .none) (ev_kind rfl)).cast ?_) (ifF ((ev_inR (y:=.lit .none) (z:=.lit .none) (ev_kind rfl)).cast ?_) ?_)
  ·rcases hk with ⟨hk,_⟩ | ⟨hk,_⟩ <;> rw [hk] <;> rfl
  ·rcases hk with ⟨hk,_⟩ | ⟨hk,_⟩ <;> rw [hk] <;> rfl
  refine w_asgW ?_
  refine viaK (fun K=>K (.tup [.bool (nullR a),.bool (nullR b)]) H) (fun K k=>?_) ?_
  ·have h1:∀ Q:PV→MH→Prop,Q (.bool (nullR a)) H→CS c prog (d+max (rdp a) (rdp b)) (.fn 32) [encR a] H Q:=fun Q h=>(iha d Q h).mono (by have:=Nat.le_max_left (rdp a) (rdp b); lia)
   have h2:∀ Q:PV→MH→Prop,Q (.bool (nullR b)) H→CS c prog (d+max (rdp a) (rdp b)) (.fn 32) [encR b] H Q:=fun Q h=>(ihb d Q h).mono (by have:=Nat.le_max_right (rdp a) (rdp b); lia)
   (revert h1 h2; refine genl (CS c prog (d+max (rdp a) (rdp b))) fun C h1 h2=>?_)
   rw [he]
   walk_at "mw"
   refine h1 _ ?_
   walk_at "mw"
   refine h2 _ ?_
   walk_at "mw"
   exact k
  refine ⟨rfl,by decide,?_⟩
  have e1:∀ {C:Cl},Ev C (.ife (.cmp .Eq (.sub (.var 0) (.lit (.int 0))) (.lit (.str [98,101,104,105,110,100]))) (.and2 (.var 1) (.var 2)) (.or2 (.var 1) (.var 2))) [encR bt,.bool (nullR a),.bool (nullR b),.undef] H (if kb then .bool (nullR a&&nullR b) else .bool (nullR a||nullR b)):=fun {C}=>by
   refine ev_ife ((ev_eqS (ev_kind rfl)).cast ?_) (fun _=>ev_and (ev_var rfl rfl) (ev_var rfl rfl)) (fun _=>ev_or (ev_var rfl rfl) (ev_var rfl rfl))
   rcases hk with ⟨hk,hb⟩ | ⟨hk,hb⟩ <;> rw [hk,hb] <;> rfl
  refine retW (e1 _ ?_)
  induction kb using Bool.casesOn <;> exact h
 intro r
 induction r with
 | no=>exact fun d Q h=>callB W.X W.f32 (by decide) rfl (ifT ((ev_inR (y:=.lit .none) (z:=.lit .none) (ev_kind (a:=.no) rfl)).cast rfl) (retE ev_lit h))
 | lot x=>exact fun d Q h=>callB W.X W.f32 (by decide) rfl (ifT ((ev_inR (y:=.lit .none) (z:=.lit .none) (ev_kind (a:=.lot x) rfl)).cast rfl) (retE ev_lit h))
 | eps=>exact fun d Q h=>callB W.X W.f32 (by decide) rfl (ifF ((ev_inR (y:=.lit .none) (z:=.lit .none) (ev_kind (a:=.eps) rfl)).cast rfl) (ifT ((ev_inR (y:=.lit .none) (z:=.lit .none) (ev_kind (a:=.eps) rfl)).cast rfl) (retE ev_lit h)))
 | often r _=>exact fun d Q h=>callB W.X W.f32 (by decide) rfl (d:=d+rdp r) (ifF ((ev_inR (y:=.lit .none) (z:=.lit .none) (ev_kind (a:=.often r) rfl)).cast rfl) (ifT ((ev_inR (y:=.lit .none) (z:=.lit .none) (ev_kind (a:=.often r) rfl)).cast rfl) (retE ev_lit h)))
 | beh a b iha ihb=>exact fun d Q h=>two a b d (.beh a b) true iha ihb rfl (.inl ⟨rfl,rfl⟩) Q h
 | eith a b iha ihb=>exact fun d Q h=>two a b d (.eith a b) false iha ihb rfl (.inr ⟨rfl,rfl⟩) Q h
end
section
variable {c:Cx} {prog:Program} {d:Nat} {H:MH} {Q:PV→MH→Prop}
theorem s33 (W:Fns c) (sg:Nat):∀ (r:Rx) (d:Nat) (Q:PV→MH→Prop),okR r→rdp r≤500→Q (encR (dR r sg)) H→CS c prog (d+1+rdp r) (.fn 33) [encR r,.str [sg]] H Q:=by
 intro r
 induction r with
 | no =>
  intro d Q _ _ h
  refine callB W.X W.f33 (by decide) rfl ?_
  show wpSs _ _ [.tup [.str [110,111,110,101]],.str [sg],.undef,.undef,.undef,.undef,.undef] H _
  unfold b33
  walk_at "mw"
  exact h
 | eps =>
  intro d Q _ _ h
  refine callB W.X W.f33 (by decide) rfl ?_
  show wpSs _ _ [.tup [.str [110,111,116,104,105,110,103]],.str [sg],.undef,.undef,.undef,.undef,.undef] H _
  unfold b33
  walk_at "mw"
  exact h
 | lot x =>
  intro d Q _ _ h
  refine callB W.X W.f33 (by decide) rfl ?_
  show wpSs _ _ [.tup [.str [108,111,116],.str x],.str [sg],.undef,.undef,.undef,.undef,.undef] H _
  unfold b33
  simp only [dR_q1,dR_q2,dR_q3,dR_q4,dR_q5,dR_q6] at h
  induction hx:x.contains sg using Bool.casesOn with
  | true=>rw [hx] at h; walk_at "mw"; exact h
  | false=>rw [hx] at h; walk_at "mw"; exact h
 | often r ih =>
  intro d Q ho hr h
  simp only [rdp_q1,rdp_q2,rdp_q3,rdp_q4,rdp_q5,rdp_q6] at hr
  refine callB W.X W.f33 (by decide) rfl (d:=d+1+rdp r) ?_
  show wpSs _ _ [.tup [.str [111,102,116,101,110],encR r],.str [sg],.undef,.undef,.undef,.undef,.undef] H _
  unfold b33
  walk_at "mw"
  refine ih d _ ho (by lia) ?_
  walk_at "mw"
  exact CS.mono (s29 (d:=d) W (okR_d sg r ho) ho h) (by lia)
 | eith a b iha ihb =>
  intro d Q ho hr h
  simp only [rdp_q1,rdp_q2,rdp_q3,rdp_q4,rdp_q5,rdp_q6] at hr
  refine callB W.X W.f33 (by decide) rfl (d:=d+1+max (rdp a) (rdp b)) ?_
  show wpSs _ _ [.tup [.str [101,105,116,104,101,114],encR a,encR b],.str [sg],.undef,.undef,.undef,.undef,.undef] H _
  unfold b33
  walk_at "mw"
  refine CS.mono (iha d _ ho.1 (by lia) ?_) (by lia)
  walk_at "mw"
  refine CS.mono (ihb d _ ho.2 (by lia) ?_) (by lia)
  walk_at "mw"
  exact CS.mono (s31 (d:=d) W (okR_d sg a ho.1) (okR_d sg b ho.2) (by have:=rdp_d sg a; lia) h) (by lia)
 | beh a b iha ihb =>
  intro d Q ho hr h
  simp only [rdp_q1,rdp_q2,rdp_q3,rdp_q4,rdp_q5,rdp_q6] at hr
  have oda:=okR_d sg a ho.1
  have odb:=okR_d sg b ho.2
  simp only [dR_q1,dR_q2,dR_q3,dR_q4,dR_q5,dR_q6] at h
  refine callB W.X W.f33 (by decide) rfl (d:=d+1+max (rdp a) (rdp b)) ?_
  show wpSs _ _ [.tup [.str [98,101,104,105,110,100],encR a,encR b],.str [sg],.undef,.undef,.undef,.undef,.undef] H _
  unfold b33
  walk_at "mw"
  refine CS.mono (iha d _ ho.1 (by lia) ?_) (by lia)
  walk_at "mw"
  refine CS.mono (s29 (d:=d) W oda ho.2 ?_) (by lia)
  walk_at "mw"
  refine CS.mono (s32 W a (d+1) _ ?_) (by lia)
  induction hn:nullR a using Bool.casesOn with
  | true =>
   rw [hn] at h
   walk_at "mw"
   refine CS.mono (ihb d _ ho.2 (by lia) ?_) (by lia)
   walk_at "mw"
   exact CS.mono (s31 (d:=d) W (okR_beh oda ho.2) odb (by have:=rdp_d sg b; lia) h) (by lia)
  | false =>
   rw [hn] at h
   walk_at "mw"
   exact h
theorem s28 (W:Fns c) {pa:Addr} {ps:List Rx} (hp:H pa=some (.list (ps.map encR))) (hl:ps.length≤big) (ho:∀ r∈ps,okR r) (h:Q (encR (rowR ps)) H):CS c prog (d+2) (.fn 28) [.ref pa] H Q:=by
 refine callB W.X W.f28 (by decide) rfl ?_
 refine asgE ev_eps ?_
 refine forE (v:=.ref pa) (xs:=ps.map encR) (src:=fun H'=>H' pa=some (.list (ps.map encR))) (ev_var rfl rfl) (fun K k=>by unfold iterOp; simp only [hp,List.length_map]; exact ⟨hl,k⟩) ?_
 have go:∀ (qs:List Rx) (a:Rx) (x2:PV),okR a→(∀ r∈qs,okR r)→Q (encR (qs.foldl behS a)) H→forGo 2 (fun H'=>H' pa=some (.list (ps.map encR))) (fun r H Q=>wpSs (CS c prog (d+1)) (.cons (.asg 1 (.call (.lit (.fn 29)) (.cons (.var 1) (.cons (.var 2) .nil)))) .nil) r H Q) (qs.map encR) [.ref pa,encR a,x2,.undef] H (sq (CS c prog (d+1)) (.cons (.ret (.var 1)) .nil) (retQ Q)):=by
  intro qs
  induction qs with
  | nil =>
   intro a x2 _ _ h
   refine forNil hp ?_
   show wpSs _ (.cons (.ret (.var 1)) .nil) _ _ _
   exact retE (ev_var rfl (isU_R a)) h
  | cons q qs ih =>
   intro a x2 ha hq h
   refine forCons hp ?_
   refine asgE (v:=encR (behS a q)) (fun K k=>?_) (nilW ?_)
   ·have:=s29 (prog:=prog) (d:=d) (Q:=K) W ha (hq q List.mem_cons_self) k
    walk_at "mw"
    exact this
   ·exact ih (behS a q) (encR q) (okR_beh ha (hq q List.mem_cons_self)) (fun r hr=>hq r (List.mem_cons_of_mem _ hr)) h
 exact go ps .eps .undef trivial ho h
end
noncomputable def okM:Nd→Prop
 | .lf (.chars x)=>x.length≤10∧∀ c∈x,c<1114112
 | .lf (.len n)=>n≤10
 | .lf (.any _ x)=>∀ c∈x,c<1114112
 | .lf (.rpos _)=>False
 | .arb=>True
 | .cat a b=>okM a∧okM b
 | .alt a b=>okM a∧okM b
 | .arbno a=>okM a
theorem okM_N:∀ {n:Nd},okM n→okN n
 | .lf (.chars x),h=>⟨by have:=h.1; unfold big; lia,h.2⟩
 | .lf (.len n),h=>trivial
 | .lf (.any _ x),h=>h
 | .lf (.rpos _),h=>h.elim
 | .arb,_=>trivial
 | .cat a b,h=>⟨okM_N h.1,okM_N h.2⟩
 | .alt a b,h=>⟨okM_N h.1,okM_N h.2⟩
 | .arbno a,h=>okM_N (n:=a) h
theorem okM_R:∀ {n:Nd},okM n→noR n
 | .lf (.chars x),h=>trivial
 | .lf (.len n),h=>trivial
 | .lf (.any _ x),h=>trivial
 | .lf (.rpos _),h=>h
 | .arb,_=>trivial
 | .cat a b,h=>⟨okM_R h.1,okM_R h.2⟩
 | .alt a b,h=>⟨okM_R h.1,okM_R h.2⟩
 | .arbno a,h=>okM_R (n:=a) h
theorem abc_small:∀ c∈abc,c<1114112:=by decide
theorem row_rdp:∀ (ps:List Rx) (a:Rx),(∀ r∈ps,rdp r=1)→rdp (ps.foldl behS a)≤rdp a+ps.length
 | [],a,_=>by simp
 | p::ps,a,h=>by
  have h1:=row_rdp ps (behS a p) fun r hr=>h r (List.mem_cons_of_mem _ hr)
  have h2:=rdp_beh a p
  have h3:=h p List.mem_cons_self
  have h4:=rdp_pos a
  rw [List.foldl_cons,List.length_cons]
  lia
theorem row_okR:∀ (ps:List Rx) (a:Rx),okR a→(∀ r∈ps,okR r)→okR (ps.foldl behS a)
 | [],a,ha,_=>ha
 | p::ps,a,ha,h=>row_okR ps _ (okR_beh ha (h p List.mem_cons_self)) fun r hr=>h r (List.mem_cons_of_mem _ hr)
theorem of_okR:∀ {n:Nd},okM n→okR (ofN n)
 | .lf (.chars x),h=>row_okR _ _ trivial fun r hr=>by
  obtain ⟨c,hc,rfl⟩:=List.mem_map.mp hr
  intro y hy
  obtain rfl:=List.mem_singleton.mp hy
  exact h.2 _ hc
 | .lf (.len n),h=>row_okR _ _ trivial fun r hr=>by
  obtain ⟨_,rfl⟩:=List.mem_replicate.mp hr
  exact abc_small
 | .lf (.any b x),h=>fun c hc=>abc_small c (List.mem_filter.mp hc).1
 | .lf (.rpos _),h=>h.elim
 | .arb,_=>abc_small
 | .cat a b,h=>okR_beh (of_okR h.1) (of_okR h.2)
 | .alt a b,h=>okR_eith (of_okR h.1) (of_okR h.2)
 | .arbno a,h=>of_okR (n:=a) h
theorem of_rdp:∀ {n:Nd},okM n→rdp (ofN n)≤12+dpt n
 | .lf (.chars x),h=>by
  have:=row_rdp (x.map fun c=>Rx.lot [c]) .eps fun r hr=>by
   obtain ⟨c,hc,rfl⟩:=List.mem_map.mp hr; rfl
  rw [List.length_map] at this
  have h1:=h.1
  simp only [ofN_q1,ofN_q2,ofN_q3,ofN_q5,ofN_q6,ofN_q7,ofN_q8,rowR,dpt_q1,dpt_q2,dpt_q3,dpt_q4,dpt_q5,rdp_q1,rdp_q2,rdp_q3,rdp_q4,rdp_q5,rdp_q6] at *
  lia
 | .lf (.len n),h=>by
  have:=row_rdp (List.replicate n (Rx.lot abc)) .eps fun r hr=>by
   obtain ⟨_,rfl⟩:=List.mem_replicate.mp hr; rfl
  rw [List.length_replicate] at this
  have h1:n≤10:=h
  simp only [ofN_q1,ofN_q2,ofN_q3,ofN_q5,ofN_q6,ofN_q7,ofN_q8,rowR,dpt_q1,dpt_q2,dpt_q3,dpt_q4,dpt_q5,rdp_q1,rdp_q2,rdp_q3,rdp_q4,rdp_q5,rdp_q6] at *
  lia
 | .lf (.any b x),h=>by simp [ofN_q1,ofN_q2,ofN_q3,ofN_q5,ofN_q6,ofN_q7,ofN_q8,rdp_q1,rdp_q2,rdp_q3,rdp_q4,rdp_q5,rdp_q6,dpt_q1,dpt_q2,dpt_q3,dpt_q4,dpt_q5]
 | .lf (.rpos _),h=>h.elim
 | .arb,_=>by simp [ofN_q1,ofN_q2,ofN_q3,ofN_q5,ofN_q6,ofN_q7,ofN_q8,rdp_q1,rdp_q2,rdp_q3,rdp_q4,rdp_q5,rdp_q6,dpt_q1,dpt_q2,dpt_q3,dpt_q4,dpt_q5]
 | .cat a b,h=>by
  have h1:=of_rdp (n:=a) h.1
  have h2:=of_rdp (n:=b) h.2
  have h3:=rdp_beh (ofN a) (ofN b)
  simp only [ofN_q1,ofN_q2,ofN_q3,ofN_q5,ofN_q6,ofN_q7,ofN_q8,dpt_q1,dpt_q2,dpt_q3,dpt_q4,dpt_q5]
  lia
 | .alt a b,h=>by
  have h1:=of_rdp (n:=a) h.1
  have h2:=of_rdp (n:=b) h.2
  have h3:=rdp_eith (ofN a) (ofN b)
  simp only [ofN_q1,ofN_q2,ofN_q3,ofN_q5,ofN_q6,ofN_q7,ofN_q8,dpt_q1,dpt_q2,dpt_q3,dpt_q4,dpt_q5]
  lia
 | .arbno a,h=>by
  have h1:=of_rdp (n:=a) h
  simp only [ofN_q1,ofN_q2,ofN_q3,ofN_q5,ofN_q6,ofN_q7,ofN_q8,dpt_q1,dpt_q2,dpt_q3,dpt_q4,dpt_q5,rdp_q1,rdp_q2,rdp_q3,rdp_q4,rdp_q5,rdp_q6]
  lia
theorem strs_single:∀ l:List Nat,strsOf (l.map fun c=>PV.str [c])=some (l.map fun c=>[c])
 | []=>rfl
 | c::l=>by
  simp only [List.map_cons,strsOf_q2,strs_single l,Option.map_some]
theorem flat_single:∀ l:List Nat,(l.map fun c=>[c]).flatten=l
 | []=>rfl
 | c::l=>by simp [flat_single l]
theorem comp_mapM {H:MH} {fe:PV→MH→(PV→MH→Prop)→Prop} {g:PV→PV} {src:MH→Prop} (hs:src H):∀ (xs acc:List PV) (K:List PV→MH→Prop),(∀ x∈xs,∀ (K:PV→MH→Prop),K (g x) H→fe x H K)→K (acc++xs.map g) H→compGo src (fun _ H Q=>Q (.bool true) H) fe xs acc H K:=by
 intro xs
 induction xs with
 | nil=>intro acc K _ k; unfold compGo; exact ⟨hs,by simpa using k⟩
 | cons x xs ih =>
  intro acc K hf k
  unfold compGo
  refine ⟨hs,?_⟩
  show fe x H _
  refine hf x List.mem_cons_self _ (ih _ K (fun y hy=>hf y (List.mem_cons_of_mem _ hy)) ?_)
  simpa using k
theorem comp_filterM {H:MH} {fc fe:PV→MH→(PV→MH→Prop)→Prop} {g:PV→Bool} {src:MH→Prop} (hs:src H):∀ (xs acc:List PV) (K:List PV→MH→Prop),(∀ x∈xs,∀ (K:PV→MH→Prop),K (.bool (g x)) H→fc x H K)→(∀ x∈xs,∀ (K:PV→MH→Prop),K x H→fe x H K) →
  K (acc++xs.filter g) H→compGo src fc fe xs acc H K:=by
 intro xs
 induction xs with
 | nil=>intro acc K _ _ k; unfold compGo; exact ⟨hs,by simpa using k⟩
 | cons x xs ih =>
  intro acc K hc hf k
  unfold compGo
  refine ⟨hs,?_⟩
  refine hc x List.mem_cons_self _ ?_
  induction hg:g x using Bool.casesOn with
  | true =>
   show fe x H _
   refine hf x List.mem_cons_self _ (ih _ K (fun y hy=>hc y (List.mem_cons_of_mem _ hy)) (fun y hy=>hf y (List.mem_cons_of_mem _ hy)) ?_)
   rw [List.filter_cons,hg] at k
   simpa using k
  | false =>
   show compGo _ _ _ _ _ _ _
   refine ih _ K (fun y hy=>hc y (List.mem_cons_of_mem _ hy)) (fun y hy=>hf y (List.mem_cons_of_mem _ hy)) ?_
   rw [List.filter_cons,hg] at k
   simpa using k
theorem rep_flat:∀ n:Nat,(List.replicate n [PV.tup [.str [108,111,116],.str [97,98,99]]]).flatten=(List.replicate n (Rx.lot abc)).map encR
 | 0=>rfl
 | n+1=>by rw [List.replicate_succ,List.flatten_cons,rep_flat n,List.replicate_succ]; rfl
section
variable {c:Cx} {prog:Program} {d:Nat} {Q:PV→MH→Prop}
noncomputable def kindN:Nd→List Nat
 | .lf l=>kindL l
 | .arb=>[97,114,98]
 | .cat _ _=>[99,97,116]
 | .arbno _=>[97,114,98,110,111]
 | .alt _ _=>[97,108,116]
theorem ev_kindN {C:Cl} {H:MH} {r:List PV} {i:Nat} {n:Nd} (h:get r i=encN n):Ev C (.sub (.var i) (.lit (.int 0))) r H (.str (kindN n)):=fun K k=>by
 rw [wx_sub,wpX_var,h]
 refine ⟨isU_N n,?_⟩
 rw [wx_lit]
 induction n using Nd.casesOn <;> exact ⟨by decide,of_decide_eq_true rfl,of_decide_eq_true rfl,k⟩
theorem big1 (n:Nat) (h:n≤1000):n≤big:=by unfold big; lia
theorem s30any {C:Cl} {x:List Nat} (k:List Nat) (b:Bool) {H:MH} {Q:PV→MH→Prop} (hk:decide (k=[97,110,121])=b) (h:∀ H',Frm [] H H'→Q (encR (.lot (abc.filter fun c=>x.contains c==b))) H') :
  wpX C (.meth (.lit (.str [])) 35 (.cons (.compIf (.var 1) 1 (.lit (.str [97,98,99])) (.cmp .Eq (.cmp .In (.var 1) (.sub (.var 3) (.lit (.int 1)))) (.cmp .Eq (.var 2) (.lit (.str [97,110,121])))) [9999,9999,1,0]) .nil)) [.tup [.str k,.str x],.str k,.undef,.undef,.undef,.undef,.undef] H fun p H=>wpXs C .nil [.tup [.str k,.str x],.str k,.undef,.undef,.undef,.undef,.undef] H fun ps H=>(PV.str [108,111,116]::p::ps).length≤big∧Q (.tup (PV.str [108,111,116]::p::ps)) H:=by
 refine x_meth (x_lit ?_)
 show wpXs _ _ _ _ _
 refine xs_cons ?_
 rw [wx_compIf,wx_lit]
 refine ⟨by decide,?_⟩
 refine comp_filterM (g:=fun p=>match p with | .str [c]=>x.contains c==b | _=>false) trivial _ _ _ (fun y hy K kk=>?_) (fun y hy K kk=>?_) ?_
 ·obtain ⟨ch,hch,rfl⟩:=List.mem_map.mp hy
  show wpX C _ [.undef,.str [ch],.str k,.tup [.str k,.str x]] H K
  walk_at "mw"
  rw [hk]
  have e:∀ a b:Bool,decide (a=b)=(a==b):=by decide
  rw [e]
  exact kk
 ·obtain ⟨ch,hch,rfl⟩:=List.mem_map.mp hy
  exact x_v1 (l:=[.str k,.tup [.str k,.str x]]) (e0:=.undef) rfl kk
 intro l0 hl0
 have e1:(([]:List PV)++(abc.map fun c=>PV.str [c]).filter fun p=>match p with | .str [c]=>x.contains c==b | _=>false)=(abc.filter fun c=>x.contains c==b).map fun c=>PV.str [c]:=by
  rw [List.nil_append,List.filter_map]; rfl
 have e1':(([]:List PV)++([97,98,99].map fun c=>PV.str [c]).filter fun p=>match p with | .str [c]=>x.contains c==b | _=>false)=(abc.filter fun c=>x.contains c==b).map fun c=>PV.str [c]:=e1
 rw [e1']
 have hlen:(abc.filter fun c=>x.contains c==b).length≤3:=Nat.le_trans (List.length_filter_le _ _) (by decide)
 refine xs_nil ?_
 refine i_str upd_self (strs_single _) ⟨rfl,by rw [flat_single]; exact big1 _ (Nat.le_trans hlen (by decide)),by rw [List.length_map]; exact big1 _ (Nat.le_trans hlen (by decide)),?_⟩
 rw [flat_single]
 exact xs_nil ⟨of_decide_eq_true rfl,h _ (frm_up Frm.refl (.inr hl0))⟩
theorem s30 (W:Fns c):∀ (n:Nd) (d:Nat) (H:MH) (Q:PV→MH→Prop),okM n→dpt n≤10→(∀ H',Frm [] H H'→Q (encR (ofN n)) H')→CS c prog (d+3+dpt n) (.fn 30) [encN n] H Q:=by
 intro n
 induction n with
 | lf l =>
  intro d H Q hm _ h
  induction l using Lf.casesOn with
  | chars x =>
   refine callB W.X W.f30 (by decide) rfl (d:=d+2) ?_
   show wpSs _ _ [.tup [.str [99,104,97,114,115],.str x],.undef,.undef,.undef,.undef,.undef,.undef] H _
   unfold b30
   walk_at "mw"
   refine x_comp ?_
   walk_at "mw"
   refine ⟨big1 _ (by have:=hm.1; lia),?_⟩
   refine comp_mapM (g:=fun p=>.tup [.str [108,111,116],p]) trivial _ _ _ (fun y hy K k=>?_) ?_
   ·obtain ⟨ch,hch,rfl⟩:=List.mem_map.mp hy
    show wpX _ _ [.undef,.str [ch]] H K
    walk_at "mw"
    exact k
   intro pa hpa
   have e1:(([]:List PV)++(x.map fun c=>PV.str [c]).map fun p=>PV.tup [.str [108,111,116],p])=(x.map fun c=>Rx.lot [c]).map encR:=by
    rw [List.nil_append,List.map_map,List.map_map]; rfl
   rw [e1]
   refine xs_nil (s28 (d:=d) W upd_self (by rw [List.length_map]; exact big1 _ (by have:=hm.1; lia)) (fun r hr=>?_) (h _ (frm_up Frm.refl (.inr hpa))))
   obtain ⟨ch,hch,rfl⟩:=List.mem_map.mp hr
   intro y hy
   obtain rfl:=List.mem_singleton.mp hy
   exact hm.2 _ hch
  | len n =>
   have hn:n≤10:=hm
   refine callB W.X W.f30 (by decide) rfl (d:=d+2) ?_
   show wpSs _ _ [.tup [.str [108,101,110],.int n],.undef,.undef,.undef,.undef,.undef,.undef] H _
   unfold b30
   walk_at "mw"
   intro l0 hl0
   walk_at "mw"
   refine i_mul upd_self ⟨by lia,by lia,by decide,?_⟩
   intro pa hpa
   have hpa0:H pa=none:=by
    induction q:H pa using Option.casesOn with
    | none=>rfl
    | some z =>
     have:pa≠l0:=by rintro rfl; rw [hl0] at q; cases q
     rw [upd_other this,q] at hpa; cases hpa
   rw [Int.toNat_natCast,rep_flat]
   refine xs_nil (s28 (d:=d) W upd_self (by rw [List.length_replicate]; exact big1 _ (by lia)) (fun r hr=>?_) (h _ (frm_up (frm_up Frm.refl (.inr hl0)) (.inr hpa0))))
   obtain ⟨_,rfl⟩:=List.mem_replicate.mp hr
   exact abc_small
  | any b x =>
   induction b using Bool.casesOn with
   | true =>
    refine callB W.X W.f30 (by decide) rfl (d:=d+2) ?_
    show wpSs _ _ [.tup [.str [97,110,121],.str x],.undef,.undef,.undef,.undef,.undef,.undef] H _
    unfold b30
    walk_at "mw"
    exact s30any _ _ rfl h
   | false =>
    refine callB W.X W.f30 (by decide) rfl (d:=d+2) ?_
    show wpSs _ _ [.tup [.str [110,111,116,97,110,121],.str x],.undef,.undef,.undef,.undef,.undef,.undef] H _
    unfold b30
    walk_at "mw"
    exact s30any _ _ rfl h
  | rpos n=>exact hm.elim
 | arb =>
  intro d H Q hm _ h
  refine callB W.X W.f30 (by decide) rfl (d:=d+2) ?_
  show wpSs _ _ [.tup [.str [97,114,98]],.undef,.undef,.undef,.undef,.undef,.undef] H _
  unfold b30
  walk_at "mw"
  exact h H Frm.refl
 | arbno a ih =>
  intro d H Q hm hd h
  simp only [dpt_q1,dpt_q2,dpt_q3,dpt_q4,dpt_q5] at hd
  refine callB W.X W.f30 (by decide) rfl (d:=d+3+dpt a) ?_
  show wpSs _ _ [.tup [.str [97,114,98,110,111],encN a],.undef,.undef,.undef,.undef,.undef,.undef] H _
  unfold b30
  walk_at "mw"
  refine ih d _ _ hm (by lia) fun H' hf=>?_
  walk_at "mw"
  exact h H' hf
 | cat a b iha ihb =>
  intro d H Q hm hd h
  simp only [dpt_q1,dpt_q2,dpt_q3,dpt_q4,dpt_q5] at hd
  refine callB W.X W.f30 (by decide) rfl (d:=d+3+max (dpt a) (dpt b)) ?_
  show wpSs _ _ [.tup [.str [99,97,116],encN a,encN b],.undef,.undef,.undef,.undef,.undef,.undef] H _
  unfold b30
  walk_at "mw"
  refine CS.mono (iha d _ _ hm.1 (by lia) fun H1 hf=>?_) (by lia)
  walk_at "mw"
  refine CS.mono (ihb d _ _ hm.2 (by lia) fun H2 hf'=>?_) (by lia)
  walk_at "mw"
  exact CS.mono (s29 (d:=d) W (of_okR hm.1) (of_okR hm.2) (h H2 (hf.trans hf'))) (by lia)
 | alt a b iha ihb =>
  intro d H Q hm hd h
  simp only [dpt_q1,dpt_q2,dpt_q3,dpt_q4,dpt_q5] at hd
  refine callB W.X W.f30 (by decide) rfl (d:=d+3+max (dpt a) (dpt b)) ?_
  show wpSs _ _ [.tup [.str [97,108,116],encN a,encN b],.undef,.undef,.undef,.undef,.undef,.undef] H _
  unfold b30
  walk_at "mw"
  refine CS.mono (iha d _ _ hm.1 (by lia) fun H1 hf=>?_) (by lia)
  walk_at "mw"
  refine CS.mono (ihb d _ _ hm.2 (by lia) fun H2 hf'=>?_) (by lia)
  walk_at "mw"
  exact CS.mono (s31 (d:=d) W (of_okR hm.1) (of_okR hm.2) (by have:=of_rdp hm.1; lia) (h H2 (hf.trans hf'))) (by lia)
end
structure FeedAt (H:MH) (fd ce:Addr) (ns:List Int) (t:Nat):Prop where
 f:H fd=some (.list [.ref ce,.int t])
 c:H ce=some (.list (ns.map .int))
theorem FeedAt.ne {H:MH} {fd ce:Addr} {ns:List Int} {t:Nat} (h:FeedAt H fd ce ns t):fd≠ce:=by
 rintro rfl
 have h1:=h.f
 rw [h.c] at h1
 have h2:=Option.some.inj h1
 injection h2 with h3
 induction ns using List.casesOn with
 | nil=>simp at h3
 | cons a ns=>simp at h3
theorem FeedAt.next {H:MH} {fd ce:Addr} {ns:List Int} {t u:Nat} (h:FeedAt H fd ce ns t):FeedAt (upd H fd (.list [.ref ce,.int u])) fd ce ns u :=
 ⟨upd_self,by rw [upd_other (Ne.symm h.ne)]; exact h.c⟩
section
variable {c:Cx} {prog:Program} {d:Nat} {H:MH} {Q:PV→MH→Prop} {fd ce:Addr} {ns:List Int} {t:Nat}
theorem s26 (W:Fns c) {many:Nat} (hf:FeedAt H fd ce ns t) (hm:1≤many) (ht:t≤1000) (hn:ns.length≤1000) (h:∀ k:Nat,k<many→Q (.int k) (upd H fd (.list [.ref ce,.int ((t+1:Nat):Int)]))):CS c prog (d+1) (.fn 26) [.ref fd,.int many] H Q:=by
 refine callB W.X W.f26 (by decide) rfl ?_
 have hfn:=hf.next (u:=t+1)
 have hnb:ns.length≤big:=big1 _ hn
 simp only [b26]
 refine w_asgT ?_
 rw [wpX_var]
 refine ⟨rfl,?_⟩
 show itemsOp 2 (.ref fd) H _
 refine i_items hf.f ⟨rfl,by decide,?_⟩
 show wpSs _ _ [.ref fd,.int many,.ref ce,.int t,.undef,.undef,.undef] H _
 refine w_asgS ?_
 refine viaK (fun K=>K (.int ((t+1:Nat):Int)) H) (fun K k=>by walk_at "mw"; exact k) ?_
 rw [wpX_var]
 refine ⟨rfl,?_⟩
 rw [wx_lit]
 show setS (.ref fd) (.int 1) _ H _
 refine i_setS hf.f rfl ⟨by decide,of_decide_eq_true rfl,of_decide_eq_true rfl,?_⟩
 show wpSs _ _ [.ref fd,.int many,.ref ce,.int t,.undef,.undef,.undef] (upd H fd (.list [.ref ce,.int ((t+1:Nat):Int)])) _
 (revert hfn h; refine genl (upd H fd (.list [.ref ce,.int ((t+1:Nat):Int)])) fun H1 h hfn=>?_)
 have hc:=hfn.c
 have hnb:(ns.map PV.int).length≤big:=by rw [List.length_map]; exact hnb
 have hmi:(0:Int)<many:=Int.ofNat_lt.mpr hm
 by_cases hlt:t<(ns.map PV.int).length
 ·have hg:(ns.map PV.int).getD t .undef=.int (ns.getD t 0):=by
   rw [List.length_map] at hlt
   simp [List.getD_eq_getElem?_getD,hlt]
  walk_at "mw"
  rw [hg]
  walk_at "mw"
  have:=h _ (Nat.mod_lt (ns.getD t 0).natAbs hm)
  exact this
 ·have h1:(t:Int).natAbs<2 ^ 31:=by lia
  walk_at "mw"
  have e:(7*(t:Int)+(t:Int)*t / 3+6+(ns.map PV.int).length) % many=(((7*t+t*t / 3+6+(ns.map PV.int).length) % many:Nat):Int):=by
   push_cast; rfl
  rw [e]
  exact h _ (Nat.mod_lt _ hm)
theorem pick (C:Cl) {H:MH} {fd ce:Addr} {ns:List Int} {t:Nat} {r:List PV} {xs:Xs} {ys:List (List Nat)} {m:Nat} {K:PV→MH→Prop} (hf:FeedAt H fd ce ns t) (g0:get r 0=.ref fd) (hx:∀ K:List PV→MH→Prop,K (ys.map .str) H→wpXs C xs r H K) (hy:ys.length=m) (hm:m≤10)
  (hN:∀ H,FeedAt H fd ce ns t→∀ K:PV→MH→Prop,(∀ (k:Nat) H',k<m→FeedAt H' fd ce ns (t+1)→Frm [fd] H H'→K (.int k) H')→C (.fn 26) [.ref fd,.int m] H K)
  (h:∀ y H',y∈ys→FeedAt H' fd ce ns (t+1)→Frm [fd] H H'→K (.str y) H'):wpX C (.sub (.list xs) (.call (.lit (.fn 26)) (.cons (.var 0) (.cons (.lit (.int m)) .nil)))) r H K:=by
 rw [wx_sub,wx_list]
 refine hx _ ⟨big1 _ (by rw [List.length_map,hy]; lia),?_⟩
 intro l0 hl0
 have n1:l0≠fd:=by rintro rfl; rw [hf.f] at hl0; cases hl0
 have n2:l0≠ce:=by rintro rfl; rw [hf.c] at hl0; cases hl0
 rw [wx_call,wx_lit]
 refine ⟨show (26:Nat)<90 by decide,?_⟩
 simp only [wpXs_q1,wpXs_q2]
 rw [wpX_var,g0]
 refine ⟨rfl,?_⟩
 rw [wx_lit]
 refine hN _ ⟨by rw [upd_other (Ne.symm n1)]; exact hf.f,by rw [upd_other (Ne.symm n2)]; exact hf.c⟩ _ fun k H' hk hf' hfr=>?_
 have hl:H' l0=some (.list (ys.map .str)):=by rw [hfr l0 (by rw [upd_self]; exact fun e=>by cases e) (by simpa using n1),upd_self]
 refine i_sub hl (List.length_map _) ⟨by lia,by lia,big1 _ (by lia),?_⟩
 have hg:(ys.map PV.str).getD k .undef=.str (ys.getD k []):=by
  simp [List.getD_eq_getElem?_getD,hy,hk]
 rw [Int.toNat_natCast,hg]
 refine h _ H' ?_ hf' (fun a n f=>?_)
 ·rw [List.getD_eq_getElem?_getD,List.getElem?_eq_getElem (by lia)]
  exact List.getElem_mem _
 ·have:a≠l0:=by rintro rfl; exact n hl0
  rw [hfr a (by rw [upd_other this]; exact n) f,upd_other this]
theorem ev_int {C:Cl} {H:MH} {r:List PV} {i:Nat} {k j:Int} (h:get r i=.int k):Ev C (.cmp .Eq (.var i) (.lit (.int j))) r H (.bool (decide (k=j))):=fun K kk=>by
 rw [wx_cmp,wpX_var,h]
 exact ⟨rfl,kk⟩
theorem ev_ltI {C:Cl} {H:MH} {r:List PV} {i:Nat} {k j:Int} (h:get r i=.int k):Ev C (.cmp .Lt (.var i) (.lit (.int j))) r H (.bool (decide (k<j))):=fun K kk=>by
 rw [wx_cmp,wpX_var,h]
 exact ⟨rfl,kk⟩
theorem ev_sub1 {C:Cl} {H:MH} {r:List PV} {i:Nat} {k j:Int} (h:get r i=.int k):Ev C (.bin .Sub (.var i) (.lit (.int j))) r H (.int (k - j)):=fun K kk=>by
 rw [wx_bin,wpX_var,h]
 exact ⟨rfl,kk⟩
set_option maxHeartbeats 2000000 in
theorem w27 {C:Cl} {dp many:Nat} {H:MH} {t:Nat} {Q:PV→MH→Prop} (hf:FeedAt H fd ce ns t) (ht:t+4 ^ (dp+1)≤1000) (hmany:(dp=0∧many=5)∨(0<dp∧many=8))
  (hN:∀ (m t:Nat) (H:MH),1≤m→m≤10→FeedAt H fd ce ns t→t≤1000→∀ K:PV→MH→Prop,(∀ (k:Nat) H',k<m→FeedAt H' fd ce ns (t+1)→Frm [fd] H H'→K (.int k) H')→C (.fn 26) [.ref fd,.int m] H K)
  (hR:0<dp→∀ (H:MH) (t:Nat),FeedAt H fd ce ns t→t+4 ^ dp≤1000→∀ K:PV→MH→Prop,(∀ n H' t',okM n→dpt n≤dp - 1→t'≤t+4 ^ dp→FeedAt H' fd ce ns t'→Frm [fd] H H'→K (encN n) H')→C (.fn 27) [.ref fd,.int ((dp:Int) - 1)] H K)
  (h:∀ n H' t',okM n→dpt n≤dp→t'≤t+4 ^ (dp+1)→FeedAt H' fd ce ns t'→Frm [fd] H H'→Q (encN n) H'):wpSs C b27 [.ref fd,.int dp,.undef,.undef,.undef] H (retQ Q):=by
 have h4:4 ^ (dp+1)=4*4 ^ dp:=by rw [Nat.pow_succ]; lia
 have h1:1≤4 ^ dp:=Nat.one_le_pow _ _ (by decide)
 refine asgW' (viaK (fun K=>∀ (k:Nat) H',k<many→FeedAt H' fd ce ns (t+1)→Frm [fd] H H'→K (.int k) H') (fun K k=>?_) ?_)
 ·rcases hmany with ⟨rfl,rfl⟩ | ⟨hp,rfl⟩
  ·have hp:¬ 0<0:=Nat.lt_irrefl 0
   walk_at "mw"
   exact hN 5 t H (by decide) (by decide) hf (by lia) _ k
  ·walk_at "mw"
   exact hN 8 t H (by decide) (by decide) hf (by lia) _ k
 intro k H1 hk hf1 hfr1
 show wpSs C _ [.ref fd,.int dp,.int k,.undef,.undef] H1 _
 by_cases k0:k=0
 ·subst k0
  refine ifT ((ev_int (k:=0) rfl).cast rfl) (retW ?_)
  rw [wx_tup]
  simp only [wpXs_q1,wpXs_q2]
  rw [wx_lit]
  refine pick C (ys:=[[97],[97,98],[98],[99,97],[]]) (m:=5) hf1 rfl (fun K k=>by walk_at "mw"; exact k) rfl (by decide) (fun H hf K hK=>hN 5 (t+1) H (by decide) (by decide) hf (by lia) K hK) ?_
  intro y H2 hy hf2 hfr2
  refine ⟨of_decide_eq_true rfl,h (.lf (.chars y)) H2 (t+1+1) ?_ (by simp [dpt_q1,dpt_q2,dpt_q3,dpt_q4,dpt_q5]) (by lia) hf2 (hfr1.trans hfr2)⟩
  simp only [List.mem_cons,List.not_mem_nil,or_false] at hy
  rcases hy with rfl | rfl | rfl | rfl | rfl <;> exact ⟨by decide,by decide⟩
 refine ifF ((ev_int (k:=k) rfl).cast (by simp; lia)) ?_
 by_cases k1:k=1
 ·subst k1
  refine ifT ((ev_int (k:=1) rfl).cast rfl) (retW ?_)
  rw [wx_tup]
  simp only [wpXs_q1,wpXs_q2]
  rw [wx_lit,wx_call,wx_lit]
  refine ⟨show (26:Nat)<90 by decide,?_⟩
  refine xs_cons ?_
  refine x_var rfl ?_
  refine x_lit ?_
  refine hN 3 (t+1) H1 (by decide) (by decide) hf1 (by lia) _ fun j H2 hj hf2 hfr2=>?_
  exact ⟨of_decide_eq_true rfl,h (.lf (.len j)) H2 (t+1+1) (show j≤10 by lia) (by simp [dpt_q1,dpt_q2,dpt_q3,dpt_q4,dpt_q5]) (by lia) hf2 (hfr1.trans hfr2)⟩
 refine ifF ((ev_int (k:=k) rfl).cast (by simp; lia)) ?_
 by_cases k3:k<4
 ·refine ifT ((ev_ltI (k:=k) rfl).cast (by simp; lia)) (retW ?_)
  have hk23:k=2∨k=3:=by lia
  refine x_tup ?_
  refine xs_cons ?_
  refine x_sub (x_list ?_)
  refine xs_cons ?_
  refine x_lit (x_lit ?_)
  refine ⟨by decide,?_⟩
  intro l0 hl0
  have n1:l0≠fd:=by rintro rfl; rw [hf1.f] at hl0; cases hl0
  have n2:l0≠ce:=by rintro rfl; rw [hf1.c] at hl0; cases hl0
  refine ev_sub1 (k:=k) rfl _ ?_
  unfold subOp
  simp only [upd_self]
  have fin:∀ (b:Bool) (w:PV),w=.str (kindL (.any b []))→wpX C (.sub (.list (.cons (.lit (.str [97])) (.cons (.lit (.str [98,99])) (.cons (.lit (.str [97,98])) .nil)))) (.call (.lit (.fn 26)) (.cons (.var 0) (.cons (.lit (.int 3)) .nil)))) [.ref fd,.int dp,.int k,.undef,.undef]
    (upd H1 l0 (.list [.str [97,110,121],.str [110,111,116,97,110,121]])) fun p H=>[w,p].length≤big∧retQ Q (.ret (.tup [w,p])) [.ref fd,.int dp,.int k,.undef,.undef] H:=fun b w hw=>by
   subst hw
   refine pick C (ys:=[[97],[98,99],[97,98]]) (m:=3) (t:=t+1) ⟨by rw [upd_other (Ne.symm n1)]; exact hf1.f,by rw [upd_other (Ne.symm n2)]; exact hf1.c⟩ rfl (fun K k=>by walk_at "mw"; exact k) rfl (by decide) (fun H hf K hK=>hN 3 (t+1) H (by decide) (by decide) hf (by lia) K hK) ?_
   intro y H2 hy hf2 hfr2
   refine ⟨of_decide_eq_true rfl,?_⟩
   have hf12:Frm [fd] H H2:=fun a n f=>by
    have e1:=hfr1 a n f
    have:a≠l0:=by rintro rfl; rw [hl0] at e1; exact n e1.symm
    rw [hfr2 a (by rw [upd_other this,e1]; exact n) f,upd_other this,e1]
   have:=h (.lf (.any b y)) H2 (t+1+1) (by
    simp only [List.mem_cons,List.not_mem_nil,or_false] at hy
    rcases hy with rfl | rfl | rfl <;> (intro c hc; simp at hc; lia)) (by simp [dpt_q1,dpt_q2,dpt_q3,dpt_q4,dpt_q5]) (by lia) hf2 hf12
   induction b using Bool.casesOn <;> exact this
  rcases hk23 with rfl | rfl
  ·exact ⟨by decide,by decide,by decide,fin true _ rfl⟩
  ·exact ⟨by decide,by decide,by decide,fin false _ rfl⟩
 refine ifF ((ev_ltI (k:=k) rfl).cast (by simp; lia)) ?_
 by_cases k4:k=4
 ·subst k4
  refine ifT ((ev_int (k:=4) rfl).cast rfl) (retE (v:=encN .arb) (fun K k=>by walk_at "mw"; exact k) ?_)
  exact h .arb H1 (t+1) trivial (by simp [dpt_q1,dpt_q2,dpt_q3,dpt_q4,dpt_q5]) (by lia) hf1 hfr1
 refine ifF ((ev_int (k:=k) rfl).cast (by simp; lia)) ?_
 have hp:0<dp:=by
  rcases hmany with ⟨rfl,rfl⟩ | ⟨hp,_⟩
  ·lia
  ·exact hp
 have call27:∀ (H1:MH) (t1:Nat) (K:PV→MH→Prop),FeedAt H1 fd ce ns t1→t1+4 ^ dp≤1000→(∀ n H' t',okM n→dpt n≤dp - 1→t'≤t1+4 ^ dp→FeedAt H' fd ce ns t'→Frm [fd] H1 H'→K (encN n) H') →
   wpX C (.call (.lit (.fn 27)) (.cons (.var 0) (.cons (.bin .Sub (.var 1) (.lit (.int 1))) .nil))) [.ref fd,.int dp,.int k,.undef,.undef] H1 K:=fun H1 t1 K hf1 ht1 hK=>by
  refine x_fn (k:=27) (by decide) ?_
  refine xs_cons ?_
  refine x_var rfl ?_
  refine ev_sub1 (k:=dp) rfl _ ?_
  exact hR hp H1 t1 hf1 ht1 _ hK
 have two:∀ (kd:List Nat) (g:Nd→Nd→Nd),(∀ a b,encN (g a b)=.tup [.str kd,encN a,encN b])→(∀ a b,okM a→okM b→okM (g a b))→(∀ a b,dpt (g a b)=max (dpt a) (dpt b)+1) →
   wpX C (.tup (.cons (.lit (.str kd)) (.cons (.call (.lit (.fn 27)) (.cons (.var 0) (.cons (.bin .Sub (.var 1) (.lit (.int 1))) .nil))) (.cons (.call (.lit (.fn 27)) (.cons (.var 0) (.cons (.bin .Sub (.var 1) (.lit (.int 1))) .nil))) .nil)))) [.ref fd,.int dp,.int k,.undef,.undef] H1 fun p H=>retQ Q (.ret p) [.ref fd,.int dp,.int k,.undef,.undef] H:=fun kd g e1 e2 e3=>by
  refine x_tup ?_
  refine xs_cons ?_
  refine x_lit ?_
  refine call27 H1 (t+1) _ hf1 (by lia) fun a H2 t2 ha hda ht2 hf2 hfr2=>?_
  refine call27 H2 t2 _ hf2 (by lia) fun b H3 t3 hb hdb ht3 hf3 hfr3=>?_
  refine ⟨of_decide_eq_true rfl,?_⟩
  have:=h (g a b) H3 t3 (e2 a b ha hb) (by rw [e3]; lia) (by lia) hf3 ((hfr1.trans hfr2).trans hfr3)
  rw [e1] at this
  exact this
 by_cases k5:k=5
 ·subst k5
  refine ifT ((ev_int (k:=5) rfl).cast rfl) (retW ?_)
  exact two [99,97,116] .cat (fun _ _=>rfl) (fun _ _ a b=>⟨a,b⟩) (fun _ _=>rfl)
 refine ifF ((ev_int (k:=k) rfl).cast (by simp; lia)) ?_
 by_cases k6:k=6
 ·subst k6
  refine ifT ((ev_int (k:=6) rfl).cast rfl) (retW ?_)
  refine x_tup ?_
  refine xs_cons ?_
  refine x_lit ?_
  refine call27 H1 (t+1) _ hf1 (by lia) fun a H2 t2 ha hda ht2 hf2 hfr2=>?_
  exact ⟨of_decide_eq_true rfl,h (.arbno a) H2 t2 ha (by simp only [dpt_q1,dpt_q2,dpt_q3,dpt_q4,dpt_q5]; lia) (by lia) hf2 (hfr1.trans hfr2)⟩
 refine ifF ((ev_int (k:=k) rfl).cast (by simp; lia)) (retW ?_)
 exact two [97,108,116] .alt (fun _ _=>rfl) (fun _ _ a b=>⟨a,b⟩) (fun _ _=>rfl)
theorem s27 (W:Fns c) (hn:ns.length≤1000):∀ (dp d:Nat) (H:MH) (t:Nat) (Q:PV→MH→Prop),FeedAt H fd ce ns t→t+4 ^ (dp+1)≤1000 →
  (∀ n H' t',okM n→dpt n≤dp→t'≤t+4 ^ (dp+1)→FeedAt H' fd ce ns t'→Frm [fd] H H'→Q (encN n) H')→CS c prog (d+2+dp) (.fn 27) [.ref fd,.int dp] H Q:=by
 have nx:∀ (d m t:Nat) (H:MH),1≤m→m≤10→FeedAt H fd ce ns t→t≤1000→∀ K:PV→MH→Prop,(∀ (k:Nat) H',k<m→FeedAt H' fd ce ns (t+1)→Frm [fd] H H'→K (.int k) H')→CS c prog (d+1) (.fn 26) [.ref fd,.int m] H K :=
  fun d m t H h1 _ hf ht K hK=>s26 W hf h1 ht hn fun k hk=>hK k _ hk hf.next (Frm.upd (.inl (by simp)))
 intro dp
 induction dp with
 | zero =>
  intro d H t Q hf ht h
  refine callB W.X W.f27 (by decide) rfl (d:=d+1) ?_
  exact w27 (dp:=0) (many:=5) hf ht (.inl ⟨rfl,rfl⟩) (nx d) (fun h=>absurd h (by decide)) h
 | succ dp ih =>
  intro d H t Q hf ht h
  refine callB W.X W.f27 (by decide) rfl (d:=d+2+dp) ?_
  refine w27 (dp:=dp+1) (many:=8) hf ht (.inr ⟨by lia,rfl⟩) (fun m t H h1 h2 hf ht K hK=>(nx d m t H h1 h2 hf ht K hK).mono (by lia)) (fun _ H t hf ht K hK=>?_) h
  have e:(((dp+1:Nat):Int) - 1)=(dp:Int):=by lia
  rw [e]
  exact ih d H t K hf ht hK
end
noncomputable def rowC:Nd→List Nd
 | .cat a b=>rowC a++rowC b
 | n=>[n]
theorem rowC_q1:∀ (a b:Nd),rowC (Nd.cat a b)=rowC a++rowC b:=by intros; rfl
theorem rowC_q2:∀ (x:Nd),(∀ (a b:Nd),x=Nd.cat a b→False)→rowC x=[x]:=by intro x h1; induction x using Nd.casesOn <;> first | rfl | exact (h1 _ _ rfl).elim
noncomputable def rowA:Nd→List Nd
 | .alt a b=>rowA a++rowA b
 | n=>[n]
theorem rowA_q1:∀ (a b:Nd),rowA (Nd.alt a b)=rowA a++rowA b:=by intros; rfl
theorem rowA_q2:∀ (x:Nd),(∀ (a b:Nd),x=Nd.alt a b→False)→rowA x=[x]:=by intro x h1; induction x using Nd.casesOn <;> first | rfl | exact (h1 _ _ rfl).elim
noncomputable def szN:Nd→Nat
 | .cat a b=>szN a+szN b+1
 | .alt a b=>szN a+szN b+1
 | .arbno a=>szN a+1
 | _=>1
theorem szN_q1:∀ (a b:Nd),szN (Nd.cat a b)=szN a+szN b+1:=by intros; rfl
theorem szN_q2:∀ (a b:Nd),szN (Nd.alt a b)=szN a+szN b+1:=by intros; rfl
theorem szN_q3:∀ (a:Nd),szN (Nd.arbno a)=szN a+1:=by intros; rfl
theorem szN_q4:∀ (x:Nd),(∀ (a b:Nd),x=Nd.cat a b→False)→(∀ (a b:Nd),x=Nd.alt a b→False)→(∀ (a:Nd),x=Nd.arbno a→False)→szN x=1:=by intro x h1 h2 h3; induction x using Nd.casesOn <;> first | rfl | exact (h1 _ _ rfl).elim | exact (h2 _ _ rfl).elim | exact (h3 _ rfl).elim
noncomputable def rowK (k:Bool) (n:Nd):List Nd:=if k then rowC n else rowA n
noncomputable def kdK (k:Bool):List Nat:=if k then [99,97,116] else [97,108,116]
theorem rowK_in {k:Bool} {a b:Nd} {n:Nd} (h:n=if k then .cat a b else .alt a b):rowK k n=rowK k a++rowK k b:=by
 induction k using Bool.casesOn <;> (simp only [Bool.false_eq_true,if_false,if_true] at h; subst h; rfl)
theorem rowK_out {k:Bool} {n:Nd} (h:kindN n≠kdK k):rowK k n=[n]:=by
 induction k using Bool.casesOn <;> induction n using Nd.casesOn <;> first | rfl | exact absurd rfl h
theorem kdK_in {k:Bool} {n:Nd} (h:kindN n=kdK k):∃ a b,n=(if k then .cat a b else .alt a b):=by
 induction n using Nd.casesOn with
 | lf l=>obtain ⟨_,_,k3,k4,_⟩:=kindL_ne l; induction k using Bool.casesOn <;> (first | exact absurd h k3 | exact absurd h k4)
 | arb=>induction k using Bool.casesOn <;> (simp only [kindN,kdK] at h; exact absurd h (by decide))
 | arbno a=>induction k using Bool.casesOn <;> (simp only [kindN,kdK] at h; exact absurd h (by decide))
 | cat a b=>induction k using Bool.casesOn with
  | true=>exact ⟨a,b,rfl⟩
  | false=>simp only [kindN,kdK] at h; exact absurd h (by decide)
 | alt a b=>induction k using Bool.casesOn with
  | false=>exact ⟨a,b,rfl⟩
  | true=>simp only [kindN,kdK] at h; exact absurd h (by decide)
section
variable {c:Cx} {prog:Program} {d:Nat} {H:MH} {Q:PV→MH→Prop}
theorem ne_of {H:MH} {a b:Addr} {o:MO} (ha:H a=none) (hb:H b=some o):a≠b:=by rintro rfl; rw [ha] at hb; cases hb
theorem frm_none {F:List Addr} {H H':MH} {a:Addr} (f:Frm F H H') (h:H' a=none) (n:a∉F):H a=none:=by
 induction q:H a using Option.casesOn with
 | none=>rfl
 | some z =>
  have:=f a (by rw [q]; exact fun e=>by cases e) n
  rw [h,q] at this; cases this
theorem szN_pos (n:Nd):1≤szN n:=by induction n using Nd.casesOn <;> first | exact Nat.le_refl _ | exact Nat.le_add_left _ _
theorem sum_szN (L:List Nd):L.length≤(L.map szN).sum:=by
 induction L with
 | nil=>exact Nat.le_refl _
 | cons x L ih=>rw [List.length_cons,List.map_cons,List.sum_cons,Nat.add_comm]; exact Nat.add_le_add (szN_pos x) ih
theorem szN_kd {k:Bool} {a b:Nd}:szN (if k then Nd.cat a b else Nd.alt a b)=szN a+szN b+1:=by rcases k with _ | _ <;> rfl
theorem enc_kd {k:Bool} {a b:Nd}:encN (if k then Nd.cat a b else Nd.alt a b)=.tup [.str (kdK k),encN a,encN b]:=by rcases k with _ | _ <;> rfl
structure G0 (k:Bool) (n:Nd) (H:MH) (fl wl:Addr) (m:Nat) (H1:MH) (Fs Ws:List Nd):Prop where
 f:H1 fl=some (.list (Fs.map encN))
 w:H1 wl=some (.list ((Ws.map encN).reverse))
 q:Fs++Ws.flatMap (rowK k)=rowK k n
 s:(Ws.map szN).sum=m
 l:Fs.length+m≤szN n
 r:Frm [] H H1
noncomputable def r0 (k:Bool) (n:Nd) (fl wl:Addr) (x4:PV):List PV:=[encN n,.str (kdK k),.ref fl,.ref wl,x4,.undef]
noncomputable def I0 (k:Bool) (n:Nd) (H:MH) (fl wl:Addr) (m:Nat) (r:List PV) (H1:MH):Prop:=∃ Fs Ws x4,G0 k n H fl wl m H1 Fs Ws∧r=r0 k n fl wl x4
theorem s0 (W:Fns c) (k:Bool) {n:Nd} (hsz:szN n≤10000) (h:∀ l H',Frm [] H H'→H l=none→H' l=some (.list ((rowK k n).map encN))→Q (.ref l) H'):CS c prog (d+1) (.fn 0) [encN n,.str (kdK k)] H Q:=by
 refine callB W.X W.f0 (by decide) rfl ?_
 have uN:=isU_N n
 show wpSs _ (.cons (.asgW [2,3] _) _) _ _ _
 refine w_asgW (x_tup (xs_cons (x_list (xs_nil ⟨by decide,?_⟩))))
 intro fl hfl
 refine xs_cons (x_list (xs_cons (x_var uN (xs_nil ⟨of_decide_eq_true rfl,?_⟩))))
 intro wl hwl
 refine xs_nil ⟨of_decide_eq_true rfl,rfl,by decide,?_⟩
 have nwf:wl≠fl:=by rintro rfl; rw [upd_self] at hwl; cases hwl
 have nfw:fl≠wl:=Ne.symm nwf
 have hwl0:H wl=none:=by rw [upd_other nwf] at hwl; exact hwl
 refine whlE (I0 k n H fl wl) ⟨szN n,[],[n],.undef,⟨by rw [upd_other nfw]; exact upd_self,upd_self,List.append_nil _,Nat.add_zero _,by rw [List.length_nil,Nat.zero_add]; exact Nat.le_refl _,frm_up (frm_up Frm.refl (.inr hfl)) (.inr hwl0)⟩,rfl⟩ ?_
 clear hwl
 intro m r H1 hI
 refine xe3 hI fun Fs Ws x4 hI'=>cj2 hI' fun G e=>?_
 clear hI hI'
 subst e
 have hWs:Ws.length≤10000:=by have:=sum_szN Ws; have:=G.s; have:=G.l; lia
 have hWb:Ws.length≤1000000:=Nat.le_trans hWs (by decide)
 have hw1:=G.w
 refine ⟨decide (0<Ws.length),fun K k=>by
  have hWb:((Ws.map encN).reverse).length≤big:=by rw [List.length_reverse,List.length_map]; exact hWb
  unfold r0
  walk_at "mw"
  rw [List.length_reverse,List.length_map]; exact k,?_,?_⟩
 ·intro hpos
  have hpos:=of_decide_eq_true hpos
  rcases Ws with _ | ⟨w,Ws'⟩
  ·exact (Nat.not_lt_zero _ hpos).elim
  rw [List.map_cons,List.reverse_cons] at hw1
  have hsum:=G.s
  rw [List.map_cons,List.sum_cons] at hsum
  have hfm:=G.l
  have heq:=G.q
  rw [List.flatMap_cons] at heq
  refine asgW' ?_
  refine viaK (fun K=>K (encN w) (upd H1 wl (.list ((Ws'.map encN).reverse)))) (fun K k=>?_) ?_
  ·have:((Ws'.map encN).reverse++[encN w]).length≤big:=by
    rw [List.length_append,List.length_reverse,List.length_map]; exact hWb
   unfold r0
   walk_at "mw"
   exact k
  show wpSs _ _ (r0 k n fl wl (encN w)) _ _
  have hf2:(upd H1 wl (.list ((Ws'.map encN).reverse))) fl=some (.list (Fs.map encN)):=by rw [upd_other nfw]; exact G.f
  have hw2:(upd H1 wl (.list ((Ws'.map encN).reverse))) wl=some (.list ((Ws'.map encN).reverse)):=upd_self
  have hfr2:Frm [] H (upd H1 wl (.list ((Ws'.map encN).reverse))):=frm_up G.r (.inr hwl0)
  clear G hw1 hpos
  (revert hf2 hw2 hfr2; refine genl (upd H1 wl (.list ((Ws'.map encN).reverse))) fun H2 hf2 hw2 hfr2=>?_)
  have hkind:∀ {C:Cl},Ev C (.cmp .Eq (.sub (.var 4) (.lit (.int 0))) (.var 1)) (r0 k n fl wl (encN w)) H2 (.bool (decide (kindN w=kdK k))):=fun {C} K kk=>x_cmp (ev_kindN rfl _ (x_var rfl kk))
  by_cases hk:kindN w=kdK k
  ·refine ifT (hkind.cast (congrArg PV.bool (decide_eq_true hk))) (exprW ?_)
   obtain ⟨a,b,e⟩:=kdK_in hk
   subst e
   rw [szN_kd] at hsum
   refine viaK (fun K=>∀ tl,H2 tl=none→K .none (upd (upd H2 tl (.list [encN b,encN a])) wl (.list ((Ws'.map encN).reverse++[encN b,encN a])))) (fun K kk=>?_) ?_
   ·refine x_meth (x_var rfl (x_listM hw2 (by decide) (xs_cons (x_list (xs_cons ?_)))))
    refine viaK (fun K=>K (encN b) H2) (fun K k=>?_) ?_
    ·rw [enc_kd]; unfold r0; walk_at "mw"; exact k
    refine xs_cons ?_
    refine viaK (fun K=>K (encN a) H2) (fun K k=>?_) ?_
    ·rw [enc_kd]; unfold r0; walk_at "mw"; exact k
    refine xs_nil ⟨of_decide_eq_true rfl,?_⟩
    intro tl htl
    have n1:tl≠wl:=ne_of htl hw2
    have e1:(upd H2 tl (.list [encN b,encN a])) wl=some (.list ((Ws'.map encN).reverse)):=by rw [upd_other (Ne.symm n1)]; exact hw2
    exact xs_nil (o_ext e1 upd_self (by rw [List.length_reverse,List.length_map]; show Ws'.length+2≤big; unfold big; rw [List.length_cons] at hWs; clear hpos; lia) (kk tl htl))
   intro tl htl
   have n2:tl≠fl:=ne_of htl hf2
   refine nilW ?_
   show ∃ m',m'<m∧_
   refine ⟨szN a+(szN b+(Ws'.map szN).sum),by lia,Fs,a::b::Ws',_,⟨by rw [upd_other nfw,upd_other (Ne.symm n2)]; exact hf2,by rw [upd_self]; simp,?_,rfl,by lia,frm_up (frm_up hfr2 (.inr (frm_none hfr2 htl (fun h=>nomatch h)))) (.inr hwl0)⟩,rfl⟩
   rw [← heq,List.flatMap_cons,List.flatMap_cons,rowK_in (a:=a) (b:=b) rfl,List.append_assoc]
  ·refine ifE (hkind.cast (congrArg PV.bool (decide_eq_false hk))) ?_
   have h1:=szN_pos w
   refine exprW (viaK (fun K=>K .none (upd H2 fl (.list ((Fs++[w]).map encN)))) (fun K k=>?_) ?_)
   ·have hl:(Fs.map encN).length<big:=by rw [List.length_map]; unfold big; lia
    rw [List.map_append] at k
    unfold r0
    walk_at "mw"
    exact k
   refine nilW ?_
   show ∃ m',m'<m∧_
   refine ⟨(Ws'.map szN).sum,by lia,Fs++[w],Ws',encN w,⟨upd_self,by rw [upd_other nwf]; exact hw2,by rw [← heq,rowK_out hk,List.append_assoc],rfl,by rw [List.length_append,List.length_singleton]; lia,frm_up hfr2 (.inr hfl)⟩,rfl⟩
 ·intro hz
  have hz:=of_decide_eq_false hz
  rcases Ws with _ | ⟨w,Ws'⟩
  ·have hf1:=G.f
   rw [show Fs=rowK k n from (List.append_nil _).symm.trans G.q] at hf1
   exact retE (ev_var rfl rfl) (h fl H1 G.r hfl hf1)
  ·exact (hz (Nat.succ_pos _)).elim
end
noncomputable def isPlain:Nd→Bool
 | .lf (.chars _)=>true
 | _=>false
noncomputable def txtN:Nd→Nat
 | .lf (.chars x)=>x.length
 | _=>0
noncomputable def joinStep (acc:List Nd) (n:Nd):List Nd:=match n with
 | .lf (.chars x)=>if x=[] then acc else (match acc.getLast? with
  | some (.lf (.chars y))=>acc.dropLast++[.lf (.chars (y++x))]
  | _=>acc++[.lf (.chars x)])
 | n=>acc++[n]
noncomputable def joinN (ps:List Nd):List Nd:=ps.foldl joinStep []
section
variable {c:Cx} {prog:Program} {d:Nat} {H:MH} {Q:PV→MH→Prop}
theorem s1 (W:Fns c) {n:Nd} (h:Q (.bool (isPlain n)) H):CS c prog (d+1) (.fn 1) [encN n] H Q:=by
 refine callB W.X W.f1 (by decide) rfl (retW ?_)
 refine x_and (x_cmp ?_)
 refine ev_kindN rfl _ ?_
 refine x_lit ?_
 show (match truth (.bool (decide (kindN n=[99,104,97,114,115]))) with | some true=>_ | some false=>_ | none=>False)
 by_cases hk:kindN n=[99,104,97,114,115]
 ·obtain ⟨x,rfl⟩:∃ x,n=.lf (.chars x):=by
   induction n using Nd.casesOn with
   | lf l=>induction l using Lf.casesOn with
    | chars x=>exact ⟨x,rfl⟩
    | any b x=>induction b using Bool.casesOn <;> (simp only [kindN,kindL_q1,kindL_q2,kindL_q3,kindL_q4,kindL_q5] at hk; exact absurd hk (by decide))
    | _=>simp only [kindN,kindL_q1,kindL_q2,kindL_q3,kindL_q4,kindL_q5] at hk; exact absurd hk (by decide)
   | _=>simp only [kindN] at hk; exact absurd hk (by decide)
  rw [decide_eq_true hk]
  show wpX _ (.call (.lit (.bi 4)) _) [.tup [.str [99,104,97,114,115],.str x],.undef,.undef] H _
  walk_at "mw"
  exact h
 ·rw [decide_eq_false hk]
  have:isPlain n=false:=by
   induction n using Nd.casesOn with
   | lf l=>induction l using Lf.casesOn with
    | chars x=>exact absurd rfl hk
    | _=>rfl
   | _=>rfl
  rw [this] at h
  exact h
set_option maxHeartbeats 1000000 in
theorem s2 (W:Fns c) {pa:Addr} {ps:List Nd} (hp:H pa=some (.list (ps.map encN))) (hl:ps.length≤1000) (hx:∀ n∈ps,txtN n≤10)
  (h:∀ l H',Frm [] H H'→H l=none→H' l=some (.list ((joinN ps).map encN))→Q (.ref l) H'):CS c prog (d+2) (.fn 2) [.ref pa] H Q:=by
 refine callB W.X W.f2 (by decide) rfl ?_
 refine asgW' ?_
 refine viaK (fun K=>∀ fl,H fl=none→K (.ref fl) (upd H fl (.list []))) (fun K k=>by walk_at "mw"; exact k) ?_
 intro fl hfl
 have npf:pa≠fl:=Ne.symm (ne_of hfl hp)
 show wpSs _ _ [.ref pa,.ref fl,.undef,.undef,.undef] _ _
 have hp1:(upd H fl (.list [])) pa=some (.list (ps.map encN)):=by rw [upd_other npf]; exact hp
 refine forE (v:=.ref pa) (xs:=ps.map encN) (src:=fun H'=>H' pa=some (.list (ps.map encN))) (ev_var rfl rfl) (fun K k=>by unfold iterOp; simp only [hp1,List.length_map]; exact ⟨big1 _ hl,k⟩) ?_
 have go:∀ (qs:List Nd) (acc:List Nd) (x2:PV) (H1:MH),H1 fl=some (.list (acc.map encN))→H1 pa=some (.list (ps.map encN))→Frm [] H H1→acc.length+qs.length≤1000→(∀ n∈qs,txtN n≤10)→(∀ n∈acc,txtN n+10*qs.length≤10000)→qs.foldl joinStep acc=joinN ps →
   forGo 2 (fun H'=>H' pa=some (.list (ps.map encN))) (fun r H Q=>wpSs (CS c prog (d+1)) (.cons (.ite (.call (.lit (.fn 1)) (.cons (.var 2) .nil)) (.cons (.ite (.cmp .Eq (.sub (.var 2) (.lit (.int (1)))) (.lit (.str []))) (.cons .cont .nil) .nil) (.cons (.ite (.and2 (.cmp .Gt (.call (.lit (.bi 0)) (.cons (.var 1) .nil)) (.lit (.int (0)))) (.call (.lit (.fn 1)) (.cons (.sub (.var 1) (.bin .Sub (.call (.lit (.bi 0)) (.cons (.var 1) .nil)) (.lit (.int (1))))) .nil))) (.cons (.asg 2 (.tup (.cons (.lit (.str [99,104,97,114,115])) (.cons (.bin .Add (.sub (.meth (.var 1) 32 .nil) (.lit (.int (1)))) (.sub (.var 2) (.lit (.int (1))))) .nil)))) .nil) .nil) .nil)) .nil) (.cons (.expr (.meth (.var 1) 31 (.cons (.var 2) .nil))) .nil)) r H Q)
    (qs.map encN) [.ref pa,.ref fl,x2,.undef,.undef] H1 (sq (CS c prog (d+1)) (.cons (.ret (.var 1)) .nil) (retQ Q)):=by
  intro qs
  induction qs with
  | nil =>
   intro acc x2 H1 hf1 hp1 hfr _ _ _ hj
   refine forNil hp1 ?_
   show wpSs _ (.cons (.ret (.var 1)) .nil) _ _ _
   have hj:acc=joinN ps:=hj
   rw [hj] at hf1
   exact retE (ev_var rfl rfl) (h fl H1 hfr hfl hf1)
  | cons q qs ih =>
   intro acc x2 H1 hf1 hp1 hfr hlen hq hacc hj
   simp only [List.length_cons] at hlen hacc
   refine forCons hp1 ?_
   show wpSs _ _ [.ref pa,.ref fl,encN q,.undef,.undef] H1 _
   have hq0:=hq q List.mem_cons_self
   have plain1:∀ (n:Nd) (r:List PV) (i:Nat) (H1:MH) (K:PV→MH→Prop),get r i=encN n→K (.bool (isPlain n)) H1→wpX (CS c prog (d+1)) (.call (.lit (.fn 1)) (.cons (.var i) .nil)) r H1 K:=fun n r i H1 K g k=>by
    refine x_fn (k:=1) (by decide) ?_
    refine xs_cons ?_
    rw [wpX_var,g]
    exact ⟨isU_N n,s1 W k⟩
   have push:∀ (n:Nd) (H2:MH) (acc2:List Nd),H2 fl=some (.list (acc2.map encN))→H2 pa=some (.list (ps.map encN))→Frm [] H H2→acc2.length+1+qs.length≤1000→(∀ m∈acc2++[n],txtN m+10*qs.length≤10000)→qs.foldl joinStep (acc2++[n])=joinN ps →
     wpSs (CS c prog (d+1)) (.cons (.expr (.meth (.var 1) 31 (.cons (.var 2) .nil))) .nil) [.ref pa,.ref fl,encN n,.undef,.undef] H2 (fq (CS c prog (d+1)) 2 (fun H'=>H' pa=some (.list (ps.map encN))) _ (qs.map encN) (sq (CS c prog (d+1)) (.cons (.ret (.var 1)) .nil) (retQ Q))):=fun n H2 acc2 h1 h2 h3 h4 h5 h6=>by
    refine exprW (viaK (fun K=>K .none (upd H2 fl (.list ((acc2++[n]).map encN)))) (fun K k=>?_) ?_)
    ·have hl:(acc2.map encN).length<big:=by rw [List.length_map]; unfold big; lia
     rw [List.map_append] at k
     walk_at "mw"
     exact k
    refine nilW ?_
    exact ih (acc2++[n]) (encN n) _ upd_self (by rw [upd_other npf]; exact h2) (frm_up h3 (.inr hfl)) (by simp; lia) (fun m hm=>hq m (List.mem_cons_of_mem _ hm)) h5 h6
   induction hpl:isPlain q using Bool.casesOn with
   | false =>
    refine ifF (fun K k=>plain1 q _ 2 H1 K rfl (by rw [hpl]; exact k)) ?_
    have hstep:joinStep acc q=acc++[q]:=by
     induction q using Nd.casesOn with
     | lf l=>induction l using Lf.casesOn with
      | chars x=>cases hpl
      | _=>rfl
     | _=>rfl
    refine push q H1 acc hf1 hp1 hfr (by lia) (fun m hm=>?_) ?_
    ·rcases List.mem_append.mp hm with hm | hm
     ·have:=hacc m hm; lia
     ·obtain rfl:=List.mem_singleton.mp hm; lia
    ·rw [List.foldl_cons,hstep] at hj; exact hj
   | true =>
    obtain ⟨x,rfl⟩:∃ x,q=.lf (.chars x):=by
     induction q using Nd.casesOn with
     | lf l=>induction l using Lf.casesOn with
      | chars x=>exact ⟨x,rfl⟩
      | _=>cases hpl
     | _=>cases hpl
    have hxl:x.length≤10:=hq0
    refine ifT (fun K k=>plain1 _ _ 2 H1 K rfl k) ?_
    by_cases hx0:x=[]
    ·subst hx0
     refine ifT (fun K k=>by show wpX _ _ [.ref pa,.ref fl,.tup [.str [99,104,97,114,115],.str []],.undef,.undef] H1 K; walk_at "mw"; exact k) (contW ?_)
     refine ih acc _ H1 hf1 hp1 hfr (by lia) (fun m hm=>hq m (List.mem_cons_of_mem _ hm)) (fun m hm=>by have:=hacc m hm; lia) ?_
     rw [List.foldl_cons] at hj; exact hj
    ·refine ifF (fun K k=>by show wpX _ _ [.ref pa,.ref fl,.tup [.str [99,104,97,114,115],.str x],.undef,.undef] H1 K; walk_at "mw"; exact k) ?_
     have lenEv:∀ {C:Cl} {r:List PV} (g:get r 1=.ref fl),Ev C (.call (.lit (.bi 0)) (.cons (.var 1) .nil)) r H1 (.int acc.length):=fun {C r} g K k=>by
      refine x_bi (k:=0) (by decide) ?_
      refine xs_cons ?_
      rw [wpX_var,g]
      refine ⟨rfl,?_⟩
      show biOp 0 [.ref fl] H1 K
      exact i_len hf1 (List.length_map _) ⟨big1 _ (by lia),k⟩
     have lastEv:∀ (a:List Nd) (z:Nd) (hz:acc=a++[z]) (r:List PV) (g:get r 1=.ref fl) (K:PV→MH→Prop),K (encN z) H1→wpX (CS c prog (d+1)) (.sub (.var 1) (.bin .Sub (.call (.lit (.bi 0)) (.cons (.var 1) .nil)) (.lit (.int 1)))) r H1 K:=fun a z hz r g K k=>by
      rw [wx_sub,wpX_var,g]
      refine ⟨rfl,?_⟩
      refine x_bin ?_
      refine lenEv g _ ?_
      refine x_lit ?_
      show subOp (.ref fl) (.int ((acc.length:Int) - 1)) H1 K
      have hal:acc.length=a.length+1:=by rw [hz]; simp
      refine i_sub hf1 (List.length_map _) ⟨by lia,by lia,big1 _ (by lia),?_⟩
      have e:((acc.length:Int) - 1).toNat=a.length:=by lia
      rw [e,hz]
      simpa [List.getD_eq_getElem?_getD] using k
     have test:∀ K:PV→MH→Prop,K (.bool (match acc.getLast? with | some (.lf (.chars _))=>true | _=>false)) H1→wpX (CS c prog (d+1)) (.and2 (.cmp .Gt (.call (.lit (.bi 0)) (.cons (.var 1) .nil)) (.lit (.int (0)))) (.call (.lit (.fn 1)) (.cons (.sub (.var 1) (.bin .Sub (.call (.lit (.bi 0)) (.cons (.var 1) .nil)) (.lit (.int (1))))) .nil))) [.ref pa,.ref fl,encN (.lf (.chars x)),.undef,.undef] H1 K:=fun K k=>by
      refine x_and (x_cmp ?_)
      refine lenEv rfl _ ?_
      refine x_lit ?_
      show (match truth (.bool (decide ((0:Int)<acc.length))) with | some true=>_ | some false=>_ | none=>False)
      rcases List.eq_nil_or_concat acc with hn | ⟨a,z,hz⟩
      ·subst hn
       exact k
      ·rw [List.concat_eq_append] at hz
       have hpos:(0:Int)<acc.length:=by rw [hz]; simp only [List.length_append,List.length_singleton]; lia
       rw [decide_eq_true hpos]
       show wpX _ (.call _ _) _ _ _
       refine x_fn (k:=1) (by decide) ?_
       refine xs_cons ?_
       refine lastEv a z hz _ rfl _ (s1 W ?_)
       rw [hz] at k
       simp only [List.getLast?_concat] at k
       induction z using Nd.casesOn with
       | lf l=>induction l using Lf.casesOn <;> exact k
       | _=>exact k
     rcases List.eq_nil_or_concat acc with hn | ⟨a,z,hz⟩
     ·subst hn
      refine ifF (fun K k=>test K k) (nilW ?_)
      refine push (.lf (.chars x)) H1 [] hf1 hp1 hfr (by simp; lia) (fun m hm=>by
       obtain rfl:=List.mem_singleton.mp hm
       show x.length+_≤_; lia) ?_
      rw [List.foldl_cons] at hj
      simpa [joinStep,hx0] using hj
     ·rw [List.concat_eq_append] at hz
      have hlast:acc.getLast?=some z:=by rw [hz,List.getLast?_concat]
      induction hzp:isPlain z using Bool.casesOn with
      | false =>
       have ht:(match acc.getLast? with | some (.lf (.chars _))=>true | _=>false)=false:=by
        rw [hlast]
        induction z using Nd.casesOn with
        | lf l=>induction l using Lf.casesOn with
         | chars y=>cases hzp
         | _=>rfl
        | _=>rfl
       refine ifF (fun K k=>test K (by rw [ht]; exact k)) (nilW ?_)
       refine push (.lf (.chars x)) H1 acc hf1 hp1 hfr (by lia) (fun m hm=>?_) ?_
       ·rcases List.mem_append.mp hm with hm | hm
        ·have:=hacc m hm; lia
        ·obtain rfl:=List.mem_singleton.mp hm
         show x.length+_≤_; lia
       ·rw [List.foldl_cons] at hj
        have:joinStep acc (.lf (.chars x))=acc++[.lf (.chars x)]:=by
         unfold joinStep
         simp only [hx0,if_false,hlast]
         induction z using Nd.casesOn with
         | lf l=>induction l using Lf.casesOn with
          | chars y=>cases hzp
          | _=>rfl
         | _=>rfl
        rw [this] at hj; exact hj
      | true =>
       obtain ⟨y,rfl⟩:∃ y,z=.lf (.chars y):=by
        induction z using Nd.casesOn with
        | lf l=>induction l using Lf.casesOn with
         | chars x=>exact ⟨x,rfl⟩
         | _=>cases hzp
        | _=>cases hzp
       have hyl:y.length+10*(qs.length+1)≤10000:=hacc (.lf (.chars y)) (by rw [hz]; simp)
       refine ifT (fun K k=>test K (by rw [hlast]; exact k)) ?_
       refine asgW' (viaK (fun K=>K (encN (.lf (.chars (y++x)))) (upd H1 fl (.list (a.map encN)))) (fun K k=>?_) (nilW (nilW ?_)))
       ·have h1:H1 fl=some (.list (a.map encN++[encN (.lf (.chars y))])):=by rw [hf1,hz]; simp
        have h2:(a.map encN++[encN (.lf (.chars y))]).length≤big:=by
         have:=congrArg List.length hz
         simp at this
         rw [List.length_append,List.length_map]
         unfold big
         simp; lia
        have h3:y.length+x.length≤big:=by unfold big; lia
        show wpX _ _ [.ref pa,.ref fl,.tup [.str [99,104,97,114,115],.str x],.undef,.undef] H1 K
        walk_at "mw"
        show subOp (.tup [.str [99,104,97,114,115],.str y]) _ _ _
        walk_at "mw"
        exact k
       refine push (.lf (.chars (y++x))) _ a upd_self (by rw [upd_other npf]; exact hp1) (frm_up hfr (.inr hfl)) ?_ (fun m hm=>?_) ?_
       ·have:=congrArg List.length hz
        simp at this
        lia
       ·rcases List.mem_append.mp hm with hm | hm
        ·have:=hacc m (by rw [hz]; simp [hm]); lia
        ·obtain rfl:=List.mem_singleton.mp hm
         show (y++x).length+_≤_
         rw [List.length_append]; lia
       ·rw [List.foldl_cons] at hj
        have:joinStep acc (.lf (.chars x))=a++[.lf (.chars (y++x))]:=by
         unfold joinStep
         rw [hz]
         simp only [hx0,if_false,List.getLast?_concat,List.dropLast_concat]
        rw [this] at hj; exact hj
 exact go ps [] .undef _ upd_self hp1 (frm_up Frm.refl (.inr hfl)) (by simpa using hl) hx (fun n hn=>by cases hn) rfl
end
inductive Ord where
 | one (l:Lf)
 | ways
 | split (g:Nat)
 | jump (g:Nat)
 | mark
 | gain
 | done
 | hole
noncomputable def encO:Ord→PV
 | .one l=>.tup [.str [111,110,101],.str (kindL l),toldL l]
 | .ways=>.tup [.str [119,97,121,115],.str [97,114,98]]
 | .split g=>.tup [.str [115,112,108,105,116],.int g]
 | .jump g=>.tup [.str [106,117,109,112],.int g]
 | .mark=>.tup [.str [109,97,114,107]]
 | .gain=>.tup [.str [103,97,105,110]]
 | .done=>.tup [.str [100,111,110,101]]
 | .hole=>.none
theorem isU_O (o:Ord):isU (encO o)=false:=by cases o <;> rfl
structure CodeAt (H:MH) (sf dc ol:Addr) (os:List Ord):Prop where
 i:H sf=some (.inst 40 dc)
 d:H dc=some (.ns [(0,.ref ol)])
 o:H ol=some (.list (os.map encO))
structure EndsAt (H:MH) (e j:Addr) (sp:Int) (js:List Nat):Prop where
 e:H e=some (.list [.int sp,.ref j])
 j:H j=some (.list (js.map fun n=>PV.int (n:Nat)))
theorem CodeAt.put {H:MH} {sf dc ol:Addr} {os os':List Ord} (h:CodeAt H sf dc ol os):CodeAt (upd H ol (.list (os'.map encO))) sf dc ol os' :=
 ⟨by rw [upd_other (fun e=>by have:=h.i; rw [e,h.o] at this; cases this)]; exact h.i,by rw [upd_other (fun e=>by have:=h.d; rw [e,h.o] at this; cases this)]; exact h.d,upd_self⟩
theorem CodeAt.other {H:MH} {sf dc ol a:Addr} {os:List Ord} {o:MO} (h:CodeAt H sf dc ol os) (h1:a≠sf) (h2:a≠dc) (h3:a≠ol):CodeAt (upd H a o) sf dc ol os :=
 ⟨by rw [upd_other (Ne.symm h1)]; exact h.i,by rw [upd_other (Ne.symm h2)]; exact h.d,by rw [upd_other (Ne.symm h3)]; exact h.o⟩
theorem CodeAt.fresh {H:MH} {sf dc ol a:Addr} {os:List Ord} {o:MO} (h:CodeAt H sf dc ol os) (ha:H a=none):CodeAt (upd H a o) sf dc ol os:=h.other (ne_of ha h.i) (ne_of ha h.d) (ne_of ha h.o)
theorem CodeAt.list {H:MH} {sf dc ol a:Addr} {os:List Ord} {o:MO} {xs:List PV} (h:CodeAt H sf dc ol os) (ha:H a=some (.list xs)) (h3:a≠ol):CodeAt (upd H a o) sf dc ol os :=
 h.other (fun e=>by have:=h.i; rw [← e,ha] at this; cases this) (fun e=>by have:=h.d; rw [← e,ha] at this; cases this) h3
theorem big1' (n:Nat) (h:n≤100000):n≤big:=by unfold big; lia
theorem sqN {C:Cl} {ss:Ss} {r:List PV} {H:MH} {Q:QS} (k:wpSs C ss r H Q):sq C ss Q .next r H:=k
section
variable {c:Cx} {prog:Program} {d:Nat} {H:MH} {Q:PV→MH→Prop} {sf dc ol:Addr} {os:List Ord}
theorem s51 (W:Fns c) {o:Ord} (h0:CodeAt H sf dc ol os) (hl:os.length<100000) (h:Q (.int os.length) (upd H ol (.list ((os++[o]).map encO)))):CS c prog (d+1) (.fn 51) [.ref sf,encO o] H Q:=by
 refine callB W.X W.f51 (by decide) rfl ?_
 have hat:∀ {C:Cl} {H:MH} {os:List Ord} (h0:CodeAt H sf dc ol os),Ev C (.attr (.var 0) 0) [.ref sf,encO o,.undef] H (.ref ol):=fun {C H os} h0 K k=>by
  refine x_attr (x_var rfl ?_)
  show attrOp (.ref sf) 0 H K
  exact o_attr h0.i h0.d rfl k
 show wpSs _ _ [.ref sf,encO o,.undef] _ _
 refine exprW (viaK (fun K=>K .none (upd H ol (.list ((os++[o]).map encO)))) (fun K k=>?_) ?_)
 ·rw [wx_meth]
  refine hat h0 _ ?_
  have hb:∀ C,bindOp C (.ref ol) 31 H=some (listMeth ol 31):=fun C=>bind_list h0.o (by decide)
  rw [hb]
  refine xs_cons ?_
  refine x_var (isU_O o) ?_
  show listMeth ol 31 [encO o] H K
  exact i_listM h0.o ⟨by rw [List.length_map]; unfold big; lia,by simpa using k⟩
 have h1:=h0.put (os':=os++[o])
 (revert h1 h; refine genl (upd H ol (.list ((os++[o]).map encO))) fun H1 h h1=>?_)
 refine retE (v:=.int os.length) (fun K k=>?_) h
 rw [wx_bin,wx_call,wx_lit]
 refine ⟨show (0:Nat)<8 by decide,?_⟩
 simp only [wpXs_q1,wpXs_q2]
 refine hat h1 _ ?_
 show biOp 0 [.ref ol] H1 _
 refine i_len (n:=os.length+1) h1.o (by rw [List.length_map,List.length_append]; rfl) ⟨big1' _ (by lia),?_⟩
 refine x_lit ?_
 show K (.int (((os.length+1:Nat):Int) - 1)) H1
 have e:((os.length+1:Nat):Int) - 1=os.length:=by lia
 rw [e]; exact k
theorem emitX (W:Fns c) {x:X} {r:List PV} {o:Ord} {K:PV→MH→Prop} (g:get r 0=.ref sf) (h0:CodeAt H sf dc ol os) (hl:os.length<100000) (hx:∀ C,Ev C x r H (encO o)) (k:K (.int os.length) (upd H ol (.list ((os++[o]).map encO)))):wpX (CS c prog (d+1)) (.meth (.var 0) 15 (.cons x .nil)) r H K:=by
 rw [wx_meth,wpX_var,g]
 refine ⟨rfl,?_⟩
 have hb:∀ C,bindOp C (.ref sf) 15 H=some fun args H Q=>C (.fn 51) (.ref sf::args) H Q:=fun C=>bind_inst h0.i h0.d rfl rfl
 rw [hb]
 refine xs_cons ?_
 exact hx _ _ (s51 W h0 hl k)
theorem ordX {C:Cl} {r:List PV} (g:get r 0=.ref sf) (h0:CodeAt H sf dc ol os):Ev C (.attr (.var 0) 0) r H (.ref ol):=fun K k=>by
 rw [wx_attr,wpX_var,g]
 refine ⟨rfl,?_⟩
 show attrOp (.ref sf) 0 H K
 exact o_attr h0.i h0.d rfl k
theorem lenX {C:Cl} {r:List PV} (g:get r 0=.ref sf) (h0:CodeAt H sf dc ol os) (hl:os.length≤100000):Ev C (.call (.lit (.bi 0)) (.cons (.attr (.var 0) 0) .nil)) r H (.int os.length):=fun K k=>by
 refine x_bi (k:=0) (by decide) ?_
 refine xs_cons ?_
 refine ordX g h0 _ ?_
 show biOp 0 [.ref ol] H _
 exact i_len h0.o (List.length_map _) ⟨big1' _ hl,k⟩
theorem setOrd {C:Cl} {r:List PV} {ss:Ss} {Q:QS} {ix:X} {i:Nat} {wd:List Nat} {o:Ord} (g:get r 0=.ref sf) (h0:CodeAt H sf dc ol os) (hl:os.length≤100000) (hi:i<os.length) (ei:Ev C ix r H (.int i)) (ho:encO o=.tup [.str wd,.int os.length])
  (k:wpSs C ss r (upd H ol (.list ((os.set i o).map encO))) Q):wpSs C (.cons (.asgS (.attr (.var 0) 0) ix (.tup (.cons (.lit (.str wd)) (.cons (.call (.lit (.bi 0)) (.cons (.attr (.var 0) 0) .nil)) .nil)))) ss) r H Q:=by
 refine w_asgS ?_
 refine x_tup ?_
 refine xs_cons ?_
 refine x_lit ?_
 refine lenX g h0 hl _ ?_
 refine ⟨of_decide_eq_true rfl,?_⟩
 refine ordX g h0 _ (ei _ ?_)
 refine i_setS h0.o (List.length_map _) ⟨by lia,by lia,big1' _ hl,?_⟩
 rw [Int.toNat_natCast,← ho,← List.map_set]
 exact k
theorem s56o (W:Fns c) {e j:Addr} {sp:Int} {js:List Nat} (h0:CodeAt H sf dc ol os) (he:EndsAt H e j sp js) (hne:e≠ol) (hl:os.length<100000)
  (h:∀ H',CodeAt H' sf dc ol (os++[Ord.hole])→EndsAt H' e j os.length js→Frm [ol,e] H H'→Q .none H') (hj:j≠ol):CS c prog (d+2) (.fn 56) [.ref sf,.str [111,112,101,110],.ref e] H Q:=by
 refine callB W.X W.f56 (by decide) rfl ?_
 show wpSs _ _ [.ref sf,.str [111,112,101,110],.ref e,.undef,.undef,.undef,.undef,.undef,.undef] _ _
 refine ifT (ev_eqT (y:=[111,112,101,110]) rfl rfl) ?_
 refine w_asgS ?_
 refine emitX W rfl h0 hl (o:=.hole) (fun C=>ev_lit) ?_
 refine x_var rfl ?_
 refine x_lit ?_
 show setS (.ref e) (.int 0) _ _ _
 have e1:(upd H ol (.list ((os++[Ord.hole]).map encO))) e=some (.list [.int sp,.ref j]):=by rw [upd_other hne]; exact he.e
 refine i_setS e1 rfl ⟨by decide,of_decide_eq_true rfl,of_decide_eq_true rfl,?_⟩
 have nje:j≠e:=by
  rintro rfl
  have h1:=he.e
  rw [he.j] at h1
  have h2:=Option.some.inj h1
  injection h2 with h3
  induction js using List.casesOn with
  | nil=>simp at h3
  | cons a js=>simp at h3
 refine nilW ?_
 exact nilW (h _ ((h0.put (os':=os++[.hole])).list e1 hne) ⟨upd_self,by rw [upd_other nje,upd_other hj]; exact he.j⟩ (frm_up (Frm.upd (.inl (by simp))) (.inl (by simp))))
theorem EndsAt.ne {H:MH} {e j:Addr} {sp:Int} {js:List Nat} (he:EndsAt H e j sp js):j≠e:=by
 rintro rfl
 have h1:=he.e
 rw [he.j] at h1
 have h2:=Option.some.inj h1
 injection h2 with h3
 induction js using List.casesOn with
 | nil=>simp at h3
 | cons a js=>simp at h3
theorem map_nat (js:List Nat) (n:Nat):(js.map fun n=>PV.int (n:Nat))++[.int n]=(js++[n]).map fun n=>PV.int (n:Nat):=by simp
theorem s56s (W:Fns c) {e j:Addr} {sp:Nat} {js:List Nat} (h0:CodeAt H sf dc ol os) (he:EndsAt H e j sp js) (hne:e≠ol) (hj:j≠ol) (hl:os.length<99999) (hsp:sp<os.length+1) (hjl:js.length≤99999)
  (h:∀ H',CodeAt H' sf dc ol ((os++[Ord.hole]).set sp (.split (os.length+1)))→EndsAt H' e j sp (js++[os.length])→Frm [ol,j] H H'→Q .none H'):CS c prog (d+2) (.fn 56) [.ref sf,.str [115,104,117,116],.ref e] H Q:=by
 refine callB W.X W.f56 (by decide) rfl ?_
 show wpSs _ _ [.ref sf,.str [115,104,117,116],.ref e,.undef,.undef,.undef,.undef,.undef,.undef] _ _
 have evE:∀ {C:Cl} {H1:MH} {sp:Int} {js:List Nat} (he:EndsAt H1 e j sp js) (i:Nat) (v:PV) (hi:i<2) (hv:[PV.int sp,.ref j].getD i .undef=v),Ev C (.sub (.var 2) (.lit (.int i))) [.ref sf,.str [115,104,117,116],.ref e,.undef,.undef,.undef,.undef,.undef,.undef] H1 v:=fun {C H1 sp js} he i v hi hv K k=>by
  refine x_sub (x_var rfl ?_)
  refine x_lit ?_
  show subOp (.ref e) (.int i) H1 K
  refine i_sub he.e rfl ⟨by lia,by simp; lia,by simp [big],?_⟩
  rw [Int.toNat_natCast,hv]
  exact k
 refine ifE (ev_eqF (y:=[115,104,117,116]) rfl (by decide)) (ifT (ev_eqT (y:=[115,104,117,116]) rfl rfl) (exprW ?_))
 rw [wx_meth]
 refine evE he 1 (.ref j) (by decide) rfl _ ?_
 have hb:∀ C,bindOp C (.ref j) 31 H=some (listMeth j 31):=fun C=>bind_list he.j (by decide)
 rw [hb]
 refine xs_cons ?_
 refine emitX W rfl h0 (by lia) (o:=.hole) (fun C=>ev_lit) ?_
 have h1:=h0.put (os':=os++[Ord.hole])
 have he1:EndsAt (upd H ol (.list ((os++[Ord.hole]).map encO))) e j sp js:=⟨by rw [upd_other hne]; exact he.e,by rw [upd_other hj]; exact he.j⟩
 have f1:Frm [ol,j] H (upd H ol (.list ((os++[Ord.hole]).map encO))):=Frm.upd (.inl (by simp))
 (revert h1 he1 f1; refine genl (upd H ol (.list ((os++[Ord.hole]).map encO))) fun H1 h1 he1 f1=>?_)
 show listMeth j 31 [.int os.length] H1 _
 refine i_listM he1.j ⟨by rw [List.length_map]; unfold big; lia,?_⟩
 rw [map_nat]
 have h2:CodeAt (upd H1 j (.list ((js++[os.length]).map fun n=>PV.int (n:Nat)))) sf dc ol (os++[Ord.hole]):=h1.list he1.j hj
 have he2:EndsAt (upd H1 j (.list ((js++[os.length]).map fun n=>PV.int (n:Nat)))) e j sp (js++[os.length]):=⟨by rw [upd_other (Ne.symm he1.ne)]; exact he1.e,upd_self⟩
 have f2:Frm [ol,j] H (upd H1 j (.list ((js++[os.length]).map fun n=>PV.int (n:Nat)))):=frm_up f1 (.inl (by simp))
 (revert h2 he2 f2; refine genl (upd H1 j (.list ((js++[os.length]).map fun n=>PV.int (n:Nat)))) fun H2 h2 he2 f2=>?_)
 have hlen:(os++[Ord.hole]).length=os.length+1:=by simp
 refine setOrd (i:=sp) (o:=.split (os.length+1)) rfl h2 (by lia) (by lia) (evE he2 0 (.int sp) (by decide) rfl) (by rw [hlen]; rfl) (nilW (nilW ?_))
 exact h _ h2.put ⟨by rw [upd_other hne]; exact he2.e,by rw [upd_other hj]; exact he2.j⟩ (frm_up f2 (.inl (by simp)))
theorem s56m (W:Fns c) {e j:Addr} {sp:Int} {js:List Nat} (h0:CodeAt H sf dc ol os) (he:EndsAt H e j sp js) (hne:e≠ol) (hj:j≠ol) (hl:os.length≤99999) (hjl:js.length≤99999) (hjs:∀ a∈js,a<os.length)
  (h:∀ H',CodeAt H' sf dc ol (js.foldl (fun z a=>z.set a (.jump os.length)) os)→Frm [ol] H H'→Q .none H'):CS c prog (d+2) (.fn 56) [.ref sf,.str [109,101,101,116],.ref e] H Q:=by
 refine callB W.X W.f56 (by decide) rfl ?_
 show wpSs _ _ [.ref sf,.str [109,101,101,116],.ref e,.undef,.undef,.undef,.undef,.undef,.undef] _ _
 refine ifE (ev_eqF (y:=[109,101,101,116]) rfl (by decide)) (ifE (ev_eqF (y:=[109,101,101,116]) rfl (by decide)) ?_)
 have evJ:∀ {C:Cl},Ev C (.sub (.var 2) (.lit (.int 1))) [.ref sf,.str [109,101,101,116],.ref e,.undef,.undef,.undef,.undef,.undef,.undef] H (.ref j):=fun {C} K k=>by
  refine x_sub (x_var rfl ?_)
  refine x_lit ?_
  show subOp (.ref e) (.int 1) H K
  exact i_sub he.e rfl ⟨by decide,of_decide_eq_true rfl,of_decide_eq_true rfl,k⟩
 refine forE (v:=.ref j) (xs:=js.map fun n=>PV.int (n:Nat)) (src:=fun H'=>H' j=some (.list (js.map fun n=>PV.int (n:Nat)))) evJ (fun K k=>by unfold iterOp; simp only [he.j,List.length_map]; exact ⟨big1' _ (by lia),k⟩) ?_
 have go:∀ (qs:List Nat) (os1:List Ord) (x3:PV) (H1:MH),CodeAt H1 sf dc ol os1→os1.length=os.length→Frm [ol] H H1→H1 j=some (.list (js.map fun n=>PV.int (n:Nat)))→(∀ a∈qs,a<os.length)→qs.foldl (fun z a=>z.set a (.jump os.length)) os1=js.foldl (fun z a=>z.set a (.jump os.length)) os →
   ∀ Q1:QS,(∀ H' x3,CodeAt H' sf dc ol (js.foldl (fun z a=>z.set a (.jump os.length)) os)→Frm [ol] H H'→Q1 .next [.ref sf,.str [109,101,101,116],.ref e,x3,.undef,.undef,.undef,.undef,.undef] H') →
   forGo 3 (fun H'=>H' j=some (.list (js.map fun n=>PV.int (n:Nat)))) (fun r H Q=>wpSs (CS c prog (d+1)) (.cons (.asgS (.attr (.var 0) 0) (.var 3) (.tup (.cons (.lit (.str [106,117,109,112])) (.cons (.call (.lit (.bi 0)) (.cons (.attr (.var 0) 0) .nil)) .nil)))) .nil) r H Q)
    (qs.map fun n=>PV.int (n:Nat)) [.ref sf,.str [109,101,101,116],.ref e,x3,.undef,.undef,.undef,.undef,.undef] H1 Q1:=by
  intro qs
  induction qs with
  | nil =>
   intro os1 x3 H1 h1 _ f1 hj1 _ hfo Q1 k
   refine forNil hj1 (k H1 x3 ?_ f1)
   have hfo:os1=_:=hfo
   rw [← hfo]; exact h1
  | cons q qs ih =>
   intro os1 x3 H1 h1 hl1 f1 hj1 hq hfo Q1 k
   refine forCons hj1 ?_
   show wpSs _ _ [.ref sf,.str [109,101,101,116],.ref e,.int q,.undef,.undef,.undef,.undef,.undef] H1 _
   refine setOrd (i:=q) (o:=.jump os.length) rfl h1 (by lia) (by rw [hl1]; exact hq q List.mem_cons_self) (ev_var rfl rfl) (by rw [hl1]; rfl) (nilW ?_)
   exact ih _ (.int q) _ h1.put (by rw [List.length_set]; exact hl1) (frm_up f1 (.inl (by simp))) (by rw [upd_other hj]; exact hj1) (fun a ha=>hq a (List.mem_cons_of_mem _ ha)) hfo Q1 k
 exact go js os .undef H h0 rfl Frm.refl he.j hjs rfl _ fun H' x3 h1 f1=>sqN (nilW (nilW (nilW (h H' h1 f1))))
theorem s50 (W:Fns c) (h:∀ H' sf dc ol,CodeAt H' sf dc ol []→Frm [] H H'→H ol=none→Q (.ref sf) H'):CS c prog (d+6) (.fn 40) [] H Q:=by
 refine clsCall (d:=d+1) W.X W.m40 (by decide) (by decide) fun x dx hx hdx hne=>?_
 refine callB W.X W.f50 (by decide) rfl ?_
 have a0:(upd (upd H dx (.ns [])) x (.inst 40 dx)) x=some (.inst 40 dx):=upd_self
 have b0:(upd (upd H dx (.ns [])) x (.inst 40 dx)) dx=some (.ns []):=by rw [upd_other (Ne.symm hne)]; exact upd_self
 have c0:Frm [] H (upd (upd H dx (.ns [])) x (.inst 40 dx)):=frm_up (frm_up Frm.refl (.inr hdx)) (.inr hx)
 (revert a0 b0 c0; refine genl (upd (upd H dx (.ns [])) x (.inst 40 dx)) fun H0 a0 b0 c0=>?_)
 refine w_asgA ?_
 refine viaK (fun K=>∀ l',H0 l'=none→K (.ref l') (upd H0 l' (.list []))) (fun K k=>by walk_at "mw"; exact k) ?_
 intro l' hl'
 have n1:l'≠dx:=ne_of hl' b0
 have n2:l'≠x:=ne_of hl' a0
 refine x_var rfl ?_
 show setA (.ref x) 0 (.ref l') _ _
 have a1:(upd H0 l' (.list [])) x=some (.inst 40 dx):=by rw [upd_other (Ne.symm n2)]; exact a0
 have b1:(upd H0 l' (.list [])) dx=some (.ns []):=by rw [upd_other (Ne.symm n1)]; exact b0
 refine o_setA a1 b1 (by decide) (by decide) ⟨rfl,h _ x dx l' ⟨by rw [upd_other hne]; exact a1,upd_self,by rw [upd_other n1]; exact upd_self⟩ ?_ (frm_none c0 hl' (by simp))⟩
 exact frm_up (frm_up c0 (.inr (frm_none c0 hl' (by simp)))) (.inr hdx)
end
set_option genCtorIdx false in
inductive Wi where
 | put (n:Nd)
 | emit (o:Ord)
 | opn (e:Addr)
 | shut (e:Addr)
 | meet (e:Addr)
noncomputable def encWi:Wi→PV
 | .put n=>.tup [.str [112,117,116],encN n]
 | .emit o=>.tup [.str [101,109,105,116],encO o]
 | .opn e=>.tup [.str [111,112,101,110],.ref e]
 | .shut e=>.tup [.str [115,104,117,116],.ref e]
 | .meet e=>.tup [.str [109,101,101,116],.ref e]
theorem encWi_q1:∀ (n:Nd),encWi (Wi.put n)=PV.tup [PV.str [112,117,116],encN n]:=by intros; rfl
noncomputable def choiceI (e:Addr):List Nd→List Wi
 | []=>[]
 | [n]=>[.put n,.meet e]
 | n::ns=>.opn e::.put n::.shut e::choiceI e ns
theorem choiceI_q1:∀ (e:Addr),choiceI e []=[]:=by intros; rfl
theorem choiceI_q2:∀ (e:Addr) (n:Nd),choiceI e [n]=[Wi.put n,Wi.meet e]:=by intros; rfl
theorem choiceI_q3:∀ (e:Addr) (n:Nd) (ns:List Nd),(ns=[]→False)→choiceI e (n::ns)=Wi.opn e::Wi.put n::Wi.shut e::choiceI e ns:=by intros; rename_i ns h; rcases ns with _ | ⟨_,_⟩ <;> first | exact (h rfl).elim | rfl
theorem CodeAt.frm {H H':MH} {sf dc ol:Addr} {os:List Ord} (h:CodeAt H sf dc ol os) (f:Frm [] H H'):CodeAt H' sf dc ol os :=
 ⟨by rw [f _ (by rw [h.i]; exact fun e=>by cases e) (by simp)]; exact h.i,by rw [f _ (by rw [h.d]; exact fun e=>by cases e) (by simp)]; exact h.d,by rw [f _ (by rw [h.o]; exact fun e=>by cases e) (by simp)]; exact h.o⟩
section
variable {c:Cx} {prog:Program} {d:Nat} {H:MH} {Q:PV→MH→Prop} {sf dc ol:Addr} {os:List Ord}
theorem s55 (W:Fns c) {a:Nd} (h0:CodeAt H sf dc ol os) (hl:os.length<99990)
  (h:∀ H' e j wl,CodeAt H' sf dc ol (os++[.split (os.length+2),.hole,.mark])→EndsAt H' e j os.length [os.length+1]→H' wl=some (.list ([Wi.put a,.emit .gain,.emit (.jump os.length),.meet e].map encWi))→Frm [ol] H H'→H e=none→H j=none→H wl=none→Q (.ref wl) H') :
  CS c prog (d+2) (.fn 55) [.ref sf,encN a] H Q:=by
 refine callB W.X W.f55 (by decide) rfl ?_
 have ua:=isU_N a
 show wpSs _ _ [.ref sf,encN a,.undef,.undef,.undef,.undef,.undef,.undef,.undef,.undef,.undef,.undef] _ _
 refine asgW' (emitX W rfl h0 (by lia) (o:=.hole) (fun C=>ev_lit) ?_)
 show wpSs _ _ [.ref sf,encN a,.int os.length,.undef,.undef,.undef,.undef,.undef,.undef,.undef,.undef,.undef] _ _
 have h1:=h0.put (os':=os++[Ord.hole])
 have f1:Frm [ol] H (upd H ol (.list ((os++[Ord.hole]).map encO))):=Frm.upd (.inl (by simp))
 (revert h1 f1; refine genl (upd H ol (.list ((os++[Ord.hole]).map encO))) fun H1 h1 f1=>?_)
 have l1:(os++[Ord.hole]).length=os.length+1:=by simp
 refine asgW' (emitX W rfl h1 (by lia) (o:=.hole) (fun C=>ev_lit) ?_)
 rw [l1]
 show wpSs _ _ [.ref sf,encN a,.int os.length,.int ((os.length+1:Nat):Int),.undef,.undef,.undef,.undef,.undef,.undef,.undef,.undef] _ _
 have h2:=h1.put (os':=os++[Ord.hole]++[Ord.hole])
 have f2:Frm [ol] H (upd H1 ol (.list ((os++[Ord.hole]++[Ord.hole]).map encO))):=frm_up f1 (.inl (by simp))
 (revert h2 f2; refine genl (upd H1 ol (.list ((os++[Ord.hole]++[Ord.hole]).map encO))) fun H2 h2 f2=>?_)
 have l2:(os++[Ord.hole]++[Ord.hole]).length=os.length+2:=by simp
 refine setOrd (i:=os.length) (o:=.split (os.length+2)) rfl h2 (by lia) (by lia) (ev_var rfl rfl) (by rw [l2]; rfl) ?_
 have e3:(os++[Ord.hole]++[Ord.hole]).set os.length (.split (os.length+2))=os++[.split (os.length+2),.hole]:=by simp
 rw [e3]
 have h3:=h2.put (os':=os++[Ord.split (os.length+2),.hole])
 have f3:Frm [ol] H (upd H2 ol (.list ((os++[Ord.split (os.length+2),.hole]).map encO))):=frm_up f2 (.inl (by simp))
 (revert h3 f3; refine genl (upd H2 ol (.list ((os++[Ord.split (os.length+2),.hole]).map encO))) fun H3 h3 f3=>?_)
 have l3:(os++[Ord.split (os.length+2),.hole]).length=os.length+2:=by simp
 refine exprW (emitX W rfl h3 (by lia) (o:=.mark) (fun C K k=>by walk_at "mw"; exact k) ?_)
 have e4:os++[Ord.split (os.length+2),.hole]++[Ord.mark]=os++[.split (os.length+2),.hole,.mark]:=by simp
 rw [e4]
 have h4:=h3.put (os':=os++[Ord.split (os.length+2),.hole,.mark])
 have f4:Frm [ol] H (upd H3 ol (.list ((os++[Ord.split (os.length+2),.hole,.mark]).map encO))):=frm_up f3 (.inl (by simp))
 (revert h4 f4; refine genl (upd H3 ol (.list ((os++[Ord.split (os.length+2),.hole,.mark]).map encO))) fun H4 h4 f4=>?_)
 refine retW (viaK (fun K=>∀ j,H4 j=none→∀ e,upd H4 j (.list [.int ((os.length+1:Nat):Int)]) e=none→∀ wl,upd (upd H4 j (.list [.int ((os.length+1:Nat):Int)])) e (.list [.int os.length,.ref j]) wl=none →
   K (.ref wl) (upd (upd (upd H4 j (.list [.int ((os.length+1:Nat):Int)])) e (.list [.int os.length,.ref j])) wl (.list ([Wi.put a,.emit .gain,.emit (.jump os.length),.meet e].map encWi)))) (fun K k=>?_) ?_)
 ·walk_at "mw"
  intro j hj
  walk_at "mw"
  intro e he
  walk_at "mw"
  exact fun wl hwl=>k j hj e he wl hwl
 intro j hj e he wl hwl
 have nej:e≠j:=ne_of he upd_self
 have he4:H4 e=none:=by rw [upd_other nej] at he; exact he
 have nwe:wl≠e:=ne_of hwl upd_self
 have nwj:wl≠j:=by
  rintro rfl
  rw [upd_other nwe,upd_self] at hwl; cases hwl
 have hw4:H4 wl=none:=by rw [upd_other nwe,upd_other nwj] at hwl; exact hwl
 have n0:∀ {x:Addr},H4 x=none→H x=none:=fun {x} hx=>by
  induction q:H x using Option.casesOn with
  | none=>rfl
  | some z =>
   by_cases hxo:x=ol
   ·rw [hxo,h4.o] at hx; cases hx
   ·have:=f4 x (by rw [q]; exact fun e=>by cases e) (by simpa using hxo)
    rw [hx,q] at this; cases this
 refine h _ e j wl (((h4.fresh hj).fresh he).fresh hwl) ⟨by rw [upd_other (Ne.symm nwe)]; exact upd_self,by rw [upd_other (Ne.symm nwj),upd_other (Ne.symm nej)]; exact upd_self⟩ upd_self ?_ (n0 he4) (n0 hj) (n0 hw4)
 exact frm_up (frm_up (frm_up f4 (.inr (n0 hj))) (.inr (n0 he4))) (.inr (n0 hw4))
theorem s54 (W:Fns c) {pa:Addr} {ns:List Nd} {sv:PV} (usv:isU sv=false) (hp:H pa=some (.list (ns.map encN))) (hne:ns≠[]) (hl:ns.length≤1000)
  (h:∀ H' e j wl,EndsAt H' e j (-1) []→H' wl=some (.list ((choiceI e ns).map encWi))→Frm [] H H'→H e=none→H j=none→H wl=none→Q (.ref wl) H'):CS c prog (d+1) (.fn 54) [sv,.ref pa] H Q:=by
 refine callB W.X W.f54 (by decide) rfl ?_
 have hlb:ns.length≤1000000:=by lia
 show wpSs _ (.cons (.asgW [2,3] _) _) [sv,.ref pa,.undef,.undef,.undef,.undef,.undef,.undef,.undef,.undef] _ _
 refine w_asgW ?_
 refine viaK (fun K=>∀ fl,H fl=none→∀ j,upd H fl (.list []) j=none→∀ e,upd (upd H fl (.list [])) j (.list []) e=none→K (.tup [.ref fl,.ref e]) (upd (upd (upd H fl (.list [])) j (.list [])) e (.list [.int (-1),.ref j]))) (fun K k=>by
  walk_at "mw"
  intro fl hfl
  walk_at "mw"
  intro j hj
  walk_at "mw"
  intro e he
  walk_at "mw"
  exact k fl hfl j hj e he) ?_
 intro fl hfl j hj e he
 have njf:j≠fl:=ne_of hj upd_self
 have nej:e≠j:=ne_of he upd_self
 have nef:e≠fl:=by rintro rfl; rw [upd_other nej,upd_self] at he; cases he
 have hj0:H j=none:=by rw [upd_other njf] at hj; exact hj
 have he0:H e=none:=by rw [upd_other nej,upd_other nef] at he; exact he
 refine ⟨rfl,by decide,?_⟩
 show wpSs _ _ [sv,.ref pa,.ref fl,.ref e,.undef,.undef,.undef,.undef,.undef,.undef] _ _
 have hf1:(upd (upd (upd H fl (.list [])) j (.list [])) e (.list [.int (-1),.ref j])) fl=some (.list []):=by rw [upd_other (Ne.symm nef),upd_other (Ne.symm njf)]; exact upd_self
 have he1:EndsAt (upd (upd (upd H fl (.list [])) j (.list [])) e (.list [.int (-1),.ref j])) e j (-1) []:=⟨upd_self,by rw [upd_other (Ne.symm nej)]; exact upd_self⟩
 have f1:Frm [] H (upd (upd (upd H fl (.list [])) j (.list [])) e (.list [.int (-1),.ref j])):=frm_up (frm_up (frm_up Frm.refl (.inr hfl)) (.inr hj0)) (.inr he0)
 (revert hf1 he1 f1; refine genl (upd (upd (upd H fl (.list [])) j (.list [])) e (.list [.int (-1),.ref j])) fun H1 hf1 he1 f1=>?_)
 have hp1:H1 pa=some (.list (ns.map encN)):=by rw [f1 pa (by rw [hp]; exact fun e=>by cases e) (by simp)]; exact hp
 obtain ⟨ms,z,rfl⟩:∃ ms z,ns=ms++[z]:=⟨_,_,(List.dropLast_concat_getLast hne).symm⟩
 have hml:ms.length+1≤1000000:=by simpa using hlb
 have hml2:((ms++[z]).map encN).length≤big:=by rw [List.length_map,List.length_append]; exact hml
 have hml3:((((ms++[z]).map encN).length:Nat):Int) - 1=ms.length:=by
  rw [List.length_map,List.length_append,List.length_singleton]; lia
 refine w_for ?_
 refine viaK (fun K=>∀ sl,H1 sl=none→K (.ref sl) (upd H1 sl (.list (ms.map encN)))) (fun K k=>?_) ?_
 ·rw [wx_slice,wpX_var]
  refine ⟨rfl,?_⟩
  rw [wx_lit]
  refine viaK (fun K=>K (.int ms.length) H1) (fun K k=>?_) ?_
  ·walk_at "mw"
   rw [hml3]
   exact k
  rw [wx_lit]
  show sliceOp (.ref pa) .none (.int ms.length) .none H1 K
  refine i_slice hp1 (show 0≤_∧_≤big∧_ from ⟨by lia,by rw [List.length_map,List.length_append,List.length_singleton]; unfold big; lia,?_⟩)
  rw [Int.toNat_natCast]
  have e1:((ms++[z]).map encN).take ms.length=ms.map encN:=by
   rw [List.map_append,List.take_append_of_le_length (by simp)]
   rw [List.take_of_length_le (by simp)]
  rw [e1]
  exact k
 intro sl hsl
 have nsf:sl≠fl:=ne_of hsl hf1
 have nse:sl≠e:=ne_of hsl he1.e
 have nsj:sl≠j:=ne_of hsl he1.j
 have nsp:sl≠pa:=ne_of hsl hp1
 have npf:pa≠fl:=by rintro rfl; rw [hfl] at hp; cases hp
 have hsl0:=frm_none f1 hsl (by simp)
 refine i_iter upd_self (List.length_map _) ⟨by unfold big; lia,?_⟩
 have go:∀ (qs dn:List Nd) (x4:PV) (H2:MH),H2 fl=some (.list ((dn.flatMap fun n=>[Wi.opn e,.put n,.shut e]).map encWi))→EndsAt H2 e j (-1) []→Frm [] H H2→H2 sl=some (.list (ms.map encN))→dn++qs=ms →
   ∀ Q1:QS,(∀ H' x4,H' fl=some (.list ((ms.flatMap fun n=>[Wi.opn e,.put n,.shut e]).map encWi))→EndsAt H' e j (-1) []→Frm [] H H'→Q1 .next [sv,.ref pa,.ref fl,.ref e,x4,.undef,.undef,.undef,.undef,.undef] H') →
   forGo 4 (fun H'=>H' sl=some (.list (ms.map encN))) (fun r H Q=>wpSs (CS c prog d) (.cons (.expr (.meth (.var 2) 33 (.cons (.list (.cons (.tup (.cons (.lit (.str [111,112,101,110])) (.cons (.var 3) .nil))) (.cons (.tup (.cons (.lit (.str [112,117,116])) (.cons (.var 4) .nil))) (.cons (.tup (.cons (.lit (.str [115,104,117,116])) (.cons (.var 3) .nil))) .nil)))) .nil))) .nil) r H Q)
    (qs.map encN) [sv,.ref pa,.ref fl,.ref e,x4,.undef,.undef,.undef,.undef,.undef] H2 Q1:=by
  intro qs
  induction qs with
  | nil =>
   intro dn x4 H2 h1 h2 h3 h4 h5 Q1 k
   rw [List.append_nil] at h5
   subst h5
   exact forNil h4 (k H2 x4 h1 h2 h3)
  | cons q qs ih =>
   intro dn x4 H2 h1 h2 h3 h4 h5 Q1 k
   refine forCons h4 ?_
   show wpSs _ _ [sv,.ref pa,.ref fl,.ref e,encN q,.undef,.undef,.undef,.undef,.undef] H2 _
   have uq:=isU_N q
   have hlen:((dn.flatMap fun n=>[Wi.opn e,.put n,.shut e]).map encWi).length+3≤1000000:=by
    have e1:(dn.flatMap fun n=>[Wi.opn e,.put n,.shut e]).length=3*dn.length:=by
     clear h1 h5 ih
     induction dn with
     | nil=>rfl
     | cons a dn ih2=>simp only [List.flatMap_cons,List.length_append,List.length_cons,List.length_nil,ih2]; lia
    have:=congrArg List.length h5
    simp only [List.length_append,List.length_cons] at this
    have h9:ms.length+1≤1000:=by simpa using hl
    rw [List.length_map,e1]; lia
   refine exprW (viaK (fun K=>∀ tl,H2 tl=none→K .none (upd (upd H2 tl (.list ([Wi.opn e,.put q,.shut e].map encWi))) fl (.list ((dn.flatMap fun n=>[Wi.opn e,.put n,.shut e]).map encWi++[Wi.opn e,.put q,.shut e].map encWi)))) (fun K kk=>?_) ?_)
   ·(revert h1 hlen kk; refine genl ((dn.flatMap fun n=>[Wi.opn e,.put n,.shut e]).map encWi) fun zz h1 hlen kk=>?_)
    refine x_meth (x_var rfl ?_)
    have hb:∀ C,bindOp C (.ref fl) 33 H2=some (listMeth fl 33):=fun C=>bind_list h1 (by decide)
    show (match bindOp _ (.ref fl) 33 H2 with | some g=>_ | none=>False)
    rw [hb]
    refine xs_cons ?_
    refine viaK (fun K=>∀ tl,H2 tl=none→K (.ref tl) (upd H2 tl (.list ([Wi.opn e,.put q,.shut e].map encWi)))) (fun K k=>by walk_at "mw"; exact k) ?_
    intro tl htl
    have n1:tl≠fl:=ne_of htl h1
    have e1:(upd H2 tl (.list ([Wi.opn e,.put q,.shut e].map encWi))) fl=some (.list zz):=by rw [upd_other (Ne.symm n1)]; exact h1
    exact o_ext e1 upd_self (by simpa [big] using hlen) (kk tl htl)
   intro tl htl
   have n1:tl≠fl:=ne_of htl h1
   have n2:tl≠e:=ne_of htl h2.e
   have n3:tl≠j:=ne_of htl h2.j
   have n4:tl≠sl:=ne_of htl h4
   refine nilW ?_
   refine ih (dn++[q]) (encN q) _ (by rw [upd_self,List.flatMap_append,List.map_append]; rfl) ⟨by rw [upd_other nef,upd_other (Ne.symm n2)]; exact h2.e,by rw [upd_other njf,upd_other (Ne.symm n3)]; exact h2.j⟩ (frm_up (frm_up h3 (.inr (frm_none h3 htl (by simp)))) (.inr hfl)) (by rw [upd_other nsf,upd_other (Ne.symm n4)]; exact h4) (by rw [List.append_assoc]; exact h5) Q1 k
 refine go ms [] .undef _ (by rw [upd_other (Ne.symm nsf)]; exact hf1) ⟨by rw [upd_other (Ne.symm nse)]; exact he1.e,by rw [upd_other (Ne.symm nsj)]; exact he1.j⟩ (frm_up f1 (.inr hsl0)) upd_self rfl _ ?_
 intro H2 x4 hf2 he2 f2
 have hp2:H2 pa=some (.list ((ms++[z]).map encN)):=by rw [f2 pa (by rw [hp]; exact fun e=>by cases e) (by simp)]; exact hp
 refine sqN (retW ?_)
 have hch:∀ ms:List Nd,choiceI e (ms++[z])=(ms.flatMap fun n=>[Wi.opn e,.put n,.shut e])++[.put z,.meet e]:=by
  intro ms
  induction ms with
  | nil=>rfl
  | cons a ms ih =>
   rw [List.flatMap_cons,List.append_assoc,← ih]
   induction ms using List.casesOn <;> rfl
 have hlen:((ms.flatMap fun n=>[Wi.opn e,.put n,.shut e]).map encWi).length+2≤1000000:=by
  have e1:∀ dn:List Nd,(dn.flatMap fun n=>[Wi.opn e,.put n,.shut e]).length=3*dn.length:=by
   intro dn
   induction dn with
   | nil=>rfl
   | cons a dn ih2=>simp only [List.flatMap_cons,List.length_append,List.length_cons,List.length_nil,ih2]; lia
  have h9:ms.length+1≤1000:=by simpa using hl
  rw [List.length_map,e1]; lia
 refine x_bin (x_var rfl ?_)
 refine x_list ?_
 refine xs_cons ?_
 refine viaK (fun K=>K (encWi (.put z)) H2) (fun K k=>?_) ?_
 ·refine x_tup ?_
  refine xs_cons ?_
  refine x_lit (x_sub (x_var rfl ?_))
  refine viaK (fun K=>K (.int ms.length) H2) (fun K k=>?_) ?_
  ·walk_at "mw"
   rw [hml3]
   exact k
  show subOp (.ref pa) (.int ms.length) H2 _
  refine i_sub (n:=ms.length+1) hp2 (by rw [List.length_map,List.length_append]; rfl) ⟨by lia,by lia,by unfold big; lia,of_decide_eq_true rfl,?_⟩
  rw [Int.toNat_natCast]
  simpa [List.getD_eq_getElem?_getD,encWi_q1] using k
 refine viaK (fun K=>K (encWi (.meet e)) H2) (fun K k=>by walk_at "mw"; exact k) ?_
 refine ⟨of_decide_eq_true rfl,?_⟩
 intro l2 hl2
 have n1:l2≠fl:=ne_of hl2 hf2
 have e1:(upd H2 l2 (.list [encWi (.put z),encWi (.meet e)])) fl=some (.list ((ms.flatMap fun n=>[Wi.opn e,.put n,.shut e]).map encWi)):=by rw [upd_other (Ne.symm n1)]; exact hf2
 show binOp .Add (.ref fl) (.ref l2) _ _
 refine i_add e1 upd_self ⟨by simpa [big] using hlen,?_⟩
 intro wl hwl
 have n2:wl≠l2:=ne_of hwl upd_self
 have hw2:H2 wl=none:=by rw [upd_other n2] at hwl; exact hwl
 have n3:wl≠e:=ne_of hw2 he2.e
 have n4:wl≠j:=ne_of hw2 he2.j
 have n5:l2≠e:=ne_of hl2 he2.e
 have n6:l2≠j:=ne_of hl2 he2.j
 refine h _ e j wl ⟨by rw [upd_other (Ne.symm n3),upd_other (Ne.symm n5)]; exact he2.e,by rw [upd_other (Ne.symm n4),upd_other (Ne.symm n6)]; exact he2.j⟩ (by rw [upd_self,hch,List.map_append]; rfl) (frm_up (frm_up f2 (.inr (frm_none f2 hl2 (by simp)))) (.inr (frm_none f2 hw2 (by simp)))) he0 hj0 (frm_none f2 hw2 (by simp))
end
section
variable {c:Cx} {prog:Program} {d:Nat} {H:MH} {Q:PV→MH→Prop} {sf dc ol:Addr} {os:List Ord}
theorem methB {C:Cl} {r:List PV} {i k f:Nat} {xs:Xs} {K:PV→MH→Prop} (g:get r i=.ref sf) (h0:CodeAt H sf dc ol os) (hm:mth 40 k=some f) (hk:k≠0) (kk:wpXs C xs r H fun ps H=>C (.fn f) (.ref sf::ps) H K):wpX C (.meth (.var i) k xs) r H K:=by
 rw [wx_meth,wpX_var,g]
 refine ⟨rfl,?_⟩
 have hb:bindOp C (.ref sf) k H=some fun args H Q=>C (.fn f) (.ref sf::args) H Q:=by
  have hk':(k==0)=false:=beq_eq_false_iff_ne.mpr hk
  exact bind_inst h0.i h0.d hm (by rw [List.lookup_cons,hk']; rfl)
 rw [hb]
 exact kk
theorem s53l (W:Fns c) {l:Lf} (h0:CodeAt H sf dc ol os) (hl:os.length<99990)
  (h:∀ H' wl,CodeAt H' sf dc ol (os++[.one l])→H' wl=some (.list [])→Frm [ol] H H'→H wl=none→Q (.ref wl) H'):CS c prog (d+3) (.fn 53) [.ref sf,encL l] H Q:=by
 refine callB W.X W.f53 (by decide) rfl ?_
 have k0:=kindL_ne l
 obtain ⟨k1,k2,k3,k4,k5,k6,k7,k8,k9,k10,k11,k12,k13,k14,k15⟩:=k0
 refine asgE (ev_kindN (n:=.lf l) rfl) ?_
 show wpSs _ _ [.ref sf,encL l,.str (kindL l),.undef,.undef,.undef,.undef,.undef,.undef,.undef,.undef,.undef,.undef,.undef,.undef,.undef,.undef] _ _
 refine skipK (y:=kindL l) rfl k3 (skipK (y:=kindL l) rfl k4 (skipK (y:=kindL l) rfl k5 (ifF ((ev_or (ev_eqF (y:=kindL l) rfl k6) (ev_eqF (y:=kindL l) rfl k7)).cast rfl) ?_)))
 refine ifT (fun K k=>?_) ?_
 ·refine x_cmp (x_var rfl ?_)
  refine x_lit ?_
  induction l using Lf.casesOn with
  | any b x=>induction b using Bool.casesOn <;> exact k
  | _=>exact k
 refine exprW (emitX (d:=d+1) W rfl h0 (by lia) (o:=.one l) (fun C K k=>?_) ?_)
 ·show wpX _ _ [.ref sf,.tup [.str (kindL l),toldL l],.str (kindL l),.undef,.undef,.undef,.undef,.undef,.undef,.undef,.undef,.undef,.undef,.undef,.undef,.undef,.undef] H K
  have hgt:1<[PV.str (kindL l),toldL l].length:=Nat.lt_succ_self 1
  walk_at "mw"
  exact k
 have h1:=h0.put (os':=os++[Ord.one l])
 have f1:Frm [ol] H (upd H ol (.list ((os++[Ord.one l]).map encO))):=Frm.upd (.inl (by simp))
 (revert h1 f1; refine genl (upd H ol (.list ((os++[Ord.one l]).map encO))) fun H1 h1 f1=>?_)
 refine nilW (retW (viaK (fun K=>∀ wl,H1 wl=none→K (.ref wl) (upd H1 wl (.list []))) (fun K k=>by walk_at "mw"; exact k) ?_))
 intro wl hwl
 have hw0:H wl=none:=by
  by_cases hxo:wl=ol
  ·rw [hxo,h1.o] at hwl; cases hwl
  ·exact frm_none f1 hwl (by simpa using hxo)
 exact h _ wl (h1.fresh hwl) upd_self (frm_up f1 (.inr hw0)) hw0
theorem s53w (W:Fns c) (h0:CodeAt H sf dc ol os) (hl:os.length<99990)
  (h:∀ H' wl,CodeAt H' sf dc ol (os++[.ways])→H' wl=some (.list [])→Frm [ol] H H'→H wl=none→Q (.ref wl) H'):CS c prog (d+3) (.fn 53) [.ref sf,encN .arb] H Q:=by
 refine callB W.X W.f53 (by decide) rfl ?_
 refine asgE (ev_kindN (n:=.arb) rfl) ?_
 show wpSs _ _ [.ref sf,encN .arb,.str [97,114,98],.undef,.undef,.undef,.undef,.undef,.undef,.undef,.undef,.undef,.undef,.undef,.undef,.undef,.undef] _ _
 refine skipK (y:=[97,114,98]) rfl (by decide) (skipK (y:=[97,114,98]) rfl (by decide) (skipK (y:=[97,114,98]) rfl (by decide) (ifF ((ev_or (ev_eqF (y:=[97,114,98]) rfl (by decide)) (ev_eqF (y:=[97,114,98]) rfl (by decide))).cast rfl) ?_)))
 refine ifE (fun K k=>?_) (ifT ((ev_or (ev_eqT (y:=[97,114,98]) rfl rfl) (ev_eqF (y:=[97,114,98]) rfl (by decide))).cast rfl) ?_)
 ·refine x_cmp (x_var rfl ?_)
  refine x_lit ?_
  exact k
 refine exprW (emitX (d:=d+1) W rfl h0 (by lia) (o:=.ways) (fun C K k=>?_) ?_)
 ·walk_at "mw"
  exact k
 have h1:=h0.put (os':=os++[Ord.ways])
 have f1:Frm [ol] H (upd H ol (.list ((os++[Ord.ways]).map encO))):=Frm.upd (.inl (by simp))
 (revert h1 f1; refine genl (upd H ol (.list ((os++[Ord.ways]).map encO))) fun H1 h1 f1=>?_)
 refine nilW (nilW (retW (viaK (fun K=>∀ wl,H1 wl=none→K (.ref wl) (upd H1 wl (.list []))) (fun K k=>by walk_at "mw"; exact k) ?_)))
 intro wl hwl
 have hw0:H wl=none:=by
  by_cases hxo:wl=ol
  ·rw [hxo,h1.o] at hwl; cases hwl
  ·exact frm_none f1 hwl (by simpa using hxo)
 exact h _ wl (h1.fresh hwl) upd_self (frm_up f1 (.inr hw0)) hw0
theorem s53o (W:Fns c) {a:Nd} (h0:CodeAt H sf dc ol os) (hl:os.length<99990)
  (h:∀ H' e j wl,CodeAt H' sf dc ol (os++[.split (os.length+2),.hole,.mark])→EndsAt H' e j os.length [os.length+1]→H' wl=some (.list ([Wi.put a,.emit .gain,.emit (.jump os.length),.meet e].map encWi))→Frm [ol] H H'→H e=none→H j=none→H wl=none→Q (.ref wl) H') :
  CS c prog (d+3) (.fn 53) [.ref sf,encN (.arbno a)] H Q:=by
 refine callB W.X W.f53 (by decide) rfl ?_
 refine asgE (ev_kindN (n:=.arbno a) rfl) ?_
 show wpSs _ _ [.ref sf,encN (.arbno a),.str [97,114,98,110,111],.undef,.undef,.undef,.undef,.undef,.undef,.undef,.undef,.undef,.undef,.undef,.undef,.undef,.undef] _ _
 refine skipK (y:=[97,114,98,110,111]) rfl (by decide) (skipK (y:=[97,114,98,110,111]) rfl (by decide) (ifT (ev_eqT (y:=[97,114,98,110,111]) rfl rfl) (retW ?_)))
 refine methB rfl h0 rfl (by decide) ?_
 refine xs_cons ?_
 refine viaK (fun K=>K (encN a) H) (fun K k=>by
  show wpX _ _ [.ref sf,.tup [.str [97,114,98,110,111],encN a],.str [97,114,98,110,111],.undef,.undef,.undef,.undef,.undef,.undef,.undef,.undef,.undef,.undef,.undef,.undef,.undef,.undef] H K
  walk_at "mw"; exact k) ?_
 exact s55 (d:=d) W h0 hl h
theorem s53a (W:Fns c) {a b:Nd} (h0:CodeAt H sf dc ol os) (hsz:szN (.alt a b)≤1000)
  (h:∀ H' e j wl,EndsAt H' e j (-1) []→H' wl=some (.list ((choiceI e (rowA (.alt a b))).map encWi))→Frm [] H H'→H e=none→H j=none→H wl=none→Q (.ref wl) H') :
  CS c prog (d+3) (.fn 53) [.ref sf,encN (.alt a b)] H Q:=by
 refine callB W.X W.f53 (by decide) rfl ?_
 refine asgE (ev_kindN (n:=.alt a b) rfl) ?_
 show wpSs _ _ [.ref sf,encN (.alt a b),.str [97,108,116],.undef,.undef,.undef,.undef,.undef,.undef,.undef,.undef,.undef,.undef,.undef,.undef,.undef,.undef] _ _
 refine skipK (y:=[97,108,116]) rfl (by decide) (ifT (ev_eqT (y:=[97,108,116]) rfl rfl) (retW ?_))
 refine methB rfl h0 rfl (by decide) ?_
 refine xs_cons ?_
 refine x_fn (k:=0) (by decide) ?_
 refine xs_cons ?_
 refine x_var rfl ?_
 refine x_lit ?_
 have hlen:∀ n:Nd,(rowA n).length≤szN n:=by
  intro n
  induction n with
  | alt a b iha ihb=>simp only [rowA_q1,rowA_q2,szN_q1,szN_q2,szN_q3,szN_q4,List.length_append]; lia
  | _=>simp [rowA_q1,rowA_q2,szN_q1,szN_q2,szN_q3,szN_q4]
 have hne:∀ n:Nd,rowA n≠[]:=by
  intro n
  induction n with
  | alt a b iha ihb=>simp [rowA_q1,rowA_q2,iha]
  | _=>simp [rowA_q1,rowA_q2]
 refine s0 (d:=d+1) W false (by lia) fun pa H1 f1 hpa0 hpa=>?_
 refine (s54 (d:=d+1) W rfl hpa (hne _) (Nat.le_trans (hlen _) hsz) fun H2 e j wl he hw f2 e0 j0 w0=>?_)
 exact h H2 e j wl he hw (f1.trans f2) (frm_none f1 e0 (by simp)) (frm_none f1 j0 (by simp)) (frm_none f1 w0 (by simp))
theorem s53c (W:Fns c) {a b:Nd} (hsz:szN (.cat a b)≤1000) (htx:∀ n∈rowC (.cat a b),txtN n≤10)
  (h:∀ H' wl,H' wl=some (.list (((joinN (rowC (.cat a b))).map Wi.put).map encWi))→Frm [] H H'→H wl=none→Q (.ref wl) H') :
  CS c prog (d+3) (.fn 53) [.ref sf,encN (.cat a b)] H Q:=by
 refine callB W.X W.f53 (by decide) rfl ?_
 refine asgE (ev_kindN (n:=.cat a b) rfl) ?_
 show wpSs _ _ [.ref sf,encN (.cat a b),.str [99,97,116],.undef,.undef,.undef,.undef,.undef,.undef,.undef,.undef,.undef,.undef,.undef,.undef,.undef,.undef] _ _
 refine ifT (ev_eqT (y:=[99,97,116]) rfl rfl) (retW ?_)
 rw [wx_comp,wx_call,wx_lit]
 refine ⟨show (2:Nat)<90 by decide,?_⟩
 refine xs_cons ?_
 refine x_fn (k:=0) (by decide) ?_
 refine xs_cons ?_
 refine x_var rfl ?_
 refine x_lit ?_
 have hlen:∀ n:Nd,(rowC n).length≤szN n:=by
  intro n
  induction n with
  | cat a b iha ihb=>simp only [rowC_q1,rowC_q2,szN_q1,szN_q2,szN_q3,szN_q4,List.length_append]; lia
  | _=>simp [rowC_q1,rowC_q2,szN_q1,szN_q2,szN_q3,szN_q4]
 refine s0 (d:=d+1) W true (by lia) fun pa H1 f1 hpa0 hpa=>?_
 refine s2 (d:=d) W hpa (Nat.le_trans (hlen _) hsz) htx fun la H2 f2 hla0 hla=>?_
 have hjl:∀ (ps acc:List Nd),(ps.foldl joinStep acc).length≤acc.length+ps.length:=by
  intro ps
  induction ps with
  | nil=>intro acc; simp
  | cons p ps ih =>
   intro acc
   have h1:=ih (joinStep acc p)
   have h2:(joinStep acc p).length≤acc.length+1:=by
    unfold joinStep
    split
    ·split
     ·lia
     ·split <;> simp <;> lia
    ·simp
   rw [List.foldl_cons,List.length_cons]; lia
 have hj2:(joinN (rowC (.cat a b))).length≤1000:=by
  have h3:=hjl (rowC (.cat a b)) []
  have h4:=hlen (.cat a b)
  unfold joinN
  simp at h3
  lia
 have hla:H2 la=some (.list ((joinN (rowC (.cat a b))).map encN)):=hla
 show compOp _ _ (.ref la) H2 _
 unfold compOp iterOp
 simp only [hla,List.length_map]
 refine ⟨by unfold big; lia,?_⟩
 refine comp_mapM (g:=fun p=>.tup [.str [112,117,116],p]) hla _ _ _ (fun y hy K k=>?_) ?_
 ·obtain ⟨n,hn,rfl⟩:=List.mem_map.mp hy
  show wpX _ _ [.undef,encN n,.undef] H2 K
  walk_at "mw"
  exact k
 intro wl hwl
 have e1:(([]:List PV)++((joinN (rowC (.cat a b))).map encN).map fun p=>PV.tup [.str [112,117,116],p])=((joinN (rowC (.cat a b))).map Wi.put).map encWi:=by
  rw [List.nil_append,List.map_map,List.map_map]; rfl
 rw [e1]
 have f3:=f1.trans f2
 exact h _ wl upd_self (frm_up f3 (.inr (frm_none f3 hwl (by simp)))) (frm_none f3 hwl (by simp))
end
abbrev Ends:=Addr→Option (Int×List Nat)
noncomputable def updE (ε:Ends) (e:Addr) (v:Int×List Nat):Ends:=fun x=>if x=e then some v else ε x
theorem updE_self {ε:Ends} {e:Addr} {v:Int×List Nat}:updE ε e v e=some v:=by simp [updE]
theorem updE_other {ε:Ends} {e x:Addr} {v:Int×List Nat} (h:x≠e):updE ε e v x=ε x:=by simp [updE,h]
noncomputable def RunJ (R:List Ord→List Wi→Ends→Prop) (os:List Ord) (ε:Ends):Wi→List Wi→Prop
 | .put (.lf l),W=>os.length<99990∧W.length≤90000∧R (os++[Ord.one l]) W ε
 | .put .arb,W=>os.length<99990∧W.length≤90000∧R (os++[Ord.ways]) W ε
 | .put (.cat a b),W=>szN (.cat a b)≤1000∧(∀ n∈rowC (.cat a b),txtN n≤10)∧W.length≤90000∧R os ((joinN (rowC (.cat a b))).map .put++W) ε
 | .put (.alt a b),W=>szN (.alt a b)≤1000∧W.length≤90000∧(∀ e,ε e=none→R os (choiceI e (rowA (.alt a b))++W) (updE ε e (-1,[])))
 | .put (.arbno a),W=>os.length<99990∧W.length≤90000∧(∀ e,ε e=none→R (os++[Ord.split (os.length+2),Ord.hole,Ord.mark]) ([.put a,.emit .gain,.emit (.jump os.length),.meet e]++W) (updE ε e (os.length,[os.length+1])))
 | .emit o,W=>os.length<99990∧W.length≤90000∧R (os++[o]) W ε
 | .opn e,W=>∃ sp js,os.length<99990∧W.length≤90000∧ε e=some (sp,js)∧R (os++[Ord.hole]) W (updE ε e (os.length,js))
 | .shut e,W=>∃ (sp:Nat) (js:List Nat),os.length<99990∧W.length≤90000∧ε e=some ((sp:Int),js)∧sp<os.length+1∧js.length≤99999∧R ((os++[Ord.hole]).set sp (.split (os.length+1))) W (updE ε e ((sp:Int),js++[os.length]))
 | .meet e,W=>∃ (sp:Int) (js:List Nat),os.length<99990∧W.length≤90000∧ε e=some (sp,js)∧js.length≤99999∧(∀ a∈js,a<os.length)∧R (js.foldl (fun z a=>z.set a (.jump os.length)) os) W ε
noncomputable def Run (os:List Ord) (W:List Wi) (ε:Ends) (F:List Ord) (k:Nat):Prop:=Nat.rec (motive:=fun _=>List Ord→List Wi→Ends→Prop) (fun os W _=>W=[]∧F=os) (fun _ R os W ε=>∃ w W',W=w::W'∧RunJ R os ε w W') k os W ε
abbrev RunI (os:List Ord) (ε:Ends) (F:List Ord) (k:Nat):Wi→List Wi→Prop:=RunJ (fun os W ε=>Run os W ε F k) os ε
theorem Run.of {os F:List Ord} {w:Wi} {W:List Wi} {ε:Ends} {k:Nat} (h:RunI os ε F k w W):Run os (w::W) ε F (k+1):=⟨w,W,rfl,h⟩
theorem Run.inv {os:List Ord} {w:Wi} {W:List Wi} {ε:Ends} {F:List Ord} {m:Nat} (h:Run os (w::W) ε F m):∃ k,m=k+1∧RunI os ε F k w W:=by
 induction m using Nat.casesAuxOn with
 | zero=>cases h.1
 | succ k=>exact xe2 h fun w' W' q=>⟨k,rfl,by rw [(List.cons.inj q.1).1,(List.cons.inj q.1).2]; exact q.2⟩
theorem Run.invN {os F:List Ord} {ε:Ends} {m:Nat} (h:Run os [] ε F m):F=os:=by
 induction m using Nat.casesAuxOn with
 | zero=>exact h.2
 | succ k=>exact xe2 h fun w' W' q=>nomatch q.1
theorem Run.nil {os:List Ord} {ε:Ends}:Run os [] ε os 0:=⟨rfl,rfl⟩
section
variable {os:List Ord} {W:List Wi} {ε:Ends} {F:List Ord} {k:Nat} {a b:Nd} {e:Addr} {js:List Nat}
theorem Run.leaf {l:Lf} (h1:os.length<99990) (h2:W.length≤90000) (r:Run (os++[Ord.one l]) W ε F k):Run os (.put (.lf l)::W) ε F (k+1):=.of ⟨h1,h2,r⟩
theorem Run.arb (h1:os.length<99990) (h2:W.length≤90000) (r:Run (os++[Ord.ways]) W ε F k):Run os (.put .arb::W) ε F (k+1):=.of ⟨h1,h2,r⟩
theorem Run.cat (h1:szN (.cat a b)≤1000) (h2:∀ n∈rowC (.cat a b),txtN n≤10) (h3:W.length≤90000) (r:Run os ((joinN (rowC (.cat a b))).map .put++W) ε F k):Run os (.put (.cat a b)::W) ε F (k+1):=.of ⟨h1,h2,h3,r⟩
theorem Run.alt (h1:szN (.alt a b)≤1000) (h2:W.length≤90000) (r:∀ e,ε e=none→Run os (choiceI e (rowA (.alt a b))++W) (updE ε e (-1,[])) F k):Run os (.put (.alt a b)::W) ε F (k+1):=.of ⟨h1,h2,r⟩
theorem Run.arbno (h1:os.length<99990) (h2:W.length≤90000) (r:∀ e,ε e=none→Run (os++[Ord.split (os.length+2),Ord.hole,Ord.mark]) ([.put a,.emit .gain,.emit (.jump os.length),.meet e]++W) (updE ε e (os.length,[os.length+1])) F k):Run os (.put (.arbno a)::W) ε F (k+1):=.of ⟨h1,h2,r⟩
theorem Run.emit {o:Ord} (h1:os.length<99990) (h2:W.length≤90000) (r:Run (os++[o]) W ε F k):Run os (.emit o::W) ε F (k+1):=.of ⟨h1,h2,r⟩
theorem Run.opn {sp:Int} (h1:os.length<99990) (h2:W.length≤90000) (h3:ε e=some (sp,js)) (r:Run (os++[Ord.hole]) W (updE ε e (os.length,js)) F k):Run os (.opn e::W) ε F (k+1):=.of ⟨sp,js,h1,h2,h3,r⟩
theorem Run.shut {sp:Nat} (h1:os.length<99990) (h2:W.length≤90000) (h3:ε e=some ((sp:Int),js)) (h4:sp<os.length+1) (h5:js.length≤99999) (r:Run ((os++[Ord.hole]).set sp (.split (os.length+1))) W (updE ε e ((sp:Int),js++[os.length])) F k):Run os (.shut e::W) ε F (k+1):=.of ⟨sp,js,h1,h2,h3,h4,h5,r⟩
theorem Run.meet {sp:Int} (h1:os.length<99990) (h2:W.length≤90000) (h3:ε e=some (sp,js)) (h4:js.length≤99999) (h5:∀ a∈js,a<os.length) (r:Run (js.foldl (fun z a=>z.set a (.jump os.length)) os) W ε F k):Run os (.meet e::W) ε F (k+1):=.of ⟨sp,js,h1,h2,h3,h4,h5,r⟩
end
structure EP (H0 H:MH) (ε:Ends) (J:Addr→Addr) (ol wl:Addr):Prop where
 at_:∀ e v,ε e=some v→EndsAt H e (J e) v.1 v.2
 ne:∀ e v,ε e=some v→e≠ol∧e≠wl∧J e≠ol∧J e≠wl∧H0 e=none∧H0 (J e)=none
 inj:∀ e e' v v',ε e=some v→ε e'=some v'→J e=J e'→e=e'
theorem ends_cross {H:MH} {e j e' j':Addr} {sp sp':Int} {js js':List Nat} (h:EndsAt H e j sp js) (h':EndsAt H e' j' sp' js'):j'≠e:=by
 rintro rfl
 have h1:=h.e
 rw [h'.j] at h1
 have h2:=Option.some.inj h1
 injection h2 with h3
 induction js' using List.casesOn with
 | nil=>simp at h3
 | cons a js=>simp at h3
theorem EP.frm {H0 H H':MH} {ε:Ends} {J:Addr→Addr} {ol wl:Addr} (p:EP H0 H ε J ol wl) (f:Frm [ol,wl] H H'):EP H0 H' ε J ol wl :=
 ⟨fun e v h=>by
  have h1:=p.at_ e v h
  obtain ⟨n1,n2,n3,n4,_⟩:=p.ne e v h
  exact ⟨by rw [f e (by rw [h1.e]; exact fun e=>by cases e) (by simp [n1,n2])]; exact h1.e,by rw [f (J e) (by rw [h1.j]; exact fun e=>by cases e) (by simp [n3,n4])]; exact h1.j⟩,p.ne,p.inj⟩
theorem EP.set {H0 H H':MH} {ε:Ends} {J:Addr→Addr} {ol wl e:Addr} {v v':Int×List Nat} (p:EP H0 H ε J ol wl) (he:ε e=some v) (f:Frm [ol,wl,e,J e] H H') (h':EndsAt H' e (J e) v'.1 v'.2):EP H0 H' (updE ε e v') J ol wl:=by
 have dom:∀ x u,updE ε e v' x=some u→∃ u0,ε x=some u0:=fun x u hx=>by
  by_cases hxe:x=e
  ·subst hxe; exact ⟨v,he⟩
  ·rw [updE_other hxe] at hx; exact ⟨u,hx⟩
 refine ⟨fun x u hx=>?_,fun x u hx=>by obtain ⟨u0,h0⟩:=dom x u hx; exact p.ne x u0 h0,fun x y u w hx hy hj=>by obtain ⟨u0,h0⟩:=dom x u hx; obtain ⟨w0,g0⟩:=dom y w hy; exact p.inj x y u0 w0 h0 g0 hj⟩
 by_cases hxe:x=e
 ·subst hxe; rw [updE_self] at hx; cases hx; exact h'
 ·rw [updE_other hxe] at hx
  have h1:=p.at_ x u hx
  have h2:=p.at_ e v he
  obtain ⟨n1,n2,n3,n4,_⟩:=p.ne x u hx
  have c1:J x≠e:=ends_cross h2 h1
  have c2:x≠J e:=Ne.symm (ends_cross h1 h2)
  have c3:J x≠J e:=fun z=>hxe (p.inj x e u v hx he z)
  exact ⟨by rw [f x (by rw [h1.e]; exact fun e=>by cases e) (by simp [n1,n2,hxe,c2])]; exact h1.e,by rw [f (J x) (by rw [h1.j]; exact fun e=>by cases e) (by simp [n3,n4,c1,c3])]; exact h1.j⟩
theorem EP.new {H0 H H':MH} {ε:Ends} {J:Addr→Addr} {ol wl e j:Addr} {v:Int×List Nat} (p:EP H0 H ε J ol wl) (f:Frm [ol,wl] H H') (h':EndsAt H' e j v.1 v.2) (n1:e≠ol) (n2:e≠wl) (n3:j≠ol) (n4:j≠wl) (he:H e=none) (hj:H j=none) (he0:H0 e=none) (hj0:H0 j=none) :
  ε e=none∧EP H0 H' (updE ε e v) (fun x=>if x=e then j else J x) ol wl:=by
 have hno:ε e=none:=by
  induction q:ε e using Option.casesOn with
  | none=>rfl
  | some u=>have:=(p.at_ e u q).e; rw [he] at this; cases this
 have q:=p.frm f
 have hjx:∀ x u,ε x=some u→J x≠j:=fun x u hx z=>by have:=(p.at_ x u hx).j; rw [z,hj] at this; cases this
 refine ⟨hno,fun x u hx=>?_,fun x u hx=>?_,fun x y u w hx hy hjj=>?_⟩
 ·by_cases hxe:x=e
  ·subst hxe; rw [updE_self] at hx; cases hx; simpa using h'
  ·rw [updE_other hxe] at hx; simpa [hxe] using q.at_ x u hx
 ·by_cases hxe:x=e
  ·subst hxe; simp only [if_true]; exact ⟨n1,n2,n3,n4,he0,hj0⟩
  ·rw [updE_other hxe] at hx; simpa [hxe] using p.ne x u hx
 ·by_cases hxe:x=e
  ·by_cases hye:y=e
   ·rw [hxe,hye]
   ·rw [updE_other hye] at hy
    simp only [hxe,hye,if_true,if_false] at hjj
    exact absurd hjj.symm (hjx y w hy)
  ·rw [updE_other hxe] at hx
   by_cases hye:y=e
   ·simp only [hxe,hye,if_true,if_false] at hjj
    exact absurd hjj (hjx x u hx)
   ·rw [updE_other hye] at hy
    simp only [hxe,hye,if_false] at hjj
    exact p.inj x y u w hx hy hjj
section
variable {c:Cx} {prog:Program} {d:Nat} {H:MH} {Q:PV→MH→Prop} {sf dc ol:Addr}
theorem some_ne' {H:MH} {a:Addr} {o:MO} (h:H a=some o):H a≠none:=by rw [h]; exact fun e=>nomatch e
theorem frm_but {H0 H H':MH} {a b:Addr} (f:Frm [a] H0 H) (g:Frm [a,b] H H') (hb:H0 b=none):Frm [a] H0 H':=fun x nx nf=>by
 have e1:=f x nx nf
 have hxb:x≠b:=by rintro rfl; exact nx hb
 rw [g x (by rw [e1]; exact nx) (fun h=>(List.mem_cons.mp h).elim (fun e=>nf (List.mem_singleton.mpr e)) fun h=>hxb (List.mem_singleton.mp h)),e1]
structure G52 (sf dc ol wl:Addr) (F:List Ord) (H:MH) (m:Nat) (H1:MH) (os:List Ord) (Ws:List Wi) (ε:Ends) (J:Addr→Addr):Prop where
 c:CodeAt H1 sf dc ol os
 w:H1 wl=some (.list ((Ws.map encWi).reverse))
 r:Run os Ws ε F m
 ep:EP H H1 ε J ol wl
 f:Frm [ol] H H1
 l:Ws.length≤95000
noncomputable def r52 (sf wl:Addr) (n:Nd) (x3 x4:PV):List PV:=[.ref sf,encN n,.ref wl,x3,x4,.undef,.undef,.undef]
noncomputable def I52 (sf dc ol wl:Addr) (n:Nd) (F:List Ord) (H:MH) (m:Nat) (r:List PV) (H1:MH):Prop:=∃ os Ws ε J x3 x4,G52 sf dc ol wl F H m H1 os Ws ε J∧r=r52 sf wl n x3 x4
theorem I52.of {wl:Addr} {n:Nd} {F os:List Ord} {H1:MH} {k:Nat} {Ws:List Wi} {ε:Ends} {J:Addr→Addr} {x3 x4:PV} (G:G52 sf dc ol wl F H k H1 os Ws ε J):∃ m',m'<k+1∧I52 sf dc ol wl n F H m' (r52 sf wl n x3 x4) H1:=⟨k,Nat.lt_succ_self k,os,Ws,ε,J,x3,x4,G,rfl⟩
noncomputable def wiW:Wi→List Nat
 | .put _=>[112,117,116]
 | .emit _=>[101,109,105,116]
 | .opn _=>[111,112,101,110]
 | .shut _=>[115,104,117,116]
 | .meet _=>[109,101,101,116]
noncomputable def wiT:Wi→PV
 | .put n=>encN n
 | .emit o=>encO o
 | .opn e=>.ref e
 | .shut e=>.ref e
 | .meet e=>.ref e
theorem encWi_t (w:Wi):encWi w=.tup [.str (wiW w),wiT w]:=by induction w using Wi.casesOn <;> rfl
theorem joinN_len3 (n:Nd):(joinN (rowC n)).length≤szN n:=by
 have hjl:∀ (ps acc:List Nd),(ps.foldl joinStep acc).length≤acc.length+ps.length:=by
  intro ps
  induction ps with
  | nil=>intro acc; exact Nat.le_refl _
  | cons p ps ih =>
   intro acc
   have h1:=ih (joinStep acc p)
   have h2:(joinStep acc p).length≤acc.length+1:=by
    unfold joinStep
    split
    ·split
     ·exact Nat.le_succ _
     ·split <;> simp <;> lia
    ·simp
   rw [List.foldl_cons,List.length_cons]; lia
 have hlen:∀ n:Nd,(rowC n).length≤szN n:=by
  intro n
  induction n with
  | cat a b iha ihb=>simp only [rowC_q1,rowC_q2,szN_q1,szN_q2,szN_q3,szN_q4,List.length_append]; lia
  | _=>simp [rowC_q1,rowC_q2,szN_q1,szN_q2,szN_q3,szN_q4]
 have h3:=hjl (rowC n) []
 rw [List.length_nil,Nat.zero_add] at h3
 exact Nat.le_trans h3 (hlen n)
theorem choice_len3 (e:Addr) (n:Nd):(choiceI e (rowA n)).length≤3*szN n:=by
 have h1:∀ ns:List Nd,(choiceI e ns).length≤3*ns.length:=by
  intro ns
  induction ns with
  | nil=>simp [choiceI_q1,choiceI_q2,choiceI_q3]
  | cons n ns ih=>induction ns using List.casesOn with
   | nil=>simp [choiceI_q1,choiceI_q2,choiceI_q3]
   | cons n2 ns=>simp only [choiceI_q1,choiceI_q2,choiceI_q3,List.length_cons] at ih ⊢; lia
 have hlen:∀ n:Nd,(rowA n).length≤szN n:=by
  intro n
  induction n with
  | alt a b iha ihb=>simp only [rowA_q1,rowA_q2,szN_q1,szN_q2,szN_q3,szN_q4,List.length_append]; lia
  | _=>simp [rowA_q1,rowA_q2,szN_q1,szN_q2,szN_q3,szN_q4]
 exact Nat.le_trans (h1 _) (Nat.mul_le_mul_left 3 (hlen n))
section
variable {wl:Addr} {os:List Ord} {Wr:List Wi} {H2:MH} {n:Nd}
theorem x52 (h2:CodeAt H2 sf dc ol os) (hw2:H2 wl=some (.list ((Wr.map encWi).reverse))) (nwo:wl≠ol) (hWl:Wr.length≤95000) {x:Nd} {wd:List Nat} {K:PV→MH→Prop} (P:MH→List Wi→Prop)
  (hbeg:∀ Q:PV→MH→Prop,(∀ H3 bl xs,P H3 xs→H3 bl=some (.list (xs.map encWi))→Frm [ol] H2 H3→xs.length≤3000→Q (.ref bl) H3)→CS c prog (d+3) (.fn 53) [.ref sf,encN x] H2 Q)
  (hk:∀ H3 xs rl,P H3 xs→Frm [ol] H2 H3→H3 rl=none→xs.length≤3000→K .none (upd (upd H3 rl (.list ((xs.map encWi).reverse))) wl (.list (((xs++Wr).map encWi).reverse)))) :
  wpX (CS c prog (d+3)) (.meth (.var 2) 33 (.cons (.slice (.meth (.var 0) 17 (.cons (.var 4) .nil)) (.lit .none) (.lit .none) (.neg (.lit (.int (1))))) .nil)) (r52 sf wl n (.str wd) (encN x)) H2 K:=by
 refine x_meth (x_var rfl (x_listM hw2 (by decide) (xs_cons (x_slice (methB rfl h2 rfl (by decide) (xs_cons (x_var (isU_N x) (xs_nil ?_))))))))
 refine hbeg _ fun H3 bl xs hP hbl f3 hxs=>?_
 refine x_lit (x_lit (x_neg1 (i_slice hbl (show _≤big∧_ from ⟨by rw [List.length_map]; unfold big; lia,?_⟩))))
 intro rl hrl
 have hw3:H3 wl=some (.list ((Wr.map encWi).reverse)):=by rw [f3 wl (some_ne' hw2) (fun e=>nwo (List.mem_singleton.mp e))]; exact hw2
 have nrw:rl≠wl:=ne_of hrl hw3
 have e1:(upd H3 rl (.list ((xs.map encWi).reverse))) wl=some (.list ((Wr.map encWi).reverse)):=by rw [upd_other (Ne.symm nrw)]; exact hw3
 refine xs_nil (o_ext e1 upd_self (by rw [List.length_reverse,List.length_reverse,List.length_map,List.length_map]; unfold big; lia) ?_)
 rw [show (Wr.map encWi).reverse++(xs.map encWi).reverse=((xs++Wr).map encWi).reverse by rw [List.map_append,List.reverse_append]]
 exact hk H3 xs rl hP f3 hrl hxs
theorem f52 {F os':List Ord} {k:Nat} {H3:MH} {xs:List Wi} {rl:Addr} {ε':Ends} {J':Addr→Addr} (hw2:H2 wl=some (.list ((Wr.map encWi).reverse))) (nwo:wl≠ol) (hwl:H wl=none) (f2:Frm [ol] H H2) (hc:CodeAt H3 sf dc ol os') (f3:Frm [ol] H2 H3) (hrl:H3 rl=none) (hep3:EP H H3 ε' J' ol wl) (hrun:Run os' (xs++Wr) ε' F k) (hx:xs.length≤3000) (hW:Wr.length≤90000) :
  G52 sf dc ol wl F H k (upd (upd H3 rl (.list ((xs.map encWi).reverse))) wl (.list (((xs++Wr).map encWi).reverse))) os' (xs++Wr) ε' J':=by
 have hw3:H3 wl=some (.list ((Wr.map encWi).reverse)):=by rw [f3 wl (some_ne' hw2) (fun e=>nwo (List.mem_singleton.mp e))]; exact hw2
 have nrw:rl≠wl:=ne_of hrl hw3
 have nro:rl≠ol:=ne_of hrl hc.o
 have hw4:(upd H3 rl (.list ((xs.map encWi).reverse))) wl=some (.list ((Wr.map encWi).reverse)):=by rw [upd_other (Ne.symm nrw)]; exact hw3
 have hrl2:H2 rl=none:=frm_none f3 hrl (fun e=>nro (List.mem_singleton.mp e))
 have hrl0:H rl=none:=frm_none f2 hrl2 (fun e=>nro (List.mem_singleton.mp e))
 exact ⟨(hc.fresh hrl).list hw4 nwo,upd_self,hrun,hep3.frm (frm_up (Frm.upd (.inr hrl)) (.inl (List.mem_cons_of_mem _ List.mem_cons_self))),frm_up (frm_up (f2.trans f3) (.inr hrl0)) (.inr hwl),by rw [List.length_append]; lia⟩
theorem e52 {H3:MH} {e j:Addr} {v:Int×List Nat} {ε:Ends} {J:Addr→Addr} (h2:CodeAt H2 sf dc ol os) (hw2:H2 wl=some (.list ((Wr.map encWi).reverse))) (f2:Frm [ol] H H2) (ep:EP H H2 ε J ol wl) (f3:Frm [ol] H2 H3) (he:EndsAt H3 e j v.1 v.2) (e0:H2 e=none) (j0:H2 j=none) :
  ε e=none∧EP H H3 (updE ε e v) (fun x=>if x=e then j else J x) ol wl :=
 ep.new (f3.mono fun _ h=>List.mem_cons.mpr (.inl (List.mem_singleton.mp h))) he (ne_of e0 h2.o) (ne_of e0 hw2) (ne_of j0 h2.o) (ne_of j0 hw2) e0 j0 (frm_none f2 e0 fun e=>ne_of e0 h2.o (List.mem_singleton.mp e)) (frm_none f2 j0 fun e=>ne_of j0 h2.o (List.mem_singleton.mp e))
end
theorem s52 (W:Fns c) {n:Nd} {os0 F:List Ord} {k0:Nat} (h0:CodeAt H sf dc ol os0) (hr:Run os0 [.put n] (fun _=>none) F k0) (h:∀ H',CodeAt H' sf dc ol F→Frm [ol] H H'→Q .none H'):CS c prog (d+4) (.fn 52) [.ref sf,encN n] H Q:=by
 refine callB W.X W.f52 (by decide) rfl ?_
 have uN:=isU_N n
 show wpSs _ _ [.ref sf,encN n,.undef,.undef,.undef,.undef,.undef,.undef] _ _
 refine asgW' (viaK (fun K=>∀ wl,H wl=none→K (.ref wl) (upd H wl (.list [encWi (.put n)]))) (fun K k=>by walk_at "mw"; exact k) ?_)
 intro wl hwl
 have nwo:wl≠ol:=ne_of hwl h0.o
 refine whlE (I52 sf dc ol wl n F H)
  ⟨k0,os0,[.put n],fun _=>none,fun x=>x,.undef,.undef,⟨h0.fresh hwl,upd_self,hr,⟨fun e v h=>(by cases h),fun e v h=>(by cases h),fun e e' v v' h=>(by cases h)⟩,frm_up Frm.refl (.inr hwl),show 1≤95000 by decide⟩,rfl⟩ ?_
 clear h0 hr
 intro m r H1 hI
 refine xe6 hI fun os Ws ε J x3 x4 hI'=>cj2 hI' fun G e=>?_
 clear hI hI'
 subst e
 have hWb:((Ws.map encWi).reverse).length≤big:=by rw [List.length_reverse,List.length_map]; exact Nat.le_trans G.l (of_decide_eq_true rfl)
 have hw1:=G.w
 refine ⟨decide (0<Ws.length),fun K k=>by
  unfold r52
  walk_at "mw"
  rw [List.length_reverse,List.length_map]; exact k,?_,?_⟩
 ·intro hpos
  have hpos:=of_decide_eq_true hpos
  rcases Ws with _ | ⟨w,Wr⟩
  ·exact (Nat.not_lt_zero _ hpos).elim
  rw [List.map_cons,List.reverse_cons] at hw1 hWb
  have hpop:∀ (C:Cl) (K:PV→MH→Prop),K (encWi w) (upd H1 wl (.list ((Wr.map encWi).reverse)))→wpX C (.meth (.var 2) 32 .nil) (r52 sf wl n x3 x4) H1 K:=fun C K k=>by
   unfold r52
   walk_at "mw"
   exact k
  have h2:CodeAt (upd H1 wl (.list ((Wr.map encWi).reverse))) sf dc ol os:=G.c.list hw1 nwo
  have hw2:(upd H1 wl (.list ((Wr.map encWi).reverse))) wl=some (.list ((Wr.map encWi).reverse)):=upd_self
  have ep:EP H (upd H1 wl (.list ((Wr.map encWi).reverse))) ε J ol wl:=G.ep.frm (Frm.upd (.inl (List.mem_cons_of_mem _ List.mem_cons_self)))
  have f2:Frm [ol] H (upd H1 wl (.list ((Wr.map encWi).reverse))):=frm_up G.f (.inr hwl)
  have hrun:=G.r
  have hWl:Wr.length≤95000:=Nat.le_trans (Nat.le_succ _) G.l
  refine w_asgT (hpop _ _ ?_)
  clear G hw1 hWb hpop hpos
  rw [encWi_t w]
  refine ⟨rfl,by decide,?_⟩
  show wpSs _ _ (r52 sf wl n (.str (wiW w)) (wiT w)) _ _
  (revert h2 hw2 ep f2; refine genl (upd H1 wl (.list ((Wr.map encWi).reverse))) fun H2 h2 hw2 ep f2=>?_)
  refine xe1 hrun.inv fun k hi0=>cj2 hi0 fun e hi=>?_
  clear hrun hi0
  subst e
  have f23:∀ {H3:MH},Frm [ol] H2 H3→Frm [ol,wl] H2 H3:=fun f=>f.mono fun _ h=>List.mem_cons.mpr (.inl (List.mem_singleton.mp h))
  have wk:∀ {H3:MH},Frm [ol] H2 H3→H3 wl=some (.list ((Wr.map encWi).reverse)):=fun {H3} f3=>by rw [f3 wl (some_ne' hw2) (fun e=>nwo (List.mem_singleton.mp e))]; exact hw2
  induction w using Wi.casesOn with
  | put x =>
   refine ifT (ev_eqT (y:=[112,117,116]) rfl rfl) (exprW ?_)
   induction x using Nd.casesOn with
   | lf l =>
    refine x52 (x:=.lf l) h2 hw2 nwo hWl (fun H3 xs=>xs=[]∧CodeAt H3 sf dc ol (os++[.one l])) (fun Q hQ=>s53l (d:=d) W h2 hi.1 fun H3 bl a b cc dd=>hQ H3 bl [] ⟨rfl,a⟩ b cc (Nat.zero_le _)) (fun H3 xs rl hP f3 hrl hx=>nilW (nilW ?_))
    rw [hP.1] at hx ⊢
    exact I52.of (f52 (ε':=ε) (J':=J) hw2 nwo hwl f2 hP.2 f3 hrl (ep.frm (f23 f3)) hi.2.2 hx hi.2.1)
   | arb =>
    refine x52 (x:=.arb) h2 hw2 nwo hWl (fun H3 xs=>xs=[]∧CodeAt H3 sf dc ol (os++[.ways])) (fun Q hQ=>s53w (d:=d) W h2 hi.1 fun H3 bl a b cc dd=>hQ H3 bl [] ⟨rfl,a⟩ b cc (Nat.zero_le _)) (fun H3 xs rl hP f3 hrl hx=>nilW (nilW ?_))
    rw [hP.1] at hx ⊢
    exact I52.of (f52 (ε':=ε) (J':=J) hw2 nwo hwl f2 hP.2 f3 hrl (ep.frm (f23 f3)) hi.2.2 hx hi.2.1)
   | cat a b =>
    have hjl:(joinN (rowC (.cat a b))).length≤3000:=Nat.le_trans (joinN_len3 _) (Nat.le_trans hi.1 (show 1000≤3000 by decide))
    refine x52 (x:=.cat a b) h2 hw2 nwo hWl (fun H3 xs=>xs=(joinN (rowC (.cat a b))).map .put∧CodeAt H3 sf dc ol os) (fun Q hQ=>s53c (d:=d) W hi.1 hi.2.1 fun H3 bl b cc dd=>hQ H3 bl _ ⟨rfl,h2.frm cc⟩ b (cc.mono fun _ h=>absurd h (List.not_mem_nil)) (by rw [List.length_map]; exact hjl)) (fun H3 xs rl hP f3 hrl hx=>nilW (nilW ?_))
    rw [hP.1] at hx ⊢
    exact I52.of (f52 (ε':=ε) (J':=J) hw2 nwo hwl f2 hP.2 f3 hrl (ep.frm (f23 f3)) hi.2.2.2 hx hi.2.2.1)
   | alt a b =>
    refine x52 (x:=.alt a b) h2 hw2 nwo hWl (fun H3 xs=>∃ e j,xs=choiceI e (rowA (.alt a b))∧CodeAt H3 sf dc ol os∧EndsAt H3 e j (-1) []∧H2 e=none∧H2 j=none) (fun Q hQ=>s53a (d:=d) W h2 hi.1 fun H3 e j bl he b cc e0 j0 w0=>hQ H3 bl _ ⟨e,j,rfl,h2.frm cc,he,e0,j0⟩ b (cc.mono fun _ h=>absurd h (List.not_mem_nil)) (Nat.le_trans (choice_len3 e _) (Nat.mul_le_mul_left 3 hi.1:_≤3*1000))) (fun H3 xs rl hP f3 hrl hx=>nilW (nilW ?_))
    refine xe2 hP fun e j hP=>cj5 hP fun ex hc he e0 j0=>cj2 (e52 (v:=(-1,[])) h2 hw2 f2 ep f3 he e0 j0) fun hno hep3=>?_
    rw [ex] at hx ⊢
    exact I52.of (f52 hw2 nwo hwl f2 hc f3 hrl hep3 (hi.2.2 e hno) hx hi.2.1)
   | arbno a =>
    refine x52 (x:=.arbno a) h2 hw2 nwo hWl (fun H3 xs=>∃ e j,xs=[.put a,.emit .gain,.emit (.jump os.length),.meet e]∧CodeAt H3 sf dc ol (os++[.split (os.length+2),.hole,.mark])∧EndsAt H3 e j os.length [os.length+1]∧H2 e=none∧H2 j=none) (fun Q hQ=>s53o (d:=d) W h2 hi.1 fun H3 e j bl hc he b cc e0 j0 w0=>hQ H3 bl _ ⟨e,j,rfl,hc,he,e0,j0⟩ b cc (of_decide_eq_true rfl)) (fun H3 xs rl hP f3 hrl hx=>nilW (nilW ?_))
    refine xe2 hP fun e j hP=>cj5 hP fun ex hc he e0 j0=>cj2 (e52 (v:=(os.length,[os.length+1])) h2 hw2 f2 ep f3 he e0 j0) fun hno hep3=>?_
    rw [ex] at hx ⊢
    exact I52.of (f52 hw2 nwo hwl f2 hc f3 hrl hep3 (hi.2.2 e hno) hx hi.2.1)
  | emit o =>
   refine ifE (ev_eqF (y:=[101,109,105,116]) rfl (by decide)) (ifT (ev_eqT (y:=[101,109,105,116]) rfl rfl) (exprW (emitX (d:=d+2) W rfl h2 (by have:=hi.1; lia) (fun C=>ev_var rfl (isU_O o)) (nilW (nilW (nilW ?_))))))
   exact I52.of ⟨h2.put,by rw [upd_other nwo]; exact hw2,hi.2.2,ep.frm (Frm.upd (.inl List.mem_cons_self)),frm_up f2 (.inl List.mem_cons_self),hWl⟩
  | opn e =>
   refine xe2 hi fun _ _ hi=>cj4 hi fun hl hW he hr=>?_
   have ne:=ep.ne e _ he
   refine ifE (ev_eqF (y:=[111,112,101,110]) rfl (by decide)) (ifE (ev_eqF (y:=[111,112,101,110]) rfl (by decide)) (exprW (methB rfl h2 rfl (by decide) (xs_cons (x_var rfl (xs_cons (x_var rfl (xs_nil ?_))))))))
   refine s56o (d:=d+1) W h2 (ep.at_ e _ he) ne.1 (by lia) (fun H3 hc he3 f3=>nilW (nilW (nilW ?_))) ne.2.2.1
   exact I52.of ⟨hc,by rw [f3 wl (some_ne' hw2) (by simp [nwo,Ne.symm ne.2.1])]; exact hw2,hr,ep.set he (f3.mono (by simp)) he3,frm_but f2 f3 ne.2.2.2.2.1,hWl⟩
  | shut e =>
   refine xe2 hi fun _ _ hi=>cj6 hi fun hl hW he hsp hjl hr=>?_
   have ne:=ep.ne e _ he
   refine ifE (ev_eqF (y:=[115,104,117,116]) rfl (by decide)) (ifE (ev_eqF (y:=[115,104,117,116]) rfl (by decide)) (exprW (methB rfl h2 rfl (by decide) (xs_cons (x_var rfl (xs_cons (x_var rfl (xs_nil ?_))))))))
   refine s56s (d:=d+1) W h2 (ep.at_ e _ he) ne.1 ne.2.2.1 (by lia) hsp hjl (fun H3 hc he3 f3=>nilW (nilW (nilW ?_)))
   exact I52.of ⟨hc,by rw [f3 wl (some_ne' hw2) (by simp [nwo,Ne.symm ne.2.2.2.1])]; exact hw2,hr,ep.set he (f3.mono (by simp)) he3,frm_but f2 f3 ne.2.2.2.2.2,hWl⟩
  | meet e =>
   refine xe2 hi fun _ _ hi=>cj6 hi fun hl hW he hjl hjs hr=>?_
   have ne:=ep.ne e _ he
   refine ifE (ev_eqF (y:=[109,101,101,116]) rfl (by decide)) (ifE (ev_eqF (y:=[109,101,101,116]) rfl (by decide)) (exprW (methB rfl h2 rfl (by decide) (xs_cons (x_var rfl (xs_cons (x_var rfl (xs_nil ?_))))))))
   refine s56m (d:=d+1) W h2 (ep.at_ e _ he) ne.1 ne.2.2.1 (by lia) hjl hjs (fun H3 hc f3=>nilW (nilW (nilW ?_)))
   exact I52.of ⟨hc,wk f3,hr,ep.frm (f23 f3),f2.trans f3,hWl⟩
 ·intro hz
  have hz:=of_decide_eq_false hz
  rcases Ws with _ | ⟨w,Wr⟩
  ·exact nilW (h H1 (by rw [G.r.invN]; exact G.c) G.f)
  ·exact (hz (Nat.succ_pos _)).elim
end
noncomputable def seqG (g:Nd→Nat→List Ord):List Nd→Nat→List Ord
 | [],_=>[]
 | n::ns,b=>g n b++seqG g ns (b+(g n b).length)
theorem seqG_q1:∀ (g:Nd→Nat→List Ord) (x:Nat),seqG g [] x=[]:=by intros; rfl
theorem seqG_q2:∀ (g:Nd→Nat→List Ord) (x:Nat) (n:Nd) (ns:List Nd),seqG g (n::ns) x=g n x++seqG g ns (x+List.length (g n x)):=by intros; rfl
noncomputable def altX (g:Nd→Nat→List Ord) (o:Ord):List Nd→Nat→List Ord
 | [],_=>[]
 | [n],b=>g n b
 | n::ns,b=>.split (b+1+(g n (b+1)).length+1)::(g n (b+1)++o::altX g o ns (b+1+(g n (b+1)).length+1))
theorem altX_q1:∀ (g:Nd→Nat→List Ord) (o:Ord) (x:Nat),altX g o [] x=[]:=by intros; rfl
theorem altX_q2:∀ (g:Nd→Nat→List Ord) (o:Ord) (x:Nat) (n:Nd),altX g o [n] x=g n x:=by intros; rfl
theorem altX_q3:∀ (g:Nd→Nat→List Ord) (o:Ord) (x:Nat) (n:Nd) (ns:List Nd),(ns=[]→False)→altX g o (n::ns) x=Ord.split (x+1+List.length (g n (x+1))+1)::(g n (x+1)++o::altX g o ns (x+1+List.length (g n (x+1))+1)):=by intros; rename_i ns h; rcases ns with _ | ⟨_,_⟩ <;> first | exact (h rfl).elim | rfl
noncomputable def slots (g:Nd→Nat→List Ord):List Nd→Nat→List Nat
 | [],_=>[]
 | [_],_=>[]
 | n::ns,b=>(b+1+(g n (b+1)).length)::slots g ns (b+1+(g n (b+1)).length+1)
theorem slots_q1:∀ (g:Nd→Nat→List Ord) (x:Nat),slots g [] x=[]:=by intros; rfl
theorem slots_q2:∀ (g:Nd→Nat→List Ord) (x:Nat) (n:Nd),slots g [n] x=[]:=by intros; rfl
theorem slots_q3:∀ (g:Nd→Nat→List Ord) (x:Nat) (n:Nd) (ns:List Nd),(ns=[]→False)→slots g (n::ns) x=(x+1+List.length (g n (x+1)))::slots g ns (x+1+List.length (g n (x+1))+1):=by intros; rename_i ns h; rcases ns with _ | ⟨_,_⟩ <;> first | exact (h rfl).elim | rfl
noncomputable def gen:Nat→Nd→Nat→List Ord
 | 0,_,_=>[]
 | f+1,n,b=>match n with
  | .lf l=>[.one l]
  | .arb=>[.ways]
  | .cat x y=>seqG (gen f) (joinN (rowC (.cat x y))) b
  | .alt x y=>altX (gen f) (.jump (b+(altX (gen f) .hole (rowA (.alt x y)) b).length)) (rowA (.alt x y)) b
  | .arbno a=>.split (b+2)::.jump (b+3+(gen f a (b+3)).length+2)::.mark::(gen f a (b+3)++[.gain,.jump b])
theorem gen_q1:∀ (x:Nd) (x_1:Nat),gen 0 x x_1=[]:=by intros; rfl
theorem gen_q2:∀ (x f:Nat) (l:Lf),gen (f+1) (Nd.lf l) x=[Ord.one l]:=by intros; rfl
theorem gen_q3:∀ (x f:Nat),gen (f+1) Nd.arb x=[Ord.ways]:=by intros; rfl
theorem gen_q4:∀ (x f:Nat) (a b:Nd),gen (f+1) (Nd.cat a b) x=seqG (gen f) (joinN (rowC (Nd.cat a b))) x:=by intros; rfl
theorem gen_q5:∀ (x f:Nat) (a b:Nd),gen (f+1) (Nd.alt a b) x=altX (gen f) (Ord.jump (x+List.length (altX (gen f) Ord.hole (rowA (Nd.alt a b)) x))) (rowA (Nd.alt a b)) x:=by intros; rfl
theorem gen_q6:∀ (x f:Nat) (a:Nd),gen (f+1) (Nd.arbno a) x=Ord.split (x+2)::Ord.jump (x+3+List.length (gen f a (x+3))+2)::Ord.mark::(gen f a (x+3)++[Ord.gain,Ord.jump x]):=by intros; rfl
noncomputable def altS (g:Nd→Nat):List Nd→Nat
 | []=>0
 | [n]=>g n+1
 | n::ns=>1+g n+1+altS g ns
theorem altS_q2:∀ (g:Nd→Nat) (n:Nd),altS g [n]=g n+1:=by intros; rfl
theorem altS_q3:∀ (g:Nd→Nat) (n:Nd) (ns:List Nd),(ns=[]→False)→altS g (n::ns)=1+g n+1+altS g ns:=by intros; rename_i ns h; rcases ns with _ | ⟨_,_⟩ <;> first | exact (h rfl).elim | rfl
noncomputable def stN:Nat→Nd→Nat
 | 0,_=>0
 | f+1,n=>match n with
  | .lf _=>1
  | .arb=>1
  | .cat x y=>1+((joinN (rowC (.cat x y))).map (stN f)).sum
  | .alt x y=>altS (stN f) (rowA (.alt x y))+1
  | .arbno a=>1+stN f a+3
theorem stN_q4:∀ (f:Nat) (a b:Nd),stN (f+1) (Nd.cat a b)=1+List.sum (List.map (stN f) (joinN (rowC (Nd.cat a b)))):=by intros; rfl
theorem stN_q5:∀ (f:Nat) (a b:Nd),stN (f+1) (Nd.alt a b)=altS (stN f) (rowA (Nd.alt a b))+1:=by intros; rfl
theorem stN_q6:∀ (f:Nat) (a:Nd),stN (f+1) (Nd.arbno a)=1+stN f a+3:=by intros; rfl
theorem altX_len (g:Nd→Nat→List Ord) (o o':Ord):∀ ns b,(altX g o ns b).length=(altX g o' ns b).length
 | [],_=>rfl
 | [n],_=>rfl
 | n::m::ns,b=>by
  simp only [altX_q1,altX_q2,altX_q3,List.length_cons,List.length_append]
  rw [altX_len g o o' (m::ns)]
theorem fill_ok (g:Nd→Nat→List Ord) (L:Nat):∀ (ns:List Nd) (O:List Ord),(slots g ns O.length).foldl (fun z a=>z.set a (.jump L)) (O++altX g .hole ns O.length)=O++altX g (.jump L) ns O.length
 | [],O=>rfl
 | [n],O=>rfl
 | n::m::ns,O=>by
  simp only [slots_q1,slots_q2,slots_q3,altX_q1,altX_q2,altX_q3,List.foldl_cons]
  have h:=fill_ok g L (m::ns) (O++Ord.split (O.length+1+(g n (O.length+1)).length+1)::(g n (O.length+1)++[Ord.jump L]))
  have hl:(O++Ord.split (O.length+1+(g n (O.length+1)).length+1)::(g n (O.length+1)++[Ord.jump L])).length=O.length+1+(g n (O.length+1)).length+1:=by
   simp only [List.length_append,List.length_cons,List.length_nil]; lia
  rw [hl] at h
  have e:(O++Ord.split (O.length+1+(g n (O.length+1)).length+1)::(g n (O.length+1)++.hole::altX g .hole (m::ns) (O.length+1+(g n (O.length+1)).length+1))).set (O.length+1+(g n (O.length+1)).length) (.jump L) =
    (O++.split (O.length+1+(g n (O.length+1)).length+1)::(g n (O.length+1)++[.jump L]))++altX g .hole (m::ns) (O.length+1+(g n (O.length+1)).length+1):=by
   have e2:O.length+1+(g n (O.length+1)).length=(O++Ord.split (O.length+1+(g n (O.length+1)).length+1)::g n (O.length+1)).length:=by
    simp only [List.length_append,List.length_cons]; lia
   have e3:O++Ord.split (O.length+1+(g n (O.length+1)).length+1)::(g n (O.length+1)++.hole::altX g .hole (m::ns) (O.length+1+(g n (O.length+1)).length+1)) =
     (O++.split (O.length+1+(g n (O.length+1)).length+1)::g n (O.length+1))++.hole::altX g .hole (m::ns) (O.length+1+(g n (O.length+1)).length+1):=by simp
   rw [e3]
   conv=>lhs; rw [List.set_append_right _ _ (by rw [← e2]; exact Nat.le_refl _)]
   rw [← e2,Nat.sub_self]
   simp
  rw [e,h]
  simp
theorem Run.mono {os:List Ord} {W:List Wi} {ε ε':Ends} {F:List Ord} {k:Nat} (r:Run os W ε F k) (h:∀ e v,ε e=some v→ε' e=some v):Run os W ε' F k:=by
 have up:∀ {ε ε':Ends} {e:Addr} {v:Int×List Nat},(∀ e v,ε e=some v→ε' e=some v)→∀ x u,updE ε e v x=some u→updE ε' e v x=some u:=fun {ε ε' e v} h x u hx=>by
  by_cases hxe:x=e
  ·subst hxe; rw [updE_self] at hx ⊢; exact hx
  ·rw [updE_other hxe] at hx ⊢; exact h x u hx
 have no:∀ {ε ε':Ends},(∀ e v,ε e=some v→ε' e=some v)→∀ e,ε' e=none→ε e=none:=fun {ε ε'} h e he=>by
  rcases q:ε e with _ | v
  ·rfl
  ·rw [h e v q] at he; cases he
 induction k generalizing os W ε ε' with
 | zero=>exact r
 | succ k ih =>
  refine xe2 r fun w W' q=>⟨w,W',q.1,?_⟩
  replace r:RunI os ε F k w W':=q.2
  clear q
  show RunI os ε' F k w W'
  induction w using Wi.casesOn with
  | put n =>
   induction n using Nd.casesOn with
   | lf l=>exact ⟨r.1,r.2.1,ih r.2.2 h⟩
   | arb=>exact ⟨r.1,r.2.1,ih r.2.2 h⟩
   | cat a b=>exact ⟨r.1,r.2.1,r.2.2.1,ih r.2.2.2 h⟩
   | alt a b=>exact ⟨r.1,r.2.1,fun e he=>ih (r.2.2 e (no h e he)) (up h)⟩
   | arbno a=>exact ⟨r.1,r.2.1,fun e he=>ih (r.2.2 e (no h e he)) (up h)⟩
  | emit o=>exact ⟨r.1,r.2.1,ih r.2.2 h⟩
  | opn e=>exact xe2 r fun sp js r=>⟨sp,js,r.1,r.2.1,h _ _ r.2.2.1,ih r.2.2.2 (up h)⟩
  | shut e=>exact xe2 r fun sp js r=>⟨sp,js,r.1,r.2.1,h _ _ r.2.2.1,r.2.2.2.1,r.2.2.2.2.1,ih r.2.2.2.2.2 (up h)⟩
  | meet e=>exact xe2 r fun sp js r=>⟨sp,js,r.1,r.2.1,h _ _ r.2.2.1,r.2.2.2.1,r.2.2.2.2.1,ih r.2.2.2.2.2 h⟩
noncomputable def okP:Nd→Prop
 | .lf _=>True
 | .arb=>True
 | .cat a b=>szN (.cat a b)≤1000∧(∀ m∈rowC (.cat a b),txtN m≤10)∧okP a∧okP b
 | .alt a b=>szN (.alt a b)≤1000∧okP a∧okP b
 | .arbno a=>okP a
theorem okP_rowC:∀ {n:Nd},okP n→∀ m∈rowC n,okP m∧dpt m≤dpt n
 | .lf l,h,m,hm=>by obtain rfl:=List.mem_singleton.mp hm; exact ⟨h,Nat.le_refl _⟩
 | .arb,h,m,hm=>by obtain rfl:=List.mem_singleton.mp hm; exact ⟨h,Nat.le_refl _⟩
 | .alt a b,h,m,hm=>by obtain rfl:=List.mem_singleton.mp hm; exact ⟨h,Nat.le_refl _⟩
 | .arbno a,h,m,hm=>by obtain rfl:=List.mem_singleton.mp hm; exact ⟨h,Nat.le_refl _⟩
 | .cat a b,h,m,hm=>by
  rcases List.mem_append.mp hm with hm | hm
  ·have:=okP_rowC h.2.2.1 m hm; exact ⟨this.1,by simp only [dpt_q1,dpt_q2,dpt_q3,dpt_q4,dpt_q5]; lia⟩
  ·have:=okP_rowC h.2.2.2 m hm; exact ⟨this.1,by simp only [dpt_q1,dpt_q2,dpt_q3,dpt_q4,dpt_q5]; lia⟩
theorem okP_rowA:∀ {n:Nd},okP n→∀ m∈rowA n,okP m∧dpt m≤dpt n
 | .lf l,h,m,hm=>by obtain rfl:=List.mem_singleton.mp hm; exact ⟨h,Nat.le_refl _⟩
 | .arb,h,m,hm=>by obtain rfl:=List.mem_singleton.mp hm; exact ⟨h,Nat.le_refl _⟩
 | .cat a b,h,m,hm=>by obtain rfl:=List.mem_singleton.mp hm; exact ⟨h,Nat.le_refl _⟩
 | .arbno a,h,m,hm=>by obtain rfl:=List.mem_singleton.mp hm; exact ⟨h,Nat.le_refl _⟩
 | .alt a b,h,m,hm=>by
  rcases List.mem_append.mp hm with hm | hm
  ·have:=okP_rowA h.2.1 m hm; exact ⟨this.1,by simp only [dpt_q1,dpt_q2,dpt_q3,dpt_q4,dpt_q5]; lia⟩
  ·have:=okP_rowA h.2.2 m hm; exact ⟨this.1,by simp only [dpt_q1,dpt_q2,dpt_q3,dpt_q4,dpt_q5]; lia⟩
theorem cat_parts {a b:Nd} (h:okP (.cat a b)):∀ m∈joinN (rowC (.cat a b)),okP m∧dpt m≤max (dpt a) (dpt b):=by
 have hr:∀ m∈rowC (.cat a b),okP m∧dpt m≤max (dpt a) (dpt b):=fun m hm=>by
  rcases List.mem_append.mp hm with hm | hm
  ·have:=okP_rowC h.2.2.1 m hm; exact ⟨this.1,by lia⟩
  ·have:=okP_rowC h.2.2.2 m hm; exact ⟨this.1,by lia⟩
 have go:∀ (ps acc:List Nd),(∀ m∈acc,okP m∧dpt m≤max (dpt a) (dpt b))→(∀ m∈ps,okP m∧dpt m≤max (dpt a) (dpt b))→∀ m∈ps.foldl joinStep acc,okP m∧dpt m≤max (dpt a) (dpt b):=by
  intro ps
  induction ps with
  | nil=>intro acc ha _; exact ha
  | cons p ps ih =>
   intro acc ha hp
   refine ih _ (fun m hm=>?_) fun m hm=>hp m (List.mem_cons_of_mem _ hm)
   have hpp:=hp p List.mem_cons_self
   unfold joinStep at hm
   split at hm
   ·split at hm
    ·exact ha m hm
    ·split at hm
     ·rcases List.mem_append.mp hm with hm | hm
      ·exact ha m (List.dropLast_subset _ hm)
      ·obtain rfl:=List.mem_singleton.mp hm; exact ⟨trivial,Nat.zero_le _⟩
     ·rcases List.mem_append.mp hm with hm | hm
      ·exact ha m hm
      ·obtain rfl:=List.mem_singleton.mp hm; exact ⟨trivial,Nat.zero_le _⟩
   ·rcases List.mem_append.mp hm with hm | hm
    ·exact ha m hm
    ·obtain rfl:=List.mem_singleton.mp hm; exact hpp
 exact go _ [] (fun m hm=>by cases hm) hr
theorem alt_parts {a b:Nd} (h:okP (.alt a b)):∀ m∈rowA (.alt a b),okP m∧dpt m≤max (dpt a) (dpt b):=fun m hm=>by
 rcases List.mem_append.mp hm with hm | hm
 ·have:=okP_rowA h.2.1 m hm; exact ⟨this.1,by lia⟩
 ·have:=okP_rowA h.2.2 m hm; exact ⟨this.1,by lia⟩
theorem joinN_len (ps:List Nd):(joinN ps).length≤ps.length:=by
 have hjl:∀ (ps acc:List Nd),(ps.foldl joinStep acc).length≤acc.length+ps.length:=by
  intro ps
  induction ps with
  | nil=>intro acc; simp
  | cons p ps ih =>
   intro acc
   have h1:=ih (joinStep acc p)
   have h2:(joinStep acc p).length≤acc.length+1:=by
    unfold joinStep
    split
    ·split
     ·lia
     ·split <;> simp <;> lia
    ·simp
   rw [List.foldl_cons,List.length_cons]; lia
 have:=hjl ps []
 simpa [joinN] using this
theorem rowC_len:∀ n:Nd,(rowC n).length≤szN n:=by
 intro n
 induction n with
 | cat a b iha ihb=>simp only [rowC_q1,rowC_q2,szN_q1,szN_q2,szN_q3,szN_q4,List.length_append]; lia
 | _=>simp [rowC_q1,rowC_q2,szN_q1,szN_q2,szN_q3,szN_q4]
theorem rowA_len:∀ n:Nd,(rowA n).length≤szN n:=by
 intro n
 induction n with
 | alt a b iha ihb=>simp only [rowA_q1,rowA_q2,szN_q1,szN_q2,szN_q3,szN_q4,List.length_append]; lia
 | _=>simp [rowA_q1,rowA_q2,szN_q1,szN_q2,szN_q3,szN_q4]
theorem rowA_ne:∀ n:Nd,rowA n≠[]:=by
 intro n
 induction n with
 | alt a b iha ihb=>simp [rowA_q1,rowA_q2,iha]
 | _=>simp [rowA_q1,rowA_q2]
noncomputable def PutOk (f:Nat) (n:Nd):Prop:=∀ (O:List Ord) (W:List Wi) (ε:Ends) (F:List Ord) (k:Nat),W.length+(dpt n+1)*4000≤90000→O.length+(gen f n O.length).length≤99000→Run (O++gen f n O.length) W ε F k→Run O (.put n::W) ε F (k+stN f n)
theorem seqPut {f D:Nat}:∀ (ps:List Nd) (O:List Ord) (W:List Wi) (ε:Ends) (F:List Ord) (k:Nat),(∀ p∈ps,PutOk f p∧dpt p≤D)→W.length+ps.length+(D+1)*4000≤90000→O.length+(seqG (gen f) ps O.length).length≤99000→Run (O++seqG (gen f) ps O.length) W ε F k→Run O (ps.map .put++W) ε F (k+(ps.map (stN f)).sum):=by
 intro ps
 induction ps with
 | nil=>intro O W ε F k _ _ _ r; simpa [seqG_q1,seqG_q2] using r
 | cons p ps ih =>
  intro O W ε F k hp hW hO r
  simp only [seqG_q1,seqG_q2,List.length_append] at hO
  have hpp:=hp p List.mem_cons_self
  have r':Run ((O++gen f p O.length)++seqG (gen f) ps (O++gen f p O.length).length) W ε F k:=by
   rw [List.length_append,List.append_assoc]; exact r
  simp only [List.length_cons] at hW
  have r2:=ih (O++gen f p O.length) W ε F k (fun q hq=>hp q (List.mem_cons_of_mem _ hq)) (by lia) (by simp only [List.length_append]; lia) r'
  have r3:=hpp.1 O (ps.map .put++W) ε F _ (by simp only [List.length_append,List.length_map]; have:=hpp.2; lia) (by lia) r2
  simp only [List.map_cons,List.sum_cons]
  rw [show k+(stN f p+(ps.map (stN f)).sum)=k+(ps.map (stN f)).sum+stN f p by lia]
  exact r3
theorem updE_same {ε:Ends} {e:Addr} {v u:Int×List Nat}:updE (updE ε e v) e u=updE ε e u:=by
 funext x
 by_cases h:x=e
 ·subst h; rw [updE_self,updE_self]
 ·rw [updE_other h,updE_other h,updE_other h]
theorem altPut {f D:Nat} {e:Addr}:∀ (ns:List Nd) (O:List Ord) (W:List Wi) (ε:Ends) (F:List Ord) (k:Nat) (sp:Int) (js:List Nat),ns≠[]→ε e=some (sp,js)→(∀ p∈ns,PutOk f p∧dpt p≤D)→W.length+3*ns.length+3+(D+1)*4000≤90000→O.length+(altX (gen f) .hole ns O.length).length≤99000→js.length+ns.length≤9000 →
  (∀ sp',Run (O++altX (gen f) .hole ns O.length) (.meet e::W) (updE ε e (sp',js++slots (gen f) ns O.length)) F k)→Run O (choiceI e ns++W) ε F (k+(altS (stN f) ns - 1)):=by
 intro ns
 induction ns with
 | nil=>intro _ _ _ _ _ _ _ h; exact absurd rfl h
 | cons n ns ih =>
  induction ns using List.casesOn with
  | nil =>
  intro O W ε F k sp js _ he hn hW hO _ r
  have r1:=r sp
  simp only [slots_q1,slots_q2,slots_q3,List.append_nil] at r1
  have r2:=r1.mono (ε':=ε) fun x u hx=>by
   by_cases h:x=e
   ·subst h; rw [updE_self] at hx; rw [he]; exact hx
   ·rw [updE_other h] at hx; exact hx
  have:=hn n List.mem_cons_self
  have r3:=this.1 O (.meet e::W) ε F k (by simp only [List.length_cons,List.length_nil] at hW ⊢; have:=this.2; lia) hO r2
  simp only [altS_q2,altS_q3,choiceI_q1,choiceI_q2,choiceI_q3]
  exact r3
  | cons m ns =>
  intro O W ε F k sp js _ he hn hW hO hj r
  have hnn:=hn n List.mem_cons_self
  simp only [altX_q1,altX_q2,altX_q3,List.length_cons,List.length_append] at hO
  simp only [List.length_cons] at hW hj
  have hl2:(O++Ord.split (O.length+1+(gen f n (O.length+1)).length+1)::(gen f n (O.length+1)++[Ord.hole])).length=O.length+1+(gen f n (O.length+1)).length+1:=by
   simp only [List.length_append,List.length_cons,List.length_nil,Nat.zero_add] at *; lia
  have r2:=ih (O++Ord.split (O.length+1+(gen f n (O.length+1)).length+1)::(gen f n (O.length+1)++[Ord.hole])) W (updE ε e ((O.length:Nat),js++[O.length+1+(gen f n (O.length+1)).length])) F k (O.length:Nat) (js++[O.length+1+(gen f n (O.length+1)).length]) (by simp) updE_self
   (fun p hp=>hn p (List.mem_cons_of_mem _ hp)) (by simp only [List.length_cons]; lia) (by simp only [hl2]; lia) (by simp only [List.length_append,List.length_cons,List.length_nil,Nat.zero_add] at *; lia) fun sp'=>by
    have:=r sp'
    rw [updE_same,hl2]
    simp only [slots_q1,slots_q2,slots_q3,altX_q1,altX_q2,altX_q3] at this
    simpa using this
  have hO1:(O++Ord.hole::gen f n (O.length+1)).length=O.length+1+(gen f n (O.length+1)).length:=by
   simp only [List.length_append,List.length_cons]; lia
  have r3:Run (O++Ord.hole::gen f n (O.length+1)) (.shut e::(choiceI e (m::ns)++W)) (updE ε e ((O.length:Nat),js)) F (k+(altS (stN f) (m::ns) - 1)+1):=by
   refine .shut (by simp only [hO1]; lia) ?_ updE_self (by simp only [hO1]; lia) (by lia) ?_
   ·have h1:∀ ns:List Nd,(choiceI e ns).length≤3*ns.length:=by
     intro ns
     induction ns with
     | nil=>simp [choiceI_q1,choiceI_q2,choiceI_q3]
     | cons n ns ih=>induction ns using List.casesOn with
      | nil=>simp [choiceI_q1,choiceI_q2,choiceI_q3]
      | cons n2 ns=>simp only [choiceI_q1,choiceI_q2,choiceI_q3,List.length_cons] at ih ⊢; lia
    have:=h1 (m::ns)
    simp only [List.length_append]
    simp only [List.length_cons] at this
    lia
   ·rw [updE_same,hO1]
    have e1:((O++Ord.hole::gen f n (O.length+1))++[Ord.hole]).set O.length (.split (O.length+1+(gen f n (O.length+1)).length+1))=O++Ord.split (O.length+1+(gen f n (O.length+1)).length+1)::(gen f n (O.length+1)++[Ord.hole]):=by
     rw [List.append_assoc,List.set_append_right _ _ (Nat.le_refl _),Nat.sub_self]
     simp
    rw [e1]
    exact r2
  have e2:O++Ord.hole::gen f n (O.length+1)=(O++[Ord.hole])++gen f n (O++[Ord.hole]).length:=by simp
  rw [e2] at r3
  have hcl:(choiceI e (m::ns)).length≤3*(m::ns).length:=by
   have h1:∀ ns:List Nd,(choiceI e ns).length≤3*ns.length:=by
    intro ns
    induction ns with
    | nil=>simp [choiceI_q1,choiceI_q2,choiceI_q3]
    | cons n ns ih=>induction ns using List.casesOn with
     | nil=>simp [choiceI_q1,choiceI_q2,choiceI_q3]
     | cons n2 ns=>simp only [choiceI_q1,choiceI_q2,choiceI_q3,List.length_cons] at ih ⊢; lia
   exact h1 _
  simp only [List.length_cons] at hcl
  have r4:=hnn.1 (O++[Ord.hole]) (.shut e::(choiceI e (m::ns)++W)) _ F _ (by simp only [List.length_cons,List.length_append]; have:=hnn.2; lia) (by simp only [List.length_append,List.length_cons,List.length_nil,Nat.zero_add] at *; lia) r3
  have r5:Run O (.opn e::.put n::.shut e::(choiceI e (m::ns)++W)) ε F (k+(altS (stN f) (m::ns) - 1)+1+stN f n+1) :=
   .opn (by lia) (by simp only [List.length_cons,List.length_append]; lia) he r4
  have e3:k+(altS (stN f) (n::m::ns) - 1)=k+(altS (stN f) (m::ns) - 1)+1+stN f n+1:=by
   have:1≤altS (stN f) (m::ns):=by cases ns <;> simp [altS_q2,altS_q3] <;> lia
   simp only [altS_q2,altS_q3] at this ⊢
   lia
  rw [e3]
  exact r5
theorem putAll:∀ (f:Nat) (n:Nd),dpt n<f→okP n→PutOk f n:=by
 intro f
 induction f with
 | zero=>intro n h _; lia
 | succ f ihf =>
  intro n hd hok
  intro O W ε F k hW hO r
  have hW2:W.length≤90000:=Nat.le_trans (Nat.le_add_right _ _) hW
  induction n using Nd.casesOn with
  | lf l=>exact .leaf (by simp only [gen_q1,gen_q2,gen_q3,gen_q4,gen_q5,gen_q6,List.length_cons,List.length_nil] at hO; clear hW; lia) hW2 r
  | arb=>exact .arb (by simp only [gen_q1,gen_q2,gen_q3,gen_q4,gen_q5,gen_q6,List.length_cons,List.length_nil] at hO; clear hW; lia) hW2 r
  | cat a b =>
   simp only [dpt_q1,dpt_q2,dpt_q3,dpt_q4,dpt_q5] at hd hW
   have hparts:=cat_parts hok
   have hl1:=joinN_len (rowC (.cat a b))
   have hl2:=rowC_len (.cat a b)
   have hs:=hok.1
   have r2:=seqPut (f:=f) (D:=max (dpt a) (dpt b)) (joinN (rowC (.cat a b))) O W ε F k (fun p hp=>⟨ihf p (by have:=(hparts p hp).2; lia) (hparts p hp).1,(hparts p hp).2⟩) (by lia) hO r
   have r3:Run O (.put (.cat a b)::W) ε F (k+((joinN (rowC (.cat a b))).map (stN f)).sum+1):=.cat hok.1 hok.2.1 (by lia) r2
   simp only [stN_q4,stN_q5,stN_q6]
   rw [show k+(1+((joinN (rowC (.cat a b))).map (stN f)).sum)=k+((joinN (rowC (.cat a b))).map (stN f)).sum+1 by lia]
   exact r3
  | alt a b =>
   simp only [dpt_q1,dpt_q2,dpt_q3,dpt_q4,dpt_q5] at hd hW
   have hparts:=alt_parts hok
   have hl2:=rowA_len (.alt a b)
   have hs:=hok.1
   have hpos:1≤altS (stN f) (rowA (.alt a b)):=by
    have:=rowA_ne (.alt a b)
    induction h:rowA (.alt a b) using List.casesOn with
    | nil=>exact absurd h this
    | cons n ns=>cases ns <;> simp [altS_q2,altS_q3] <;> lia
   have r3:Run O (.put (.alt a b)::W) ε F (k+1+(altS (stN f) (rowA (.alt a b)) - 1)+1):=by
    refine .alt hok.1 (by lia) fun e he=>?_
    have hlen:(gen (f+1) (.alt a b) O.length).length=(altX (gen f) .hole (rowA (.alt a b)) O.length).length:=altX_len _ _ _ _ _
    rw [hlen] at hO
    refine altPut (f:=f) (D:=max (dpt a) (dpt b)) (rowA (.alt a b)) O W _ F (k+1) (-1) [] (rowA_ne _) updE_self (fun p hp=>⟨ihf p (by have:=(hparts p hp).2; lia) (hparts p hp).1,(hparts p hp).2⟩) (by lia) hO (by simp; lia) fun sp'=>?_
    rw [updE_same,List.nil_append]
    have hsl:∀ (ns:List Nd) (b:Nat),(slots (gen f) ns b).length≤ns.length∧∀ x∈slots (gen f) ns b,b≤x∧x<b+(altX (gen f) .hole ns b).length:=by
     intro ns
     induction ns with
     | nil=>intro b; exact ⟨by simp [slots_q1,slots_q2,slots_q3],fun x hx=>by simp [slots_q1,slots_q2,slots_q3] at hx⟩
     | cons n ns ih=>induction ns using List.casesOn with
      | nil=>intro b; exact ⟨by simp [slots_q1,slots_q2,slots_q3],fun x hx=>by simp [slots_q1,slots_q2,slots_q3] at hx⟩
      | cons m ns =>
       intro b
       obtain ⟨i1,i2⟩:=ih (b+1+(gen f n (b+1)).length+1)
       refine ⟨by simp only [slots_q1,slots_q2,slots_q3,List.length_cons] at i1 ⊢; lia,fun x hx=>?_⟩
       simp only [slots_q1,slots_q2,slots_q3,List.mem_cons] at hx
       simp only [altX_q1,altX_q2,altX_q3,List.length_cons,List.length_append]
       rcases hx with rfl | hx
       ·lia
       ·have:=i2 x hx; lia
    have hsl1:=hsl (rowA (.alt a b)) O.length
    refine .meet (by simp only [List.length_append]; lia) (by lia) updE_self (by lia) (fun x hx=>by simp only [List.length_append]; exact (hsl1.2 x hx).2) ?_
    have hf:=fill_ok (gen f) (O++altX (gen f) .hole (rowA (.alt a b)) O.length).length (rowA (.alt a b)) O
    rw [hf,List.length_append]
    refine r.mono fun x u hx=>?_
    rw [updE_other]
    ·exact hx
    ·rintro rfl; rw [he] at hx; cases hx
   simp only [stN_q4,stN_q5,stN_q6]
   rw [show k+(altS (stN f) (rowA (.alt a b))+1)=k+1+(altS (stN f) (rowA (.alt a b)) - 1)+1 by lia]
   exact r3
  | arbno a =>
   simp only [dpt_q1,dpt_q2,dpt_q3,dpt_q4,dpt_q5] at hd hW
   simp only [gen_q1,gen_q2,gen_q3,gen_q4,gen_q5,gen_q6,List.length_cons,List.length_append,List.length_nil] at hO
   have hpa:=ihf a (by lia) hok
   simp only [stN_q4,stN_q5,stN_q6]
   rw [show k+(1+stN f a+3)=k+1+1+1+stN f a+1 by lia]
   refine .arbno (by lia) (by lia) fun e he=>?_
   have hl:(O++[Ord.split (O.length+2),Ord.hole,Ord.mark]).length=O.length+3:=by simp
   refine hpa (O++[Ord.split (O.length+2),Ord.hole,Ord.mark]) (.emit .gain::.emit (.jump O.length)::.meet e::W) _ F (k+1+1+1) (by simp only [List.length_append,List.length_cons,List.length_nil]; lia) (by simp only [hl]; lia) ?_
   rw [hl]
   refine .emit (by simp only [List.length_append,hl]; lia) (by simp only [List.length_append,List.length_cons,List.length_nil]; lia) (.emit (by simp only [List.length_append,List.length_append,hl,List.length_singleton]; lia) (by simp only [List.length_append,List.length_cons,List.length_nil]; lia) (.meet (sp:=O.length) (js:=[O.length+1]) ?_ (by lia) updE_self (by simp) ?_ ?_))
   ·simp only [List.length_append,List.length_cons,List.length_nil]; lia
   ·intro x hx
    obtain rfl:=List.mem_singleton.mp hx
    simp only [List.length_append,List.length_cons,List.length_nil]; lia
   ·have hfin:[O.length+1].foldl (fun z a_1=>z.set a_1 (.jump (O++[Ord.split (O.length+2),Ord.hole,Ord.mark]++gen f a (O.length+3)++[Ord.gain]++[Ord.jump O.length]).length)) (O++[Ord.split (O.length+2),Ord.hole,Ord.mark]++gen f a (O.length+3)++[Ord.gain]++[Ord.jump O.length]) =
      O++gen (f+1) (.arbno a) O.length:=by
     have hL:(O++[Ord.split (O.length+2),Ord.hole,Ord.mark]++gen f a (O.length+3)++[Ord.gain]++[Ord.jump O.length]).length=O.length+3+(gen f a (O.length+3)).length+2:=by
      simp only [List.length_append,List.length_cons,List.length_nil]
     rw [hL]
     simp only [List.foldl_cons,List.foldl_nil,List.append_assoc]
     rw [List.set_append_right _ _ (by lia)]
     rw [show O.length+1 - O.length=1 by lia]
     simp [gen_q1,gen_q2,gen_q3,gen_q4,gen_q5,gen_q6]
    rw [hfin]
    refine r.mono fun x u hx=>?_
    rw [updE_other]
    ·exact hx
    ·rintro rfl; rw [he] at hx; cases hx
noncomputable def isJ:Ord→Bool
 | .jump _=>true
 | _=>false
noncomputable def thr (F:List Ord):Nat→Nat→Nat
 | 0,g=>g
 | k+1,g=>match F[g]? with
  | some (.jump g')=>thr F k g'
  | _=>g
theorem thr_q1:∀ (F:List Ord) (x:Nat),thr F 0 x=x:=by intros; rfl
theorem thr_q2:∀ (F:List Ord) (x k:Nat),thr F (k+1) x=match F[x]? with | some (Ord.jump g')=>thr F k g' | x_1=>x:=by intros; rfl
noncomputable def strO (F:List Ord):Ord→Ord
 | .split g=>.split (thr F (F.length+1) g)
 | .jump g=>.jump (thr F (F.length+1) g)
 | o=>o
theorem strO_q3:∀ (F:List Ord) (x:Ord),(∀ (g:Nat),x=Ord.split g→False)→(∀ (g:Nat),x=Ord.jump g→False)→strO F x=x:=by intro _ x h1 h2; induction x using Ord.casesOn <;> first | rfl | exact (h1 _ rfl).elim | exact (h2 _ rfl).elim
noncomputable def stro (F:List Ord):List Ord:=F.map (strO F)
noncomputable def kdO:Ord→List Nat
 | .one _=>[111,110,101]
 | .ways=>[119,97,121,115]
 | .split _=>[115,112,108,105,116]
 | .jump _=>[106,117,109,112]
 | .mark=>[109,97,114,107]
 | .gain=>[103,97,105,110]
 | .done=>[100,111,110,101]
 | .hole=>[]
structure GoOk (F:List Ord):Prop where
 hole:∀ o∈F,o≠.hole
 goal:∀ o∈F,∀ g,(o=.split g∨o=.jump g)→∃ q,F[thr F (F.length+1) g]?=some q∧isJ q=false
 len:F.length≤90000
noncomputable def bodyS:Ss:=(.cons (.ite (.cmp .In (.sub (.var 2) (.lit (.int (0)))) (.tup (.cons (.lit (.str [106,117,109,112])) (.cons (.lit (.str [115,112,108,105,116])) .nil)))) (.cons (.asg 3 (.sub (.var 2) (.lit (.int (1))))) (.cons (.whl (.cmp .Eq (.sub (.sub (.var 0) (.var 3)) (.lit (.int (0)))) (.lit (.str [106,117,109,112]))) (.cons (.asg 3 (.sub (.sub (.var 0) (.var 3)) (.lit (.int (1))))) .nil)) (.cons (.asg 2 (.tup (.cons (.sub (.var 2) (.lit (.int (0)))) (.cons (.var 3) .nil)))) .nil))) .nil) (.cons (.expr (.meth (.var 1) 31 (.cons (.var 2) .nil))) .nil))
section
variable {c:Cx} {prog:Program} {d:Nat} {H:MH} {Q:PV→MH→Prop}
theorem ev_kindO {C:Cl} {r:List PV} {i:Nat} {o:Ord} (h:get r i=encO o) (n:o≠.hole):Ev C (.sub (.var i) (.lit (.int 0))) r H (.str (kdO o)):=fun K k=>by
 rw [wx_sub,wpX_var,h]
 refine ⟨isU_O o,?_⟩
 rw [wx_lit]
 induction o using Ord.casesOn <;> first | exact absurd rfl n | exact ⟨by decide,of_decide_eq_true rfl,of_decide_eq_true rfl,k⟩
theorem s3 (W:Fns c) {ol:Addr} {F:List Ord} (h0:H ol=some (.list (F.map encO))) (hF:GoOk F) (h:∀ l H',Frm [] H H'→H l=none→H' l=some (.list ((stro F).map encO))→Q (.ref l) H'):CS c prog (d+1) (.fn 3) [.ref ol] H Q:=by
 refine callB W.X W.f3 (by decide) rfl ?_
 refine asgW' (viaK (fun K=>∀ fl,H fl=none→K (.ref fl) (upd H fl (.list []))) (fun K k=>by walk_at "mw"; exact k) ?_)
 intro fl hfl
 have npf:ol≠fl:=Ne.symm (ne_of hfl h0)
 show wpSs _ _ [.ref ol,.ref fl,.undef,.undef,.undef,.undef] _ _
 have hp1:(upd H fl (.list [])) ol=some (.list (F.map encO)):=by rw [upd_other npf]; exact h0
 have hFl:=hF.len
 refine forE (v:=.ref ol) (xs:=F.map encO) (src:=fun H'=>H' ol=some (.list (F.map encO))) (ev_var rfl rfl) (fun K k=>by unfold iterOp; simp only [hp1,List.length_map]; exact ⟨big1' _ (by lia),k⟩) ?_
 have getF:∀ {C:Cl} {r:List PV} {H1:MH} {g:Nat} {o:Ord} (hp:H1 ol=some (.list (F.map encO))) (g0:get r 0=.ref ol) (g3:get r 3=.int g) (ho:F[g]?=some o) (K:PV→MH→Prop),K (encO o) H1→wpX C (.sub (.var 0) (.var 3)) r H1 K:=fun {C r H1 g o} hp g0 g3 ho K k=>by
  rw [wx_sub,wpX_var,g0]
  refine ⟨rfl,?_⟩
  rw [wpX_var,g3]
  refine ⟨rfl,?_⟩
  have hg:g<F.length:=(List.getElem?_eq_some_iff.mp ho).1
  show subOp (.ref ol) (.int g) H1 K
  refine i_sub hp (List.length_map _) ⟨by lia,by lia,big1' _ (by lia),?_⟩
  rw [Int.toNat_natCast]
  have e:(F.map encO).getD g .undef=encO o:=by rw [List.getD_eq_getElem?_getD,List.getElem?_map,ho]; rfl
  rw [e]; exact k
 have go:∀ (qs dn:List Ord) (x2 x3:PV) (H1:MH),dn++qs=F→H1 fl=some (.list ((dn.map (strO F)).map encO))→H1 ol=some (.list (F.map encO))→Frm [] H H1 →
   forGo 2 (fun H'=>H' ol=some (.list (F.map encO))) (fun r H Q=>wpSs (CS c prog d) bodyS r H Q)
    (qs.map encO) [.ref ol,.ref fl,x2,x3,.undef,.undef] H1 (sq (CS c prog d) (.cons (.ret (.var 1)) .nil) (retQ Q)):=by
  intro qs
  induction qs with
  | nil =>
   intro dn x2 x3 H1 hd hf1 hp1 hfr
   rw [List.append_nil] at hd
   subst hd
   refine forNil hp1 ?_
   show wpSs _ (.cons (.ret (.var 1)) .nil) _ _ _
   exact retE (ev_var rfl rfl) (h fl H1 hfr hfl hf1)
  | cons q qs ih =>
   intro dn x2 x3 H1 hd hf1 hp1 hfr
   have hqF:q∈F:=by rw [← hd]; simp
   have hqh:=hF.hole q hqF
   refine forCons hp1 ?_
   show wpSs _ _ [.ref ol,.ref fl,encO q,x3,.undef,.undef] H1 _
   have push:∀ (x3:PV),wpSs (CS c prog d) (.cons (.expr (.meth (.var 1) 31 (.cons (.var 2) .nil))) .nil) [.ref ol,.ref fl,encO (strO F q),x3,.undef,.undef] H1 (fq (CS c prog d) 2 (fun H'=>H' ol=some (.list (F.map encO))) bodyS (qs.map encO) (sq (CS c prog d) (.cons (.ret (.var 1)) .nil) (retQ Q))):=fun x3=>by
    have hdl:dn.length<1000000:=by
     have:=congrArg List.length hd
     simp only [List.length_append,List.length_cons] at this
     lia
    refine exprW (viaK (fun K=>K .none (upd H1 fl (.list (((dn++[q]).map (strO F)).map encO)))) (fun K k=>?_) (nilW ?_))
    ·have hz:((dn.map (strO F)).map encO).length<1000000:=by rw [List.length_map,List.length_map]; exact hdl
     have e2:((dn++[q]).map (strO F)).map encO=(dn.map (strO F)).map encO++[encO (strO F q)]:=by simp
     rw [e2] at k
     (revert hf1 hz k; refine genl ((dn.map (strO F)).map encO) fun zz hf1 k hz=>?_)
     have uo:=isU_O (strO F q)
     walk_at "mw"
     exact k
    exact ih (dn++[q]) _ x3 _ (by rw [List.append_assoc]; exact hd) upd_self (by rw [upd_other npf]; exact hp1) (frm_up hfr (.inr hfl))
   have walk:∀ (g:Nat) (mk:Nat→Ord),(∀ x,encO (mk x)=.tup [.str (kdO q),.int x])→q=mk g→strO F q=mk (thr F (F.length+1) g)→(∃ z,F[thr F (F.length+1) g]?=some z∧isJ z=false)→([[106,117,109,112],[115,112,108,105,116]].contains (kdO q)=true) →
     wpSs (CS c prog d) bodyS [.ref ol,.ref fl,encO q,x3,.undef,.undef] H1
      (fq (CS c prog d) 2 (fun H'=>H' ol=some (.list (F.map encO))) bodyS (qs.map encO) (sq (CS c prog d) (.cons (.ret (.var 1)) .nil) (retQ Q))):=by
    intro g mk hmk hq hs hz hin
    obtain ⟨z,hz1,hz2⟩:=hz
    refine ifT ((ev_inR (y:=.lit .none) (z:=.lit .none) (ev_kindO rfl hqh)).cast (by rw [hin])) ?_
    have eq:encO q=.tup [.str (kdO q),.int g]:=by
     conv=>lhs; rw [hq]
     exact hmk g
    refine asgE (v:=.int g) (fun K k=>?_) ?_
    ·rw [wx_sub,wpX_var]
     show _∧wpX _ _ _ _ _
     refine ⟨isU_O q,?_⟩
     rw [wx_lit]
     show subOp (encO q) (.int 1) H1 K
     rw [eq]
     exact ⟨by decide,of_decide_eq_true rfl,of_decide_eq_true rfl,k⟩
    show wpSs _ _ [.ref ol,.ref fl,encO q,.int g,.undef,.undef] H1 _
    refine whlE (fun m r H2=>H2=H1∧∃ g',r=[.ref ol,.ref fl,encO q,.int (g':Nat),.undef,.undef]∧thr F m g'=thr F (F.length+1) g) ⟨F.length+1,rfl,g,rfl,rfl⟩ ?_
    rintro m r H2 ⟨rfl,g',rfl,hthr⟩
    induction hFg:F[g']? using Option.casesOn with
    | none =>
     exfalso
     have:thr F m g'=g':=by induction m using Nat.casesAuxOn with
      | zero=>rfl
      | succ m=>simp only [thr_q1,thr_q2,hFg]
     rw [← hthr,this,hFg] at hz1; cases hz1
    | some o =>
     have hoh:o≠.hole:=hF.hole o (List.mem_of_getElem? hFg)
     have kind:∀ {C:Cl},Ev C (.sub (.sub (.var 0) (.var 3)) (.lit (.int 0))) [.ref ol,.ref fl,encO q,.int (g':Nat),.undef,.undef] H2 (.str (kdO o)):=fun {C} K k=>by
      rw [wx_sub]
      refine getF hp1 rfl rfl hFg _ ?_
      rw [wx_lit]
      induction o using Ord.casesOn <;> first | exact absurd rfl hoh | exact ⟨by decide,of_decide_eq_true rfl,of_decide_eq_true rfl,k⟩
     refine ⟨isJ o,fun K k=>ev_eqS kind K (by induction o using Ord.casesOn <;> first | exact absurd rfl hoh | exact k),fun hj=>?_,fun hj=>?_⟩
     ·obtain ⟨g2,rfl⟩:∃ g2,o=.jump g2:=by induction o using Ord.casesOn <;> first | exact ⟨_,rfl⟩ | cases hj
      induction m using Nat.casesAuxOn with
      | zero =>
       exfalso
       have:g'=thr F (F.length+1) g:=hthr
       rw [← this,hFg] at hz1
       cases hz1; cases hz2
      | succ m =>
       simp only [thr_q1,thr_q2,hFg] at hthr
       refine asgE (v:=.int g2) (fun K k=>?_) (nilW ?_)
       ·rw [wx_sub]
        refine getF hp1 rfl rfl hFg _ ?_
        rw [wx_lit]
        exact ⟨by decide,of_decide_eq_true rfl,of_decide_eq_true rfl,k⟩
       ·exact ⟨m,by lia,rfl,g2,rfl,hthr⟩
     ·have hg':g'=thr F (F.length+1) g:=by
       rw [← hthr]
       induction m using Nat.casesAuxOn with
       | zero=>rfl
       | succ m =>
        simp only [thr_q1,thr_q2,hFg]
        induction o using Ord.casesOn <;> first | rfl | cases hj
      refine asgE (v:=encO (strO F q)) (fun K k=>?_) (nilW ?_)
      ·rw [wx_tup]
       simp only [wpXs_q1,wpXs_q2]
       refine ev_kindO (o:=q) rfl hqh _ ?_
       rw [wpX_var]
       refine ⟨rfl,of_decide_eq_true rfl,?_⟩
       rw [hs,hmk,← hg'] at k
       exact k
      ·exact push (.int g')
   have plain:strO F q=q→([[106,117,109,112],[115,112,108,105,116]].contains (kdO q)=false)→wpSs (CS c prog d) bodyS [.ref ol,.ref fl,encO q,x3,.undef,.undef] H1 (fq (CS c prog d) 2 (fun H'=>H' ol=some (.list (F.map encO))) bodyS (qs.map encO) (sq (CS c prog d) (.cons (.ret (.var 1)) .nil) (retQ Q))):=fun e1 e2=>ifF (C:=CS c prog d) (r:=[.ref ol,.ref fl,encO q,x3,.undef,.undef]) ((ev_inR (y:=.lit .none) (z:=.lit .none) (ev_kindO (o:=q) rfl hqh)).cast (by rw [e2])) (by
    have:=push x3
    rw [e1] at this
    exact this)
   induction q using Ord.casesOn with
   | split g=>exact walk g .split (fun _=>rfl) rfl rfl (hF.goal _ hqF g (.inl rfl)) rfl
   | jump g=>exact walk g .jump (fun _=>rfl) rfl rfl (hF.goal _ hqF g (.inr rfl)) rfl
   | hole=>exact absurd rfl hqh
   | one l=>exact plain rfl rfl
   | ways=>exact plain rfl rfl
   | mark=>exact plain rfl rfl
   | gain=>exact plain rfl rfl
   | done=>exact plain rfl rfl
 exact go F [] .undef .undef _ rfl upd_self hp1 (frm_up Frm.refl (.inr hfl))
end
noncomputable def SegOk (b:Nat) (os:List Ord):Prop:=∀ (i:Nat) (o:Ord),os[i]?=some o→o≠.hole∧(∀ g,o=.split g→g≤b+os.length)∧(∀ g,o=.jump g→(b+i<g∧g≤b+os.length)∨(∃ j h,os[j]?=some (.split h)∧g=b+j))
theorem seg_nil {b:Nat}:SegOk b []:=fun i o h=>by simp at h
theorem seg_app {b:Nat} {x y:List Ord} (hx:SegOk b x) (hy:SegOk (b+x.length) y):SegOk b (x++y):=fun i o h=>by
 by_cases hi:i<x.length
 ·rw [List.getElem?_append_left hi] at h
  obtain ⟨h1,h2,h3⟩:=hx i o h
  refine ⟨h1,fun g e=>by rw [List.length_append]; have:=h2 g e; lia,fun g e=>?_⟩
  rcases h3 g e with ⟨a,c⟩ | ⟨j,q,a,c⟩
  ·exact .inl ⟨a,by rw [List.length_append]; lia⟩
  ·exact .inr ⟨j,q,by rw [List.getElem?_append_left (List.getElem?_eq_some_iff.mp a).1]; exact a,c⟩
 ·rw [List.getElem?_append_right (by lia)] at h
  obtain ⟨h1,h2,h3⟩:=hy _ o h
  refine ⟨h1,fun g e=>by rw [List.length_append]; have:=h2 g e; lia,fun g e=>?_⟩
  rcases h3 g e with ⟨a,c⟩ | ⟨j,q,a,c⟩
  ·exact .inl ⟨by lia,by rw [List.length_append]; lia⟩
  ·exact .inr ⟨x.length+j,q,by rw [List.getElem?_append_right (by lia),Nat.add_sub_cancel_left]; exact a,by lia⟩
theorem seg_one {b:Nat} {o:Ord} (h1:o≠.hole) (h2:∀ g,o=.split g→g≤b+1) (h3:∀ g,o=.jump g→b<g∧g≤b+1):SegOk b [o]:=fun i q h=>by
 induction i using Nat.casesAuxOn with
 | zero=>simp at h; subst h; exact ⟨h1,h2,fun g e=>.inl (by have:=h3 g e; simpa using this)⟩
 | succ i=>simp at h
theorem seg_seq {g:Nd→Nat→List Ord}:∀ (ns:List Nd) (b:Nat),(∀ n∈ns,∀ b,SegOk b (g n b))→SegOk b (seqG g ns b)
 | [],_,_=>seg_nil
 | n::ns,b,h=>seg_app (h n List.mem_cons_self b) (seg_seq ns _ fun m hm=>h m (List.mem_cons_of_mem _ hm))
theorem seg_alt {g:Nd→Nat→List Ord} {en:Nat}:∀ (ns:List Nd) (b:Nat),(∀ n∈ns,∀ b,SegOk b (g n b))→en=b+(altX g (.jump en) ns b).length→SegOk b (altX g (.jump en) ns b)
 | [],_,_,_=>seg_nil
 | [n],b,h,_=>h n List.mem_cons_self b
 | n::m::ns,b,h,he=>by
  have h1:=h n List.mem_cons_self (b+1)
  simp only [altX_q1,altX_q2,altX_q3,List.length_cons,List.length_append] at he
  have ih:=seg_alt (en:=en) (m::ns) (b+1+(g n (b+1)).length+1) (fun q hq=>h q (List.mem_cons_of_mem _ hq)) (by lia)
  intro i o hi
  simp only [altX_q1,altX_q2,altX_q3] at hi
  have e0:Ord.split (b+1+(g n (b+1)).length+1)::(g n (b+1)++Ord.jump en::altX g (.jump en) (m::ns) (b+1+(g n (b+1)).length+1)) =
    ([Ord.split (b+1+(g n (b+1)).length+1)]++g n (b+1))++([Ord.jump en]++altX g (.jump en) (m::ns) (b+1+(g n (b+1)).length+1)):=by simp
  have len:(altX g (.jump en) (n::m::ns) b).length=1+(g n (b+1)).length+1+(altX g (.jump en) (m::ns) (b+1+(g n (b+1)).length+1)).length:=by
   simp only [altX_q1,altX_q2,altX_q3,List.length_cons,List.length_append]; lia
  rw [len]
  induction i using Nat.casesAuxOn with
  | zero =>
   simp only [List.getElem?_cons_zero] at hi
   cases hi
   exact ⟨fun e=>(by cases e),fun q e=>(by cases e; lia),fun q e=>by cases e⟩
  | succ i =>
   simp only [List.getElem?_cons_succ] at hi
   by_cases h2:i<(g n (b+1)).length
   ·rw [List.getElem?_append_left h2] at hi
    obtain ⟨a1,a2,a3⟩:=h1 i o hi
    refine ⟨a1,fun q e=>by have:=a2 q e; lia,fun q e=>?_⟩
    rcases a3 q e with ⟨c1,c2⟩ | ⟨j,z,c1,c2⟩
    ·exact .inl ⟨by lia,by lia⟩
    ·refine .inr ⟨j+1,z,?_,by lia⟩
     simp only [altX_q1,altX_q2,altX_q3,List.getElem?_cons_succ]
     rw [List.getElem?_append_left (List.getElem?_eq_some_iff.mp c1).1]; exact c1
   ·rw [List.getElem?_append_right (by lia)] at hi
    induction hk:i - (g n (b+1)).length using Nat.casesAuxOn with
    | zero =>
     rw [hk] at hi
     simp only [List.getElem?_cons_zero] at hi
     cases hi
     exact ⟨fun e=>(by cases e),fun q e=>(by cases e),fun q e=>(by cases e; exact .inl ⟨by lia,by lia⟩)⟩
    | succ k =>
     rw [hk] at hi
     simp only [List.getElem?_cons_succ] at hi
     obtain ⟨a1,a2,a3⟩:=ih k o hi
     refine ⟨a1,fun q e=>by have:=a2 q e; lia,fun q e=>?_⟩
     rcases a3 q e with ⟨c1,c2⟩ | ⟨j,z,c1,c2⟩
     ·exact .inl ⟨by lia,by lia⟩
     ·refine .inr ⟨(g n (b+1)).length+1+j+1,z,?_,by lia⟩
      simp only [altX_q1,altX_q2,altX_q3,List.getElem?_cons_succ]
      rw [List.getElem?_append_right (by lia),show (g n (b+1)).length+1+j - (g n (b+1)).length=j+1 by lia]
      simpa using c1
theorem seg_gen:∀ (f:Nat) (n:Nd) (b:Nat),SegOk b (gen f n b):=by
 intro f
 induction f with
 | zero=>intro n b; exact seg_nil
 | succ f ih =>
  intro n b
  induction n using Nd.casesOn with
  | lf l=>exact seg_one (fun e=>by cases e) (fun g e=>by cases e) (fun g e=>by cases e)
  | arb=>exact seg_one (fun e=>by cases e) (fun g e=>by cases e) (fun g e=>by cases e)
  | cat x y=>exact seg_seq _ _ fun m _ b=>ih m b
  | alt x y =>
   refine seg_alt _ _ (fun m _ b=>ih m b) ?_
   exact congrArg (b+·) (altX_len (gen f) _ _ _ _)
  | arbno a =>
   have h1:=ih a (b+3)
   simp only [gen_q1,gen_q2,gen_q3,gen_q4,gen_q5,gen_q6]
   intro i o hi
   have len:(Ord.split (b+2)::Ord.jump (b+3+(gen f a (b+3)).length+2)::Ord.mark::(gen f a (b+3)++[Ord.gain,Ord.jump b])).length=3+(gen f a (b+3)).length+2:=by
    simp only [List.length_cons,List.length_append,List.length_nil]; lia
   rw [len]
   match i with
   | 0=>simp at hi; subst hi; exact ⟨fun e=>(by cases e),fun q e=>(by cases e; lia),fun q e=>by cases e⟩
   | 1=>simp at hi; subst hi; exact ⟨fun e=>(by cases e),fun q e=>(by cases e),fun q e=>(by cases e; exact .inl ⟨by lia,by lia⟩)⟩
   | 2=>simp at hi; subst hi; exact ⟨fun e=>(by cases e),fun q e=>(by cases e),fun q e=>by cases e⟩
   | i+3 =>
    simp only [List.getElem?_cons_succ] at hi
    by_cases h2:i<(gen f a (b+3)).length
    ·rw [List.getElem?_append_left h2] at hi
     obtain ⟨a1,a2,a3⟩:=h1 i o hi
     refine ⟨a1,fun q e=>by have:=a2 q e; lia,fun q e=>?_⟩
     rcases a3 q e with ⟨c1,c2⟩ | ⟨j,z,c1,c2⟩
     ·exact .inl ⟨by lia,by lia⟩
     ·refine .inr ⟨j+3,z,?_,by lia⟩
      simp only [List.getElem?_cons_succ]
      rw [List.getElem?_append_left (List.getElem?_eq_some_iff.mp c1).1]; exact c1
    ·rw [List.getElem?_append_right (by lia)] at hi
     match hk:i - (gen f a (b+3)).length with
     | 0=>rw [hk] at hi; simp at hi; subst hi; exact ⟨fun e=>(by cases e),fun q e=>(by cases e),fun q e=>by cases e⟩
     | 1=>rw [hk] at hi; simp at hi; subst hi; exact ⟨fun e=>(by cases e),fun q e=>(by cases e),fun q e=>by cases e; exact .inr ⟨0,b+2,rfl,by lia⟩⟩
     | k+2=>rw [hk] at hi; simp at hi
theorem thr_ok {F:List Ord} (h:∀ i g,F[i]?=some (.jump g)→(i<g∧g<F.length)∨∃ q,F[g]?=some (.split q)):∀ k g,g<F.length→F.length - g<k→∃ q,F[thr F k g]?=some q∧isJ q=false
 | 0,g,_,hk=>by lia
 | k+1,g,hg,hk=>by
  have hs:F[g]?=some F[g]:=List.getElem?_eq_getElem hg
  simp only [thr_q1,thr_q2,hs]
  cases hq:F[g] with
  | jump g' =>
   simp only
   rw [hq] at hs
   rcases h g g' hs with ⟨h1,h2⟩ | ⟨q,h1⟩
   ·exact thr_ok h k g' h2 (by lia)
   ·induction k using Nat.casesAuxOn with
    | zero=>exact ⟨_,h1,rfl⟩
    | succ k=>simp only [thr_q1,thr_q2,h1]; exact ⟨_,rfl,rfl⟩
  | _=>simp only; rw [hs,hq]; exact ⟨_,rfl,rfl⟩
theorem goOk (f:Nat) (n:Nd) (hl:(gen f n 0).length≤80000):GoOk (gen f n 0++[Ord.done]):=by
 have hs:=seg_gen f n 0
 have hlen:(gen f n 0++[Ord.done]).length=(gen f n 0).length+1:=by simp
 have inSeg:∀ (i:Nat) (o:Ord),(gen f n 0++[Ord.done])[i]?=some o→o=Ord.done∨(gen f n 0)[i]?=some o:=fun i o h=>by
  by_cases hi:i<(gen f n 0).length
  ·rw [List.getElem?_append_left hi] at h; exact .inr h
  ·rw [List.getElem?_append_right (by lia)] at h
   induction hk:i - (gen f n 0).length using Nat.casesAuxOn with
   | zero=>rw [hk] at h; simp at h; exact .inl h.symm
   | succ k=>rw [hk] at h; simp at h
 have jok:∀ (i g:Nat),(gen f n 0++[Ord.done])[i]?=some (.jump g)→(i<g∧g<(gen f n 0++[Ord.done]).length)∨∃ q,(gen f n 0++[Ord.done])[g]?=some (.split q):=fun i g h=>by
  rcases inSeg i _ h with h | h
  ·cases h
  ·obtain ⟨_,_,a3⟩:=hs i _ h
   rcases a3 g rfl with ⟨c1,c2⟩ | ⟨j,z,c1,c2⟩
   ·exact .inl ⟨by lia,by rw [hlen]; lia⟩
   ·refine .inr ⟨z,?_⟩
    rw [c2,Nat.zero_add,List.getElem?_append_left (List.getElem?_eq_some_iff.mp c1).1]; exact c1
 refine ⟨fun o ho=>?_,fun o ho g hg=>?_,by rw [hlen]; lia⟩
 ·obtain ⟨i,hi⟩:=List.getElem?_of_mem ho
  rcases inSeg i o hi with h | h
  ·rw [h]; exact fun e=>by cases e
  ·exact (hs i o h).1
 ·refine thr_ok jok _ g ?_ (by lia)
  obtain ⟨i,hi⟩:=List.getElem?_of_mem ho
  rcases inSeg i o hi with h | h
  ·subst h; rcases hg with hg | hg <;> cases hg
  ·obtain ⟨_,a2,a3⟩:=hs i o h
   rw [hlen]
   rcases hg with hg | hg
   ·have:=a2 g hg; lia
   ·rcases a3 g hg with ⟨c1,c2⟩ | ⟨j,z,c1,c2⟩
    ·lia
    ·have:=(List.getElem?_eq_some_iff.mp c1).1; lia
theorem joinN_sz (ps:List Nd):((joinN ps).map szN).sum≤(ps.map szN).sum:=by
 have go:∀ (ps acc:List Nd),((ps.foldl joinStep acc).map szN).sum≤(acc.map szN).sum+(ps.map szN).sum:=by
  intro ps
  induction ps with
  | nil=>intro acc; simp
  | cons p ps ih =>
   intro acc
   have h1:=ih (joinStep acc p)
   have h2:((joinStep acc p).map szN).sum≤(acc.map szN).sum+szN p:=by
    unfold joinStep
    split
    ·split
     ·lia
     ·split
      ·rename_i y hlast
       rcases List.eq_nil_or_concat acc with h | ⟨a,z,h⟩
       ·subst h; simp at hlast
       ·rw [List.concat_eq_append] at h
        subst h
        simp only [List.getLast?_concat] at hlast
        cases hlast
        simp [szN_q1,szN_q2,szN_q3,szN_q4]
      ·simp [szN_q1,szN_q2,szN_q3,szN_q4]
    ·simp
   rw [List.foldl_cons,List.map_cons,List.sum_cons]; lia
 simpa [joinN] using go ps []
theorem rowC_sz:∀ n:Nd,((rowC n).map szN).sum≤szN n:=by
 intro n
 induction n with
 | cat a b iha ihb=>simp only [rowC_q1,rowC_q2,szN_q1,szN_q2,szN_q3,szN_q4,List.map_append,List.sum_append]; lia
 | _=>simp [rowC_q1,rowC_q2,szN_q1,szN_q2,szN_q3,szN_q4]
theorem rowA_sz:∀ n:Nd,((rowA n).map szN).sum+(rowA n).length≤szN n+1:=by
 intro n
 induction n with
 | alt a b iha ihb=>simp only [rowA_q1,rowA_q2,szN_q1,szN_q2,szN_q3,szN_q4,List.map_append,List.sum_append,List.length_append]; lia
 | _=>simp [rowA_q1,rowA_q2,szN_q1,szN_q2,szN_q3,szN_q4]
theorem gen_len:∀ (f:Nat) (n:Nd) (b:Nat),(gen f n b).length≤6*szN n:=by
 intro f
 induction f with
 | zero=>intro n b; simp [gen_q1,gen_q2,gen_q3,gen_q4,gen_q5,gen_q6]
 | succ f ih =>
  intro n b
  induction n using Nd.casesOn with
  | lf l=>simp [gen_q1,gen_q2,gen_q3,gen_q4,gen_q5,gen_q6,szN_q1,szN_q2,szN_q3,szN_q4]
  | arb=>simp [gen_q1,gen_q2,gen_q3,gen_q4,gen_q5,gen_q6,szN_q1,szN_q2,szN_q3,szN_q4]
  | cat x y =>
   have hs:∀ (ns:List Nd) (b:Nat),(seqG (gen f) ns b).length≤6*(ns.map szN).sum:=by
    intro ns
    induction ns with
    | nil=>intro b; simp [seqG_q1,seqG_q2]
    | cons n ns ih2 =>
     intro b
     have h1:=ih n b
     have h2:=ih2 (b+(gen f n b).length)
     simp only [seqG_q1,seqG_q2,List.length_append,List.map_cons,List.sum_cons]; lia
   have h1:=hs (joinN (rowC (.cat x y))) b
   have h2:=joinN_sz (rowC (.cat x y))
   have h3:=rowC_sz (.cat x y)
   simp only [gen_q1,gen_q2,gen_q3,gen_q4,gen_q5,gen_q6]; lia
  | alt x y =>
   have hs:∀ (o:Ord) (ns:List Nd) (b:Nat),(altX (gen f) o ns b).length+2≤6*(ns.map szN).sum+2*ns.length+2:=by
    intro o ns
    induction ns with
    | nil=>intro b; simp [altX_q1,altX_q2,altX_q3]
    | cons n ns ih2=>induction ns using List.casesOn with
     | nil=>intro b; have h1:=ih n b; simp only [altX_q1,altX_q2,altX_q3,List.map_cons,List.map_nil,List.sum_cons,List.sum_nil,List.length_cons,List.length_nil]; lia
     | cons m ns =>
      intro b
      have h1:=ih n (b+1)
      have h2:=ih2 (b+1+(gen f n (b+1)).length+1)
      simp only [altX_q1,altX_q2,altX_q3,List.length_cons,List.length_append,List.map_cons,List.sum_cons] at h2 ⊢; lia
   have h1:=hs (.jump (b+(altX (gen f) .hole (rowA (.alt x y)) b).length)) (rowA (.alt x y)) b
   have h3:=rowA_sz (.alt x y)
   have h4:2≤(rowA (.alt x y)).length:=by
    have:=rowA_ne x
    have:=rowA_ne y
    have e1:1≤(rowA x).length:=by induction h:rowA x using List.casesOn with
     | nil=>contradiction
     | cons=>simp
    have e2:1≤(rowA y).length:=by induction h:rowA y using List.casesOn with
     | nil=>contradiction
     | cons=>simp
    simp only [rowA_q1,rowA_q2,List.length_append]; lia
   simp only [gen_q1,gen_q2,gen_q3,gen_q4,gen_q5,gen_q6]; lia
  | arbno a =>
   have h1:=ih a (b+3)
   simp only [gen_q1,gen_q2,gen_q3,gen_q4,gen_q5,gen_q6,szN_q1,szN_q2,szN_q3,szN_q4,List.length_cons,List.length_append,List.length_nil]; lia
section
variable {c:Cx} {prog:Program} {d:Nat} {H:MH} {Q:PV→MH→Prop}
theorem s4 (W:Fns c) {n:Nd} (hok:okP n) (hd:dpt n≤10) (hsz:szN n≤1000) (h:∀ l H',Frm [] H H'→H l=none→H' l=some (.list ((stro (gen (dpt n+1) n 0++[Ord.done])).map encO))→Q (.ref l) H'):CS c prog (d+8) (.fn 4) [encN n] H Q:=by
 refine callB W.X W.f4 (by decide) rfl ?_
 have uN:=isU_N n
 have hlen:=gen_len (dpt n+1) n 0
 refine asgW' ?_
 refine x_fn (k:=40) (by decide) ?_
 refine xs_nil ?_
 refine s50 (d:=d+1) W fun H1 sf dc ol h1 f1 hol=>?_
 show wpSs _ _ [encN n,.ref sf,.undef,.undef,.undef] H1 _
 have hrun:Run [] [.put n] (fun _=>none) (gen (dpt n+1) n 0) (0+stN (dpt n+1) n):=by
  refine putAll (dpt n+1) n (by lia) hok [] [] _ _ 0 ?_ ?_ ?_
  ·simp only [List.length_nil]; lia
  ·simp only [List.length_nil]; lia
  ·simpa using Run.nil
 refine exprW (methB rfl h1 rfl (by decide) ?_)
 refine xs_cons ?_
 refine x_var uN ?_
 refine s52 (d:=d+3) W h1 hrun fun H2 h2 f2=>?_
 refine exprW (methB rfl h2 rfl (by decide) ?_)
 refine xs_cons ?_
 refine viaK (fun K=>K (encO .done) H2) (fun K k=>by walk_at "mw"; exact k) ?_
 refine (s51 (d:=d+6) W h2 (by lia) ?_)
 have h3:=h2.put (os':=gen (dpt n+1) n 0++[Ord.done])
 have f3:Frm [ol] H1 (upd H2 ol (.list ((gen (dpt n+1) n 0++[Ord.done]).map encO))):=frm_up f2 (.inl (by simp))
 (revert h3 f3; refine genl (upd H2 ol (.list ((gen (dpt n+1) n 0++[Ord.done]).map encO))) fun H3 h3 f3=>?_)
 refine retW ?_
 refine x_fn (k:=3) (by decide) ?_
 refine xs_cons ?_
 refine x_attr (x_var rfl ?_)
 show attrOp (.ref sf) 0 H3 _
 refine o_attr h3.i h3.d rfl ?_
 refine s3 (d:=d+6) W h3.o (goOk _ n (by lia)) fun l H4 f4 hl0 hl=>?_
 have f13:Frm [] H H3:=fun a na nf=>by
  have e1:=f1 a na nf
  have:a≠ol:=by rintro rfl; exact na hol
  rw [f3 a (by rw [e1]; exact na) (by simpa using this),e1]
 exact h l H4 (f13.trans f4) (frm_none f13 hl0 (by simp)) hl
end
noncomputable def encM:List Nat→PV
 | []=>.none
 | b::r=>.tup [encM r,.int b]
theorem isU_M (m:List Nat):isU (encM m)=false:=by cases m <;> rfl
structure PW where
 pc:Nat
 at_:Nat
 ms:List Nat
noncomputable def wayNs (ol:Addr) (w:PW):MO:=.ns [(0,.ref ol),(1,.int w.pc),(2,.int w.at_),(3,.none),(4,encM w.ms),(5,.none)]
structure WayAt (H:MH) (a da ol:Addr) (w:PW):Prop where
 i:H a=some (.inst 41 da)
 d:H da=some (wayNs ol w)
structure MatchAt (H:MH) (sf dm:Addr) (s:List Nat) (ho hl:Addr):Prop where
 i:H sf=some (.inst 42 dm)
 d:H dm=some (.ns [(6,.str s),(7,.ref ho),(8,.ref hl)])
section
variable {c:Cx} {prog:Program} {d:Nat} {H:MH} {Q:PV→MH→Prop} {ol:Addr}
theorem s41 (W:Fns c) {w:PW} (h:∀ H' a da,WayAt H' a da ol w→Frm [] H H'→H a=none→H da=none→Q (.ref a) H'):CS c prog (d+6) (.fn 41) [.ref ol,.int w.pc,.int w.at_,.none,encM w.ms,.none] H Q:=by
 refine clsCall (d:=d+1) W.X W.m41 (by decide) (by decide) fun x dx hx hdx hne=>?_
 refine callB W.X W.f60 (by decide) rfl ?_
 have um:=isU_M w.ms
 have step:∀ (H1:MH) (m:List (Nat×PV)) (n:Nat) (v':PV),H1 x=some (.inst 41 dx)→Frm [] H H1→(upd H1 dx (.ns (putA n v' m))) x=some (.inst 41 dx)∧(upd H1 dx (.ns (putA n v' m))) dx=some (.ns (putA n v' m))∧Frm [] H (upd H1 dx (.ns (putA n v' m))) :=
  fun H1 m n v' h1 h2=>⟨by rw [upd_other hne]; exact h1,upd_self,frm_up h2 (.inr hdx)⟩
 have a0:(upd (upd H dx (.ns [])) x (.inst 41 dx)) x=some (.inst 41 dx):=upd_self
 have b0:(upd (upd H dx (.ns [])) x (.inst 41 dx)) dx=some (.ns []):=by rw [upd_other (Ne.symm hne)]; exact upd_self
 have c0:Frm [] H (upd (upd H dx (.ns [])) x (.inst 41 dx)):=frm_up (frm_up Frm.refl (.inr hdx)) (.inr hx)
 (revert a0 b0 c0; refine genl (upd (upd H dx (.ns [])) x (.inst 41 dx)) fun H0 a0 b0 c0=>?_)
 obtain ⟨a1,b1,c1⟩:=step H0 [] 0 (.ref ol) a0 c0
 refine asgAW (v:=.ref ol) rfl a0 b0 (ev_var rfl rfl) (by decide) (by simp) ?_
 (revert a1 b1 c1; refine genl (upd H0 dx _) fun H1 a1 b1 c1=>?_)
 obtain ⟨a2,b2,c2⟩:=step H1 _ 1 (.int w.pc) a1 c1
 refine asgAW (v:=.int w.pc) rfl a1 b1 (ev_var rfl rfl) (by decide) (by simp [putA_q1,putA_q2]) ?_
 (revert a2 b2 c2; refine genl (upd H1 dx _) fun H2 a2 b2 c2=>?_)
 obtain ⟨a3,b3,c3⟩:=step H2 _ 2 (.int w.at_) a2 c2
 refine asgAW (v:=.int w.at_) rfl a2 b2 (ev_var rfl rfl) (by decide) (by simp [putA_q1,putA_q2]) ?_
 (revert a3 b3 c3; refine genl (upd H2 dx _) fun H3 a3 b3 c3=>?_)
 obtain ⟨a4,b4,c4⟩:=step H3 _ 3 .none a3 c3
 refine asgAW (v:=.none) rfl a3 b3 (ev_var rfl rfl) (by decide) (by simp [putA_q1,putA_q2]) ?_
 (revert a4 b4 c4; refine genl (upd H3 dx _) fun H4 a4 b4 c4=>?_)
 obtain ⟨a5,b5,c5⟩:=step H4 _ 4 (encM w.ms) a4 c4
 refine asgAW (v:=encM w.ms) rfl a4 b4 (ev_var rfl um) (by decide) (by simp [putA_q1,putA_q2]) ?_
 (revert a5 b5 c5; refine genl (upd H4 dx _) fun H5 a5 b5 c5=>?_)
 obtain ⟨a6,b6,c6⟩:=step H5 _ 5 .none a5 c5
 refine asgAW (v:=.none) rfl a5 b5 (ev_var rfl rfl) (by decide) (by simp [putA_q1,putA_q2]) ?_
 (revert a6 b6 c6; refine genl (upd H5 dx _) fun H6 a6 b6 c6=>?_)
 exact nilW ⟨rfl,h H6 x dx ⟨a6,b6⟩ c6 hx hdx⟩
theorem attrW {C:Cl} {r:List PV} {i n:Nat} {a da:Addr} {w:PW} {p:PV} (g:get r i=.ref a) (hw:WayAt H a da ol w) (hp:[(0,PV.ref ol),(1,.int w.pc),(2,.int w.at_),(3,.none),(4,encM w.ms),(5,.none)].lookup n=some p):Ev C (.attr (.var i) n) r H p:=fun K k=>by
 rw [wx_attr,wpX_var,g]
 refine ⟨rfl,?_⟩
 show attrOp (.ref a) n H K
 exact o_attr hw.i hw.d hp k
theorem s61 (W:Fns c) {a da:Addr} {w:PW} {pc:Nat} (hw:WayAt H a da ol w) (h:∀ H' x dx,WayAt H' x dx ol ⟨pc,w.at_,w.ms⟩→Frm [] H H'→H x=none→H dx=none→Q (.ref x) H'):CS c prog (d+7) (.fn 61) [.ref a,.int pc] H Q:=by
 refine callB W.X W.f61 (by decide) rfl ?_
 show wpSs _ _ [.ref a,.int pc,.undef] H _
 refine retW ?_
 rw [wx_call,wx_lit]
 refine ⟨show (41:Nat)<90 by decide,?_⟩
 simp only [wpXs_q1,wpXs_q2]
 refine attrW rfl hw rfl _ ?_
 rw [wpX_var]
 refine ⟨rfl,?_⟩
 refine attrW rfl hw rfl _ (attrW rfl hw rfl _ (attrW rfl hw rfl _ (attrW rfl hw rfl _ ?_)))
 exact s41 (w:=⟨pc,w.at_,w.ms⟩) W h
theorem s42 (W:Fns c) {s:List Nat} {ho:Addr} (h:∀ H' sf dm hl,MatchAt H' sf dm s ho hl→H' hl=some (.list [])→Frm [] H H'→H sf=none→H dm=none→H hl=none→Q (.ref sf) H'):CS c prog (d+6) (.fn 42) [.str s,.ref ho] H Q:=by
 refine clsCall (d:=d+1) W.X W.m42 (by decide) (by decide) fun x dx hx hdx hne=>?_
 refine callB W.X W.f70 (by decide) rfl ?_
 have step:∀ (H1:MH) (m:List (Nat×PV)) (n:Nat) (v':PV),H1 x=some (.inst 42 dx)→Frm [] H H1→(upd H1 dx (.ns (putA n v' m))) x=some (.inst 42 dx)∧(upd H1 dx (.ns (putA n v' m))) dx=some (.ns (putA n v' m))∧Frm [] H (upd H1 dx (.ns (putA n v' m))) :=
  fun H1 m n v' h1 h2=>⟨by rw [upd_other hne]; exact h1,upd_self,frm_up h2 (.inr hdx)⟩
 have a0:(upd (upd H dx (.ns [])) x (.inst 42 dx)) x=some (.inst 42 dx):=upd_self
 have b0:(upd (upd H dx (.ns [])) x (.inst 42 dx)) dx=some (.ns []):=by rw [upd_other (Ne.symm hne)]; exact upd_self
 have c0:Frm [] H (upd (upd H dx (.ns [])) x (.inst 42 dx)):=frm_up (frm_up Frm.refl (.inr hdx)) (.inr hx)
 (revert a0 b0 c0; refine genl (upd (upd H dx (.ns [])) x (.inst 42 dx)) fun H0 a0 b0 c0=>?_)
 obtain ⟨a1,b1,c1⟩:=step H0 [] 6 (.str s) a0 c0
 refine asgAW (v:=.str s) rfl a0 b0 (ev_var rfl rfl) (by decide) (by simp) ?_
 (revert a1 b1 c1; refine genl (upd H0 dx _) fun H1 a1 b1 c1=>?_)
 obtain ⟨a2,b2,c2⟩:=step H1 _ 7 (.ref ho) a1 c1
 refine asgAW (v:=.ref ho) rfl a1 b1 (ev_var rfl rfl) (by decide) (by simp [putA_q1,putA_q2]) ?_
 (revert a2 b2 c2; refine genl (upd H1 dx _) fun H2 a2 b2 c2=>?_)
 refine w_asgA ?_
 refine viaK (fun K=>∀ l',H2 l'=none→K (.ref l') (upd H2 l' (.list []))) (fun K k=>by walk_at "mw"; exact k) ?_
 intro l' hl'
 have n1:l'≠dx:=ne_of hl' b2
 have n2:l'≠x:=ne_of hl' a2
 have hl0:=frm_none c2 hl' (by simp)
 have a3:(upd H2 l' (.list [])) x=some (.inst 42 dx):=by rw [upd_other (Ne.symm n2)]; exact a2
 have b3:=(show (upd H2 l' (.list [])) dx=H2 dx from upd_other (Ne.symm n1)).trans b2
 have c3:Frm [] H (upd H2 l' (.list [])):=frm_up c2 (.inr hl0)
 have e3:(upd H2 l' (.list [])) l'=some (.list []):=upd_self
 (revert a3 b3 c3 e3; refine genl (upd H2 l' (.list [])) fun H3 a3 b3 c3 e3=>?_)
 obtain ⟨a4,b4,c4⟩:=step H3 _ 8 (.ref l') a3 c3
 rw [wpX_var]
 refine ⟨rfl,?_⟩
 show setA (.ref x) 8 (.ref l') H3 _
 refine o_setA a3 b3 (by decide) (by simp [putA_q1,putA_q2]) ?_
 refine ⟨rfl,h _ x dx l' ⟨a4,?_⟩ ?_ c4 hx hdx hl0⟩
 ·rw [b4]; rfl
 ·rw [upd_other n1]; exact e3
end
set_option genInjectivity false in
structure Env where
 H0:MH
 sf:Addr
 dm:Addr
 hl:Addr
 ho:Addr
 dh:Addr
 ol:Addr
 s:List Nat
 os:List Ord
 v:PV
 f:PV
 l:PV
noncomputable def WaysAt (H:MH) (ol:Addr):List (Addr×Addr)→List PW→Prop
 | [],[]=>True
 | x::as,w::ws=>WayAt H x.1 x.2 ol w∧WaysAt H ol as ws
 | _,_=>False
structure Mach (E:Env) (H:MH) (n:Nat) (as:List (Addr×Addr)) (Ws:List PW):Prop where
 m:MatchAt H E.sf E.dm E.s E.ho E.hl
 h:H E.hl=some (.list ((as.map fun x=>PV.ref x.1).reverse))
 w:WaysAt H E.ol as Ws
 nd:(as.map Prod.snd).Nodup
 o:H E.ol=some (.list (E.os.map encO))
 host:HostAt H E.ho E.dh E.v E.f E.l n
 fr:Frm [E.dh] E.H0 H
 f1:∀ x∈as,E.H0 x.2=none
 f2:E.H0 E.hl=none
 f3:E.H0 E.dh≠none
 f4:E.H0 E.ol≠none
structure Cur (E:Env) (H:MH) (a da:Addr) (w:PW) (as:List (Addr×Addr)):Prop where
 w:WayAt H a da E.ol w
 n:da∉as.map Prod.snd
 f:E.H0 da=none
theorem WaysAt.mem {H:MH} {ol:Addr}:∀ {as:List (Addr×Addr)} {Ws:List PW},WaysAt H ol as Ws→∀ x∈as,∃ w,WayAt H x.1 x.2 ol w
 | [],_,_,x,hx=>by simp at hx
 | y::as,[],h,x,hx=>h.elim
 | y::as,w::Ws,h,x,hx=>by
  rcases List.mem_cons.mp hx with rfl | hx
  ·exact ⟨w,h.1⟩
  ·exact h.2.mem x hx
theorem WayAt.eq {H H':MH} {a da ol:Addr} {w:PW} (h:WayAt H a da ol w) (h1:H' a=H a) (h2:H' da=H da):WayAt H' a da ol w:=⟨by rw [h1]; exact h.i,by rw [h2]; exact h.d⟩
theorem WaysAt.eq {H H':MH} {ol:Addr}:∀ {as:List (Addr×Addr)} {Ws:List PW},WaysAt H ol as Ws→(∀ x∈as,H' x.1=H x.1∧H' x.2=H x.2)→WaysAt H' ol as Ws
 | [],[],_,_=>trivial
 | [],_::_,h,_=>h.elim
 | _::_,[],h,_=>h.elim
 | y::as,w::Ws,h,k=>⟨h.1.eq (k y List.mem_cons_self).1 (k y List.mem_cons_self).2,h.2.eq fun x hx=>k x (List.mem_cons_of_mem _ hx)⟩
theorem WaysAt.len {H:MH} {ol:Addr}:∀ {as:List (Addr×Addr)} {Ws:List PW},WaysAt H ol as Ws→as.length=Ws.length
 | [],[],_=>rfl
 | [],_::_,h=>h.elim
 | _::_,[],h=>h.elim
 | y::as,w::Ws,h=>by simp [h.2.len]
section
variable {E:Env} {H H':MH} {n:Nat} {as:List (Addr×Addr)} {Ws:List PW} {a da x dx:Addr} {w w':PW}
theorem ne_some {H:MH} {a b:Addr} {o p:MO} (h:H a=some o) (k:H b=some p) (n:o≠p):a≠b:=by
 rintro rfl
 rw [h] at k
 exact n (Option.some.inj k)
theorem Cur.ne (c:Cur E H a da w as) (M:Mach E H n as Ws):da≠E.sf∧da≠E.dm∧da≠E.hl∧da≠E.ol∧da≠E.ho∧da≠E.dh∧(∀ x∈as,da≠x.1∧da≠x.2)∧a≠da :=
 ⟨ne_some c.w.d M.m.i (by unfold wayNs; exact fun e=>by cases e),ne_some c.w.d M.m.d (by unfold wayNs; exact fun e=>by cases e),ne_some c.w.d M.h (by unfold wayNs; exact fun e=>by cases e),ne_some c.w.d M.o (by unfold wayNs; exact fun e=>by cases e),ne_some c.w.d M.host.i (by unfold wayNs; exact fun e=>by cases e),ne_some c.w.d M.host.d (by unfold wayNs hostNs; exact fun e=>by cases e),
  fun x hx=>⟨by obtain ⟨w1,h1⟩:=M.w.mem x hx; exact ne_some c.w.d h1.i (by unfold wayNs; exact fun e=>by cases e),fun e=>c.n (by rw [e]; exact List.mem_map_of_mem hx)⟩,Ne.symm (ne_some c.w.d c.w.i (by unfold wayNs; exact fun e=>by cases e))⟩
theorem Mach.way (M:Mach E H n as Ws) (c:Cur E H a da w as):Mach E (upd H da (wayNs E.ol w')) n as Ws:=by
 obtain ⟨n1,n2,n3,n4,n5,n6,n7,n8⟩:=c.ne M
 exact ⟨⟨by rw [upd_other (Ne.symm n1)]; exact M.m.i,by rw [upd_other (Ne.symm n2)]; exact M.m.d⟩,by rw [upd_other (Ne.symm n3)]; exact M.h,
  M.w.eq fun x hx=>⟨upd_other (Ne.symm (n7 x hx).1),upd_other (Ne.symm (n7 x hx).2)⟩,M.nd,by rw [upd_other (Ne.symm n4)]; exact M.o,
  ⟨by rw [upd_other (Ne.symm n5)]; exact M.host.i,by rw [upd_other (Ne.symm n6)]; exact M.host.d⟩,frm_up M.fr (.inr c.f),M.f1,M.f2,M.f3,M.f4⟩
theorem Cur.way (c:Cur E H a da w as) (M:Mach E H n as Ws):Cur E (upd H da (wayNs E.ol w')) a da w' as:=by
 obtain ⟨n1,n2,n3,n4,n5,n6,n7,n8⟩:=c.ne M
 exact ⟨⟨by rw [upd_other n8]; exact c.w.i,upd_self⟩,c.n,c.f⟩
theorem some_ne {H:MH} {a:Addr} {o:MO} (h:H a=some o):H a≠none:=by rw [h]; exact fun e=>by cases e
theorem Mach.none0 (M:Mach E H n as Ws) {p:Addr} (h:H p=none):E.H0 p=none:=by
 induction q:E.H0 p using Option.casesOn with
 | none=>rfl
 | some z =>
  by_cases hp:p=E.dh
  ·rw [hp,M.host.d] at h; cases h
  ·have:=M.fr p (by rw [q]; exact fun e=>by cases e) (by simpa using hp)
   rw [h,q] at this; cases this
theorem Mach.keep (M:Mach E H n as Ws) (k:Frm [] H H'):Mach E H' n as Ws:=by
 have g:∀ {p:Addr} {o:MO},H p=some o→H' p=some o:=fun {p o} h=>by rw [k p (some_ne h) (by simp)]; exact h
 exact ⟨⟨g M.m.i,g M.m.d⟩,g M.h,M.w.eq fun x hx=>by
   obtain ⟨w1,h1⟩:=M.w.mem x hx
   exact ⟨k _ (some_ne h1.i) (by simp),k _ (some_ne h1.d) (by simp)⟩,M.nd,g M.o,⟨g M.host.i,g M.host.d⟩,M.fr.trans (k.mono (by simp)),M.f1,M.f2,M.f3,M.f4⟩
theorem Cur.keep (c:Cur E H a da w as) (k:Frm [] H H'):Cur E H' a da w as :=
 ⟨c.w.eq (k _ (some_ne c.w.i) (by simp)) (k _ (some_ne c.w.d) (by simp)),c.n,c.f⟩
theorem Mach.hlNe (M:Mach E H n as Ws):E.hl≠E.sf∧E.hl≠E.dm∧E.hl≠E.ol∧E.hl≠E.ho∧E.hl≠E.dh∧(∀ (x:Addr×Addr) (w:PW),WayAt H x.1 x.2 E.ol w→E.hl≠x.1∧E.hl≠x.2) :=
 ⟨ne_some M.h M.m.i (fun e=>by cases e),ne_some M.h M.m.d (fun e=>by cases e),fun e=>M.f4 (e ▸ M.f2),ne_some M.h M.host.i (fun e=>by cases e),ne_some M.h M.host.d (by unfold hostNs; exact fun e=>by cases e),
  fun x w h=>⟨ne_some M.h h.i (fun e=>by cases e),ne_some M.h h.d (by unfold wayNs; exact fun e=>by cases e)⟩⟩
theorem Mach.hist {bs:List (Addr×Addr)} {Vs:List PW} (M:Mach E H n as Ws) (h1:WaysAt H E.ol bs Vs) (h2:(bs.map Prod.snd).Nodup) (h3:∀ x∈bs,E.H0 x.2=none):Mach E (upd H E.hl (.list ((bs.map fun x=>PV.ref x.1).reverse))) n bs Vs:=by
 obtain ⟨n1,n2,n3,n4,n5,n6⟩:=M.hlNe
 exact ⟨⟨by rw [upd_other (Ne.symm n1)]; exact M.m.i,by rw [upd_other (Ne.symm n2)]; exact M.m.d⟩,upd_self,h1.eq fun x hx=>by
   obtain ⟨w1,h4⟩:=h1.mem x hx
   exact ⟨upd_other (Ne.symm (n6 x w1 h4).1),upd_other (Ne.symm (n6 x w1 h4).2)⟩,h2,by rw [upd_other (Ne.symm n3)]; exact M.o,
  ⟨by rw [upd_other (Ne.symm n4)]; exact M.host.i,by rw [upd_other (Ne.symm n5)]; exact M.host.d⟩,frm_up M.fr (.inr M.f2),h3,M.f2,M.f3,M.f4⟩
theorem Cur.hist {bs:List (Addr×Addr)} {o:MO} (c:Cur E H a da w as) (M:Mach E H n as Ws) (h:da∉bs.map Prod.snd):Cur E (upd H E.hl o) a da w bs:=by
 obtain ⟨n1,n2,n3,n4,n5,n6⟩:=M.hlNe
 obtain ⟨m1,m2⟩:=n6 (a,da) w c.w
 exact ⟨c.w.eq (upd_other (Ne.symm m1)) (upd_other (Ne.symm m2)),h,c.f⟩
theorem Mach.inc (M:Mach E H n as Ws):Mach E (upd H E.dh (hostNs E.v E.f E.l (n+1))) (n+1) as Ws:=by
 have n1:E.dh≠E.sf:=ne_some M.host.d M.m.i (by unfold hostNs; exact fun e=>by cases e)
 have n2:E.dh≠E.dm:=ne_some M.host.d M.m.d (by unfold hostNs; exact fun e=>by cases e)
 have n3:E.dh≠E.hl:=ne_some M.host.d M.h (by unfold hostNs; exact fun e=>by cases e)
 have n4:E.dh≠E.ol:=ne_some M.host.d M.o (by unfold hostNs; exact fun e=>by cases e)
 have n5:E.dh≠E.ho:=ne_some M.host.d M.host.i (by unfold hostNs; exact fun e=>by cases e)
 exact ⟨⟨by rw [upd_other (Ne.symm n1)]; exact M.m.i,by rw [upd_other (Ne.symm n2)]; exact M.m.d⟩,by rw [upd_other (Ne.symm n3)]; exact M.h,M.w.eq fun x hx=>by
   obtain ⟨w1,h4⟩:=M.w.mem x hx
   exact ⟨upd_other (ne_some h4.i M.host.d (by unfold hostNs; exact fun e=>by cases e)),upd_other (ne_some h4.d M.host.d (by unfold wayNs hostNs; exact fun e=>by cases e))⟩,M.nd,by rw [upd_other (Ne.symm n4)]; exact M.o,
  ⟨by rw [upd_other (Ne.symm n5)]; exact M.host.i,upd_self⟩,frm_up M.fr (.inl (by simp)),M.f1,M.f2,M.f3,M.f4⟩
theorem Cur.inc (c:Cur E H a da w as) (M:Mach E H n as Ws):Cur E (upd H E.dh (hostNs E.v E.f E.l (n+1))) a da w as :=
 ⟨c.w.eq (upd_other (ne_some c.w.i M.host.d (by unfold hostNs; exact fun e=>by cases e))) (upd_other (ne_some c.w.d M.host.d (by unfold wayNs hostNs; exact fun e=>by cases e))),c.n,c.f⟩
end
theorem mq_i {C:Cl} {H:MH} {Q:PV→MH→Prop} {r:List PV} {xs:Xs} {a da:Addr} {k n f:Nat} {m:List (Nat×PV)} (e1:H a=some (.inst k da)) (e2:H da=some (.ns m)) (e4:mth k n=some f) (e3:(m.lookup n).isNone=true) (h:wpXs C xs r H fun ps H=>C (.fn f) (.ref a::ps) H Q):mq C (.ref a) n xs r H Q:=by
 unfold mq
 rw [bind_inst e1 e2 e4 e3]; exact h
theorem attrE {C:Cl} {r:List PV} {H:MH} {i n k:Nat} {a dd:Addr} {m:List (Nat×PV)} {p:PV} (g:get r i=.ref a) (h1:H a=some (.inst k dd)) (h2:H dd=some (.ns m)) (hp:m.lookup n=some p):Ev C (.attr (.var i) n) r H p:=fun K kk=>by
 rw [wx_attr,wpX_var,g]
 refine ⟨rfl,?_⟩
 show attrOp (.ref a) n H K
 exact o_attr h1 h2 hp kk
theorem augAE {C:Cl} {r:List PV} {H:MH} {Q:QS} {ss:Ss} {i n k:Nat} {a dd:Addr} {m:List (Nat×PV)} {p:Nat} (g:get r i=.ref a) (h1:H a=some (.inst k dd)) (h2:H dd=some (.ns m)) (hp:m.lookup n=some (.int p)) (hn:n<15) (hm:m.length≤100)
  (kk:wpSs C ss r (upd H dd (.ns (putA n (.int ((p+1:Nat):Int)) m))) Q):wpSs C (.cons (.augA (.var i) n .Add (.lit (.int 1))) ss) r H Q:=by
 refine s_augA (m:=1) ?_
 rw [wpX_var,g]
 refine ⟨rfl,?_⟩
 show attrOp (.ref a) n H _
 refine o_attr h1 h2 hp ⟨_,rfl,?_⟩
 exact o_setA (p:=.int ((p:Int)+1)) (Q:=fun H=>wpSs C ss r H Q) h1 h2 hn hm kk
section
variable {c:Cx} {prog:Program} {d:Nat} {H:MH} {Q:PV→MH→Prop} {E:Env} {n:Nat} {as:List (Addr×Addr)} {Ws:List PW} {a da:Addr} {w:PW}
theorem s72n (W:Fns c) (M:Mach E H n [] Ws) (h:Q .none H):CS c prog (d+1) (.fn 72) [.ref E.sf] H Q:=by
 refine callB W.X W.f72 (by decide) rfl ?_
 show wpSs _ _ [.ref E.sf,.undef] H _
 refine retW ?_
 rw [wx_ife,wx_cmp,wx_call,wx_lit]
 refine ⟨show (0:Nat)<8 by decide,?_⟩
 simp only [wpXs_q1,wpXs_q2]
 refine attrE rfl M.m.i M.m.d rfl _ ?_
 show biOp 0 [.ref E.hl] H _
 exact i_len M.h rfl ⟨of_decide_eq_true rfl,h⟩
theorem s72c (W:Fns c) {x:Addr×Addr} {w:PW} (M:Mach E H n (x::as) (w::Ws)) (hl:as.length<900000) (h:∀ H',Mach E H' n as Ws→Cur E H' x.1 x.2 w as→Q (.ref x.1) H'):CS c prog (d+1) (.fn 72) [.ref E.sf] H Q:=by
 refine callB W.X W.f72 (by decide) rfl ?_
 show wpSs _ _ [.ref E.sf,.undef] H _
 have hh:=M.h
 have e1:((x::as).map fun y=>PV.ref y.1).reverse=(as.map fun y=>PV.ref y.1).reverse++[.ref x.1]:=by simp
 rw [e1] at hh
 have e2:((as.map fun y=>PV.ref y.1).reverse).length=as.length:=by simp
 refine retW ?_
 rw [wx_ife,wx_cmp,wx_call,wx_lit]
 refine ⟨show (0:Nat)<8 by decide,?_⟩
 simp only [wpXs_q1,wpXs_q2]
 refine attrE rfl M.m.i M.m.d rfl _ ?_
 show biOp 0 [.ref E.hl] H _
 refine i_len (n:=as.length+1) hh (by rw [List.length_append,e2]; rfl) ⟨by unfold big; lia,?_⟩
 rw [wx_lit]
 have e3:decide ((0:Int)<((as.length+1:Nat):Int))=true:=decide_eq_true (by lia)
 refine o_gt ?_
 rw [e3]
 show wpX _ (.meth (.attr (.var 0) 8) 32 .nil) _ _ _
 rw [wx_meth]
 refine attrE rfl M.m.i M.m.d rfl _ ?_
 have hb:∀ C,bindOp C (.ref E.hl) 32 H=some (listMeth E.hl 32):=fun C=>bind_list hh (by decide)
 rw [hb]
 simp only [wpXs_q1,wpXs_q2]
 show listMeth E.hl 32 [] H _
 refine o_pop1 hh (by rw [List.length_append,e2,List.length_singleton]; unfold big; lia) ?_
 have nd:=M.nd
 rw [List.map_cons,List.nodup_cons] at nd
 refine h _ (M.hist M.w.2 nd.2 fun y hy=>M.f1 y (List.mem_cons_of_mem _ hy)) ?_
 obtain ⟨n1,n2,n3,n4,n5,n6⟩:=M.hlNe
 obtain ⟨m1,m2⟩:=n6 x w M.w.1
 exact ⟨M.w.1.eq (upd_other (Ne.symm m1)) (upd_other (Ne.symm m2)),nd.1,M.f1 x List.mem_cons_self⟩
end
theorem upd_upd {H:MH} {a:Addr} {o p:MO}:upd (upd H a o) a p=upd H a p:=by
 funext b
 by_cases h:b=a
 ·subst h; rw [upd_self,upd_self]
 ·rw [upd_other h,upd_other h,upd_other h]
section
variable {c:Cx} {prog:Program} {d:Nat} {H:MH} {Q:PV→MH→Prop} {E:Env} {n:Nat} {as:List (Addr×Addr)} {Ws:List PW} {a da:Addr} {w:PW}
theorem methM {C:Cl} {r:List PV} {i k f:Nat} {xs:Xs} {K:PV→MH→Prop} (g:get r i=.ref E.sf) (M:Mach E H n as Ws) (hm:mth 42 k=some f) (hk:k≠6∧k≠7∧k≠8) (kk:wpXs C xs r H fun ps H=>C (.fn f) (.ref E.sf::ps) H K):wpX C (.meth (.var i) k xs) r H K:=by
 rw [wx_meth,wpX_var,g]
 refine ⟨rfl,?_⟩
 have hb:bindOp C (.ref E.sf) k H=some fun args H Q=>C (.fn f) (.ref E.sf::args) H Q:=by
  have k6:(k==6)=false:=beq_eq_false_iff_ne.mpr hk.1
  have k7:(k==7)=false:=beq_eq_false_iff_ne.mpr hk.2.1
  have k8:(k==8)=false:=beq_eq_false_iff_ne.mpr hk.2.2
  exact bind_inst M.m.i M.m.d hm (by rw [List.lookup_cons,k6,List.lookup_cons,k7,List.lookup_cons,k8]; rfl)
 rw [hb]
 exact kk
noncomputable def arbEnds (p N:Nat):List Nat:=(List.range (N+1 - p)).map (p+·)
theorem s12 (W:Fns c) {s:List Nat} {p:Nat} (hs:s.length≤1000) (hp:p≤100000) (h:∀ e H',H e=none→Frm [] H H'→H' e=some (.list ((arbEnds p s.length).map fun q=>PV.int (q:Nat)))→Q (.ref e) H'):CS c prog (d+1) (.fn 12) [.str s,.int p] H Q:=by
 refine callB W.X W.f12 (by decide) rfl ?_
 show wpSs _ _ [.str s,.int p,.undef,.undef,.undef] H _
 refine retW (viaK (fun K=>∀ e,H e=none→K (.ref e) (upd H e (.list (rngItems p ((s.length:Int)+1))))) (fun K k=>?_) ?_)
 ·refine x_bi (k:=5) (by decide) ?_
  refine xs_cons ?_
  refine x_bi (k:=1) (by decide) ?_
  simp only [wpXs_q1,wpXs_q2]
  refine x_var rfl ?_
  rw [wx_bin,wx_call,wx_lit]
  refine ⟨show (0:Nat)<8 by decide,?_⟩
  refine xs_cons ?_
  refine x_var rfl ?_
  refine ⟨big1' _ (by lia),?_⟩
  have h1:(p:Int).natAbs≤big:=big1' _ (by lia)
  have h2:((s.length:Int)+1).natAbs≤big:=big1' _ (by lia)
  exact ⟨h1,h2,h1,h2,k⟩
 intro e he
 refine h e _ he (Frm.upd (.inr he)) ?_
 rw [upd_self]
 congr 2
 unfold rngItems arbEnds
 rw [List.map_map,show ((s.length:Int)+1 - p).toNat=s.length+1 - p by lia]
 refine List.map_congr_left fun k _=>?_
 simp
theorem s15 (W:Fns c) {s:List Nat} {p:Nat} (hs:s.length≤1000) (hp:p≤100000) (h:∀ e H',H e=none→Frm [] H H'→H' e=some (.list ((arbEnds p s.length).map fun q=>PV.int (q:Nat)))→Q (.ref e) H'):CS c prog (d+2) (.fn 15) [.str [97,114,98],.str s,.int p,.none] H Q:=by
 refine callB W.X W.f15 (by decide) rfl ?_
 show wpSs _ _ [.str [97,114,98],.str s,.int p,.none,.undef,.undef,.undef,.undef,.undef] H _
 refine ifT (ev_eqT (y:=[97,114,98]) rfl rfl) (retW ?_)
 refine x_fn (k:=12) (by decide) ?_
 simp only [wpXs_q1,wpXs_q2]
 refine x_var rfl ?_
 rw [wpX_var]
 exact ⟨rfl,s12 W hs hp h⟩
theorem s16 (W:Fns c) (h:∀ e H',Frm [] H H'→H' e=some (.list [])→Q (.ref e) H'):CS c prog (d+1) (.fn 16) [.none] H Q:=by
 refine callB W.X W.f16 (by decide) rfl ?_
 show wpSs _ _ [.none,.undef,.undef] H _
 refine asgW' (viaK (fun K=>∀ e,H e=none→K (.ref e) (upd H e (.list []))) (fun K k=>by walk_at "mw"; exact k) ?_)
 intro e he
 have f1:Frm [] H (upd H e (.list [])):=Frm.upd (.inr he)
 have h1:(upd H e (.list [])) e=some (.list []):=upd_self
 (revert f1 h1; refine genl (upd H e (.list [])) fun H1 f1 h1=>?_)
 show wpSs _ _ [.none,.ref e,.undef] H1 _
 refine whlE (fun m r H'=>r=[.none,.ref e,.undef]∧H'=H1) ⟨0,rfl,rfl⟩ ?_
 rintro m r H' ⟨rfl,rfl⟩
 refine ⟨false,fun K k=>by walk_at "mw"; exact k,fun h=>by simp at h,fun _=>?_⟩
 refine exprW (viaK (fun K=>∀ H2,Frm [] H H2→H2 e=some (.list [])→K .none H2) (fun K k=>?_) ?_)
 ·refine x_meth (x_var rfl ?_)
  have hb:∀ C,bindOp C (.ref e) 34 H'=some (listMeth e 34):=fun C=>bind_list h1 (by decide)
  show (match bindOp _ (.ref e) 34 H' with | some g=>_ | none=>False)
  rw [hb]
  refine xs_nil ?_
  exact i_listM h1 ⟨of_decide_eq_true rfl,k _ (frm_up f1 (.inr he)) upd_self⟩
 intro H2 f2 h2
 exact retE (v:=.ref e) (ev_var rfl rfl) (h e H2 f2 h2)
theorem subE {C:Cl} {r:List PV} {i k:Nat} {xs:List PV} {p:PV} (g:get r i=.tup xs) (hk:k<xs.length) (hl:xs.length≤1000) (hp:xs.getD k .undef=p):Ev C (.sub (.var i) (.lit (.int k))) r H p:=fun K kk=>by
 rw [wx_sub,wpX_var,g]
 refine ⟨rfl,?_⟩
 refine x_lit ?_
 show subOp (.tup xs) (.int k) H K
 refine (show subOp (.tup xs) (.int k) H K from (⟨by lia,by lia,big1' _ (by lia),?_⟩:0≤(k:Int)∧_))
 rw [Int.toNat_natCast,hp]
 exact kk
theorem s74 (W:Fns c) {l:Lf} (hl:leafOk l) (hs:E.s.length≤big) (M:Mach E H n as Ws) (c0:Cur E H a da w as)
  (h0:leafEnd E.s l w.at_=none→Q (.bool false) H) (h1:∀ q,leafEnd E.s l w.at_=some q→Q (.bool true) (upd H da (wayNs E.ol ⟨w.pc+1,q,w.ms⟩))):CS c prog (d+4) (.fn 74) [.ref E.sf,encO (.one l),.ref a] H Q:=by
 refine callB W.X W.f74 (by decide) rfl ?_
 have ut:=isU_told l
 show wpSs _ _ [.ref E.sf,.tup [.str [111,110,101],.str (kindL l),toldL l],.ref a,.undef,.undef,.undef,.undef,.undef,.undef,.undef] H _
 refine asgE (subE (k:=2) rfl (of_decide_eq_true rfl) (by simp) rfl) ?_
 show wpSs _ _ [.ref E.sf,.tup [.str [111,110,101],.str (kindL l),toldL l],.ref a,toldL l,.undef,.undef,.undef,.undef,.undef,.undef] H _
 refine ifF (fun K k=>?_) ?_
 ·refine x_bi (k:=4) (by decide) ?_
  refine xs_cons ?_
  refine x_var ut ?_
  refine x_lit ?_
  show biOp 4 [toldL l,.bi 7] H K
  induction l using Lf.casesOn <;> exact k
 refine asgW' ?_
 refine x_fn (k:=14) (by decide) ?_
 refine xs_cons ?_
 refine x_tup ?_
 refine xs_cons ?_
 refine subE (k:=1) rfl (of_decide_eq_true rfl) (by simp) rfl _ ?_
 refine x_var ut ?_
 refine ⟨of_decide_eq_true rfl,?_⟩
 refine attrE rfl M.m.i M.m.d rfl _ (attrE rfl c0.w.i c0.w.d rfl _ ?_)
 refine s14 (l:=l) W hl hs ?_
 induction hq:leafEnd E.s l w.at_ using Option.casesOn with
 | none =>
  show wpSs _ _ [.ref E.sf,.tup [.str [111,110,101],.str (kindL l),toldL l],.ref a,toldL l,.undef,.none,.undef,.undef,.undef,.undef] H _
  refine ifT (fun K k=>by walk_at "mw"; exact k) ?_
  exact retE (v:=.bool false) (fun K k=>by rw [wx_lit]; exact k) (h0 hq)
 | some q =>
  show wpSs _ _ [.ref E.sf,.tup [.str [111,110,101],.str (kindL l),toldL l],.ref a,toldL l,.undef,.int q,.undef,.undef,.undef,.undef] H _
  refine ifF (fun K k=>by walk_at "mw"; exact k) ?_
  have h1:=h1 q hq
  have nad:=(c0.ne M).2.2.2.2.2.2.2
  refine asgAW (v:=.int q) rfl c0.w.i c0.w.d (ev_var rfl rfl) (by decide) (by simp [wayNs]) ?_
  have i1:(upd H da (.ns (putA 2 (.int q) [(0,.ref E.ol),(1,.int w.pc),(2,.int w.at_),(3,.none),(4,encM w.ms),(5,.none)]))) a=some (.inst 41 da):=by rw [upd_other nad]; exact c0.w.i
  refine augAE (p:=w.pc) rfl i1 upd_self rfl (by decide) (by simp [putA_q1,putA_q2]) ?_
  rw [upd_upd]
  exact retE (v:=.bool true) (fun K k=>by rw [wx_lit]; exact k) h1
theorem s75 (W:Fns c) {b:Nat} {ms:List Nat} (hs:E.s.length≤big) (M:Mach E H n as Ws) (c0:Cur E H a da w as) (hw:w.ms=b::ms)
  (h:Q (.bool (decide (b<w.at_))) (upd H da (wayNs E.ol ⟨w.pc,w.at_,ms⟩))):CS c prog (d+1) (.fn 75) [.ref E.sf,encO .gain,.ref a] H Q:=by
 refine callB W.X W.f75 (by decide) rfl ?_
 have um:=isU_M ms
 show wpSs _ (.cons (.asgT [3,4] (.attr (.var 2) 4)) _) [.ref E.sf,.tup [.str [103,97,105,110]],.ref a,.undef,.undef,.undef,.undef,.undef] H _
 refine w_asgT ?_
 refine attrE (p:=.tup [encM ms,.int b]) rfl c0.w.i c0.w.d (by rw [hw]; rfl) _ ?_
 refine ⟨rfl,by decide,?_⟩
 show wpSs _ _ [.ref E.sf,.tup [.str [103,97,105,110]],.ref a,encM ms,.int b,.undef,.undef,.undef] H _
 refine asgAW (v:=encM ms) rfl c0.w.i c0.w.d (ev_var rfl um) (by decide) (by simp [wayNs]) ?_
 have M1:=M.way (w':=⟨w.pc,w.at_,ms⟩) c0
 have c1:=c0.way (w':=⟨w.pc,w.at_,ms⟩) M
 show wpSs _ _ _ (upd H da (wayNs E.ol ⟨w.pc,w.at_,ms⟩)) _
 (revert M1 c1 h; refine genl (upd H da (wayNs E.ol ⟨w.pc,w.at_,ms⟩)) fun H1 h M1 c1=>?_)
 refine asgW' ?_
 refine x_slice ?_
 refine attrE rfl M1.m.i M1.m.d rfl _ ?_
 refine x_var rfl ?_
 refine attrE rfl c1.w.i c1.w.d rfl _ ?_
 refine x_lit ?_
 show sliceOp (.str E.s) (.int b) (.int w.at_) .none H1 _
 unfold sliceOp
 refine ⟨by lia,by lia,hs,?_⟩
 (refine genl (PV.str (List.take ((w.at_:Int).toNat - (b:Int).toNat) (List.drop (b:Int).toNat E.s))) fun z=>?_)
 show wpSs _ _ [.ref E.sf,.tup [.str [103,97,105,110]],.ref a,encM ms,.int b,z,.undef,.undef] H1 _
 refine ifT (fun K k=>?_) (retW ?_)
 ·refine x_cmp ?_
  refine subE (k:=0) rfl (of_decide_eq_true rfl) (by simp) rfl _ ?_
  refine x_lit ?_
  exact k
 refine x_cmp ?_
 refine attrE rfl c1.w.i c1.w.d rfl _ ?_
 refine x_var rfl ?_
 show Q (.bool (decide ((b:Int)<w.at_))) H1
 have e:decide ((b:Int)<w.at_)=decide (b<w.at_):=by
  by_cases q:b<w.at_
  ·rw [decide_eq_true q,decide_eq_true (by lia)]
  ·rw [decide_eq_false q,decide_eq_false (by lia)]
 rw [e]
 exact h
end
section
variable {c:Cx} {prog:Program} {d:Nat} {H:MH} {Q:PV→MH→Prop} {E:Env} {n:Nat} {as:List (Addr×Addr)} {Ws:List PW} {a da:Addr} {w:PW}
theorem Mach.freshN (M:Mach E H n as Ws) {dx:Addr} (h:H dx=none):dx∉as.map Prod.snd∧E.H0 dx=none:=by
 refine ⟨fun hm=>?_,M.none0 h⟩
 obtain ⟨x,hx,rfl⟩:=List.mem_map.mp hm
 obtain ⟨w1,h1⟩:=M.w.mem x hx
 rw [h1.d] at h; cases h
theorem Cur.cons {x dx:Addr} (c:Cur E H a da w as) (h:da≠dx):da∉((x,dx)::as).map Prod.snd:=by
 rw [List.map_cons,List.mem_cons]
 rintro (q | q)
 ·exact h q
 ·exact c.n q
theorem pushK {K:PV→MH→Prop} {x:Addr×Addr} (M:Mach E H n as Ws) (hl:as.length<900000) (k:K .none (upd H E.hl (.list (((x::as).map fun y=>PV.ref y.1).reverse)))):listMeth E.hl 31 [.ref x.1] H K:=by
 refine i_listM M.h ⟨by rw [List.length_reverse,List.length_map]; unfold big; lia,?_⟩
 rw [List.map_cons,List.reverse_cons] at k
 exact k
theorem pushX {C:Cl} {r:List PV} {xx:X} {K:PV→MH→Prop} (g:get r 0=.ref E.sf) (M:Mach E H n as Ws) (kx:wpX C xx r H fun p H'=>listMeth E.hl 31 [p] H' K):wpX C (.meth (.attr (.var 0) 8) 31 (.cons xx .nil)) r H K:=by
 rw [wx_meth]
 refine attrE g M.m.i M.m.d rfl _ ?_
 have hb:∀ C,bindOp C (.ref E.hl) 31 H=some (listMeth E.hl 31):=fun C=>bind_list M.h (by decide)
 rw [hb]
 simp only [wpXs_q1,wpXs_q2]
 exact kx
theorem copiedX (W:Fns c) {r:List PV} {i pc:Nat} {xx:X} {ol:Addr} {K:PV→MH→Prop} (g:get r i=.ref a) (hw:WayAt H a da ol w) (hx:∀ C,Ev C xx r H (.int pc))
  (k:∀ H' x dx,WayAt H' x dx ol ⟨pc,w.at_,w.ms⟩→Frm [] H H'→H x=none→H dx=none→K (.ref x) H'):wpX (CS c prog (d+7)) (.meth (.var i) 21 (.cons xx .nil)) r H K:=by
 rw [wx_meth,wpX_var,g]
 refine ⟨rfl,?_⟩
 have hb:bindOp (CS c prog (d+7)) (.ref a) 21 H=some fun args H Q=>CS c prog (d+7) (.fn 61) (.ref a::args) H Q:=bind_inst hw.i hw.d rfl rfl
 rw [hb]
 refine xs_cons ?_
 exact hx _ _ (s61 W hw k)
theorem s77 (W:Fns c) {e:Addr} {es:List Nat} (M:Mach E H n as Ws) (c0:Cur E H a da w as) (he:H e=some (.list (es.map fun q=>PV.int (q:Nat)))) (hne:e≠E.hl) (hl:Ws.length+es.length<800000)
  (h0:es=[]→Q (.bool false) H) (h1:∀ q qs,es=q::qs→∀ H' as',Mach E H' n as' (qs.map (fun y=>(⟨w.pc+1,y,w.ms⟩:PW))++Ws)→Cur E H' a da ⟨w.pc+1,q,w.ms⟩ as'→Q (.bool true) H'):CS c prog (d+8) (.fn 77) [.ref E.sf,.ref a,.ref e] H Q:=by
 refine callB W.X W.f77 (by decide) rfl ?_
 show wpSs _ _ [.ref E.sf,.ref a,.ref e,.undef,.undef,.undef] H _
 have lenE:∀ {C:Cl},Ev C (.cmp .Eq (.call (.lit (.bi 0)) (.cons (.var 2) .nil)) (.lit (.int 0))) [.ref E.sf,.ref a,.ref e,.undef,.undef,.undef] H (.bool (decide ((es.length:Int)=0))):=fun {C} K k=>by
  rw [wx_cmp,wx_call,wx_lit]
  refine ⟨show (0:Nat)<8 by decide,?_⟩
  simp only [wpXs_q1,wpXs_q2]
  refine x_var rfl ?_
  show biOp 0 [.ref e] H _
  exact i_len he (List.length_map _) ⟨by unfold big; lia,k⟩
 induction es using List.casesOn with
 | nil =>
  refine ifT (lenE.cast rfl) ?_
  exact retE (v:=.bool false) (fun K k=>by rw [wx_lit]; exact k) (h0 rfl)
 | cons q qs =>
  have h1:=h1 q qs rfl
  have hl:Ws.length+qs.length<799999:=by rw [List.length_cons] at hl; lia
  refine ifF (lenE.cast (by rw [decide_eq_false]; simp only [List.length_cons]; lia)) ?_
  refine augAE (p:=w.pc) rfl c0.w.i c0.w.d rfl (by decide) (by simp) ?_
  have M1:=M.way (w':=⟨w.pc+1,w.at_,w.ms⟩) c0
  have c1:=c0.way (w':=⟨w.pc+1,w.at_,w.ms⟩) M
  have he1:(upd H da (wayNs E.ol ⟨w.pc+1,w.at_,w.ms⟩)) e=some (.list ((q::qs).map fun q=>PV.int (q:Nat))):=by
   rw [upd_other (ne_some he c0.w.d (by unfold wayNs; exact fun e=>by cases e))]; exact he
  show wpSs _ _ _ (upd H da (wayNs E.ol ⟨w.pc+1,w.at_,w.ms⟩)) _
  (revert M1 c1 he1; refine genl (upd H da (wayNs E.ol ⟨w.pc+1,w.at_,w.ms⟩)) fun H1 M1 c1 he1=>?_)
  show wpSs _ (.cons (.for_ 3 (.slice (.var 2) (.lit .none) (.lit (.int 0)) (.neg (.lit (.int 1)))) _) _) _ _ _
  refine w_for ?_
  refine viaK (fun K=>∀ sl,H1 sl=none→K (.ref sl) (upd H1 sl (.list (qs.reverse.map fun q=>PV.int (q:Nat))))) (fun K k=>?_) ?_
  ·refine x_slice (x_var rfl ?_)
   rw [wx_lit,wx_lit,wx_neg,wx_lit]
   show sliceOp (.ref e) .none (.int 0) (.int (-1)) H1 K
   refine i_slice he1 (show _≤big∧_ from ⟨by rw [List.length_map,List.length_cons]; unfold big; lia,?_⟩)
   show fresh H1 (.list (qs.map fun q:Nat=>PV.int q).reverse) K
   rw [← List.map_reverse]
   exact k
  intro sl hsl
  have f2:Frm [] H1 (upd H1 sl (.list (qs.reverse.map fun q=>PV.int (q:Nat)))):=Frm.upd (.inr hsl)
  have M2:=M1.keep f2
  have c2:=c1.keep f2
  have nsh:sl≠E.hl:=ne_of hsl M1.h
  have he2:=(f2 e (some_ne he1) (by simp)).trans he1
  have hs2:(upd H1 sl (.list (qs.reverse.map fun q=>PV.int (q:Nat)))) sl=some (.list (qs.reverse.map fun q=>PV.int (q:Nat))):=upd_self
  (revert f2 M2 c2 he2 hs2; refine genl (upd H1 sl (.list (qs.reverse.map fun q=>PV.int (q:Nat)))) fun H2 f2 M2 c2 he2 hs2=>?_)
  refine i_iter (n:=qs.length) hs2 (by rw [List.length_map,List.length_reverse]) ⟨by unfold big; lia,?_⟩
  have go:∀ (ys:List Nat) (x3 x4:PV) (H3:MH) (as3:List (Addr×Addr)) (Ws3:List PW),Mach E H3 n as3 Ws3→Cur E H3 a da ⟨w.pc+1,w.at_,w.ms⟩ as3→H3 e=some (.list ((q::qs).map fun q=>PV.int (q:Nat)))→H3 sl=some (.list (qs.reverse.map fun q=>PV.int (q:Nat)))→Ws3.length+ys.length<799999 →
    ∀ Q1:QS,(∀ H' as' x3 x4,Mach E H' n as' ((ys.reverse.map (fun y=>(⟨w.pc+1,y,w.ms⟩:PW)))++Ws3)→Cur E H' a da ⟨w.pc+1,w.at_,w.ms⟩ as'→H' e=some (.list ((q::qs).map fun q=>PV.int (q:Nat)))→Q1 .next [.ref E.sf,.ref a,.ref e,x3,x4,.undef] H') →
    forGo 3 (fun H'=>H' sl=some (.list (qs.reverse.map fun q=>PV.int (q:Nat)))) (fun r H Q=>wpSs (CS c prog (d+7)) (.cons (.asg 4 (.meth (.var 1) 21 (.cons (.attr (.var 1) 1) .nil))) (.cons (.asgA (.var 4) 2 (.var 3)) (.cons (.expr (.meth (.attr (.var 0) 8) 31 (.cons (.var 4) .nil))) .nil))) r H Q)
     (ys.map fun q=>PV.int (q:Nat)) [.ref E.sf,.ref a,.ref e,x3,x4,.undef] H3 Q1:=by
   intro ys
   induction ys with
   | nil =>
    intro x3 x4 H3 as3 Ws3 h3 h4 h5 h6 h7 Q1 k
    exact forNil h6 (k H3 as3 x3 x4 h3 h4 h5)
   | cons y ys ih =>
    intro x3 x4 H3 as3 Ws3 h3 h4 h5 h6 h7 Q1 k
    refine forCons h6 ?_
    show wpSs _ _ [.ref E.sf,.ref a,.ref e,.int y,x4,.undef] H3 _
    have h7:Ws3.length+ys.length<799998:=by rw [List.length_cons] at h7; lia
    refine asgW' (copiedX W rfl h4.w (fun C=>attrE rfl h4.w.i h4.w.d rfl) fun H4 x dx hx f4 nx ndx=>?_)
    show wpSs _ _ [.ref E.sf,.ref a,.ref e,.int y,.ref x,.undef] H4 _
    obtain ⟨k1,k2⟩:=h3.freshN ndx
    have M4:=h3.keep f4
    have c4:=h4.keep f4
    have e4:=(f4 e (some_ne h5) (by simp)).trans h5
    have s4':=(f4 sl (some_ne h6) (by simp)).trans h6
    have nda:da≠dx:=Ne.symm (ne_of ndx h4.w.d)
    have nda':a≠dx:=Ne.symm (ne_of ndx h4.w.i)
    have cx:Cur E H4 x dx ⟨w.pc+1,w.at_,w.ms⟩ as3:=⟨hx,k1,k2⟩
    refine asgAW (v:=.int y) rfl hx.i hx.d (ev_var rfl rfl) (by decide) (by simp) ?_
    show wpSs _ _ _ (upd H4 dx (wayNs E.ol ⟨w.pc+1,y,w.ms⟩)) _
    have M5:=M4.way (w':=⟨w.pc+1,y,w.ms⟩) cx
    have cx5:=cx.way (w':=⟨w.pc+1,y,w.ms⟩) M4
    have c5:Cur E (upd H4 dx (wayNs E.ol ⟨w.pc+1,y,w.ms⟩)) a da ⟨w.pc+1,w.at_,w.ms⟩ as3:=⟨c4.w.eq (upd_other nda') (upd_other nda),c4.n,c4.f⟩
    have e5:(upd H4 dx (wayNs E.ol ⟨w.pc+1,y,w.ms⟩)) e=some (.list ((q::qs).map fun q=>PV.int (q:Nat))):=by
     rw [upd_other (ne_some e4 hx.d (by unfold wayNs; exact fun e=>by cases e))]; exact e4
    have s5':(upd H4 dx (wayNs E.ol ⟨w.pc+1,y,w.ms⟩)) sl=some (.list (qs.reverse.map fun q=>PV.int (q:Nat))):=by
     rw [upd_other (ne_some s4' hx.d (by unfold wayNs; exact fun e=>by cases e))]; exact s4'
    (revert M5 cx5 c5 e5 s5'; refine genl (upd H4 dx (wayNs E.ol ⟨w.pc+1,y,w.ms⟩)) fun H5 M5 cx5 c5 e5 s5'=>?_)
    refine exprW (pushX rfl M5 ?_)
    refine x_var rfl ?_
    refine pushK (x:=(x,dx)) M5 (by rw [M5.w.len]; lia) (nilW ?_)
    have M6:=M5.hist (bs:=(x,dx)::as3) (Vs:=⟨w.pc+1,y,w.ms⟩::Ws3) ⟨cx5.w,M5.w⟩ (by rw [List.map_cons,List.nodup_cons]; exact ⟨k1,M5.nd⟩) (fun z hz=>by
     rcases List.mem_cons.mp hz with rfl | hz
     ·exact k2
     ·exact M5.f1 z hz)
    have c6:=c5.hist (bs:=(x,dx)::as3) (o:=.list ((((x,dx)::as3).map fun y=>PV.ref y.1).reverse)) M5 (c5.cons nda)
    refine ih (.int y) (.ref x) _ _ _ M6 c6 (by rw [upd_other hne]; exact e5) (by rw [upd_other nsh]; exact s5') (by rw [List.length_cons]; lia) Q1 fun H' as' x3' x4' g1 g2 g3=>k H' as' x3' x4' ?_ g2 g3
    rw [List.reverse_cons,List.map_append,List.append_assoc]
    exact g1
  refine go qs.reverse .undef .undef H2 as Ws M2 c2 he2 hs2 (by rw [List.length_reverse]; lia) _ fun H3 as3 x3 x4 M3 c3 he3=>sqN ?_
  rw [List.reverse_reverse] at M3
  have eE:∀ {C:Cl},Ev C (.sub (.var 2) (.lit (.int 0))) [.ref E.sf,.ref a,.ref e,x3,x4,.undef] H3 (.int q):=fun {C} K k=>by
   refine x_sub (x_var rfl ?_)
   refine x_lit ?_
   show subOp (.ref e) (.int 0) H3 K
   exact i_sub (n:=qs.length+1) he3 (by rw [List.length_map]; rfl) ⟨by lia,by lia,by unfold big; lia,k⟩
  refine asgAW (v:=.int q) rfl c3.w.i c3.w.d eE (by decide) (by simp) ?_
  exact retE (v:=.bool true) (fun K k=>by rw [wx_lit]; exact k) (h1 _ as3 (M3.way (w':=⟨w.pc+1,q,w.ms⟩) c3) (c3.way (w':=⟨w.pc+1,q,w.ms⟩) M3))
theorem s76 (W:Fns c) (hs:E.s.length≤1000) (hp:w.at_≤100000) (M:Mach E H n as Ws) (c0:Cur E H a da w as) (hl:Ws.length<700000)
  (h0:arbEnds w.at_ E.s.length=[]→∀ H',Mach E H' n as Ws→Q (.bool false) H') (h1:∀ q qs,arbEnds w.at_ E.s.length=q::qs→∀ H' as',Mach E H' n as' (qs.map (fun y=>(⟨w.pc+1,y,w.ms⟩:PW))++Ws)→Cur E H' a da ⟨w.pc+1,q,w.ms⟩ as'→Q (.bool true) H'):CS c prog (d+9) (.fn 76) [.ref E.sf,encO .ways,.ref a] H Q:=by
 refine callB W.X W.f76 (by decide) rfl ?_
 show wpSs _ _ [.ref E.sf,.tup [.str [119,97,121,115],.str [97,114,98]],.ref a,.undef,.undef,.undef,.undef,.undef,.undef,.undef,.undef,.undef] H _
 refine asgE (subE (k:=0) rfl (of_decide_eq_true rfl) (by simp) rfl) ?_
 show wpSs _ _ [.ref E.sf,.tup [.str [119,97,121,115],.str [97,114,98]],.ref a,.str [119,97,121,115],.undef,.undef,.undef,.undef,.undef,.undef,.undef,.undef] H _
 refine skipK (y:=[119,97,121,115]) rfl (by decide) (ifT (ev_eqT (y:=[119,97,121,115]) rfl rfl) (retW ?_))
 refine methM rfl M rfl (by decide) ?_
 refine xs_cons ?_
 refine x_var rfl ?_
 refine x_fn (k:=15) (by decide) ?_
 refine xs_cons ?_
 refine subE (k:=1) rfl (of_decide_eq_true rfl) (by simp) rfl _ (attrE rfl M.m.i M.m.d rfl _ (attrE rfl c0.w.i c0.w.d rfl _ ?_))
 refine x_lit ?_
 refine s15 (d:=d+6) W hs hp fun e H1 ne f1 he=>?_
 have M1:=M.keep f1
 have c1:=c0.keep f1
 exact s77 W M1 c1 he (ne_of ne M.h) (by unfold arbEnds; rw [List.length_map,List.length_range]; lia) (fun q=>h0 q H1 M1) h1
noncomputable def stepO (s:List Nat) (o:Ord) (w:PW):Option (PW×List PW):=match o with
 | .one l=>(leafEnd s l w.at_).map fun q=>(⟨w.pc+1,q,w.ms⟩,[])
 | .split g=>some (⟨w.pc+1,w.at_,w.ms⟩,[⟨g,w.at_,w.ms⟩])
 | .jump g=>some (⟨g,w.at_,w.ms⟩,[])
 | .mark=>some (⟨w.pc+1,w.at_,w.at_::w.ms⟩,[])
 | .gain=>(match w.ms with
  | b::r=>if b<w.at_ then some (⟨w.pc+1,w.at_,r⟩,[]) else none
  | []=>none)
 | .ways=>(match arbEnds w.at_ s.length with
  | q::qs=>some (⟨w.pc+1,q,w.ms⟩,qs.map fun y=>⟨w.pc+1,y,w.ms⟩)
  | []=>none)
 | _=>none
theorem stepO_q1:∀ (s:List Nat) (w:PW) (l:Lf),stepO s (Ord.one l) w=Option.map (fun (q:Nat)=>({ pc:=PW.pc w+1,at_:=q,ms:=PW.ms w },[])) (leafEnd s l (PW.at_ w)):=by intros; rfl
theorem stepO_q5:∀ (s:List Nat) (w:PW),stepO s Ord.gain w=match PW.ms w with | b::r=>if b<PW.at_ w then some ({ pc:=PW.pc w+1,at_:=PW.at_ w,ms:=r },[]) else none | []=>none:=by intros; rfl
theorem stepO_q6:∀ (s:List Nat) (w:PW),stepO s Ord.ways w=match arbEnds (PW.at_ w) (List.length s) with | q::qs=>some ({ pc:=PW.pc w+1,at_:=q,ms:=PW.ms w },List.map (fun (y:Nat)=>{ pc:=PW.pc w+1,at_:=y,ms:=PW.ms w }) qs) | []=>none:=by intros; rfl
noncomputable def goodO (o:Ord) (w:PW):Prop:=match o with
 | .one l=>leafOk l
 | .gain=>w.ms≠[]
 | .done=>False
 | .hole=>False
 | _=>True
theorem iteU {C:Cl} {t:X} {x y ss:Ss} {r:List PV} {Q:QS}:wpSs C (.cons (.ite t x y) ss) r H Q=wpX C t r H (fun p H=>match truth p with
  | some true=>wpSs C x r H (sq C ss Q)
  | some false=>wpSs C y r H (sq C ss Q)
  | none=>False):=rfl
theorem s73 (W:Fns c) {o:Ord} (hg:goodO o w) (hs:E.s.length≤1000) (hp:w.at_≤100000) (M:Mach E H n as Ws) (c0:Cur E H a da w as) (hl:Ws.length<700000)
  (h0:stepO E.s o w=none→∀ H',Mach E H' n as Ws→Q (.bool false) H') (h1:∀ w' ps,stepO E.s o w=some (w',ps)→∀ H' as',Mach E H' n as' (ps++Ws)→Cur E H' a da w' as'→Q (.bool true) H'):CS c prog (d+10) (.fn 73) [.ref E.sf,encO o,.ref a] H Q:=by
 refine callB W.X W.f73 (by decide) rfl ?_
 have hbig:E.s.length≤big:=big1' _ (by lia)
 have nad:=(c0.ne M).2.2.2.2.2.2.2
 have tailK:∀ (r:List PV) (H1:MH) (as1:List (Addr×Addr)) (Ws1:List PW) (w1:PW),get r 2=.ref a→Mach E H1 n as1 Ws1→Cur E H1 a da w1 as1 →
   (∀ H',Mach E H' n as1 Ws1→Cur E H' a da ⟨w1.pc+1,w1.at_,w1.ms⟩ as1→Q (.bool true) H') →
   wpSs (CS c prog (d+9)) (.cons (.augA (.var 2) 1 .Add (.lit (.int (1)))) (.cons (.ret (.lit (.bool true))) .nil)) r H1 (retQ Q):=fun r H1 as1 Ws1 w1 g M1 c1 k=>by
  refine augAE (p:=w1.pc) g c1.w.i c1.w.d rfl (by decide) (by simp) ?_
  exact retE (v:=.bool true) (fun K k=>by rw [wx_lit]; exact k) (k _ (M1.way (w':=⟨w1.pc+1,w1.at_,w1.ms⟩) c1) (c1.way (w':=⟨w1.pc+1,w1.at_,w1.ms⟩) M1))
 have word:∀ {C:Cl} {xs:List PV} {wd:List Nat} {x1:PV},xs.length≤3→Ev C (.sub (.var 1) (.lit (.int 0))) [.ref E.sf,.tup (.str wd::xs),.ref a,x1,.undef,.undef,.undef,.undef,.undef,.undef,.undef,.undef] H (.str wd):=fun {C xs wd x1} hx =>
  subE (k:=0) rfl (by simp) (by rw [List.length_cons]; lia) rfl
 induction o using Ord.casesOn with
 | one l =>
  show wpSs _ _ [.ref E.sf,.tup [.str [111,110,101],.str (kindL l),toldL l],.ref a,.undef,.undef,.undef,.undef,.undef,.undef,.undef,.undef,.undef] H _
  refine asgE (word (by simp)) ?_
  show wpSs _ _ [.ref E.sf,.tup [.str [111,110,101],.str (kindL l),toldL l],.ref a,.str [111,110,101],.undef,.undef,.undef,.undef,.undef,.undef,.undef,.undef] H _
  refine ifT (ev_eqT (y:=[111,110,101]) rfl rfl) (retW (methM rfl M rfl (by decide) ?_))
  simp only [wpXs_q1,wpXs_q2]
  rw [wpX_var,wpX_var]
  refine ⟨rfl,rfl,?_⟩
  refine s74 (d:=d+5) W hg hbig M c0 (fun q=>h0 ?_ H M) fun q hq=>h1 ⟨w.pc+1,q,w.ms⟩ [] ?_ _ as (M.way (w':=⟨w.pc+1,q,w.ms⟩) c0) (c0.way (w':=⟨w.pc+1,q,w.ms⟩) M)
  ·simp only [stepO_q1,stepO_q5,stepO_q6,q]; rfl
  ·simp only [stepO_q1,stepO_q5,stepO_q6,hq]; rfl
 | split g =>
  show wpSs _ _ [.ref E.sf,.tup [.str [115,112,108,105,116],.int g],.ref a,.undef,.undef,.undef,.undef,.undef,.undef,.undef,.undef,.undef] H _
  refine asgE (word (by simp)) ?_
  show wpSs _ _ [.ref E.sf,.tup [.str [115,112,108,105,116],.int g],.ref a,.str [115,112,108,105,116],.undef,.undef,.undef,.undef,.undef,.undef,.undef,.undef] H _
  refine ifF (ev_eqF (y:=[115,112,108,105,116]) rfl (by decide)) (ifT (ev_eqT (y:=[115,112,108,105,116]) rfl rfl) (exprW (pushX rfl M ?_)))
  refine copiedX (d:=d+2) W rfl c0.w (fun C=>subE (k:=1) rfl (of_decide_eq_true rfl) (by simp) rfl) fun H1 x dx hx f1 nx ndx=>?_
  obtain ⟨k1,k2⟩:=M.freshN ndx
  have M1:=M.keep f1
  have c1:=c0.keep f1
  have nda:da≠dx:=Ne.symm (ne_of ndx c0.w.d)
  refine pushK (x:=(x,dx)) M1 (by rw [M1.w.len]; lia) (nilW ?_)
  have M2:=M1.hist (bs:=(x,dx)::as) (Vs:=⟨g,w.at_,w.ms⟩::Ws) ⟨hx,M1.w⟩ (by rw [List.map_cons,List.nodup_cons]; exact ⟨k1,M1.nd⟩) (fun z hz=>by
   rcases List.mem_cons.mp hz with rfl | hz
   ·exact k2
   ·exact M1.f1 z hz)
  have c2:=c1.hist (bs:=(x,dx)::as) (o:=.list ((((x,dx)::as).map fun y=>PV.ref y.1).reverse)) M1 (c1.cons nda)
  exact tailK _ _ _ _ _ rfl M2 c2 fun H' M3 c3=>h1 _ _ rfl H' _ M3 c3
 | jump g =>
  show wpSs _ _ [.ref E.sf,.tup [.str [106,117,109,112],.int g],.ref a,.undef,.undef,.undef,.undef,.undef,.undef,.undef,.undef,.undef] H _
  refine asgE (word (by simp)) ?_
  show wpSs _ _ [.ref E.sf,.tup [.str [106,117,109,112],.int g],.ref a,.str [106,117,109,112],.undef,.undef,.undef,.undef,.undef,.undef,.undef,.undef] H _
  refine ifF (ev_eqF (y:=[106,117,109,112]) rfl (by decide)) (ifE (ev_eqF (y:=[106,117,109,112]) rfl (by decide)) (ifT (ev_eqT (y:=[106,117,109,112]) rfl rfl) ?_))
  refine asgAW (v:=.int g) rfl c0.w.i c0.w.d (subE (k:=1) rfl (of_decide_eq_true rfl) (by simp) rfl) (by decide) (by simp) ?_
  exact retE (v:=.bool true) (fun K k=>by rw [wx_lit]; exact k) (h1 _ _ rfl _ as (M.way (w':=⟨g,w.at_,w.ms⟩) c0) (c0.way (w':=⟨g,w.at_,w.ms⟩) M))
 | mark =>
  show wpSs _ _ [.ref E.sf,.tup [.str [109,97,114,107]],.ref a,.undef,.undef,.undef,.undef,.undef,.undef,.undef,.undef,.undef] H _
  refine asgE (word (by simp)) ?_
  show wpSs _ _ [.ref E.sf,.tup [.str [109,97,114,107]],.ref a,.str [109,97,114,107],.undef,.undef,.undef,.undef,.undef,.undef,.undef,.undef] H _
  refine ifF (ev_eqF (y:=[109,97,114,107]) rfl (by decide)) (ifE (ev_eqF (y:=[109,97,114,107]) rfl (by decide)) (ifE (ev_eqF (y:=[109,97,114,107]) rfl (by decide)) (ifT (ev_eqT (y:=[109,97,114,107]) rfl rfl) ?_)))
  refine asgAW (v:=encM (w.at_::w.ms)) rfl c0.w.i c0.w.d (fun K k=>?_) (by decide) (by simp) ?_
  ·refine x_tup ?_
   refine xs_cons ?_
   refine attrE rfl c0.w.i c0.w.d rfl _ (attrE rfl c0.w.i c0.w.d rfl _ ?_)
   exact ⟨of_decide_eq_true rfl,k⟩
  refine nilW ?_
  exact tailK [.ref E.sf,.tup [.str [109,97,114,107]],.ref a,.str [109,97,114,107],.undef,.undef,.undef,.undef,.undef,.undef,.undef,.undef] _ _ _ _ rfl (M.way (w':=⟨w.pc,w.at_,w.at_::w.ms⟩) c0) (c0.way (w':=⟨w.pc,w.at_,w.at_::w.ms⟩) M) fun H' M3 c3=>h1 _ _ rfl H' _ M3 c3
 | gain =>
  obtain ⟨b,ms,hw⟩:∃ b ms,w.ms=b::ms:=by
   induction q:w.ms using List.casesOn with
   | nil=>exact (hg q).elim
   | cons b ms=>exact ⟨b,ms,rfl⟩
  show wpSs _ _ [.ref E.sf,.tup [.str [103,97,105,110]],.ref a,.undef,.undef,.undef,.undef,.undef,.undef,.undef,.undef,.undef] H _
  refine asgE (word (by simp)) ?_
  show wpSs _ _ [.ref E.sf,.tup [.str [103,97,105,110]],.ref a,.str [103,97,105,110],.undef,.undef,.undef,.undef,.undef,.undef,.undef,.undef] H _
  refine ifF (ev_eqF (y:=[103,97,105,110]) rfl (by decide)) (ifE (ev_eqF (y:=[103,97,105,110]) rfl (by decide)) (ifE (ev_eqF (y:=[103,97,105,110]) rfl (by decide)) (ifE (ev_eqF (y:=[103,97,105,110]) rfl (by decide)) (ifT (fun K k=>?_) ?_))))
  ·refine x_cmp (x_var rfl ?_)
   refine x_tup ?_
   refine xs_cons (x_lit (xs_cons ?_))
   exact ⟨of_decide_eq_true rfl,k⟩
  have M1:=M.way (w':=⟨w.pc,w.at_,ms⟩) c0
  have c1:=c0.way (w':=⟨w.pc,w.at_,ms⟩) M
  rw [iteU,wx_not]
  refine methM rfl M rfl (by decide) ?_
  simp only [wpXs_q1,wpXs_q2]
  rw [wpX_var,wpX_var]
  refine ⟨rfl,rfl,?_⟩
  refine s75 (d:=d+8) W hbig M c0 hw ?_
  by_cases hb:b<w.at_
  ·rw [decide_eq_true hb]
   refine nilW (sqN (nilW (nilW (nilW (nilW ?_)))))
   exact tailK [.ref E.sf,.tup [.str [103,97,105,110]],.ref a,.str [103,97,105,110],.undef,.undef,.undef,.undef,.undef,.undef,.undef,.undef] _ _ _ ⟨w.pc,w.at_,ms⟩ rfl M1 c1 fun H' M3 c3=>h1 ⟨w.pc+1,w.at_,ms⟩ [] (by simp only [stepO_q1,stepO_q5,stepO_q6,hw,if_pos hb]) H' _ M3 c3
  ·rw [decide_eq_false hb]
   exact retE (v:=.bool false) (fun K k=>by rw [wx_lit]; exact k) (h0 (by simp only [stepO_q1,stepO_q5,stepO_q6,hw,if_neg hb]) _ M1)
 | ways =>
  show wpSs _ _ [.ref E.sf,.tup [.str [119,97,121,115],.str [97,114,98]],.ref a,.undef,.undef,.undef,.undef,.undef,.undef,.undef,.undef,.undef] H _
  refine asgE (word (by simp)) ?_
  show wpSs _ _ [.ref E.sf,.tup [.str [119,97,121,115],.str [97,114,98]],.ref a,.str [119,97,121,115],.undef,.undef,.undef,.undef,.undef,.undef,.undef,.undef] H _
  refine ifF (ev_eqF (y:=[119,97,121,115]) rfl (by decide)) (ifE (ev_eqF (y:=[119,97,121,115]) rfl (by decide)) (ifE (ev_eqF (y:=[119,97,121,115]) rfl (by decide)) (ifE (ev_eqF (y:=[119,97,121,115]) rfl (by decide)) (ifE (fun K k=>?_) (ifE (ev_eqF (y:=[119,97,121,115]) rfl (by decide)) (retW (methM rfl M rfl (by decide) ?_)))))))
  ·refine x_cmp (x_var rfl ?_)
   refine x_tup ?_
   refine xs_cons (x_lit (xs_cons ?_))
   exact ⟨of_decide_eq_true rfl,k⟩
  simp only [wpXs_q1,wpXs_q2]
  rw [wpX_var,wpX_var]
  refine ⟨rfl,rfl,?_⟩
  refine s76 W hs hp M c0 hl (fun q H' M'=>h0 (by simp only [stepO_q1,stepO_q5,stepO_q6,q]) H' M') fun q qs e H' as' M' c'=>h1 _ _ (by simp only [stepO_q1,stepO_q5,stepO_q6,e]) H' as' M' c'
 | done=>exact hg.elim
 | hole=>exact hg.elim
end
noncomputable def RunO (s:List Nat) (os:List Ord) (w:PW) (Ws:List PW) (k:Nat) (r:Option Nat):Prop:=Nat.rec (motive:=fun _=>PW→List PW→Option Nat→Prop) (fun _ _ _=>False)
 (fun k R w Ws r=>∃ o,os[w.pc]?=some o∧((o=.done∧k=0∧r=some w.at_)∨((goodO o w∧w.at_≤s.length)∧((∃ w' ps,stepO s o w=some (w',ps)∧R w' (ps++Ws) r)∨(stepO s o w=none∧((∃ w1 W1,Ws=w1::W1∧R w1 W1 r)∨(Ws=[]∧k=0∧r=none))))))) k w Ws r
section
variable {s:List Nat} {os:List Ord} {w w' w1:PW} {Ws ps:List PW} {o:Ord} {k:Nat} {r:Option Nat}
theorem RunO.met (h:os[w.pc]?=some Ord.done):RunO s os w Ws 1 (some w.at_):=⟨_,h,.inl ⟨rfl,rfl,rfl⟩⟩
theorem RunO.go (h:os[w.pc]?=some o) (g:goodO o w) (g2:w.at_≤s.length) (g3:stepO s o w=some (w',ps)) (R:RunO s os w' (ps++Ws) k r):RunO s os w Ws (k+1) r:=⟨o,h,.inr ⟨⟨g,g2⟩,.inl ⟨w',ps,g3,R⟩⟩⟩
theorem RunO.back (h:os[w.pc]?=some o) (g:goodO o w) (g2:w.at_≤s.length) (g3:stepO s o w=none) (R:RunO s os w1 Ws k r):RunO s os w (w1::Ws) (k+1) r:=⟨o,h,.inr ⟨⟨g,g2⟩,.inr ⟨g3,.inl ⟨w1,Ws,rfl,R⟩⟩⟩⟩
theorem RunO.lost (h:os[w.pc]?=some o) (g:goodO o w) (g2:w.at_≤s.length) (g3:stepO s o w=none):RunO s os w [] 1 none:=⟨o,h,.inr ⟨⟨g,g2⟩,.inr ⟨g3,.inr ⟨rfl,rfl,rfl⟩⟩⟩⟩
theorem RunO.inv {m:Nat} (R:RunO s os w Ws m r):∃ o,os[w.pc]?=some o∧o≠.hole∧1≤m∧(o=.done→r=some w.at_)∧(o≠.done→(goodO o w∧w.at_≤s.length) ∧
  (∀ w' ps,stepO s o w=some (w',ps)→∃ k,m=k+1∧RunO s os w' (ps++Ws) k r)∧(stepO s o w=none→(Ws=[]→r=none)∧∀ w1 Ws1,Ws=w1::Ws1→∃ k,m=k+1∧RunO s os w1 Ws1 k r)):=by
 induction m using Nat.casesAuxOn with
 | zero=>exact R.elim
 | succ k =>
  refine xe1 R fun o R=>cj2 R fun ho R=>⟨o,ho,?_⟩
  rcases R with ⟨e,_,er⟩ | ⟨g,R⟩
  ·exact ⟨fun h=>(by rw [e] at h; cases h),Nat.le_add_left _ _,fun _=>er,fun n=>(n e).elim⟩
  have ng:o≠.done:=fun e=>by rw [e] at g; exact g.1
  refine ⟨fun e=>(by rw [e] at g; exact g.1),Nat.le_add_left _ _,fun e=>(ng e).elim,fun _=>⟨g,?_⟩⟩
  rcases R with R | ⟨g3,R⟩
  ·refine xe2 R fun w' ps R=>⟨fun w2 ps2 e=>?_,fun e=>?_⟩
   ·have:=(R.1.symm.trans e)
    cases this
    exact ⟨k,rfl,R.2⟩
   ·exact nomatch (R.1.symm.trans e)
  ·refine ⟨fun w2 ps2 e=>(nomatch (g3.symm.trans e)),fun _=>?_⟩
   rcases R with R | ⟨e1,_,e2⟩
   ·refine xe2 R fun w1 W1 R=>⟨fun e=>(nomatch (R.1.symm.trans e)),fun w2 W2 e=>?_⟩
    have:=(R.1.symm.trans e)
    cases this
    exact ⟨k,rfl,R.2⟩
   ·exact ⟨fun _=>e2,fun w1 W1 e=>nomatch (e1.symm.trans e)⟩
end
theorem stepO_len {s:List Nat} {o:Ord} {w w':PW} {ps:List PW} (h:stepO s o w=some (w',ps)) (hs:s.length≤3):ps.length≤5:=by
 induction o using Ord.casesOn with
 | one l =>
  simp only [stepO_q1,stepO_q5,stepO_q6] at h
  induction q:leafEnd s l w.at_ using Option.casesOn with
  | none=>rw [q] at h; cases h
  | some z=>rw [q] at h; cases h; simp
 | split g=>cases h; simp
 | jump g=>cases h; simp
 | mark=>cases h; simp
 | gain =>
  simp only [stepO_q1,stepO_q5,stepO_q6] at h
  split at h
  ·split at h
   ·cases h; simp
   ·cases h
  ·cases h
 | ways =>
  simp only [stepO_q1,stepO_q5,stepO_q6] at h
  split at h
  ·rename_i q qs e
   cases h
   have:=congrArg List.length e
   unfold arbEnds at this
   simp only [List.length_map,List.length_range,List.length_cons] at this
   rw [List.length_map]; lia
  ·cases h
 | done=>cases h
 | hole=>cases h
noncomputable def wordO:Ord→List Nat
 | .one _=>[111,110,101]
 | .ways=>[119,97,121,115]
 | .split _=>[115,112,108,105,116]
 | .jump _=>[106,117,109,112]
 | .mark=>[109,97,114,107]
 | .gain=>[103,97,105,110]
 | .done=>[100,111,110,101]
 | .hole=>[]
theorem encO_word {o:Ord} (h:o≠.hole):∃ xs,encO o=.tup (.str (wordO o)::xs)∧xs.length≤3:=by
 induction o using Ord.casesOn with
 | hole=>exact (h rfl).elim
 | _=>exact ⟨_,rfl,by simp⟩
section
variable {c:Cx} {prog:Program} {d:Nat} {H:MH} {Q:PV→MH→Prop} {E:Env} {n:Nat} {as:List (Addr×Addr)} {Ws:List PW} {a da:Addr} {w:PW}
structure RunQ (E:Env) (r:Option Nat) (Q:PV→MH→Prop):Prop where
 yes:∀ q,r=some q→∀ H' a da w',WayAt H' a da E.ol w'→w'.at_=q→Frm [E.dh] E.H0 H'→Q (.tup [.int 0,.ref a]) H'
 no:r=none→∀ H',Frm [E.dh] E.H0 H'→Q (.tup [.int 1,.none]) H'
theorem wordEq {C:Cl} {r:List PV} {i:Nat} {o:Ord} {z:List Nat} (h:o≠.hole) (g:get r i=encO o):Ev C (.cmp .Eq (.sub (.var i) (.lit (.int (0)))) (.lit (.str z))) r H (.bool (decide (wordO o=z))):=fun K k=>by
 obtain ⟨xs,e,hx⟩:=encO_word h
 rw [e] at g
 rw [wx_cmp]
 refine subE (k:=0) g (by simp) (by rw [List.length_cons]; lia) rfl _ ?_
 refine x_lit ?_
 exact k
structure G71 (E:Env) (ro:Option Nat) (m:Nat) (H:MH) (a da:Addr) (w:PW) (as:List (Addr×Addr)) (Ws:List PW) (n:Nat):Prop where
 M:Mach E H n as Ws
 c:Cur E H a da w as
 R:RunO E.s E.os w Ws m ro
 hn:n+m≤99999
 hl:Ws.length+m*5≤600000
noncomputable def I71 (E:Env) (ro:Option Nat) (b:Int) (m:Nat) (r:List PV) (H:MH):Prop:=∃ x3 x4,((∃ a da w as Ws n,G71 E ro m H a da w as Ws n∧x3=.ref a)∨((ro=none∧Frm [E.dh] E.H0 H)∧x3=.none))∧r=[.ref E.sf,.ref E.ol,.int b,x3,x4,.undef,.undef,.undef,.undef,.undef,.undef]
theorem I71.go {ro:Option Nat} {b:Int} {m:Nat} {x4:PV} (g:G71 E ro m H a da w as Ws n):I71 E ro b m [.ref E.sf,.ref E.ol,.int b,.ref a,x4,.undef,.undef,.undef,.undef,.undef,.undef] H :=
 ⟨_,_,.inl ⟨a,da,w,as,Ws,n,g,rfl⟩,rfl⟩
theorem I71.no {ro:Option Nat} {b:Int} {m:Nat} {x4:PV} (h:ro=none) (f:Frm [E.dh] E.H0 H):I71 E ro b m [.ref E.sf,.ref E.ol,.int b,.none,x4,.undef,.undef,.undef,.undef,.undef,.undef] H :=
 ⟨_,_,.inr ⟨⟨h,f⟩,rfl⟩,rfl⟩
theorem word1 {o:Ord} (h:o≠.hole) (h':o≠.done):wordO o≠[100,111,110,101]∧wordO o≠[97,98,111,114,116]:=by
 induction o using Ord.casesOn <;> first | exact (h rfl).elim | exact (h' rfl).elim | (constructor <;> simp [wordO])
theorem isRef {C:Cl} {r:List PV} {i n k:Nat} {a dd:Addr} {m:List (Nat×PV)} (g:get r i=.ref a) (h1:H a=some (.inst k dd)) (h2:H dd=some (.ns m)) (hp:m.lookup n=some .none):Ev C (.cmp .Is (.attr (.var i) n) (.lit .none)) r H (.bool true):=fun K kk=>x_cmp (attrE g h1 h2 hp _ (x_lit ⟨rfl,kk⟩))
theorem s71 (W:Fns c) {b k:Nat} {ro:Option Nat} (hs:E.s.length≤3) (M:Mach E H n [] []) (R:RunO E.s E.os ⟨0,b,[]⟩ [] k ro) (hk:n+k≤99999) (hos:E.os.length≤100000) (q:RunQ E ro Q):CS c prog (d+11) (.fn 71) [.ref E.sf,.ref E.ol,.int b] H Q:=by
 refine callB W.X W.f71 (by decide) rfl ?_
 show wpSs _ _ [.ref E.sf,.ref E.ol,.int b,.undef,.undef,.undef,.undef,.undef,.undef,.undef,.undef] H _
 refine asgW' (x_fn (k:=41) (by decide) ?_)
 walk_at "mw"
 refine s41 (d:=d+4) (w:=⟨0,b,[]⟩) (ol:=E.ol) W fun H1 a0 da0 hw f1 na nda=>?_
 obtain ⟨k1,k2⟩:=M.freshN nda
 show wpSs _ _ [.ref E.sf,.ref E.ol,.int b,.ref a0,.undef,.undef,.undef,.undef,.undef,.undef,.undef] H1 _
 refine whlE (I71 E ro b) ⟨k,I71.go ⟨M.keep f1,⟨hw,k1,k2⟩,R,hk,by simp only [List.length_nil]; lia⟩⟩ ?_
 clear R hk M f1 hw k1 k2 na nda
 intro m r H2 h
 refine xe2 h fun x3 x4 h1=>cj2 h1 fun h2 e=>?_
 clear h h1
 subst e
 refine h2.elim (fun h=>xe6 h fun a da w as Ws n2 h1=>cj2 h1 fun G e=>?_) fun h1=>cj2 h1 fun h e=>?_ <;> clear h1 h2 <;> subst e
 ·refine ⟨true,fun K kk=>x_cmp (x_v3 rfl (x_lit ⟨rfl,kk⟩)),fun _=>?_,fun h=>by cases h⟩
  obtain ⟨o,ho,hoh,hm,hdn,hgo⟩:=G.R.inv
  have hpc:w.pc<E.os.length:=(List.getElem?_eq_some_iff.mp ho).1
  have hn:=G.hn
  have hl:=G.hl
  refine exprW (x_meth (attrE rfl G.M.m.i G.M.m.d rfl _ ?_))
  refine mq_i G.M.host.i G.M.host.d rfl rfl (xs_nil ?_)
  have M3:=G.M.inc
  have c3:=G.c.inc G.M
  refine s81 (d:=d+9) W G.M.host (by lia) ?_
  (revert M3 c3; refine genl (upd H2 E.dh (hostNs E.v E.f E.l (n2+1))) fun H3 M3 c3=>?_)
  clear G
  refine asgW' (x_sub (attrE rfl c3.w.i c3.w.d rfl _ (attrE rfl c3.w.i c3.w.d rfl _ ?_)))
  refine i_sub M3.o (List.length_map _) ⟨by lia,by lia,by unfold big; lia,?_⟩
  have eo:(E.os.map encO).getD (w.pc:Int).toNat .undef=encO o:=by
   rw [Int.toNat_natCast,List.getD_eq_getElem?_getD,List.getElem?_map,ho]; rfl
  rw [eo]
  clear eo
  show wpSs _ _ [.ref E.sf,.ref E.ol,.int b,.ref a,encO o,.undef,.undef,.undef,.undef,.undef,.undef] H3 _
  by_cases hd:o=.done
  ·refine ifT (fun K kk=>x_and (((wordEq hoh rfl).cast (congrArg PV.bool (decide_eq_true (hd ▸ rfl)))) _ (tq_T (isRef (i:=3) (n:=5) rfl c3.w.i c3.w.d rfl _ kk)))) (retE (v:=.tup [.int 0,.ref a]) (fun K kk=>x_tup (xs_cons (x_lit (xs_cons (x_v3 rfl (xs_nil ⟨of_decide_eq_true rfl,kk⟩)))))) (q.yes _ (hdn hd) H3 a da w c3.w rfl M3.fr))
  obtain ⟨hgood,hgo,hba⟩:=hgo hd
  obtain ⟨hw1,hw2⟩:=word1 hoh hd
  refine ifF (fun K kk=>x_and ((wordEq hoh rfl).cast (congrArg PV.bool (decide_eq_false hw1)) _ kk)) (ifF ((wordEq hoh rfl).cast (congrArg PV.bool (decide_eq_false hw2))) ?_)
  clear hw1 hw2 hdn ho hpc
  refine s_if (x_not (methM rfl M3 rfl (by decide) (xs_cons (x_v4 (isU_O o) (xs_cons (x_v3 rfl (xs_nil ?_)))))))
  refine s73 W hgood.1 (by lia) (by lia) M3 c3 (by lia) (fun hst H4 M4=>?_) (fun w' ps hst H4 as4 M4 c4=>?_) <;> clear M3 c3
  ·refine tq_F ?_
   show wpSs _ _ [.ref E.sf,.ref E.ol,.int b,.ref a,encO o,.undef,.undef,.undef,.undef,.undef,.undef] H4 _
   obtain ⟨hlo,hba⟩:=hba hst
   clear hgo hgood
   rcases Ws with _ | ⟨w1,Ws1⟩
   ·obtain rfl:as=[]:=List.length_eq_zero_iff.mp (by rw [M4.w.len]; rfl)
    refine asgW' (methM rfl M4 rfl (by decide) (xs_nil (s72n (d:=d+9) W M4 ?_)))
    show wpSs _ _ [.ref E.sf,.ref E.ol,.int b,.none,encO o,.undef,.undef,.undef,.undef,.undef,.undef] H4 _
    exact ifF (fun K kk=>x_and (x_cmp (x_v3 rfl (x_lit ⟨rfl,kk⟩)))) (nilW (sqN (nilW ⟨0,by lia,I71.no (hlo rfl) M4.fr⟩)))
   ·obtain ⟨k1,e,R3⟩:=hba _ _ rfl
    rcases as with _ | ⟨x,as1⟩
    ·exact absurd M4.w.len (by simp)
    rw [List.length_cons] at hl
    refine asgW' (methM rfl M4 rfl (by decide) (xs_nil (s72c (d:=d+9) W M4 (by rw [M4.w.2.len]; lia) fun H5 M5 c5=>?_)))
    show wpSs _ _ [.ref E.sf,.ref E.ol,.int b,.ref x.1,encO o,.undef,.undef,.undef,.undef,.undef,.undef] H5 _
    exact ifF (fun K kk=>x_and (x_cmp (x_v3 rfl (x_lit ⟨rfl,tq_T (x_cmp (attrE (i:=3) (n:=0) (p:=.ref E.ol) rfl c5.w.i c5.w.d rfl _ (x_lit ⟨rfl,kk⟩)))⟩)))) (nilW (sqN (nilW ⟨k1,by lia,I71.go ⟨M5,c5,R3,by lia,by lia⟩⟩)))
  ·obtain ⟨k1,e,R3⟩:=hgo _ _ hst
   have:=stepO_len hst hs
   exact tq_T (nilW (C:=CS c prog (d+10)) (sqN (nilW (C:=CS c prog (d+10)) ⟨k1,by lia,I71.go ⟨M4,c4,R3,by lia,by rw [List.length_append]; lia⟩⟩)))
 ·exact ⟨false,fun K kk=>x_cmp (x_v3 rfl (x_lit ⟨rfl,kk⟩)),(fun h=>by cases h),fun _=>retE (v:=.tup [.int 1,.none]) (fun K kk=>x_tup (xs_cons (x_lit (xs_cons (x_lit (xs_nil ⟨of_decide_eq_true rfl,kk⟩)))))) (q.no h.1 H2 h.2)⟩
end
section
variable {c:Cx} {prog:Program} {d:Nat} {H:MH} {Q:PV→MH→Prop} {s:List Nat} {os:List Ord} {ho dh ol:Addr} {v f l:PV} {st K:Nat} {o:Option Nat}
theorem ev_eqI {C:Cl} {r:List PV} {i:Nat} {x y:Int} (g:get r i=.int x):Ev C (.cmp .Eq (.var i) (.lit (.int y))) r H (.bool (decide (x=y))):=fun K k=>by
 rw [wx_cmp,wpX_var,g]
 refine ⟨rfl,?_⟩
 refine x_lit ?_
 exact k
theorem s17 (W:Fns c) (hs:s.length≤3) (hol:H ol=some (.list (os.map encO))) (hH:HostAt H ho dh v f l st) (R:RunO s os ⟨0,0,[]⟩ [] K o) (hK:st+K≤99999) (hos:os.length≤100000) (q:MatQ H dh 0 o Q):CS c prog (d+12) (.fn 17) [.ref ol,.str s,.bool true,.ref ho] H Q:=by
 refine callB W.X W.f17 (by decide) rfl ?_
 show wpSs _ _ [.ref ol,.str s,.bool true,.ref ho,.undef,.undef,.undef,.undef,.undef,.undef,.undef,.undef,.undef] H _
 refine forE (v:=.rng 0 1) (xs:=[.int 0]) (src:=fun _=>True) (fun K k=>by walk_at "mw"; exact k) (fun K k=>⟨by decide,by decide,k⟩) (forCons trivial ?_)
 show wpSs _ (.cons (.asgT [5,6] _) _) [.ref ol,.str s,.bool true,.ref ho,.int 0,.undef,.undef,.undef,.undef,.undef,.undef,.undef,.undef] H _
 refine w_asgT ?_
 rw [wx_meth,wx_call,wx_lit]
 refine ⟨show (42:Nat)<90 by decide,?_⟩
 refine xs_cons ?_
 refine x_var rfl ?_
 refine x_var rfl ?_
 refine s42 (d:=d+5) (s:=s) (ho:=ho) W fun H1 sf dm hl hm hl1 f1 nsf ndm nhl=>?_
 have hb:bindOp (CS c prog (d+11)) (.ref sf) 22 H1=some fun args H Q=>CS c prog (d+11) (.fn 71) (.ref sf::args) H Q:=bind_inst hm.i hm.d rfl rfl
 show (match bindOp (CS c prog (d+11)) (.ref sf) 22 H1 with | some g=>_ | none=>False)
 rw [hb]
 simp only [wpXs_q1,wpXs_q2]
 refine x_var rfl ?_
 refine x_var rfl ?_
 have g:∀ {p:Addr} {o:MO},H p=some o→H1 p=some o:=fun {p o} h=>by rw [f1 p (some_ne h) (by simp)]; exact h
 have M:Mach ⟨H,sf,dm,hl,ho,dh,ol,s,os,v,f,l⟩ H1 st [] [] :=
  ⟨hm,hl1,trivial,List.nodup_nil,g hol,⟨g hH.i,g hH.d⟩,f1.mono (by simp),by simp,nhl,some_ne hH.d,some_ne hol⟩
 refine s71 (E:=⟨H,sf,dm,hl,ho,dh,ol,s,os,v,f,l⟩) (b:=0) (d:=d) W hs M R hK hos ⟨fun qq ho' H2 a da w' hw hwa f2=>?_,fun ho' H2 f2=>?_⟩
 ·refine ⟨rfl,by decide,?_⟩
  show wpSs _ _ [.ref ol,.str s,.bool true,.ref ho,.int 0,.int 0,.ref a,.undef,.undef,.undef,.undef,.undef,.undef] H2 _
  refine ifT ((ev_eqI rfl).cast rfl) (retW ?_)
  refine x_tup ?_
  refine xs_cons ?_
  rw [wpX_var]
  refine ⟨rfl,attrE rfl hw.i hw.d rfl _ ?_⟩
  refine x_fn (k:=16) (by decide) ?_
  refine xs_cons ?_
  refine attrE rfl hw.i hw.d rfl _ ?_
  refine s16 (d:=d+10) W fun e H3 f3 he=>?_
  refine ⟨of_decide_eq_true rfl,?_⟩
  rw [hwa]
  exact q.yes qq ho' H3 e (f2.trans (f3.mono (by simp))) he
 ·refine ⟨rfl,by decide,?_⟩
  show wpSs _ _ [.ref ol,.str s,.bool true,.ref ho,.int 0,.int 1,.none,.undef,.undef,.undef,.undef,.undef,.undef] H2 _
  refine ifF ((ev_eqI rfl).cast rfl) (ifF ((ev_eqI rfl).cast rfl) (nilW ?_))
  refine fqNil trivial ?_
  show wpSs _ (.cons (.ret (.lit .none)) .nil) _ _ _
  exact retE (v:=.none) ev_lit (q.no ho' H2 f2)
theorem s18 (W:Fns c) {n:Nd} (hok:okP n) (hd:dpt n≤10) (hsz:szN n≤1000) (hs:s.length≤3) (hH:HostAt H ho dh v f l st) (R:RunO s (stro (gen (dpt n+1) n 0++[Ord.done])) ⟨0,0,[]⟩ [] K o) (hK:st+K≤99999) (hos:(stro (gen (dpt n+1) n 0++[Ord.done])).length≤100000) (q:MatQ H dh 0 o Q):CS c prog (d+13) (.fn 18) [encN n,.str s,.bool true,.ref ho] H Q:=by
 refine callB W.X W.f18 (by decide) rfl ?_
 have uN:=isU_N n
 show wpSs _ _ [encN n,.str s,.bool true,.ref ho,.undef,.undef] H _
 refine retW ?_
 refine x_fn (k:=17) (by decide) ?_
 refine xs_cons ?_
 refine x_fn (k:=4) (by decide) ?_
 refine xs_cons ?_
 refine x_var uN ?_
 refine s4 (d:=d+4) W hok hd hsz fun ol H1 f1 nol hol=>?_
 refine x_var rfl ?_
 refine x_var rfl ?_
 refine x_var rfl ?_
 have g:∀ {p:Addr} {o:MO},H p=some o→H1 p=some o:=fun {p o} h=>by rw [f1 p (some_ne h) (by simp)]; exact h
 exact s17 (d:=d) W hs hol ⟨g hH.i,g hH.d⟩ R hK hos ⟨fun h H2 f2=>q.no h H2 ((f1.mono (by simp)).trans f2),fun z h H2 e f2 he=>q.yes z h H2 e ((f1.mono (by simp)).trans f2) he⟩
end
noncomputable def WB (s:List Nat) (S:List Ord) (w:PW) (b:Bool) (c:Nat):Prop :=
 ∃ k,k≤c∧(b=true→∀ Ws,RunO s S w Ws k (some s.length))∧(b=false→(∀ w1 Ws j r,RunO s S w1 Ws j r→RunO s S w (w1::Ws) (k+j) r)∧RunO s S w [] k none)
noncomputable def WL (s:List Nat) (S:List Ord):List PW→Bool→Nat→Prop
 | [],b,_=>b=false
 | w::ws,b,c=>∃ b1 c1 b2 c2,WB s S w b1 c1∧WL s S ws b2 c2∧b=(b1||b2)∧c1+c2≤c
section
variable {s:List Nat} {S:List Ord} {w w':PW} {o:Ord} {b:Bool} {c c':Nat}
theorem WB.le (h:WB s S w b c) (hc:c≤c'):WB s S w b c':=by
 obtain ⟨k,h1,h2⟩:=h
 exact ⟨k,by lia,h2⟩
theorem WB.fail (h1:S[w.pc]?=some o) (h2:goodO o w) (h3:w.at_≤s.length) (h4:stepO s o w=none):WB s S w false 1 :=
 ⟨1,Nat.le_refl _,fun e=>(by cases e),fun _=>⟨fun w1 Ws j r h=>by rw [Nat.add_comm]; exact .back h1 h2 h3 h4 h,.lost h1 h2 h3 h4⟩⟩
theorem WB.done (h1:S[w.pc]?=some Ord.done) (h2:w.at_=s.length):WB s S w true 1 :=
 ⟨1,Nat.le_refl _,fun _ Ws=>by rw [← h2]; exact .met h1,fun e=>(by cases e)⟩
theorem WL.run:∀ {ws:List PW} {b:Bool} {c:Nat},WL s S ws b c→∃ k,k≤c∧(ws=[]→k=0) ∧
  (b=true→∀ Ws,∃ w1 ws',ws=w1::ws'∧RunO s S w1 (ws'++Ws) k (some s.length)) ∧
  (b=false→(∀ w1 Ws j r,RunO s S w1 Ws j r→∃ w2 ws',ws++w1::Ws=w2::ws'∧RunO s S w2 ws' (k+j) r)∧(ws≠[]→∃ w2 ws',ws=w2::ws'∧RunO s S w2 ws' k none))
 | [],b,c,h=>by
  have h:b=false:=h
  subst h
  exact ⟨0,Nat.zero_le _,fun _=>rfl,fun e=>(by cases e),fun _=>⟨fun w1 Ws j r h=>⟨w1,Ws,rfl,by rw [Nat.zero_add]; exact h⟩,fun e=>(e rfl).elim⟩⟩
 | w::ws,b,c,h=>by
  obtain ⟨b1,c1,b2,c2,⟨k1,l1,t1,f1⟩,h2,rfl,hc⟩:=h
  obtain ⟨k2,l2,z2,t2,f2⟩:=h2.run
  induction b1 using Bool.casesOn with
  | true=>exact ⟨k1,by lia,fun e=>(by cases e),fun _ Ws=>⟨w,ws,rfl,t1 rfl _⟩,fun e=>(by cases e)⟩
  | false =>
   obtain ⟨f1,g1⟩:=f1 rfl
   refine ⟨k1+k2,by lia,fun e=>(by cases e),fun e Ws=>?_,fun e=>⟨fun w1 Ws j r h=>?_,fun _=>?_⟩⟩
   ·obtain ⟨w1,ws',rfl,hr⟩:=t2 (by simpa using e) Ws
    exact ⟨w,w1::ws',rfl,f1 _ _ _ _ hr⟩
   ·obtain ⟨w2,ws',he,hr⟩:=(f2 (by simpa using e)).1 w1 Ws j r h
    refine ⟨w,ws++w1::Ws,rfl,?_⟩
    rw [he,Nat.add_assoc]
    exact f1 _ _ _ _ hr
   ·by_cases hw:ws=[]
    ·subst hw
     refine ⟨w,[],rfl,?_⟩
     rw [z2 rfl]
     exact g1
    ·obtain ⟨w2,ws',he,hr⟩:=(f2 (by simpa using e)).2 hw
     refine ⟨w,ws,rfl,?_⟩
     rw [he]
     exact f1 _ _ _ _ hr
theorem WB.step {ps:List PW} (h1:S[w.pc]?=some o) (h2:goodO o w) (h3:w.at_≤s.length) (h4:stepO s o w=some (w',ps)) (h5:WL s S (w'::ps) b c):WB s S w b (1+c):=by
 obtain ⟨k,l,_,t,f⟩:=h5.run
 refine ⟨k+1,by lia,fun e Ws=>?_,fun e=>⟨fun w1 Ws j r h=>?_,?_⟩⟩
 ·obtain ⟨w1,ws',he,hr⟩:=t e Ws
  obtain ⟨rfl,rfl⟩:=List.cons.inj he
  exact .go h1 h2 h3 h4 hr
 ·obtain ⟨w2,ws',he,hr⟩:=(f e).1 w1 Ws j r h
  rw [List.cons_append] at he
  obtain ⟨rfl,rfl⟩:=List.cons.inj he
  rw [show k+1+j=k+j+1 by lia]
  exact .go h1 h2 h3 h4 hr
 ·obtain ⟨w2,ws',he,hr⟩:=(f e).2 (fun e=>by cases e)
  obtain ⟨rfl,rfl⟩:=List.cons.inj he
  exact .go h1 h2 h3 h4 (by rw [List.append_nil]; exact hr)
theorem WB.go (h1:S[w.pc]?=some o) (h2:goodO o w) (h3:w.at_≤s.length) (h4:stepO s o w=some (w',[])) (h5:WB s S w' b c):WB s S w b (1+c) :=
 WB.step h1 h2 h3 h4 ⟨b,c,false,0,h5,rfl,by simp,by lia⟩
theorem WB.push {u:PW} {b1 b2:Bool} {c1 c2:Nat} (h1:S[w.pc]?=some o) (h2:goodO o w) (h3:w.at_≤s.length) (h4:stepO s o w=some (w',[u])) (h5:WB s S w' b1 c1) (h6:WB s S u b2 c2):WB s S w (b1||b2) (1+(c1+c2)) :=
 WB.step h1 h2 h3 h4 ⟨b1,c1,b2,c2,h5,⟨b2,c2,false,0,h6,rfl,by simp,by lia⟩,rfl,Nat.le_refl _⟩
theorem WB.jump {g:Nat} (h1:S[w.pc]?=some (.jump g)) (h:WB s S w b c):WB s S ⟨g,w.at_,w.ms⟩ b c:=by
 have inv:∀ {Ws:List PW} {k:Nat} {r:Option Nat},RunO s S w Ws k r→∃ k',k=k'+1∧RunO s S ⟨g,w.at_,w.ms⟩ Ws k' r:=fun {Ws k r} h=>by
  obtain ⟨o,ho,_,_,_,hg⟩:=h.inv
  obtain rfl:o=.jump g:=Option.some.inj (ho.symm.trans h1)
  exact (hg (fun e=>nomatch e)).2.1 _ [] rfl
 obtain ⟨k,l,t,f⟩:=h
 induction b using Bool.casesOn with
 | true =>
  obtain ⟨k',rfl,h2⟩:=inv (t rfl [])
  refine ⟨k',by lia,fun _ Ws=>?_,fun e=>by cases e⟩
  obtain ⟨k2,e,h3⟩:=inv (t rfl Ws)
  obtain rfl:k'=k2:=by lia
  exact h3
 | false =>
  obtain ⟨f1,f2⟩:=f rfl
  obtain ⟨k',rfl,h2⟩:=inv f2
  refine ⟨k',by lia,fun e=>(by cases e),fun _=>⟨fun w1 Ws j r h=>?_,h2⟩⟩
  obtain ⟨k2,e,h3⟩:=inv (f1 w1 Ws j r h)
  obtain rfl:k'+j=k2:=by lia
  exact h3
theorem thr_st {F:List Ord} (h:∀ i g,F[i]?=some (.jump g)→(i<g∧g<F.length)∨∃ q,F[g]?=some (.split q)):∀ k g,g<F.length→F.length - g≤k→thr F (k+1) g=thr F k g
 | 0,g,_,hk=>by lia
 | k+1,g,hg,hk=>by
  have hs:F[g]?=some F[g]:=List.getElem?_eq_getElem hg
  rw [thr_q2,thr_q2]
  cases hq:F[g] with
  | jump g' =>
   rw [hs,hq]
   rw [hq] at hs
   rcases h g g' hs with ⟨h1,h2⟩ | ⟨q,h1⟩
   ·exact thr_st h k g' h2 (by lia)
   ·induction k using Nat.casesAuxOn with
    | zero=>simp only [thr_q1,thr_q2,h1]
    | succ k=>simp only [thr_q1,thr_q2,h1]
  | _=>rw [hs,hq]
end
noncomputable def JOk (F:List Ord):Prop:=∀ i g,F[i]?=some (Ord.jump g)→(i<g∧g<F.length)∨∃ q,F[g]?=some (Ord.split q)
theorem stro_get {F:List Ord} {i:Nat} {o:Ord} (h:F[i]?=some o):(stro F)[i]?=some (strO F o):=by
 unfold stro
 rw [List.getElem?_map,h]; rfl
theorem RunO.lt {s:List Nat} {F:List Ord} {w:PW} {Ws:List PW} {k:Nat} {r:Option Nat} (h:RunO s (stro F) w Ws k r):w.pc<F.length:=by
 have hl:(stro F).length=F.length:=by unfold stro; rw [List.length_map]
 have:∀ {o},(stro F)[w.pc]?=some o→w.pc<F.length:=fun {o} h=>by
  have:=(List.getElem?_eq_some_iff.mp h).1
  lia
 obtain ⟨o,ho,_⟩:=h.inv
 exact this ho
theorem WB.lt {s:List Nat} {F:List Ord} {w:PW} {b:Bool} {c:Nat} (h:WB s (stro F) w b c):w.pc<F.length:=by
 obtain ⟨k,_,t,f⟩:=h
 induction b using Bool.casesOn with
 | true=>exact (t rfl []).lt
 | false=>exact (f rfl).2.lt
theorem WB.thr {s:List Nat} {F:List Ord} (hj:JOk F) {g q:Nat} {ms:List Nat} {b:Bool} {c:Nat} (h:WB s (stro F) ⟨g,q,ms⟩ b c):WB s (stro F) ⟨thr F (F.length+1) g,q,ms⟩ b c:=by
 have hg:g<F.length:=h.lt
 have hs:F[g]?=some F[g]:=List.getElem?_eq_getElem hg
 rw [Mine.thr]
 cases hq:F[g] with
 | jump g' =>
  rw [hs,hq]
  rw [hq] at hs
  have e:Mine.thr F (F.length+1) g'=Mine.thr F F.length g':=by
   rcases hj g g' hs with ⟨h1,h2⟩ | ⟨z,h1⟩
   ·exact thr_st hj _ _ h2 (by lia)
   ·have:=(List.getElem?_eq_some_iff.mp h1).1
    exact thr_st hj _ _ this (by lia)
  have h2:=WB.jump (w:=⟨g,q,ms⟩) (stro_get hs) h
  rw [e] at h2
  exact h2
 | _=>rw [hs,hq]; exact h
noncomputable def starO (f:(Nat→Nat)→Nat→Nat) (κ:Nat→Nat):Nat→Nat→Nat
 | 0,_=>0
 | k+1,p=>3+κ p+f (fun q=>2+starO f κ k q) p
theorem starO_q2:∀ (f:(Nat→Nat)→Nat→Nat) (κ:Nat→Nat) (x k:Nat),starO f κ (k+1) x=3+κ x+f (fun (q:Nat)=>2+starO f κ k q) x:=by intros; rfl
noncomputable def oc (N:Nat):Nd→(Nat→Nat)→Nat→Nat
 | .lf _,κ,p=>arbC κ (N+1 - p) p
 | .arb,κ,p=>arbC κ (N+1 - p) p
 | .cat a b,κ,p=>oc N a (oc N b κ) p
 | .alt a b,κ,p=>1+oc N a (fun q=>1+κ q) p+oc N b κ p
 | .arbno a,κ,p=>starO (oc N a) κ (N+1 - p) p
theorem oc_q1:∀ (N:Nat) (x:Nat→Nat) (x_1:Nat) (l:Lf),oc N (Nd.lf l) x x_1=arbC x (N+1 - x_1) x_1:=by intros; rfl
theorem oc_q2:∀ (N:Nat) (x:Nat→Nat) (x_1:Nat),oc N Nd.arb x x_1=arbC x (N+1 - x_1) x_1:=by intros; rfl
theorem oc_q4:∀ (N:Nat) (x:Nat→Nat) (x_1:Nat) (a b:Nd),oc N (Nd.alt a b) x x_1=1+oc N a (fun (q:Nat)=>1+x q) x_1+oc N b x x_1:=by intros; rfl
noncomputable def Sub (F:List Ord) (b:Nat) (os:List Ord):Prop:=∀ i o,os[i]?=some o→F[b+i]?=some o
noncomputable def Does (s:List Nat) (F:List Ord) (b e:Nat) (M:(Nat→Bool)→Nat→Bool) (K:(Nat→Nat)→Nat→Nat):Prop :=
 ∀ (β:Nat→Bool) (κ:Nat→Nat) (p:Nat) (ms:List Nat),p≤s.length→(∀ q,p≤q→q≤s.length→WB s (stro F) ⟨e,q,ms⟩ (β q) (κ q))→WB s (stro F) ⟨b,p,ms⟩ (M β p) (K κ p)
theorem does_leaf {s:List Nat} {F:List Ord} {b:Nat} {l:Lf} (hl:leafOk l) (h:F[b]?=some (.one l)):Does s F b (b+1) (mt s (.lf l)) (oc s.length (.lf l)):=fun β κ p ms hp hr=>by
 have hS:=stro_get h
 have h1:=arbC_pos (κ:=κ) (Nat.le_refl p) hp
 induction hq:leafEnd s l p using Option.casesOn with
 | none =>
  simp only [mt_q1,mt_q2,mt_q3,mt_q4,hq]
  refine (WB.fail (w:=⟨b,p,ms⟩) hS hl hp (by simp only [stepO_q1,stepO_q5,stepO_q6,strO_q3,hq]; rfl)).le ?_
  simp only [oc_q1,oc_q2,oc_q4]; lia
 | some q =>
  obtain ⟨h2,h3⟩:=leaf_le hp hq
  have h4:=arbC_pos (κ:=κ) h2 h3
  simp only [mt_q1,mt_q2,mt_q3,mt_q4,hq]
  refine (WB.go (w:=⟨b,p,ms⟩) (w':=⟨b+1,q,ms⟩) hS hl hp (by simp only [stepO_q1,stepO_q5,stepO_q6,strO_q3,hq]; rfl) (hr q h2 h3)).le ?_
  simp only [oc_q1,oc_q2,oc_q4]; lia
theorem range_map_succ (p k:Nat):(List.range (k+1)).map (p+·)=p::(List.range k).map (p+1+·):=by
 rw [List.range_succ_eq_map,List.map_cons,List.map_map]
 congr 1
 refine List.map_congr_left fun x _=>?_
 show p+(x+1)=p+1+x
 lia
theorem does_arb {s:List Nat} {F:List Ord} {b:Nat} (h:F[b]?=some Ord.ways):Does s F b (b+1) (mt s .arb) (oc s.length .arb):=fun β κ p ms hp hr=>by
 have hS:=stro_get h
 have go:∀ (k p':Nat),p≤p'→p'+k=s.length+1→WL s (stro F) (((List.range k).map (p'+·)).map fun y=>(⟨b+1,y,ms⟩:PW)) (arbB β k p') (arbC κ k p' - k):=by
  intro k
  induction k with
  | zero=>intro p' _ _; rfl
  | succ k ih =>
   intro p' hp' hk
   have hge:∀ k p,k≤arbC κ k p:=by
    intro k
    induction k with
    | zero=>intro p; exact Nat.zero_le _
    | succ k ih=>intro p; have:=ih (p+1); simp only [arbC_q1,arbC_q2]; lia
   have h2:=hge k (p'+1)
   rw [range_map_succ,List.map_cons]
   refine ⟨β p',κ p',arbB β k (p'+1),arbC κ k (p'+1) - k,hr p' hp' (by lia),ih (p'+1) (by lia) (by lia),rfl,?_⟩
   simp only [arbC_q1,arbC_q2]
   lia
 obtain ⟨k,hk⟩:∃ k,s.length+1 - p=k+1:=⟨s.length - p,by lia⟩
 have hW:=go (k+1) p (Nat.le_refl _) (by lia)
 have ha:arbEnds p s.length=p::(List.range k).map (p+1+·):=by unfold arbEnds; rw [hk,range_map_succ]
 rw [range_map_succ,List.map_cons] at hW
 have hpos:k+1≤arbC κ (k+1) p:=by
  have hge:∀ k p,k≤arbC κ k p:=by
   intro k
   induction k with
   | zero=>intro p; exact Nat.zero_le _
   | succ k ih=>intro p; have:=ih (p+1); simp only [arbC_q1,arbC_q2]; lia
  exact hge _ _
 simp only [mt_q1,mt_q2,mt_q3,mt_q4,oc_q1,oc_q2,oc_q4,hk]
 exact (WB.step (w:=⟨b,p,ms⟩) hS trivial hp (by simp only [stepO_q1,stepO_q5,stepO_q6,strO_q3,ha]) hW).le (by lia)
noncomputable def mtR (s:List Nat):List Nd→(Nat→Bool)→Nat→Bool
 | [],β=>β
 | n::ns,β=>mt s n (mtR s ns β)
theorem mtR_q1:∀ (s:List Nat) (x:Nat→Bool),mtR s [] x=x:=by intros; rfl
theorem mtR_q2:∀ (s:List Nat) (x:Nat→Bool) (n:Nd) (ns:List Nd),mtR s (n::ns) x=mt s n (mtR s ns x):=by intros; rfl
noncomputable def ocR (N:Nat):List Nd→(Nat→Nat)→Nat→Nat
 | [],κ=>κ
 | n::ns,κ=>oc N n (ocR N ns κ)
theorem ocR_q1:∀ (N:Nat) (x:Nat→Nat),ocR N [] x=x:=by intros; rfl
theorem ocR_q2:∀ (N:Nat) (x:Nat→Nat) (n:Nd) (ns:List Nd),ocR N (n::ns) x=oc N n (ocR N ns x):=by intros; rfl
theorem Sub.left {F:List Ord} {b:Nat} {x y:List Ord} (h:Sub F b (x++y)):Sub F b x:=fun i o hi=>h i o (by rw [List.getElem?_append_left (List.getElem?_eq_some_iff.mp hi).1]; exact hi)
theorem Sub.right {F:List Ord} {b:Nat} {x y:List Ord} (h:Sub F b (x++y)):Sub F (b+x.length) y:=fun i o hi=>by
 have:=h (x.length+i) o (by rw [List.getElem?_append_right (by lia),Nat.add_sub_cancel_left]; exact hi)
 rw [Nat.add_assoc]; exact this
theorem does_seq {s:List Nat} {F:List Ord} {g:Nd→Nat→List Ord}:∀ (ns:List Nd) (b:Nat),(∀ n∈ns,∀ b,Sub F b (g n b)→Does s F b (b+(g n b).length) (mt s n) (oc s.length n))→Sub F b (seqG g ns b)→Does s F b (b+(seqG g ns b).length) (mtR s ns) (ocR s.length ns)
 | [],b,_,_=>fun β κ p ms hp hr=>hr p (Nat.le_refl _) hp
 | n::ns,b,h,hs=>fun β κ p ms hp hr=>by
  have hr':∀ q,p≤q→q≤s.length→WB s (stro F) ⟨b+(g n b).length+(seqG g ns (b+(g n b).length)).length,q,ms⟩ (β q) (κ q):=fun q h1 h2=>by
   have:=hr q h1 h2
   simp only [seqG_q1,seqG_q2,List.length_append,← Nat.add_assoc] at this
   exact this
  exact h n List.mem_cons_self b hs.left _ _ p ms hp fun q h1 h2=>does_seq ns _ (fun m hm=>h m (List.mem_cons_of_mem _ hm)) hs.right β κ q ms h2 fun q' h3 h4=>hr' q' (by lia) h4
noncomputable def mtA (s:List Nat):List Nd→(Nat→Bool)→Nat→Bool
 | [],_,_=>false
 | n::ns,β,p=>mt s n β p||mtA s ns β p
theorem mtA_q1:∀ (s:List Nat) (x:Nat→Bool) (x_1:Nat),mtA s [] x x_1=false:=by intros; rfl
theorem mtA_q2:∀ (s:List Nat) (x:Nat→Bool) (x_1:Nat) (n:Nd) (ns:List Nd),mtA s (n::ns) x x_1=(mt s n x x_1||mtA s ns x x_1):=by intros; rfl
noncomputable def ocA (N:Nat):List Nd→(Nat→Nat)→Nat→Nat
 | [],_,_=>0
 | [n],κ,p=>oc N n κ p
 | n::ns,κ,p=>1+oc N n (fun q=>1+κ q) p+ocA N ns κ p
theorem ocA_q2:∀ (N:Nat) (x:Nat→Nat) (x_1:Nat) (n:Nd),ocA N [n] x x_1=oc N n x x_1:=by intros; rfl
theorem ocA_q3:∀ (N:Nat) (x:Nat→Nat) (x_1:Nat) (n:Nd) (ns:List Nd),(ns=[]→False)→ocA N (n::ns) x x_1=1+oc N n (fun (q:Nat)=>1+x q) x_1+ocA N ns x x_1:=by intros; rename_i ns h; rcases ns with _ | ⟨_,_⟩ <;> first | exact (h rfl).elim | rfl
theorem Sub.head {F:List Ord} {b:Nat} {o:Ord} {x:List Ord} (h:Sub F b (o::x)):F[b]?=some o:=by have:=h 0 o rfl; simpa using this
theorem Sub.tail {F:List Ord} {b:Nat} {o:Ord} {x:List Ord} (h:Sub F b (o::x)):Sub F (b+1) x:=fun i q hi=>by
 have:=h (i+1) q hi
 rw [show b+1+i=b+(i+1) by lia]; exact this
theorem does_alt {s:List Nat} {F:List Ord} (hj:JOk F) {g:Nd→Nat→List Ord} {en:Nat}:∀ (ns:List Nd) (b:Nat),ns≠[]→(∀ n∈ns,∀ b,Sub F b (g n b)→Does s F b (b+(g n b).length) (mt s n) (oc s.length n))→Sub F b (altX g (.jump en) ns b)→en=b+(altX g (.jump en) ns b).length→Does s F b en (mtA s ns) (ocA s.length ns)
 | [],b,h,_,_,_=>(h rfl).elim
 | [n],b,_,h,hs,he=>fun β κ p ms hp hr=>by
  simp only [mtA_q1,mtA_q2,Bool.or_false,ocA_q2,ocA_q3]
  have h1:=h n List.mem_cons_self b hs
  simp only [altX_q1,altX_q2,altX_q3] at he
  rw [← he] at h1
  exact h1 β κ p ms hp hr
 | n::m::ns,b,_,h,hs,he=>fun β κ p ms hp hr=>by
  simp only [altX_q1,altX_q2,altX_q3] at hs
  have e0:=hs.head
  have e1:=hs.tail.left
  have e2:=hs.tail.right
  have e3:=e2.head
  have e4:=e2.tail
  simp only [altX_q1,altX_q2,altX_q3,List.length_cons,List.length_append] at he
  have d1:=h n List.mem_cons_self (b+1) e1
  have d2:=does_alt hj (m::ns) (b+1+(g n (b+1)).length+1) (fun e=>by cases e) (fun q hq=>h q (List.mem_cons_of_mem _ hq)) e4 (by lia)
  have w2:=d2 β κ p ms hp hr
  have w1:=d1 β (fun q=>1+κ q) p ms hp fun q h1 h2=>by
   have:=WB.thr hj (hr q h1 h2)
   exact WB.go (w:=⟨b+1+(g n (b+1)).length,q,ms⟩) (w':=⟨thr F (F.length+1) en,q,ms⟩) (stro_get e3) trivial h2 rfl this
  refine (WB.push (w:=⟨b,p,ms⟩) (stro_get e0) trivial hp rfl w1 (WB.thr hj w2)).le ?_
  simp only [ocA_q2,ocA_q3]; lia
theorem does_arbno {s:List Nat} {F:List Ord} (hj:JOk F) {a:Nd} {os:List Ord} {b:Nat} (h:Sub F b (Ord.split (b+2)::Ord.jump (b+3+os.length+2)::Ord.mark::(os++[Ord.gain,Ord.jump b])))
  (ha:Does s F (b+3) (b+3+os.length) (mt s a) (oc s.length a)):Does s F b (b+3+os.length+2) (mt s (.arbno a)) (oc s.length (.arbno a)):=fun β κ p ms hp hr=>by
 have e0:=h.head
 have e1:=h.tail.head
 have e2:=h.tail.tail.head
 have e4:=h.tail.tail.tail.right.head
 have e5:=h.tail.tail.tail.right.tail.head
 have go:∀ k p',p≤p'→p'≤s.length→s.length+1 - p'≤k→WB s (stro F) ⟨b,p',ms⟩ (star (mt s a) β k p') (starO (oc s.length a) κ k p'):=by
  intro k
  induction k with
  | zero=>intro p' _ hp' hk; lia
  | succ k ih =>
   intro p' hpp hp' hk
   have w1:WB s (stro F) ⟨b+1,p',ms⟩ (β p') (1+κ p'):=WB.go (w:=⟨b+1,p',ms⟩) (w':=⟨thr F (F.length+1) (b+3+os.length+2),p',ms⟩) (stro_get e1) trivial hp' rfl (WB.thr hj (hr p' hpp hp'))
   have w3:=ha (fun q=>!decide (q=p')&&star (mt s a) β k q) (fun q=>2+starO (oc s.length a) κ k q) p' (p'::ms) hp' fun q h1 h2=>by
    by_cases hq:q=p'
    ·simp only [hq,decide_true,Bool.not_true,Bool.false_and]
     exact (WB.fail (w:=⟨b+3+os.length,p',p'::ms⟩) (stro_get e4) (fun e=>by cases e) hp' (by simp only [stepO_q1,stepO_q5,stepO_q6,strO_q3,Nat.lt_irrefl,if_false])).le (by lia)
    ·simp only [hq,decide_false,Bool.not_false,Bool.true_and]
     have w4:=WB.thr hj (ih q (by lia) h2 (by lia))
     have w5:=WB.go (w:=⟨b+3+os.length+1,q,ms⟩) (w':=⟨thr F (F.length+1) b,q,ms⟩) (stro_get e5) trivial h2 rfl w4
     have hlt:p'<q:=by lia
     exact (WB.go (w:=⟨b+3+os.length,q,p'::ms⟩) (w':=⟨b+3+os.length+1,q,ms⟩) (stro_get e4) (fun e=>by cases e) h2 (by simp only [stepO_q1,stepO_q5,stepO_q6,strO_q3,hlt,if_true]) w5).le (by lia)
   have w2:=WB.go (w:=⟨b+2,p',ms⟩) (w':=⟨b+3,p',p'::ms⟩) (stro_get e2) trivial hp' rfl w3
   refine (WB.push (w:=⟨b,p',ms⟩) (stro_get e0) trivial hp' rfl w1 (WB.thr hj w2)).le ?_
   simp only [starO_q2]; lia
 exact go _ p (Nat.le_refl _) hp (Nat.le_refl _)
theorem arbC_leN {N:Nat} {κ κ':Nat→Nat} (h:∀ q,q≤N→κ q≤κ' q):∀ k p,p+k≤N+1→arbC κ k p≤arbC κ' k p
 | 0,_,_=>Nat.le_refl _
 | k+1,p,hp=>by
  simp only [arbC_q1,arbC_q2]
  have:=arbC_leN h k (p+1) (by lia)
  have:=h p (by lia)
  lia
theorem starO_leN {N:Nat} {f g:(Nat→Nat)→Nat→Nat} (hfg:∀ κ κ':Nat→Nat,(∀ q,q≤N→κ q≤κ' q)→∀ p,p≤N→f κ p≤g κ' p) {κ κ':Nat→Nat} (h:∀ q,q≤N→κ q≤κ' q):∀ k p,p≤N→starO f κ k p≤starO g κ' k p
 | 0,_,_=>Nat.le_refl _
 | k+1,p,hp=>by
  simp only [starO_q2]
  have h1:=hfg (fun q=>2+starO f κ k q) (fun q=>2+starO g κ' k q) (fun q hq=>by have:=starO_leN hfg h k q hq; lia) p hp
  have:=h p hp
  lia
theorem oc_le {N:Nat} (n:Nd):∀ (κ κ':Nat→Nat),(∀ q,q≤N→κ q≤κ' q)→∀ p,p≤N→oc N n κ p≤oc N n κ' p:=by
 induction n with
 | lf l=>exact fun κ κ' h p hp=>arbC_leN h _ _ (by lia)
 | arb=>exact fun κ κ' h p hp=>arbC_leN h _ _ (by lia)
 | cat a b iha ihb=>exact fun κ κ' h p hp=>iha _ _ (ihb κ κ' h) p hp
 | alt a b iha ihb=>exact fun κ κ' h p hp=>Nat.add_le_add (Nat.add_le_add_left (iha _ _ (fun q hq=>Nat.add_le_add_left (h q hq) 1) p hp) 1) (ihb κ κ' h p hp)
 | arbno a iha=>exact fun κ κ' h p hp=>starO_leN iha h _ p hp
noncomputable def WbO (N:Nat):Nat→(Nat→Nat)→Nat→Nat
 | 0,κ,p=>arbC κ (N+1 - p) p
 | d+1,κ,p=>max (arbC κ (N+1 - p) p) (max (WbO N d (WbO N d κ) p) (max (1+WbO N d (fun q=>1+κ q) p+WbO N d κ p) (starO (WbO N d) κ (N+1 - p) p)))
theorem add_le3 {x y u v:Nat} (h1:x≤u) (h2:y≤v):1+x+y≤1+u+v:=Nat.add_le_add (Nat.add_le_add_left h1 1) h2
theorem oc_Wb (N:Nat) (n:Nd):∀ d,dpt n≤d→∀ κ κ':Nat→Nat,(∀ q,q≤N→κ q≤κ' q)→∀ p,p≤N→oc N n κ p≤WbO N d κ' p:=by
 have leaf:∀ d (κ κ':Nat→Nat),(∀ q,q≤N→κ q≤κ' q)→∀ p,p≤N→arbC κ (N+1 - p) p≤WbO N d κ' p:=fun d κ κ' h p hp=>by
  have h0:=arbC_leN h (N+1 - p) p (by lia)
  rcases d with _ | d
  ·exact h0
  ·exact Nat.le_trans h0 (Nat.le_max_left _ _)
 induction n with
 | lf l=>exact fun d _=>leaf d
 | arb=>exact fun d _=>leaf d
 | cat a b iha ihb=>exact fun d hd κ κ' h p hp=>xe1 (dpt_s hd) fun e q=>by rw [q.1]; exact max_2 (iha e q.2.1 _ _ (ihb e q.2.2 κ κ' h) p hp)
 | alt a b iha ihb=>exact fun d hd κ κ' h p hp=>xe1 (dpt_s hd) fun e q=>by rw [q.1]; exact max_3 (add_le3 (iha e q.2.1 _ _ (fun q hq=>Nat.add_le_add_left (h q hq) 1) p hp) (ihb e q.2.2 κ κ' h p hp))
 | arbno a iha =>
  exact fun d hd κ κ' h p hp=>by
   rcases d with _ | e
   ·exact (Nat.not_succ_le_zero _ hd).elim
   ·exact max_4 (starO_leN (iha e (Nat.le_of_succ_le_succ hd)) h (N+1 - p) p hp)
theorem WbO_small:∀ N,N≤3→WbO N 2 (fun p=>arbC (fun _=>1) (N+1 - p) p) 0≤99000:=by
 have:∀ N:Fin 4,WbO N.1 2 (fun p=>arbC (fun _=>1) (N.1+1 - p) p) 0≤99000:=by decide +kernel
 intro N hN
 exact this ⟨N,by lia⟩
theorem mtR_append {s:List Nat}:∀ (xs ys:List Nd) (β:Nat→Bool),mtR s (xs++ys) β=mtR s xs (mtR s ys β)
 | [],_,_=>rfl
 | x::xs,ys,β=>by simp only [List.cons_append,mtR_q1,mtR_q2]; rw [mtR_append xs]
theorem ocR_append {N:Nat}:∀ (xs ys:List Nd) (κ:Nat→Nat),ocR N (xs++ys) κ=ocR N xs (ocR N ys κ)
 | [],_,_=>rfl
 | x::xs,ys,κ=>by simp only [List.cons_append,ocR_q1,ocR_q2]; rw [ocR_append xs]
theorem ocR_le {N:Nat}:∀ (ns:List Nd) (κ κ':Nat→Nat),(∀ q,q≤N→κ q≤κ' q)→∀ p,p≤N→ocR N ns κ p≤ocR N ns κ' p
 | [],_,_,h,p,hp=>h p hp
 | n::ns,κ,κ',h,p,hp=>oc_le n _ _ (fun q hq=>ocR_le ns κ κ' h q hq) p hp
theorem mt_chars_nil {s:List Nat} (β:Nat→Bool):mt s (.lf (.chars [])) β=β:=by
 funext p; simp [mt_q1,mt_q2,mt_q3,mt_q4,leafEnd_q1,leafEnd_q2,leafEnd_q3,leafEnd_q4]
theorem mt_chars_app {s:List Nat} (y x:List Nat) (β:Nat→Bool):mt s (.lf (.chars (y++x))) β=mt s (.lf (.chars y)) (mt s (.lf (.chars x)) β):=by
 funext p
 simp only [mt_q1,mt_q2,mt_q3,mt_q4,leafEnd_q1,leafEnd_q2,leafEnd_q3,leafEnd_q4]
 have key:((s.drop p).take (y++x).length=y++x)↔((s.drop p).take y.length=y∧(s.drop (p+y.length)).take x.length=x):=by
  rw [List.length_append,List.take_add,List.drop_drop]
  constructor
  ·intro h
   have h1:((s.drop p).take y.length).length=y.length:=by
    have e:=congrArg List.length h
    rw [List.length_append,List.length_append] at e
    have l1:=List.length_take_le y.length (s.drop p)
    have l2:=List.length_take_le x.length (s.drop (p+y.length))
    exact Nat.le_antisymm l1 (Nat.le_of_add_le_add_right (e ▸ Nat.add_le_add_left l2 _))
   exact List.append_inj h h1
  ·rintro ⟨h1,h2⟩
   rw [h1,h2]
 by_cases h1:(s.drop p).take y.length=y
 ·by_cases h2:(s.drop (p+y.length)).take x.length=x
  ·rw [if_pos (key.mpr ⟨h1,h2⟩),if_pos h1]
   simp only
   rw [if_pos h2]
   simp only [List.length_append,Nat.add_assoc]
  ·rw [if_neg (fun h=>h2 (key.mp h).2),if_pos h1]
   simp only
   rw [if_neg h2]
 ·rw [if_neg (fun h=>h1 (key.mp h).1),if_neg h1]
theorem mtR_joinStep {s:List Nat} (acc:List Nd) (n:Nd) (β:Nat→Bool):mtR s (joinStep acc n) β=mtR s acc (mt s n β):=by
 unfold joinStep
 split
 ·rename_i x
  split
  ·rename_i hx; subst hx; rw [mt_chars_nil]
  ·split
   ·rename_i y hl
    rcases List.eq_nil_or_concat acc with h | ⟨a,z,h⟩
    ·subst h; simp at hl
    ·rw [List.concat_eq_append] at h
     subst h
     simp only [List.getLast?_concat] at hl
     cases hl
     rw [List.dropLast_concat,mtR_append,mtR_append]
     simp only [mtR_q1,mtR_q2]
     rw [mt_chars_app]
   ·rw [mtR_append]; rfl
 ·rw [mtR_append]; rfl
theorem mtR_foldl {s:List Nat}:∀ (ps acc:List Nd) (β:Nat→Bool),mtR s (ps.foldl joinStep acc) β=mtR s acc (mtR s ps β)
 | [],acc,β=>rfl
 | p::ps,acc,β=>by rw [List.foldl_cons,mtR_foldl ps,mtR_joinStep]; rfl
theorem mtR_join {s:List Nat} (ps:List Nd) (β:Nat→Bool):mtR s (joinN ps) β=mtR s ps β:=by
 unfold joinN; rw [mtR_foldl]; rfl
theorem mtR_rowC {s:List Nat}:∀ (n:Nd) (β:Nat→Bool),mtR s (rowC n) β=mt s n β
 | .lf _,_=>rfl
 | .arb,_=>rfl
 | .alt _ _,_=>rfl
 | .arbno _,_=>rfl
 | .cat a b,β=>by
  simp only [rowC_q1,rowC_q2,mtR_append]
  rw [mtR_rowC b,mtR_rowC a]; rfl
theorem oc_lf_ge {N:Nat} (l:Lf) (κ:Nat→Nat) (p:Nat) (hp:p≤N):κ p≤oc N (.lf l) κ p:=by
 have:=arbC_pos (κ:=κ) (Nat.le_refl p) hp
 simp only [oc_q1,oc_q2,oc_q4]; lia
theorem ocR_joinStep {N:Nat} (acc:List Nd) (n:Nd) (κ:Nat→Nat) (p:Nat) (hp:p≤N):ocR N (joinStep acc n) κ p≤ocR N acc (oc N n κ) p:=by
 unfold joinStep
 split
 ·rename_i x
  split
  ·exact ocR_le acc _ _ (fun q hq=>oc_lf_ge _ κ q hq) p hp
  ·split
   ·rename_i y hl
    rcases List.eq_nil_or_concat acc with h | ⟨a,z,h⟩
    ·subst h; simp at hl
    ·rw [List.concat_eq_append] at h
     subst h
     simp only [List.getLast?_concat] at hl
     cases hl
     rw [List.dropLast_concat,ocR_append,ocR_append]
     refine ocR_le a _ _ (fun q hq=>?_) p hp
     simp only [ocR_q1,ocR_q2]
     exact oc_le (.lf (.chars y)) κ _ (fun q hq=>oc_lf_ge _ κ q hq) q hq
   ·rw [ocR_append]; exact Nat.le_refl _
 ·rw [ocR_append]; exact Nat.le_refl _
theorem ocR_foldl {N:Nat}:∀ (ps acc:List Nd) (κ:Nat→Nat) (p:Nat),p≤N→ocR N (ps.foldl joinStep acc) κ p≤ocR N acc (ocR N ps κ) p
 | [],acc,κ,p,hp=>Nat.le_refl _
 | x::ps,acc,κ,p,hp=>by
  rw [List.foldl_cons]
  exact Nat.le_trans (ocR_foldl ps _ κ p hp) (ocR_joinStep acc x _ p hp)
theorem ocR_join {N:Nat} (ps:List Nd) (κ:Nat→Nat) (p:Nat) (hp:p≤N):ocR N (joinN ps) κ p≤ocR N ps κ p:=ocR_foldl ps [] κ p hp
theorem ocR_rowC {N:Nat}:∀ (n:Nd) (κ:Nat→Nat),ocR N (rowC n) κ=oc N n κ
 | .lf _,_=>rfl
 | .arb,_=>rfl
 | .alt _ _,_=>rfl
 | .arbno _,_=>rfl
 | .cat a b,κ=>by
  simp only [rowC_q1,rowC_q2,ocR_append]
  rw [ocR_rowC b,ocR_rowC a]; rfl
theorem mtA_append {s:List Nat} {β:Nat→Bool} {p:Nat}:∀ (xs ys:List Nd),mtA s (xs++ys) β p=(mtA s xs β p||mtA s ys β p)
 | [],ys=>by simp [mtA_q1,mtA_q2]
 | x::xs,ys=>by simp only [List.cons_append,mtA_q1,mtA_q2]; rw [mtA_append xs,Bool.or_assoc]
theorem mtA_rowA {s:List Nat} {β:Nat→Bool} {p:Nat}:∀ (n:Nd),mtA s (rowA n) β p=mt s n β p
 | .lf _=>by simp [rowA_q1,rowA_q2,mtA_q1,mtA_q2]
 | .arb=>by simp [rowA_q1,rowA_q2,mtA_q1,mtA_q2]
 | .cat _ _=>by simp [rowA_q1,rowA_q2,mtA_q1,mtA_q2]
 | .arbno _=>by simp [rowA_q1,rowA_q2,mtA_q1,mtA_q2]
 | .alt a b=>by
  simp only [rowA_q1,rowA_q2,mtA_append]
  rw [mtA_rowA a,mtA_rowA b]; rfl
theorem ocA_append {N:Nat}:∀ (xs ys:List Nd),xs≠[]→ys≠[]→∀ (κ:Nat→Nat) (p:Nat),p≤N→ocA N (xs++ys) κ p≤1+ocA N xs (fun q=>1+κ q) p+ocA N ys κ p
 | [],_,h,_,_,_,_=>(h rfl).elim
 | [x],y::ys,_,_,κ,p,hp=>by
  simp only [List.cons_append,List.nil_append,ocA_q2,ocA_q3]; lia
 | [x],[],_,h,_,_,_=>(h rfl).elim
 | x::x2::xs,ys,_,h2,κ,p,hp=>by
  have h1:=ocA_append (x2::xs) ys (fun e=>by cases e) h2 κ p hp
  have h3:=oc_le x (fun q=>1+κ q) (fun q=>1+(1+κ q)) (fun q _=>by lia) p hp
  simp only [List.cons_append,ocA_q2,ocA_q3] at h1 ⊢
  lia
theorem ocA_rowA {N:Nat}:∀ (n:Nd) (κ:Nat→Nat) (p:Nat),p≤N→ocA N (rowA n) κ p≤oc N n κ p
 | .lf _,_,_,_=>Nat.le_refl _
 | .arb,_,_,_=>Nat.le_refl _
 | .cat _ _,_,_,_=>Nat.le_refl _
 | .arbno _,_,_,_=>Nat.le_refl _
 | .alt a b,κ,p,hp=>by
  have h1:=ocA_append (rowA a) (rowA b) (rowA_ne a) (rowA_ne b) κ p hp
  have h2:=ocA_rowA a (fun q=>1+κ q) p hp
  have h3:=ocA_rowA b κ p hp
  simp only [rowA_q1,rowA_q2,oc_q1,oc_q2,oc_q4] at h1 ⊢
  lia
theorem okN_rowC:∀ {n:Nd},okN n→∀ m∈rowC n,okN m
 | .lf l,h,m,hm=>by obtain rfl:=List.mem_singleton.mp hm; exact h
 | .arb,h,m,hm=>by obtain rfl:=List.mem_singleton.mp hm; exact h
 | .alt a b,h,m,hm=>by obtain rfl:=List.mem_singleton.mp hm; exact h
 | .arbno a,h,m,hm=>by obtain rfl:=List.mem_singleton.mp hm; exact h
 | .cat a b,h,m,hm=>by
  rcases List.mem_append.mp hm with hm | hm
  ·exact okN_rowC h.1 m hm
  ·exact okN_rowC h.2 m hm
theorem okN_rowA:∀ {n:Nd},okN n→∀ m∈rowA n,okN m
 | .lf l,h,m,hm=>by obtain rfl:=List.mem_singleton.mp hm; exact h
 | .arb,h,m,hm=>by obtain rfl:=List.mem_singleton.mp hm; exact h
 | .cat a b,h,m,hm=>by obtain rfl:=List.mem_singleton.mp hm; exact h
 | .arbno a,h,m,hm=>by obtain rfl:=List.mem_singleton.mp hm; exact h
 | .alt a b,h,m,hm=>by
  rcases List.mem_append.mp hm with hm | hm
  ·exact okN_rowA h.1 m hm
  ·exact okN_rowA h.2 m hm
theorem okN_fold:∀ (ps acc:List Nd),10+10*ps.length≤big→(∀ m∈acc,okN m∧txtN m+10*ps.length≤big)→(∀ m∈ps,okN m∧txtN m≤10)→∀ m∈ps.foldl joinStep acc,okN m
 | [],acc,_,ha,_=>fun m hm=>(ha m hm).1
 | p::ps,acc,hz,ha,hp=>by
  rw [List.foldl_cons]
  rw [List.length_cons] at hz
  have hpp:=hp p List.mem_cons_self
  have hb:txtN p+10*ps.length≤big:=by have:=hpp.2; lia
  refine okN_fold ps _ (by lia) (fun m hm=>?_) fun m hm=>hp m (List.mem_cons_of_mem _ hm)
  have up:∀ m∈acc,okN m∧txtN m+10*ps.length≤big:=fun m hm=>⟨(ha m hm).1,by have:=(ha m hm).2; simp only [List.length_cons] at this; lia⟩
  unfold joinStep at hm
  split at hm
  ·rename_i x
   split at hm
   ·exact up m hm
   ·split at hm
    ·rename_i y hl
     rcases List.mem_append.mp hm with hm | hm
     ·exact up m (List.dropLast_subset _ hm)
     ·obtain rfl:=List.mem_singleton.mp hm
      have h1:=ha _ (List.mem_of_getLast? hl)
      have h2:y.length+10*(ps.length+1)≤big:=h1.2
      have h3:x.length≤10:=hpp.2
      refine ⟨⟨by rw [List.length_append]; lia,fun c hc=>?_⟩,by show (y++x).length+_≤_; rw [List.length_append]; lia⟩
      rcases List.mem_append.mp hc with hc | hc
      ·exact h1.1.2 c hc
      ·exact hpp.1.2 c hc
    ·rcases List.mem_append.mp hm with hm | hm
     ·exact up m hm
     ·obtain rfl:=List.mem_singleton.mp hm
      exact ⟨hpp.1,hb⟩
  ·rcases List.mem_append.mp hm with hm | hm
   ·exact up m hm
   ·obtain rfl:=List.mem_singleton.mp hm
    exact ⟨hpp.1,hb⟩
theorem okN_join {n:Nd} (hz:szN n≤1000) (ht:∀ m∈rowC n,txtN m≤10) (hn:okN n):∀ m∈joinN (rowC n),okN m :=
 okN_fold _ [] (by have:=rowC_len n; unfold big; lia) (fun m hm=>by cases hm) fun m hm=>⟨okN_rowC hn m hm,ht m hm⟩
theorem Does.cong {s:List Nat} {F:List Ord} {b e:Nat} {M M':(Nat→Bool)→Nat→Bool} {K K':(Nat→Nat)→Nat→Nat} (h:Does s F b e M K) (h1:∀ β p,p≤s.length→M β p=M' β p) (h2:∀ κ p,p≤s.length→K κ p≤K' κ p):Does s F b e M' K':=fun β κ p ms hp hr=>by
 rw [← h1 β p hp]
 exact (h β κ p ms hp hr).le (h2 κ p hp)
theorem does_gen {s:List Nat} {F:List Ord} (hj:JOk F):∀ (f:Nat) (n:Nd) (b:Nat),dpt n<f→okN n→okP n→Sub F b (gen f n b)→Does s F b (b+(gen f n b).length) (mt s n) (oc s.length n)
 | 0,_,_,h,_,_,_=>by lia
 | f+1,.lf l,b,_,hk,_,hs=>does_leaf hk hs.head
 | f+1,.arb,b,_,_,_,hs=>does_arb hs.head
 | f+1,.cat x y,b,hd,hk,hp,hs=>by
  simp only [dpt_q1,dpt_q2,dpt_q3,dpt_q4,dpt_q5] at hd
  have hN:=okN_join (n:=.cat x y) hp.1 hp.2.1 hk
  have hP:=cat_parts hp
  refine (does_seq (s:=s) (g:=gen f) (joinN (rowC (.cat x y))) b (fun n hn b hs=>does_gen hj f n b (by have:=(hP n hn).2; lia) (hN n hn) (hP n hn).1 hs) hs).cong (fun β p hp=>?_) fun κ p hp=>?_
  ·rw [mtR_join,mtR_rowC]
  ·exact Nat.le_trans (ocR_join _ κ p hp) (by rw [ocR_rowC]; exact Nat.le_refl _)
 | f+1,.alt x y,b,hd,hk,hp,hs=>by
  simp only [dpt_q1,dpt_q2,dpt_q3,dpt_q4,dpt_q5] at hd
  have hN:=okN_rowA (n:=.alt x y) hk
  have hP:=alt_parts hp
  have hlen:=altX_len (gen f) (.jump (b+(altX (gen f) .hole (rowA (.alt x y)) b).length)) .hole (rowA (.alt x y)) b
  have:=does_alt (s:=s) hj (g:=gen f) (en:=b+(altX (gen f) .hole (rowA (.alt x y)) b).length) (rowA (.alt x y)) b (rowA_ne _) (fun n hn b hs=>does_gen hj f n b (by have:=(hP n hn).2; lia) (hN n hn) (hP n hn).1 hs) hs (by rw [hlen])
  rw [← hlen] at this
  refine this.cong (fun β p hp=>?_) fun κ p hp=>?_
  ·rw [mtA_rowA]
  ·exact ocA_rowA _ κ p hp
 | f+1,.arbno a,b,hd,hk,hp,hs=>by
  simp only [dpt_q1,dpt_q2,dpt_q3,dpt_q4,dpt_q5] at hd
  have h1:=does_gen (s:=s) hj f a (b+3) (by lia) hk hp hs.tail.tail.tail.left
  have:=does_arbno (s:=s) hj (a:=a) (os:=gen f a (b+3)) (b:=b) hs h1
  have e:b+(gen (f+1) (.arbno a) b).length=b+3+(gen f a (b+3)).length+2:=by
   simp only [gen_q1,gen_q2,gen_q3,gen_q4,gen_q5,gen_q6,List.length_cons,List.length_append,List.length_nil]; lia
  rw [e]
  exact this
theorem seqG_append (g:Nd→Nat→List Ord):∀ (xs ys:List Nd) (b:Nat),seqG g (xs++ys) b=seqG g xs b++seqG g ys (b+(seqG g xs b).length)
 | [],ys,b=>by simp [seqG_q1,seqG_q2]
 | x::xs,ys,b=>by
  simp only [List.cons_append,seqG_q1,seqG_q2,List.append_assoc,List.length_append]
  rw [seqG_append g xs ys,Nat.add_assoc]
theorem joinN_last (ps:List Nd) (k:Nat):joinN (ps++[.lf (.rpos k)])=joinN ps++[.lf (.rpos k)]:=by
 unfold joinN
 rw [List.foldl_append]
 rfl
theorem jok_gen (f:Nat) (n:Nd):JOk (gen f n 0++[Ord.done]):=by
 have hs:=seg_gen f n 0
 have hlen:(gen f n 0++[Ord.done]).length=(gen f n 0).length+1:=by simp
 intro i g h
 by_cases hi:i<(gen f n 0).length
 ·rw [List.getElem?_append_left hi] at h
  obtain ⟨_,_,a3⟩:=hs i _ h
  rcases a3 g rfl with ⟨c1,c2⟩ | ⟨j,z,c1,c2⟩
  ·exact .inl ⟨by lia,by rw [hlen]; lia⟩
  ·refine .inr ⟨z,?_⟩
   rw [c2,Nat.zero_add,List.getElem?_append_left (List.getElem?_eq_some_iff.mp c1).1]; exact c1
 ·rw [List.getElem?_append_right (by lia)] at h
  induction hk:i - (gen f n 0).length using Nat.casesAuxOn with
  | zero=>rw [hk] at h; simp at h
  | succ k=>rw [hk] at h; simp at h
theorem orders_ex {s:List Nat} {n:Nd} (hs:s.length≤3) (hd:dpt n≤2) (hn:okN n) (hp:okP (.cat n (.lf (.rpos 0)))) :
  ∃ K,K≤99000∧RunO s (stro (gen (dpt (.cat n (.lf (.rpos 0)))+1) (.cat n (.lf (.rpos 0))) 0++[Ord.done])) ⟨0,0,[]⟩ [] K (res s (mt s n (fun p=>decide (p=s.length)) 0)):=by
 have hj:=jok_gen (dpt (.cat n (.lf (.rpos 0)))+1) (.cat n (.lf (.rpos 0)))
 have hg:gen (dpt (.cat n (.lf (.rpos 0)))+1) (.cat n (.lf (.rpos 0))) 0=seqG (gen (dpt n+1)) (joinN (rowC n)) 0++[Ord.one (.rpos 0)]:=by
  have hdp:dpt (.cat n (.lf (.rpos 0)))=dpt n+1:=by simp [dpt_q1,dpt_q2,dpt_q3,dpt_q4,dpt_q5]
  rw [hdp]
  show seqG (gen (dpt n+1)) (joinN (rowC n++[.lf (.rpos 0)])) 0=_
  rw [joinN_last,seqG_append]
  rfl
 rw [hg] at hj ⊢
 (revert hj; refine genh (seqG (gen (dpt n+1)) (joinN (rowC n)) 0) fun S hS hj=>?_)
 have hF:Sub (S++[Ord.one (.rpos 0)]++[Ord.done]) 0 S:=fun i o hi=>by
  rw [Nat.zero_add,List.append_assoc,List.getElem?_append_left (List.getElem?_eq_some_iff.mp hi).1]; exact hi
 have hF1:(S++[Ord.one (.rpos 0)]++[Ord.done])[S.length]?=some (Ord.one (.rpos 0)):=by simp
 have hF2:(S++[Ord.one (.rpos 0)]++[Ord.done])[S.length+1]?=some Ord.done:=by simp
 (revert hj hF hF1 hF2; refine genl (S++[Ord.one (.rpos 0)]++[Ord.done]) fun F hj hF hF1 hF2=>?_)
 have hz:szN n≤1000:=by have:=hp.1; simp only [szN_q1,szN_q2,szN_q3,szN_q4] at this; lia
 have hN:=okN_join hz (fun m hm=>hp.2.1 m (List.mem_append_left _ hm)) hn
 have hP:∀ m∈joinN (rowC n),okP m∧dpt m≤dpt n:=fun m hm=>by
  have:=cat_parts hp m (by
   show m∈joinN (rowC n++[.lf (.rpos 0)])
   rw [joinN_last]
   exact List.mem_append_left _ hm)
  exact ⟨this.1,by have:=this.2; simp only [dpt_q1,dpt_q2,dpt_q3,dpt_q4,dpt_q5] at this; lia⟩
 subst hS
 have hD:=does_seq (s:=s) (F:=F) (g:=gen (dpt n+1)) (joinN (rowC n)) 0 (fun m hm b hs=>does_gen hj (dpt n+1) m b (by have:=(hP m hm).2; lia) (hN m hm) (hP m hm).1 hs) hF
 rw [Nat.zero_add] at hD
 have hW:=hD (fun p=>decide (p=s.length)) (fun p=>arbC (fun _=>1) (s.length+1 - p) p) 0 [] (Nat.zero_le _) fun q _ hq=>by
  have h1:=arbC_pos (κ:=fun _=>1) (Nat.le_refl q) hq
  have h1:2≤arbC (fun _=>1) (s.length+1 - q) q:=h1
  by_cases he:q=s.length
  ·subst he
   simp only [decide_true]
   exact (WB.go (w:=⟨_,s.length,[]⟩) (w':=⟨_+1,s.length,[]⟩) (stro_get hF1) trivial hq (by simp [stepO_q1,stepO_q5,stepO_q6,strO_q3,leafEnd_q1,leafEnd_q2,leafEnd_q3,leafEnd_q4]) (WB.done (stro_get hF2) rfl)).le h1
  ·simp only [he,decide_false]
   refine (WB.fail (w:=⟨_,q,[]⟩) (stro_get hF1) trivial hq ?_).le (by lia)
   have:¬ ((s.length:Int) - q=0):=by lia
   simp [stepO_q1,stepO_q5,stepO_q6,strO_q3,leafEnd_q1,leafEnd_q2,leafEnd_q3,leafEnd_q4,this]
 rw [mtR_join,mtR_rowC] at hW
 have h2:=ocR_join (N:=s.length) (rowC n) (fun p=>arbC (fun _=>1) (s.length+1 - p) p) 0 (Nat.zero_le _)
 rw [ocR_rowC] at h2
 have h3:=oc_Wb s.length n 2 hd (fun p=>arbC (fun _=>1) (s.length+1 - p) p) (fun p=>arbC (fun _=>1) (s.length+1 - p) p) (fun _ _=>Nat.le_refl _) 0 (Nat.zero_le _)
 have h4:=WbO_small s.length hs
 obtain ⟨k,lk,t,f⟩:=hW
 refine ⟨k,by lia,?_⟩
 induction hb:mt s n (fun p=>decide (p=s.length)) 0 using Bool.casesOn with
 | true=>exact t hb []
 | false=>exact (f hb).2
theorem szN_le:∀ (n:Nd),szN n+1≤2 ^ (dpt n+1)
 | .lf _=>by simp [szN_q1,szN_q2,szN_q3,szN_q4,dpt_q1,dpt_q2,dpt_q3,dpt_q4,dpt_q5]
 | .arb=>by simp [szN_q1,szN_q2,szN_q3,szN_q4,dpt_q1,dpt_q2,dpt_q3,dpt_q4,dpt_q5]
 | .cat a b=>by
  have h1:=szN_le a
  have h2:=szN_le b
  have h3:2 ^ (dpt a+1)≤2 ^ (max (dpt a) (dpt b)+1):=Nat.pow_le_pow_right (by decide) (by lia)
  have h4:2 ^ (dpt b+1)≤2 ^ (max (dpt a) (dpt b)+1):=Nat.pow_le_pow_right (by decide) (by lia)
  simp only [szN_q1,szN_q2,szN_q3,szN_q4,dpt_q1,dpt_q2,dpt_q3,dpt_q4,dpt_q5]
  rw [Nat.pow_succ]
  lia
 | .alt a b=>by
  have h1:=szN_le a
  have h2:=szN_le b
  have h3:2 ^ (dpt a+1)≤2 ^ (max (dpt a) (dpt b)+1):=Nat.pow_le_pow_right (by decide) (by lia)
  have h4:2 ^ (dpt b+1)≤2 ^ (max (dpt a) (dpt b)+1):=Nat.pow_le_pow_right (by decide) (by lia)
  simp only [szN_q1,szN_q2,szN_q3,szN_q4,dpt_q1,dpt_q2,dpt_q3,dpt_q4,dpt_q5]
  rw [Nat.pow_succ]
  lia
 | .arbno a=>by
  have h1:=szN_le a
  simp only [szN_q1,szN_q2,szN_q3,szN_q4,dpt_q1,dpt_q2,dpt_q3,dpt_q4,dpt_q5]
  rw [Nat.pow_succ]
  lia
theorem szN_small {n:Nd} (h:dpt n≤3):szN n≤15:=by
 have h1:=szN_le n
 have h2:2 ^ (dpt n+1)≤2 ^ 4:=Nat.pow_le_pow_right (by decide) (by lia)
 lia
theorem okM_txt:∀ {n:Nd},okM n→∀ m∈rowC n,txtN m≤10
 | .lf l,h,m,hm=>by
  obtain rfl:=List.mem_singleton.mp hm
  induction l using Lf.casesOn with
  | chars x=>exact h.1
  | _=>exact Nat.zero_le _
 | .arb,h,m,hm=>by obtain rfl:=List.mem_singleton.mp hm; exact Nat.zero_le _
 | .alt a b,h,m,hm=>by obtain rfl:=List.mem_singleton.mp hm; exact Nat.zero_le _
 | .arbno a,h,m,hm=>by obtain rfl:=List.mem_singleton.mp hm; exact Nat.zero_le _
 | .cat a b,h,m,hm=>by
  rcases List.mem_append.mp hm with hm | hm
  ·exact okM_txt h.1 m hm
  ·exact okM_txt h.2 m hm
theorem okM_P:∀ {n:Nd},okM n→dpt n≤3→okP n
 | .lf l,h,hd=>trivial
 | .arb,h,hd=>trivial
 | .cat a b,h,hd=>by
  have h1:=szN_small hd
  have h2:=okM_txt h
  simp only [dpt_q1,dpt_q2,dpt_q3,dpt_q4,dpt_q5] at hd
  exact ⟨by lia,h2,okM_P h.1 (by lia),okM_P h.2 (by lia)⟩
 | .alt a b,h,hd=>by
  have h1:=szN_small hd
  simp only [dpt_q1,dpt_q2,dpt_q3,dpt_q4,dpt_q5] at hd
  exact ⟨by lia,okM_P h.1 (by lia),okM_P h.2 (by lia)⟩
 | .arbno a,h,hd=>by
  simp only [dpt_q1,dpt_q2,dpt_q3,dpt_q4,dpt_q5] at hd
  exact okM_P (n:=a) h (by lia)
theorem okM_whole {n:Nd} (h:okM n) (hd:dpt n≤2):okP (.cat n (.lf (.rpos 0))):=by
 have h1:=szN_small (n:=n) (by lia)
 refine ⟨by simp only [szN_q1,szN_q2,szN_q3,szN_q4]; lia,fun m hm=>?_,okM_P h (by lia),trivial⟩
 rcases List.mem_append.mp hm with hm | hm
 ·exact okM_txt h m hm
 ·obtain rfl:=List.mem_singleton.mp hm; exact Nat.zero_le _
theorem FeedAt.fresh {H:MH} {fd ce a:Addr} {ns:List Int} {t:Nat} {o:MO} (h:FeedAt H fd ce ns t) (n:H a=none):FeedAt (upd H a o) fd ce ns t:=by
 have n1:fd≠a:=by rintro rfl; rw [h.f] at n; cases n
 have n2:ce≠a:=by rintro rfl; rw [h.c] at n; cases n
 exact ⟨by rw [upd_other n1]; exact h.f,by rw [upd_other n2]; exact h.c⟩
theorem subj_go {C:Cl} {fd ce:Addr} {ns:List Int} {K:List PV→MH→Prop}
  (hN:∀ (m t:Nat) (H:MH),1≤m→m≤10→FeedAt H fd ce ns t→t≤1000→∀ K:PV→MH→Prop,(∀ (k:Nat) H',k<m→FeedAt H' fd ce ns (t+1)→K (.int k) H')→C (.fn 26) [.ref fd,.int m] H K) :
  ∀ (xs:List PV) (cs:List Nat) (H:MH) (t:Nat),FeedAt H fd ce ns t→t+xs.length≤1000→(∀ c∈cs,c∈abc) →
   (∀ (cs':List Nat) (H':MH),FeedAt H' fd ce ns (t+xs.length)→cs'.length=cs.length+xs.length→(∀ c∈cs',c∈abc)→K (cs'.map fun c=>.str [c]) H') →
   compGo (fun _=>True) (fun _ H Q=>Q (.bool true) H) (fun x H Q=>wpX C (.sub (.lit (.str [97,98,99])) (.call (.lit (.fn 26)) (.cons (.var 3) (.cons (.lit (.int (3))) .nil)))) ([.undef,x,.undef,.ref fd]) H Q) xs (cs.map fun c=>.str [c]) H K
 | [],cs,H,t,hf,ht,hc,hK=>by
  unfold compGo
  exact ⟨trivial,hK cs H hf rfl hc⟩
 | x::xs,cs,H,t,hf,ht,hc,hK=>by
  rw [List.length_cons] at ht
  unfold compGo
  refine ⟨trivial,?_⟩
  show wpX C _ _ _ _
  rw [wx_sub,wx_lit,wx_call,wx_lit]
  refine ⟨show (26:Nat)<90 by decide,?_⟩
  simp only [wpXs_q1,wpXs_q2]
  rw [wpX_var]
  refine ⟨rfl,?_⟩
  rw [wx_lit]
  refine hN 3 t H (by decide) (by decide) hf (by lia) _ fun k H' hk hf'=>?_
  have hk3:k<3:=hk
  unfold subOp
  refine ⟨by lia,by simp; lia,by decide,?_⟩
  rw [Int.toNat_natCast]
  have e:((cs.map fun c=>PV.str [c])++[PV.str [[97,98,99].getD k 0]])=(cs++[abc.getD k 0]).map fun c=>PV.str [c]:=by simp [abc]
  show compGo _ _ _ _ ((cs.map fun c=>PV.str [c])++[PV.str [[97,98,99].getD k 0]]) _ _
  rw [e]
  refine subj_go hN xs (cs++[abc.getD k 0]) H' (t+1) hf' (by lia) (fun c hm=>?_) fun cs' H2 h1 h2 h3=>?_
  ·rcases List.mem_append.mp hm with hm | hm
   ·exact hc c hm
   ·obtain rfl:=List.mem_singleton.mp hm
    have:k=0∨k=1∨k=2:=by lia
    rcases this with rfl | rfl | rfl <;> decide
  ·refine hK cs' H2 ?_ ?_ h3
   ·rw [List.length_cons,show t+(xs.length+1)=t+1+xs.length by lia]; exact h1
   ·rw [h2]; simp only [List.length_append,List.length_cons,List.length_nil]; lia
noncomputable def dueV (dl:Addr) (s:List Nat) (b:Bool):PV:=if b then .tup [.int 0,.int s.length,.ref dl] else .none
theorem due_eqT {H:MH} {l dl:Addr} {N:Nat} {K:Bool→Prop} (h1:H l=some (.list [])) (h2:H dl=some (.list [])) (k:K true):eqOp H (.tup [.int 0,.int N,.ref l]) (.tup [.int 0,.int N,.ref dl]) K:=by
 have d:∀ {l:Addr},H l=some (.list [])→(PV.tup [.int 0,.int N,.ref l]).data H=some (.tuple [.int 0,.int N,.list []]):=fun {l} h=>by
  simp [PVdata_q1,PVdata_q3,PVdata_q4,PVdata_q5,PVdata_q6,datas_q1,datas_q2,h]
 have:∃ r,EqR H (.tup [.int 0,.int N,.ref l]) (.tup [.int 0,.int N,.ref dl]) r∧K r:=by
  refine ⟨true,⟨_,_,d h1,d h2,?_,?_⟩,k⟩
  ·simp [PyData.depth,PyData.depthAll]
  ·simp [PyData.eqv,PyData.eqvAll]
 exact this
theorem due_eqN {H:MH} {K:Bool→Prop} (k:K true):eqOp H .none .none K:=by
 have:∃ r,EqR H .none .none r∧K r:=⟨true,⟨.none,.none,by simp [PVdata_q1,PVdata_q3,PVdata_q4,PVdata_q5,PVdata_q6],by simp [PVdata_q1,PVdata_q3,PVdata_q4,PVdata_q5,PVdata_q6],by simp [PyData.depth],by simp [PyData.eqv]⟩,k⟩
 exact this
noncomputable def tlS:Ss→Ss
 | .nil=>.nil
 | .cons _ ss=>ss
section
variable {c:Cx} {prog:Program} {d:Nat} {H:MH} {Q:PV→MH→Prop} {fd ce:Addr} {ns:List Int}
theorem hostE (W:Fns c) {r:List PV} {K:PV→MH→Prop} (h:∀ H' ho dh v f l,Frm [] H H'→H dh=none→HostAt H' ho dh v f l 0→K (.ref ho) H') :
  wpX (CS c prog (d+6)) (.call (.lit (.fn 43)) (.cons .dict0 (.cons (.lit (.int (99999))) (.cons (.list .nil) .nil)))) r H K:=by
 rw [wx_call,wx_lit]
 refine ⟨show (43:Nat)<90 by decide,?_⟩
 simp only [wpXs_q1,wpXs_q2]
 rw [wx_dict]
 intro a1 h1
 rw [wx_lit,wx_list]
 simp only [wpXs_q1,wpXs_q2]
 refine ⟨by decide,?_⟩
 intro a2 h2
 have f2:Frm [] H (upd (upd H a1 (.ns [])) a2 (.list [])):=by
  exact Frm.trans (H1:=upd H a1 (.ns [])) (frm_up Frm.refl (.inr h1)) (Frm.upd (.inr h2))
 refine s43 (d:=d) W rfl rfl fun H' ho dh l f3 nho ndh hh=>?_
 refine h H' ho dh _ _ _ (f2.trans f3) ?_ hh
 induction q:H dh using Option.casesOn with
 | none=>rfl
 | some z =>
  have:=f2 dh (by rw [q]; exact fun e=>by cases e) (by simp)
  rw [ndh,q] at this; cases this
theorem matDue {C:Cl} {r:List PV} {op:CmpOp} {f:Bool→Bool} {K:PV→MH→Prop} {s:List Nat} {b:Bool} {dh dl:Addr} (hop:∀ p q H,cmpOp op p q H K=eqOp H p q fun r=>K (.bool (f r)) H)
  (g:get r 7=dueV dl s b) (hd:b=true→H dl=some (.list [])) (hne:b=true→dl≠dh) (k:∀ H',Frm [dh] H H'→K (.bool (f true)) H') :
  MatQ H dh 0 (res s b) (fun p H=>wpX C (.var 7) r H fun q H=>cmpOp op p q H K) where
 no ho H' hf:=by
  induction b using Bool.casesOn with
  | true=>cases ho
  | false =>
   rw [wpX_var,g]
   refine ⟨rfl,?_⟩
   rw [hop]
   exact due_eqN (k H' hf)
 yes q ho H' l hf hl:=by
  induction b using Bool.casesOn with
  | false=>cases ho
  | true =>
   simp only [res,if_true] at ho
   cases ho
   rw [wpX_var,g]
   refine ⟨rfl,?_⟩
   rw [hop]
   refine due_eqT hl ?_ (k H' hf)
   have h1:=hd rfl
   rw [hf dl (by rw [h1]; exact fun e=>by cases e) (by simpa using hne rfl),h1]
set_option maxHeartbeats 2000000 in
theorem s38 (W:Fns c) (hf:FeedAt H fd ce ns 0) (hn:ns.length≤30) (h:∀ H',Q (.bool true) H') :
  wpSs (CS c prog (d+400)) (tlS b38) [.undef,.ref fd,.undef,.undef,.undef,.undef,.undef,.undef,.undef,.undef,.undef,.undef,.undef,.undef,.undef,.undef,.undef,.undef] H (retQ Q):=by
 have nx:∀ (m t:Nat) (H:MH),1≤m→m≤10→FeedAt H fd ce ns t→t≤1000→∀ K:PV→MH→Prop,(∀ (k:Nat) H',k<m→FeedAt H' fd ce ns (t+1)→K (.int k) H')→CS c prog (d+400) (.fn 26) [.ref fd,.int m] H K :=
  fun m t H h1 h2 hf ht K hK=>(s26 (d:=d) W hf h1 ht (by lia) fun k hk=>hK k _ hk hf.next).mono (by lia)
 refine asgW' ?_
 rw [wx_meth,wx_lit]
 show wpXs _ _ _ _ _
 simp only [wpXs_q1,wpXs_q2]
 rw [wx_comp,wx_call,wx_lit]
 refine ⟨show (1:Nat)<8 by decide,?_⟩
 simp only [wpXs_q1,wpXs_q2]
 rw [wx_call,wx_lit]
 refine ⟨show (26:Nat)<90 by decide,?_⟩
 simp only [wpXs_q1,wpXs_q2]
 rw [wpX_var]
 refine ⟨rfl,?_⟩
 rw [wx_lit]
 refine nx 4 0 H (by decide) (by decide) hf (by lia) _ fun k H1 hk hf1=>?_
 show (k:Int).natAbs≤big∧_
 refine ⟨by unfold big; lia,?_⟩
 refine ⟨by decide,by unfold big; lia,?_⟩
 have hrl:(rngItems 0 k).length=k:=by unfold rngItems; simp
 refine subj_go nx (rngItems 0 k) [] H1 1 hf1 (by lia) (fun c hc=>by cases hc) fun s H2 hf2 hsl hs=>?_
 intro l1 hl1
 have hf3:=hf2.fresh (o:=.list (s.map fun c=>.str [c])) hl1
 have hsl:s.length≤3:=by rw [hsl,hrl]; simp; lia
 show strMeth [] 35 [.ref l1] _ _
 refine i_str upd_self (strs_single _) ⟨rfl,by rw [flat_single]; exact big1 _ (by lia),by rw [List.length_map]; exact big1 _ (by lia),?_⟩
 rw [flat_single]
 (revert hf3; refine genl (upd H2 l1 (.list (s.map fun c=>.str [c]))) fun H3 hf3=>?_)
 rw [hrl] at hf3
 clear hl1 hf2 hf1 hf
 show wpSs _ _ [.undef,.ref fd,.str s,.undef,.undef,.undef,.undef,.undef,.undef,.undef,.undef,.undef,.undef,.undef,.undef,.undef,.undef,.undef] H3 _
 refine asgW' ?_
 rw [wx_call,wx_lit]
 refine ⟨show (27:Nat)<90 by decide,?_⟩
 simp only [wpXs_q1,wpXs_q2]
 rw [wpX_var]
 refine ⟨rfl,?_⟩
 rw [wx_lit]
 refine CS.mono (d:=d+2+2) (s27 W (by lia) 2 d H3 (1+k) _ hf3 (by lia) fun n H4 t4 hm hd _ hf4 _=>?_) (by lia)
 show wpSs _ _ [.undef,.ref fd,.str s,encN n,.undef,.undef,.undef,.undef,.undef,.undef,.undef,.undef,.undef,.undef,.undef,.undef,.undef,.undef] H4 _
 have uN:=isU_N n
 refine asgW' ?_
 rw [wx_call,wx_lit]
 refine ⟨show (30:Nat)<90 by decide,?_⟩
 simp only [wpXs_q1,wpXs_q2]
 rw [wpX_var]
 refine ⟨uN,?_⟩
 refine CS.mono (d:=d+3+dpt n) (s30 W n d H4 _ hm (by lia) fun H5 f5=>?_) (by lia)
 show wpSs _ _ [.undef,.ref fd,.str s,encN n,encR (ofN n),.undef,.undef,.undef,.undef,.undef,.undef,.undef,.undef,.undef,.undef,.undef,.undef,.undef] H5 _
 have oR:=of_okR hm
 have rR:=of_rdp hm
 refine forE (v:=.str s) (xs:=s.map fun c=>.str [c]) (src:=fun _=>True) (ev_var rfl rfl) (fun K k=>⟨by unfold big; lia,k⟩) ?_
 have go:∀ (cs:List Nat) (T:Rx) (x5:PV),okR T→(rdp T+1)*2 ^ cs.length≤200→toldAfter T cs=toldAfter (ofN n) s →
   (∀ x5,wpSs (CS c prog (d+400)) (tlS (tlS (tlS (tlS (tlS b38))))) [.undef,.ref fd,.str s,encN n,encR (toldAfter (ofN n) s),x5,.undef,.undef,.undef,.undef,.undef,.undef,.undef,.undef,.undef,.undef,.undef,.undef] H5 (retQ Q)) →
   forGo 5 (fun _=>True) (fun r H Q=>wpSs (CS c prog (d+400)) (.cons (.asg 4 (.call (.lit (.fn 33)) (.cons (.var 4) (.cons (.var 5) .nil)))) .nil) r H Q) (cs.map fun c=>.str [c]) [.undef,.ref fd,.str s,encN n,encR T,x5,.undef,.undef,.undef,.undef,.undef,.undef,.undef,.undef,.undef,.undef,.undef,.undef] H5
    (sq (CS c prog (d+400)) (tlS (tlS (tlS (tlS (tlS b38))))) (retQ Q)):=by
  intro cs
  induction cs with
  | nil =>
   intro T x5 _ _ hT k
   refine forNil trivial ?_
   have hT:T=toldAfter (ofN n) s:=hT
   rw [hT]
   exact k x5
  | cons g cs ih =>
   intro T x5 hok hr hT k
   rw [List.length_cons,Nat.pow_succ] at hr
   have hp:1≤2 ^ cs.length:=Nat.one_le_pow _ _ (by decide)
   have h2:=rdp_d g T
   have h3:(rdp T+1)*(2 ^ cs.length*2)=(2*rdp T+2)*2 ^ cs.length:=by
    rw [Nat.mul_comm (2 ^ cs.length) 2,← Nat.mul_assoc]
    congr 1
    lia
   have h4:(rdp (dR T g)+1)*2 ^ cs.length≤(2*rdp T+2)*2 ^ cs.length:=Nat.mul_le_mul_right _ (by lia)
   have h5:(2*rdp T+2)*1≤(2*rdp T+2)*2 ^ cs.length:=Nat.mul_le_mul_left _ hp
   refine forCons trivial ?_
   show wpSs _ _ [.undef,.ref fd,.str s,encN n,encR T,.str [g],.undef,.undef,.undef,.undef,.undef,.undef,.undef,.undef,.undef,.undef,.undef,.undef] H5 _
   refine asgW' ?_
   rw [wx_call,wx_lit]
   refine ⟨show (33:Nat)<90 by decide,?_⟩
   simp only [wpXs_q1,wpXs_q2]
   rw [wpX_var]
   refine ⟨by cases T <;> rfl,?_⟩
   rw [wpX_var]
   refine ⟨rfl,?_⟩
   refine CS.mono (d:=d+1+rdp T) (s33 W g T d _ hok (by lia) ?_) (by lia)
   refine nilW ?_
   exact ih (dR T g) _ (okR_d g T hok) (by lia) hT k
 refine go s (ofN n) .undef oR ?_ rfl ?_
 ·have:2 ^ s.length≤2 ^ 3:=Nat.pow_le_pow_right (by decide) hsl
  have:(rdp (ofN n)+1)*2 ^ s.length≤15*2 ^ 3:=Nat.mul_le_mul (by lia) this
  lia
 clear go
 intro x5
 refine asgE (v:=encN (.cat n (.lf (.rpos 0)))) (fun K k=>?_) ?_
 ·rw [wx_tup]
  simp only [wpXs_q1,wpXs_q2]
  rw [wx_lit,wpX_var]
  refine ⟨uN,?_⟩
  rw [wx_tup]
  simp only [wpXs_q1,wpXs_q2]
  rw [wx_lit,wx_lit]
  exact ⟨of_decide_eq_true rfl,of_decide_eq_true rfl,k⟩
 show wpSs _ _ [.undef,.ref fd,.str s,encN n,encR (toldAfter (ofN n) s),x5,encN (.cat n (.lf (.rpos 0))),.undef,.undef,.undef,.undef,.undef,.undef,.undef,.undef,.undef,.undef,.undef] H5 _
 have hrT:rdp (toldAfter (ofN n) s)≤200:=by
  have:∀ (cs:List Nat) (T:Rx),rdp (toldAfter T cs)+1≤(rdp T+1)*2 ^ cs.length:=by
   intro cs
   induction cs with
   | nil=>intro T; simp [toldAfter]
   | cons g cs ih =>
    intro T
    have h1:=ih (dR T g)
    have h2:=rdp_d g T
    have h4:(rdp (dR T g)+1)*2 ^ cs.length≤(2*rdp T+2)*2 ^ cs.length:=Nat.mul_le_mul_right _ (by lia)
    rw [List.length_cons,Nat.pow_succ]
    have h3:(rdp T+1)*(2 ^ cs.length*2)=(2*rdp T+2)*2 ^ cs.length:=by
     rw [Nat.mul_comm (2 ^ cs.length) 2,← Nat.mul_assoc]
     congr 1
     lia
    rw [h3]
    exact Nat.le_trans h1 h4
  have h1:=this s (ofN n)
  have h2:2 ^ s.length≤2 ^ 3:=Nat.pow_le_pow_right (by decide) hsl
  have h3:(rdp (ofN n)+1)*2 ^ s.length≤15*2 ^ 3:=Nat.mul_le_mul (by lia) h2
  lia
 have hnull:=law_null (s:=s) (n:=n) hs (okM_R hm)
 (revert hrT hnull; refine genl (toldAfter (ofN n) s) fun T hrT hnull=>?_)
 obtain ⟨K1,hK1,R1⟩:=orders_ex hsl hd (okM_N hm) (okM_whole hm hd)
 obtain ⟨K2,hK2,R2⟩:=plain_ex hsl hd
 (revert hnull R1 R2; refine genl (mt s n (fun p=>decide (p=s.length)) 0) fun b hnull R1 R2=>?_)
 have fin:∀ (H6:MH) (dl:Addr),(b=true→H6 dl=some (.list []))→wpSs (CS c prog (d+400)) (tlS (tlS (tlS (tlS (tlS (tlS (tlS b38))))))) [.undef,.ref fd,.str s,encN n,encR T,x5,encN (.cat n (.lf (.rpos 0))),dueV dl s b,.undef,.undef,.undef,.undef,.undef,.undef,.undef,.undef,.undef,.undef] H6 (retQ Q):=by
  intro H6 dl hdl
  have uW:=isU_N (.cat n (.lf (.rpos 0)))
  have hsz:=szN_small (n:=n) (by lia)
  refine (iteU (x:=(.cons (.ret (.lit (.bool false))) .nil)) (y:=.nil)).mpr ?_
  rw [wx_cmp,wx_call,wx_lit]
  refine ⟨show (18:Nat)<90 by decide,?_⟩
  simp only [wpXs_q1,wpXs_q2]
  rw [wpX_var]
  refine ⟨uW,?_⟩
  rw [wpX_var]
  refine ⟨rfl,?_⟩
  rw [wx_lit]
  refine hostE (d:=d+394) W fun H7 ho dh v f l f7 ndh hh=>?_
  have d7:b=true→H7 dl=some (.list []):=fun hb=>by
   have:=hdl hb
   rw [f7 dl (by rw [this]; exact fun e=>by cases e) (by simp),this]
  have ne7:b=true→dl≠dh:=fun hb e=>by
   have:=hdl hb
   rw [e,ndh] at this; cases this
  refine CS.mono (d:=d+13) (s18 (d:=d) W (okM_whole hm hd) (by simp only [dpt_q1,dpt_q2,dpt_q3,dpt_q4,dpt_q5]; lia) (by simp only [szN_q1,szN_q2,szN_q3,szN_q4]; lia) hsl hh R1 (by lia) ?_ (matDue (f:=fun r=>!r) (fun _ _ _=>rfl) rfl d7 ne7 fun H8 f8=>?_)) (by lia)
  ·have:=gen_len (dpt (.cat n (.lf (.rpos 0)))+1) (.cat n (.lf (.rpos 0))) 0
   simp only [szN_q1,szN_q2,szN_q3,szN_q4] at this
   unfold stro
   rw [List.length_map,List.length_append,List.length_singleton]
   lia
  have d8:b=true→H8 dl=some (.list []):=fun hb=>by
   have:=d7 hb
   rw [f8 dl (by rw [this]; exact fun e=>by cases e) (by simpa using ne7 hb),this]
  show wpSs _ .nil _ _ _
  refine nilW (sqN (retW ?_))
  rw [wx_cmp,wx_call,wx_lit]
  refine ⟨show (19:Nat)<90 by decide,?_⟩
  simp only [wpXs_q1,wpXs_q2]
  rw [wpX_var]
  refine ⟨uW,?_⟩
  rw [wpX_var]
  refine ⟨rfl,?_⟩
  rw [wx_lit]
  refine hostE (d:=d+394) W fun H9 ho2 dh2 v2 f2 l2 f9 ndh2 hh2=>?_
  have d9:b=true→H9 dl=some (.list []):=fun hb=>by
   have:=d8 hb
   rw [f9 dl (by rw [this]; exact fun e=>by cases e) (by simp),this]
  have ne9:b=true→dl≠dh2:=fun hb e=>by
   have:=d8 hb
   rw [e,ndh2] at this; cases this
  exact CS.mono (d:=d+8) (s19 (d:=d) W ⟨okM_N hm,trivial⟩ (by unfold big; lia) hh2 R2 (by lia) (matDue (f:=fun r=>r) (fun _ _ _=>rfl) rfl d9 ne9 fun H10 f10=>h H10)) (by lia)
 refine asgW' ?_
 rw [wx_ife,wx_call,wx_lit]
 refine ⟨show (32:Nat)<90 by decide,?_⟩
 simp only [wpXs_q1,wpXs_q2]
 rw [wpX_var]
 refine ⟨by cases T <;> rfl,?_⟩
 refine CS.mono (d:=d+rdp T) (s32 W T d _ ?_) (by lia)
 rw [hnull]
 induction b using Bool.casesOn with
 | true =>
  show wpX _ (.tup _) _ _ _
  rw [wx_tup]
  simp only [wpXs_q1,wpXs_q2]
  rw [wx_lit,wx_call,wx_lit]
  refine ⟨show (0:Nat)<8 by decide,?_⟩
  simp only [wpXs_q1,wpXs_q2]
  rw [wpX_var]
  refine ⟨rfl,?_⟩
  refine ⟨by unfold big; lia,?_⟩
  show wpX _ (.list .nil) _ _ _
  rw [wx_list]
  simp only [wpXs_q1,wpXs_q2]
  refine ⟨by decide,?_⟩
  intro dl hdl
  exact ⟨of_decide_eq_true rfl,fin _ dl fun _=>upd_self⟩
 | false =>
  show wpX _ (.lit .none) _ _ _
  rw [wx_lit]
  exact fin H5 0 fun e=>by cases e
end
noncomputable def lawIs (K:Frag):Prop:=∃ oc od fd osl x1 x2 k1 k2,K.lookup 688=some ⟨oc,od,.func fd,osl⟩∧(∃ p1 p2 p3 p4 p5 p6 p7 p8 rest,fd.body=.stmts (.Assign [.Name x1 p1] (.List [.Subscript (.Name x2 p2) (.Slice none (some (.Constant (.int 30) k1 p3)) none p4) p5,.Constant (.int 0) k2 p6] p7) p8::rest)) ∧
 x1=Str.ofString "feed" ∧ x2=Str.ofString "script" ∧ fd.scope.names.lookup (Str.ofString "script")=some .local∧idx fd.scope (Str.ofString "script")=some 0∧fd.scope.names.lookup (Str.ofString "feed")=some .cell∧idx fd.scope (Str.ofString "feed")=some 1
theorem intsVR {gv:Nat→Value} {h:Heap}:∀ {vs:List Value} {ns:List Int},IntsAre vs ns→VRs gv h vs (ns.map .int)
 | _,_,.nil=>.nil
 | _,_,.cons n t r=>.cons (.int n t) (intsVR r)
theorem pick30 (vs:List Value):slicePick vs.toArray none (some 30) none=(vs.take 30).toArray:=by
 rw [kms_pick_eq]
 congr 1
 unfold kms_pick kms_lo kms_hi
 have:¬ (30:Int)<0:=by lia
 simp only [List.toList_toArray,List.drop_zero,this,if_false,Nat.sub_zero]
 exact kmk_take_min _ _
theorem lawEnter {c:Cx} {prog:Program} (W:Fns c) (hk:lawIs c.K) (hg:c.gv 38=.ref 688) {A:Around} (hf:Fit 401 A) {s:Shared} (am:Amb c s.heap (fun _=>none)) {l:Addr} {vs:List Value} {ns:List Int}
  (hl:s.heap.IsList l vs.toArray) (hi:IntsAre vs ns) (hn:ns.length≤63) {R:Result→Shared→Prop} (hR:∀ h' tk,(∀ b o,s.heap.get? b=some o→h'.get? b=some o)→R (.ok (.ret (.bool true))) { s with heap:=h',toks:=tk }) :
  codeAny (model prog c.w) A (.call (c.gv 38) ⟨[.ref l],[]⟩) R s:=by
 obtain ⟨fd,body,fo,hc,hm⟩:=W.f38
 obtain ⟨a,oc,od,osl,hgv,hlk⟩:=fo.ex
 rw [hg] at hgv
 cases hgv
 refine xe8 hk fun oc' od' fd' osl' x1 x2 k1 k2 hk=>cj8 hk fun e0 hb e1 e2 hk1 hk2 hk3 hk4=>?_
 clear hk
 obtain rfl:fd=fd':=by rw [hlk] at e0; injection (Option.some.inj e0) with _ _ e3; injection e3
 clear e0
 refine xe8 hb fun p1 p2 p3 p4 p5 p6 p7 p8 hb=>xe1 hb fun rest hb=>?_
 rw [fo.body,e1,e2] at hb
 obtain rfl:body=_::rest:=by injection hb
 ·clear hb e1 e2
  have hrest:cSs fd.scope 39 rest=tlS b38:=congrArg tlS hc
  refine fnEnter W.X fo (args:=[.undef]) (d:=400) rfl hf am rfl (fun i p e u=>?_) ?_
  ·induction i using Nat.casesAuxOn with
   | zero=>simp at e; subst e; cases u
   | succ i=>simp at e
  intro env h' tk hsc FS0 S0 kp pn hfit hloc E'
  obtain ⟨m,N,hm0⟩:=hloc
  rw [hm] at FS0
  have hml:m (Str.ofString "script")=some (.ref l):=hm0 _ 0 _ hk1 hk2 (by decide) rfl
  have hkind:env.kindOf (Str.ofString "script")=some .local:=by
   rcases FS0.kd (Str.ofString "script") with z | ⟨z,_⟩
   ·rw [z]; exact hk1
   ·rw [hk1] at z; cases z
  obtain ⟨lo,le,lc,ln,ld⟩:=hl
  have hl':h'.IsList l vs.toArray:=⟨lo,kp _ _ le,lc,ln,ld⟩
  have hlen:=hi.length
  refine wpAny_execs_cons (wpAny_Assign_Name ?_ (noSwaps rfl))
  refine wpAny_List (wpAny_items_cons (wpAny_Subscript_list_slice (wpAny_Name (wpAny_loadName_local FS0.fn hkind N hml ?_) (by decide))) rfl)
  rw [evalPart_none]
  refine wpAny_pure ?_
  rw [evalPart_some]
  refine wpAny_Constant_int ?_
  refine ⟨l,vs.toArray,none,some 30,rfl,hl',by rw [List.size_toArray,sizeLine_eq]; lia,.none,.int _ _,?_⟩
  refine wpAny_items_cons (wpAny_Constant_int (wpAny_items_nil ?_)) rfl
  refine ⟨by simp only [List.length_cons,List.length_nil,sizeLine_eq]; lia,?_⟩
  rw [pick30]
  obtain ⟨R1,S1⟩:=r_alloc (gv:=c.gv) (h:=h'.push { cls:=.type "slice", data:=.fields #[.none,.int 30 tk,.none] }) (o:={ cls:=.type "list", data:=.seq (vs.take 30).toArray }) (m:=.list ((ns.take 30).map .int)) (r_rep_push FS0.amb.rep)
   ⟨vs.take 30,_,Heap.get?_push_size _ rfl,by rw [List.map_take]; exact (intsVR hi).take 30⟩
  obtain ⟨R2,S2⟩:=r_alloc (gv:=c.gv) (o:={ cls:=.type "list", data:=.seq [Value.ref (h'.objs.size+1),.int 0 (tk+1)].toArray }) (m:=.list [.ref (h'.objs.size+1),.int 0]) R1
   ⟨[Value.ref (h'.objs.size+1),.int 0 (tk+1)],_,Heap.get?_push_size _ rfl,.cons (.ref _) (.cons (.int 0 _) .nil)⟩
  have Sp:Stp h' (fun _=>none) (h'.push { cls:=.type "slice", data:=.fields #[.none,.int 30 tk,.none] }) (fun _=>none):=stp_push _
  have F3:=((FS0.step Sp (r_rep_push FS0.amb.rep)).step S1 R1).step S2 R2
  have hsz:(h'.push { cls:=.type "slice", data:=.fields #[.none,.int 30 tk,.none] }).objs.size=h'.objs.size+1:=Heap.size_push ..
  refine r_store (s:={ s with heap:=_,toks:=_ }) F3 hk4 (.inr hk3) (.ref _) ?_
  intro h4 tk4 F4 S4
  refine (soundSt W.X CS.ok 39).2 fd.scope rest env (A.deeper env) _ _ _ _ _ (retQ fun p _=>p=.bool true) hsc hfit F4 ?_ ?_
  ·rw [hrest]
   refine s38 (d:=0) (ce:=h'.objs.size+1) (ns:=ns.take 30) W ⟨upd_self,?_⟩ (by rw [List.length_take]; lia) (fun H'=>rfl)
   rw [upd_other,← hsz]
   ·exact upd_self
   ·have e:∀ (x:Heap) (o:Obj),(x.push o).objs.size=x.objs.size+1:=fun x o=>Heap.size_push ..
    rw [e,e]
    exact Nat.ne_of_lt (Nat.lt_succ_self _)
  intro f fl r2 h5 tk5 H5 q fr F5 S5
  have Sfin:Stp s.heap (fun _=>none) h5 H5:=StpP.drop (((toPE (s:={ s with heap:=h' }) ((Sp.trans S1).trans S2)).trans S4).trans S5) S0 pn
  have keep:∀ b o,s.heap.get? b=some o→h5.get? b=some o:=fun b o e=>Sfin.keep b o e rfl id
  induction fl using FL.casesOn with
  | next=>cases q
  | brk=>exact q.elim
  | cont=>exact q.elim
  | ret p =>
   have q:p=.bool true:=q
   subst q
   induction f using PySem.Flow.casesOn <;> first | exact fr.elim | skip
   rename_i v
   rw [show v=.bool true from fr]
   exact hR h5 tk5 keep
end Mine
set_option maxRecDepth 100000
namespace Mine
theorem k_cx (P:Params):cxChk (HD.K P)=true:=by kernel_rfl
theorem k_688 (P:Params):(HD.K P).lookup 688=some HD.o751:=by kernel_rfl
theorem k_law (P:Params):lawIs (HD.K P):=⟨_,_,_,_,_,_,_,_,k_688 P,⟨_,_,_,_,_,_,_,_,_,rfl⟩,by kernel_rfl,by kernel_rfl,by kernel_rfl,by kernel_rfl,by kernel_rfl,by kernel_rfl⟩
theorem k_lawns (P:Params):nsIn (HD.K P) mainGlobals (Str.ofString "law")=some (some (.ref 688)):=by kernel_rfl
theorem k_0 (P:Params):fnChk (HD.K P) 23 2 40=some (b0,4):=by kernel_rfl
theorem k_1 (P:Params):fnChk (HD.K P) 30 1 40=some (b1,2):=by kernel_rfl
theorem k_2 (P:Params):fnChk (HD.K P) 37 1 40=some (b2,4):=by kernel_rfl
theorem k_3 (P:Params):fnChk (HD.K P) 105 1 40=some (b3,5):=by kernel_rfl
theorem k_4 (P:Params):fnChk (HD.K P) 112 1 40=some (b4,4):=by kernel_rfl
theorem k_5 (P:Params):fnChk (HD.K P) 271 1 40=some (b5,2):=by kernel_rfl
theorem k_6 (P:Params):fnChk (HD.K P) 278 2 40=some (b6,7):=by kernel_rfl
theorem k_7 (P:Params):fnChk (HD.K P) 285 3 40=some (b7,2):=by kernel_rfl
theorem k_8 (P:Params):fnChk (HD.K P) 292 3 40=some (b8,1):=by kernel_rfl
theorem k_9 (P:Params):fnChk (HD.K P) 306 3 40=some (b9,1):=by kernel_rfl
theorem k_10 (P:Params):fnChk (HD.K P) 334 3 40=some (b10,1):=by kernel_rfl
theorem k_11 (P:Params):fnChk (HD.K P) 341 3 40=some (b11,1):=by kernel_rfl
theorem k_12 (P:Params):fnChk (HD.K P) 369 2 40=some (b12,3):=by kernel_rfl
theorem k_13 (P:Params):fnChk (HD.K P) 390 4 40=some (b13,10):=by kernel_rfl
theorem k_14 (P:Params):fnChk (HD.K P) 397 3 40=some (b14,2):=by kernel_rfl
theorem k_15 (P:Params):fnChk (HD.K P) 404 4 40=some (b15,5):=by kernel_rfl
theorem k_16 (P:Params):fnChk (HD.K P) 516 1 40=some (b16,2):=by kernel_rfl
theorem k_17 (P:Params):fnChk (HD.K P) 523 4 40=some (b17,9):=by kernel_rfl
theorem k_18 (P:Params):fnChk (HD.K P) 530 4 40=some (b18,2):=by kernel_rfl
theorem k_19 (P:Params):fnChk (HD.K P) 579 4 40=some (b19,6):=by kernel_rfl
theorem k_20 (P:Params):fnChk (HD.K P) 586 4 40=some (b20,3):=by kernel_rfl
theorem k_21 (P:Params):fnChk (HD.K P) 593 4 40=some (b21,9):=by kernel_rfl
theorem k_22 (P:Params):fnChk (HD.K P) 600 6 40=some (b22,10):=by kernel_rfl
theorem k_23 (P:Params):fnChk (HD.K P) 607 5 40=some (b23,1):=by kernel_rfl
theorem k_24 (P:Params):fnChk (HD.K P) 614 7 40=some (b24,3):=by kernel_rfl
theorem k_25 (P:Params):fnChk (HD.K P) 628 7 40=some (b25,8):=by kernel_rfl
theorem k_26 (P:Params):fnChk (HD.K P) 636 2 40=some (b26,5):=by kernel_rfl
theorem k_27 (P:Params):fnChk (HD.K P) 643 2 40=some (b27,3):=by kernel_rfl
theorem k_28 (P:Params):fnChk (HD.K P) 650 1 40=some (b28,3):=by kernel_rfl
theorem k_29 (P:Params):fnChk (HD.K P) 657 2 40=some (b29,0):=by kernel_rfl
theorem k_30 (P:Params):fnChk (HD.K P) 662 1 40=some (b30,6):=by kernel_rfl
theorem k_31 (P:Params):fnChk (HD.K P) 669 2 40=some (b31,0):=by kernel_rfl
theorem k_32 (P:Params):fnChk (HD.K P) 676 1 40=some (b32,3):=by kernel_rfl
theorem k_33 (P:Params):fnChk (HD.K P) 683 2 40=some (b33,5):=by kernel_rfl
theorem k_38 (P:Params):fnChk (HD.K P) 688 1 40=some (b38,17):=by kernel_rfl
theorem k_50 (P:Params):fnChk (HD.K P) 51 1 40=some (b50,0):=by kernel_rfl
theorem k_51 (P:Params):fnChk (HD.K P) 58 2 40=some (b51,1):=by kernel_rfl
theorem k_52 (P:Params):fnChk (HD.K P) 65 2 40=some (b52,6):=by kernel_rfl
theorem k_53 (P:Params):fnChk (HD.K P) 70 2 40=some (b53,15):=by kernel_rfl
theorem k_54 (P:Params):fnChk (HD.K P) 77 2 40=some (b54,8):=by kernel_rfl
theorem k_55 (P:Params):fnChk (HD.K P) 84 2 40=some (b55,10):=by kernel_rfl
theorem k_56 (P:Params):fnChk (HD.K P) 91 3 40=some (b56,6):=by kernel_rfl
theorem k_60 (P:Params):fnChk (HD.K P) 418 7 40=some (b60,0):=by kernel_rfl
theorem k_61 (P:Params):fnChk (HD.K P) 425 2 40=some (b61,1):=by kernel_rfl
theorem k_70 (P:Params):fnChk (HD.K P) 446 3 40=some (b70,0):=by kernel_rfl
theorem k_71 (P:Params):fnChk (HD.K P) 453 3 40=some (b71,8):=by kernel_rfl
theorem k_72 (P:Params):fnChk (HD.K P) 460 1 40=some (b72,1):=by kernel_rfl
theorem k_73 (P:Params):fnChk (HD.K P) 467 3 40=some (b73,9):=by kernel_rfl
theorem k_74 (P:Params):fnChk (HD.K P) 474 3 40=some (b74,7):=by kernel_rfl
theorem k_75 (P:Params):fnChk (HD.K P) 481 3 40=some (b75,5):=by kernel_rfl
theorem k_76 (P:Params):fnChk (HD.K P) 488 3 40=some (b76,9):=by kernel_rfl
theorem k_77 (P:Params):fnChk (HD.K P) 495 3 40=some (b77,3):=by kernel_rfl
theorem k_80 (P:Params):fnChk (HD.K P) 544 4 40=some (b80,0):=by kernel_rfl
theorem k_81 (P:Params):fnChk (HD.K P) 565 1 40=some (b81,1):=by kernel_rfl
theorem fns {w:World} {base:Heap} {mg mb:Str→Option Value} {p:Program} {loose:List Str} (X:(HD.K w.params).In base) (T:TopRead p loose mg mb base):Fns ⟨w,HD.K w.params,gvN,base,mg,mb⟩:=by
 obtain ⟨m0,m1,m2,m3⟩:=mkOk_of (w:=w) (base:=base) (mg:=mg) (mb:=mb) (k_cx w.params)
 exact ⟨cxOk_of X T (k_cx w.params),m0,m1,m2,m3,fnChk_ok rfl (k_0 w.params),fnChk_ok rfl (k_1 w.params),fnChk_ok rfl (k_2 w.params),fnChk_ok rfl (k_3 w.params),fnChk_ok rfl (k_4 w.params),fnChk_ok rfl (k_5 w.params),fnChk_ok rfl (k_6 w.params),fnChk_ok rfl (k_7 w.params),fnChk_ok rfl (k_8 w.params),fnChk_ok rfl (k_9 w.params),fnChk_ok rfl (k_10 w.params),fnChk_ok rfl (k_11 w.params),fnChk_ok rfl (k_12 w.params),fnChk_ok rfl (k_13 w.params),fnChk_ok rfl (k_14 w.params),fnChk_ok rfl (k_15 w.params),fnChk_ok rfl (k_16 w.params),fnChk_ok rfl (k_17 w.params),fnChk_ok rfl (k_18 w.params),fnChk_ok rfl (k_19 w.params),fnChk_ok rfl (k_20 w.params),fnChk_ok rfl (k_21 w.params),fnChk_ok rfl (k_22 w.params),fnChk_ok rfl (k_23 w.params),fnChk_ok rfl (k_24 w.params),fnChk_ok rfl (k_25 w.params),fnChk_ok rfl (k_26 w.params),fnChk_ok rfl (k_27 w.params),fnChk_ok rfl (k_28 w.params),fnChk_ok rfl (k_29 w.params),fnChk_ok rfl (k_30 w.params),fnChk_ok rfl (k_31 w.params),fnChk_ok rfl (k_32 w.params),fnChk_ok rfl (k_33 w.params),fnChk_ok rfl (k_38 w.params),fnChk_ok rfl (k_50 w.params),fnChk_ok rfl (k_51 w.params),fnChk_ok rfl (k_52 w.params),fnChk_ok rfl (k_53 w.params),fnChk_ok rfl (k_54 w.params),fnChk_ok rfl (k_55 w.params),fnChk_ok rfl (k_56 w.params),fnChk_ok rfl (k_60 w.params),fnChk_ok rfl (k_61 w.params),fnChk_ok rfl (k_70 w.params),fnChk_ok rfl (k_71 w.params),fnChk_ok rfl (k_72 w.params),fnChk_ok rfl (k_73 w.params),fnChk_ok rfl (k_74 w.params),fnChk_ok rfl (k_75 w.params),fnChk_ok rfl (k_76 w.params),fnChk_ok rfl (k_77 w.params),fnChk_ok rfl (k_80 w.params),fnChk_ok rfl (k_81 w.params)⟩
set_option maxHeartbeats 0 in
theorem holds1:HD.rw1.Holds:=by
 refine HD.hd1 ?_
 intro w s₀ s₁ mg mb G Y fa o pm cd doc dV kV ho hdd hcd hD hmg hg args vals as hpre hlay hrd hwl hlo
 have KX:(HD.K w.params).In s₁.heap:=kIn_of Y
 clear hdd hcd hD ho
 refine Ground.open G ?_
 intro T B D TE TW
 clear B D TE TW
 wrow_args hpre hlay hrd hwl hlo
 refine enter_call ?_
 have hfa:fa=688:=by
  have h2:=mg_of KX (topRead_of T).g (k_lawns w.params)
  have h1:mg (Str.ofString "law")=some (.ref fa):=hmg
  rw [h1] at h2
  cases h2; rfl
 subst hfa
 have W:=fns KX (topRead_of T)
 clear hmg
 rename_i hL ra w1 r0 hI hr hc1 hc2
 refine lawEnter (c:=⟨w,HD.K w.params,gvN,s₁.heap,mg,mb⟩) (prog:=HD.rw1.row.prog) W (k_law w.params) rfl (A:=callerA) ⟨rfl,by decide,by decide⟩ (s:=s₁) ⟨fun b o e=>⟨e,rfl⟩,fun a o e=>by cases e⟩ hL hI (by omega) fun h' tk keep=>?_
 refine ⟨.inl ⟨.bool true,.bool true,[],rfl,fun cls=>rfl,.bool true,?_,fun _=>⟨List.nodup_nil,fun a ha=>by cases ha⟩⟩,OldK.of_keep keep,rfl,.of_eq hg⟩
 wrow_post
end Mine
theorem PySem.Challenge.cw_sa0603_01_holds : PySem.Challenge.rw_sa0603_01.Holds := by
 rw [HD.rwE]
 exact Mine.holds1
