import PyProof.Rows.All
import Wide.All
import Open.FastLooks
import OpenK.ZHead
import Wide.FinOn
import PySem.Challenge.RW_pq0771_01
set_option linter.all false
set_option Elab.async false
set_option maxRecDepth 1000000
set_option maxHeartbeats 0
set_option cleanup.letToHave false
open PySem PySem.W PySem.W.X PySem.Calls PyProof.Rows
namespace Mine
noncomputable def pz:Program:=PySem.Challenge.pw_pq0771_01
noncomputable def stA (i:Nat):Stmt:=pz.main.body[i]?.getD default
noncomputable def clB:Stmt->List Stmt
  | .ClassDef _ _ _ b ..=>b
  | _=>[]
noncomputable def stB (i j:Nat):Stmt:=(clB (stA i))[j]?.getD default
noncomputable def fnP:Stmt->Arguments
  | .FunctionDef _ a ..=>a
  | _=>default
noncomputable def fnB:Stmt->List Stmt
  | .FunctionDef _ _ b ..=>b
  | _=>[]
noncomputable def fnS:Stmt->Scope
  | .FunctionDef _ _ _ _ _ _ s ..=>s
  | _=>default
noncomputable def eP (P:Params) (s:Str) (t:Nat) (v:Value):DictEntry:=⟨PyData.keyHash P s,.str s t,v⟩
noncomputable def w0:Str:=⟨⟨[95,95,110,97,109,101,95,95]⟩⟩
noncomputable def w1:Str:=⟨⟨[98,117,105,108,116,105,110,115]⟩⟩
noncomputable def w2:Str:=⟨⟨[95,95,100,111,99,95,95]⟩⟩
noncomputable def w3:Str:=⟨⟨[95,95,112,97,99,107,97,103,101,95,95]⟩⟩
noncomputable def w4:Str:=⟨⟨[95,95,108,111,97,100,101,114,95,95]⟩⟩
noncomputable def w5:Str:=⟨⟨[95,95,115,112,101,99,95,95]⟩⟩
noncomputable def w6:Str:=⟨⟨[95,95,98,117,105,108,100,95,99,108,97,115,115,95,95]⟩⟩
noncomputable def w7:Str:=⟨⟨[95,95,105,109,112,111,114,116,95,95]⟩⟩
noncomputable def w8:Str:=⟨⟨[97,98,115]⟩⟩
noncomputable def w9:Str:=⟨⟨[97,108,108]⟩⟩
noncomputable def w10:Str:=⟨⟨[97,110,121]⟩⟩
noncomputable def w11:Str:=⟨⟨[97,115,99,105,105]⟩⟩
noncomputable def w12:Str:=⟨⟨[98,105,110]⟩⟩
noncomputable def w13:Str:=⟨⟨[98,114,101,97,107,112,111,105,110,116]⟩⟩
noncomputable def w14:Str:=⟨⟨[99,97,108,108,97,98,108,101]⟩⟩
noncomputable def w15:Str:=⟨⟨[99,104,114]⟩⟩
noncomputable def w16:Str:=⟨⟨[99,111,109,112,105,108,101]⟩⟩
noncomputable def w17:Str:=⟨⟨[100,101,108,97,116,116,114]⟩⟩
noncomputable def w18:Str:=⟨⟨[100,105,114]⟩⟩
noncomputable def w19:Str:=⟨⟨[100,105,118,109,111,100]⟩⟩
noncomputable def w20:Str:=⟨⟨[101,118,97,108]⟩⟩
noncomputable def w21:Str:=⟨⟨[101,120,101,99]⟩⟩
noncomputable def w22:Str:=⟨⟨[102,111,114,109,97,116]⟩⟩
noncomputable def w23:Str:=⟨⟨[103,101,116,97,116,116,114]⟩⟩
noncomputable def w24:Str:=⟨⟨[103,108,111,98,97,108,115]⟩⟩
noncomputable def w25:Str:=⟨⟨[104,97,115,97,116,116,114]⟩⟩
noncomputable def w26:Str:=⟨⟨[104,97,115,104]⟩⟩
noncomputable def w27:Str:=⟨⟨[104,101,120]⟩⟩
noncomputable def w28:Str:=⟨⟨[105,100]⟩⟩
noncomputable def w29:Str:=⟨⟨[105,110,112,117,116]⟩⟩
noncomputable def w30:Str:=⟨⟨[105,115,105,110,115,116,97,110,99,101]⟩⟩
noncomputable def w31:Str:=⟨⟨[105,115,115,117,98,99,108,97,115,115]⟩⟩
noncomputable def w32:Str:=⟨⟨[105,116,101,114]⟩⟩
noncomputable def w33:Str:=⟨⟨[97,105,116,101,114]⟩⟩
noncomputable def w34:Str:=⟨⟨[108,101,110]⟩⟩
noncomputable def w35:Str:=⟨⟨[108,111,99,97,108,115]⟩⟩
noncomputable def w36:Str:=⟨⟨[109,97,120]⟩⟩
noncomputable def w37:Str:=⟨⟨[109,105,110]⟩⟩
noncomputable def w38:Str:=⟨⟨[110,101,120,116]⟩⟩
noncomputable def w39:Str:=⟨⟨[97,110,101,120,116]⟩⟩
noncomputable def w40:Str:=⟨⟨[111,99,116]⟩⟩
noncomputable def w41:Str:=⟨⟨[111,114,100]⟩⟩
noncomputable def w42:Str:=⟨⟨[112,111,119]⟩⟩
noncomputable def w43:Str:=⟨⟨[112,114,105,110,116]⟩⟩
noncomputable def w44:Str:=⟨⟨[114,101,112,114]⟩⟩
noncomputable def w45:Str:=⟨⟨[114,111,117,110,100]⟩⟩
noncomputable def w46:Str:=⟨⟨[115,101,116,97,116,116,114]⟩⟩
noncomputable def w47:Str:=⟨⟨[115,111,114,116,101,100]⟩⟩
noncomputable def w48:Str:=⟨⟨[115,117,109]⟩⟩
noncomputable def w49:Str:=⟨⟨[118,97,114,115]⟩⟩
noncomputable def w50:Str:=⟨⟨[78,111,110,101]⟩⟩
noncomputable def w51:Str:=⟨⟨[69,108,108,105,112,115,105,115]⟩⟩
noncomputable def w52:Str:=⟨⟨[78,111,116,73,109,112,108,101,109,101,110,116,101,100]⟩⟩
noncomputable def w53:Str:=⟨⟨[70,97,108,115,101]⟩⟩
noncomputable def w54:Str:=⟨⟨[84,114,117,101]⟩⟩
noncomputable def w55:Str:=⟨⟨[98,111,111,108]⟩⟩
noncomputable def w56:Str:=⟨⟨[109,101,109,111,114,121,118,105,101,119]⟩⟩
noncomputable def w57:Str:=⟨⟨[98,121,116,101,97,114,114,97,121]⟩⟩
noncomputable def w58:Str:=⟨⟨[98,121,116,101,115]⟩⟩
noncomputable def w59:Str:=⟨⟨[99,108,97,115,115,109,101,116,104,111,100]⟩⟩
noncomputable def w60:Str:=⟨⟨[99,111,109,112,108,101,120]⟩⟩
noncomputable def w61:Str:=⟨⟨[100,105,99,116]⟩⟩
noncomputable def w62:Str:=⟨⟨[101,110,117,109,101,114,97,116,101]⟩⟩
noncomputable def w63:Str:=⟨⟨[102,105,108,116,101,114]⟩⟩
noncomputable def w64:Str:=⟨⟨[102,108,111,97,116]⟩⟩
noncomputable def w65:Str:=⟨⟨[102,114,111,122,101,110,115,101,116]⟩⟩
noncomputable def w66:Str:=⟨⟨[112,114,111,112,101,114,116,121]⟩⟩
noncomputable def w67:Str:=⟨⟨[105,110,116]⟩⟩
noncomputable def w68:Str:=⟨⟨[108,105,115,116]⟩⟩
noncomputable def w69:Str:=⟨⟨[109,97,112]⟩⟩
noncomputable def w70:Str:=⟨⟨[111,98,106,101,99,116]⟩⟩
noncomputable def w71:Str:=⟨⟨[114,97,110,103,101]⟩⟩
noncomputable def w72:Str:=⟨⟨[114,101,118,101,114,115,101,100]⟩⟩
noncomputable def w73:Str:=⟨⟨[115,101,116]⟩⟩
noncomputable def w74:Str:=⟨⟨[115,108,105,99,101]⟩⟩
noncomputable def w75:Str:=⟨⟨[115,116,97,116,105,99,109,101,116,104,111,100]⟩⟩
noncomputable def w76:Str:=⟨⟨[115,116,114]⟩⟩
noncomputable def w77:Str:=⟨⟨[115,117,112,101,114]⟩⟩
noncomputable def w78:Str:=⟨⟨[116,117,112,108,101]⟩⟩
noncomputable def w79:Str:=⟨⟨[116,121,112,101]⟩⟩
noncomputable def w80:Str:=⟨⟨[122,105,112]⟩⟩
noncomputable def w81:Str:=⟨⟨[95,95,100,101,98,117,103,95,95]⟩⟩
noncomputable def w82:Str:=⟨⟨[66,97,115,101,69,120,99,101,112,116,105,111,110]⟩⟩
noncomputable def w83:Str:=⟨⟨[66,97,115,101,69,120,99,101,112,116,105,111,110,71,114,111,117,112]⟩⟩
noncomputable def w84:Str:=⟨⟨[69,120,99,101,112,116,105,111,110]⟩⟩
noncomputable def w85:Str:=⟨⟨[71,101,110,101,114,97,116,111,114,69,120,105,116]⟩⟩
noncomputable def w86:Str:=⟨⟨[75,101,121,98,111,97,114,100,73,110,116,101,114,114,117,112,116]⟩⟩
noncomputable def w87:Str:=⟨⟨[83,121,115,116,101,109,69,120,105,116]⟩⟩
noncomputable def w88:Str:=⟨⟨[65,114,105,116,104,109,101,116,105,99,69,114,114,111,114]⟩⟩
noncomputable def w89:Str:=⟨⟨[65,115,115,101,114,116,105,111,110,69,114,114,111,114]⟩⟩
noncomputable def w90:Str:=⟨⟨[65,116,116,114,105,98,117,116,101,69,114,114,111,114]⟩⟩
noncomputable def w91:Str:=⟨⟨[66,117,102,102,101,114,69,114,114,111,114]⟩⟩
noncomputable def w92:Str:=⟨⟨[69,79,70,69,114,114,111,114]⟩⟩
noncomputable def w93:Str:=⟨⟨[73,109,112,111,114,116,69,114,114,111,114]⟩⟩
noncomputable def w94:Str:=⟨⟨[76,111,111,107,117,112,69,114,114,111,114]⟩⟩
noncomputable def w95:Str:=⟨⟨[77,101,109,111,114,121,69,114,114,111,114]⟩⟩
noncomputable def w96:Str:=⟨⟨[78,97,109,101,69,114,114,111,114]⟩⟩
noncomputable def w97:Str:=⟨⟨[79,83,69,114,114,111,114]⟩⟩
noncomputable def w98:Str:=⟨⟨[82,101,102,101,114,101,110,99,101,69,114,114,111,114]⟩⟩
noncomputable def w99:Str:=⟨⟨[82,117,110,116,105,109,101,69,114,114,111,114]⟩⟩
noncomputable def w100:Str:=⟨⟨[83,116,111,112,65,115,121,110,99,73,116,101,114,97,116,105,111,110]⟩⟩
noncomputable def w101:Str:=⟨⟨[83,116,111,112,73,116,101,114,97,116,105,111,110]⟩⟩
noncomputable def w102:Str:=⟨⟨[83,121,110,116,97,120,69,114,114,111,114]⟩⟩
noncomputable def w103:Str:=⟨⟨[83,121,115,116,101,109,69,114,114,111,114]⟩⟩
noncomputable def w104:Str:=⟨⟨[84,121,112,101,69,114,114,111,114]⟩⟩
noncomputable def w105:Str:=⟨⟨[86,97,108,117,101,69,114,114,111,114]⟩⟩
noncomputable def w106:Str:=⟨⟨[87,97,114,110,105,110,103]⟩⟩
noncomputable def w107:Str:=⟨⟨[70,108,111,97,116,105,110,103,80,111,105,110,116,69,114,114,111,114]⟩⟩
noncomputable def w108:Str:=⟨⟨[79,118,101,114,102,108,111,119,69,114,114,111,114]⟩⟩
noncomputable def w109:Str:=⟨⟨[90,101,114,111,68,105,118,105,115,105,111,110,69,114,114,111,114]⟩⟩
noncomputable def w110:Str:=⟨⟨[66,121,116,101,115,87,97,114,110,105,110,103]⟩⟩
noncomputable def w111:Str:=⟨⟨[68,101,112,114,101,99,97,116,105,111,110,87,97,114,110,105,110,103]⟩⟩
noncomputable def w112:Str:=⟨⟨[69,110,99,111,100,105,110,103,87,97,114,110,105,110,103]⟩⟩
noncomputable def w113:Str:=⟨⟨[70,117,116,117,114,101,87,97,114,110,105,110,103]⟩⟩
noncomputable def w114:Str:=⟨⟨[73,109,112,111,114,116,87,97,114,110,105,110,103]⟩⟩
noncomputable def w115:Str:=⟨⟨[80,101,110,100,105,110,103,68,101,112,114,101,99,97,116,105,111,110,87,97,114,110,105,110,103]⟩⟩
noncomputable def w116:Str:=⟨⟨[82,101,115,111,117,114,99,101,87,97,114,110,105,110,103]⟩⟩
noncomputable def w117:Str:=⟨⟨[82,117,110,116,105,109,101,87,97,114,110,105,110,103]⟩⟩
noncomputable def w118:Str:=⟨⟨[83,121,110,116,97,120,87,97,114,110,105,110,103]⟩⟩
noncomputable def w119:Str:=⟨⟨[85,110,105,99,111,100,101,87,97,114,110,105,110,103]⟩⟩
noncomputable def w120:Str:=⟨⟨[85,115,101,114,87,97,114,110,105,110,103]⟩⟩
noncomputable def w121:Str:=⟨⟨[66,108,111,99,107,105,110,103,73,79,69,114,114,111,114]⟩⟩
noncomputable def w122:Str:=⟨⟨[67,104,105,108,100,80,114,111,99,101,115,115,69,114,114,111,114]⟩⟩
noncomputable def w123:Str:=⟨⟨[67,111,110,110,101,99,116,105,111,110,69,114,114,111,114]⟩⟩
noncomputable def w124:Str:=⟨⟨[70,105,108,101,69,120,105,115,116,115,69,114,114,111,114]⟩⟩
noncomputable def w125:Str:=⟨⟨[70,105,108,101,78,111,116,70,111,117,110,100,69,114,114,111,114]⟩⟩
noncomputable def w126:Str:=⟨⟨[73,110,116,101,114,114,117,112,116,101,100,69,114,114,111,114]⟩⟩
noncomputable def w127:Str:=⟨⟨[73,115,65,68,105,114,101,99,116,111,114,121,69,114,114,111,114]⟩⟩
noncomputable def w128:Str:=⟨⟨[78,111,116,65,68,105,114,101,99,116,111,114,121,69,114,114,111,114]⟩⟩
noncomputable def w129:Str:=⟨⟨[80,101,114,109,105,115,115,105,111,110,69,114,114,111,114]⟩⟩
noncomputable def w130:Str:=⟨⟨[80,114,111,99,101,115,115,76,111,111,107,117,112,69,114,114,111,114]⟩⟩
noncomputable def w131:Str:=⟨⟨[84,105,109,101,111,117,116,69,114,114,111,114]⟩⟩
noncomputable def w132:Str:=⟨⟨[73,110,100,101,110,116,97,116,105,111,110,69,114,114,111,114]⟩⟩
noncomputable def w133:Str:=⟨⟨[95,73,110,99,111,109,112,108,101,116,101,73,110,112,117,116,69,114,114,111,114]⟩⟩
noncomputable def w134:Str:=⟨⟨[73,110,100,101,120,69,114,114,111,114]⟩⟩
noncomputable def w135:Str:=⟨⟨[75,101,121,69,114,114,111,114]⟩⟩
noncomputable def w136:Str:=⟨⟨[77,111,100,117,108,101,78,111,116,70,111,117,110,100,69,114,114,111,114]⟩⟩
noncomputable def w137:Str:=⟨⟨[78,111,116,73,109,112,108,101,109,101,110,116,101,100,69,114,114,111,114]⟩⟩
noncomputable def w138:Str:=⟨⟨[80,121,116,104,111,110,70,105,110,97,108,105,122,97,116,105,111,110,69,114,114,111,114]⟩⟩
noncomputable def w139:Str:=⟨⟨[82,101,99,117,114,115,105,111,110,69,114,114,111,114]⟩⟩
noncomputable def w140:Str:=⟨⟨[85,110,98,111,117,110,100,76,111,99,97,108,69,114,114,111,114]⟩⟩
noncomputable def w141:Str:=⟨⟨[85,110,105,99,111,100,101,69,114,114,111,114]⟩⟩
noncomputable def w142:Str:=⟨⟨[66,114,111,107,101,110,80,105,112,101,69,114,114,111,114]⟩⟩
noncomputable def w143:Str:=⟨⟨[67,111,110,110,101,99,116,105,111,110,65,98,111,114,116,101,100,69,114,114,111,114]⟩⟩
noncomputable def w144:Str:=⟨⟨[67,111,110,110,101,99,116,105,111,110,82,101,102,117,115,101,100,69,114,114,111,114]⟩⟩
noncomputable def w145:Str:=⟨⟨[67,111,110,110,101,99,116,105,111,110,82,101,115,101,116,69,114,114,111,114]⟩⟩
noncomputable def w146:Str:=⟨⟨[84,97,98,69,114,114,111,114]⟩⟩
noncomputable def w147:Str:=⟨⟨[85,110,105,99,111,100,101,68,101,99,111,100,101,69,114,114,111,114]⟩⟩
noncomputable def w148:Str:=⟨⟨[85,110,105,99,111,100,101,69,110,99,111,100,101,69,114,114,111,114]⟩⟩
noncomputable def w149:Str:=⟨⟨[85,110,105,99,111,100,101,84,114,97,110,115,108,97,116,101,69,114,114,111,114]⟩⟩
noncomputable def w150:Str:=⟨⟨[69,120,99,101,112,116,105,111,110,71,114,111,117,112]⟩⟩
noncomputable def w151:Str:=⟨⟨[69,110,118,105,114,111,110,109,101,110,116,69,114,114,111,114]⟩⟩
noncomputable def w152:Str:=⟨⟨[73,79,69,114,114,111,114]⟩⟩
noncomputable def w153:Str:=⟨⟨[111,112,101,110]⟩⟩
noncomputable def w154:Str:=⟨⟨[113,117,105,116]⟩⟩
noncomputable def w155:Str:=⟨⟨[101,120,105,116]⟩⟩
noncomputable def w156:Str:=⟨⟨[99,111,112,121,114,105,103,104,116]⟩⟩
noncomputable def w157:Str:=⟨⟨[99,114,101,100,105,116,115]⟩⟩
noncomputable def w158:Str:=⟨⟨[108,105,99,101,110,115,101]⟩⟩
noncomputable def w159:Str:=⟨⟨[104,101,108,112]⟩⟩
noncomputable def w160:Str:=⟨⟨[108,97,119,95,112,113,48,55,55,49,95,48,49]⟩⟩
noncomputable def w161:Str:=⟨⟨[95,95,97,110,110,111,116,97,116,105,111,110,115,95,95]⟩⟩
noncomputable def w162:Str:=⟨⟨[95,95,98,117,105,108,116,105,110,115,95,95]⟩⟩
noncomputable def w163:Str:=⟨⟨[95,95,102,105,108,101,95,95]⟩⟩
noncomputable def w164:Str:=⟨⟨[47,99,108,97,105,109,47,99,117,116,46,112,121]⟩⟩
noncomputable def w165:Str:=⟨⟨[95,95,99,97,99,104,101,100,95,95]⟩⟩
noncomputable def w166:Str:=⟨⟨[95,119,97,108,108]⟩⟩
noncomputable def w167:Str:=⟨⟨[78,111,100,101]⟩⟩
noncomputable def w168:Str:=⟨⟨[105,115,95,100,101,115,105,103,110,97,116,111,114]⟩⟩
noncomputable def w169:Str:=⟨⟨[115,97,109,101,95,116,121,112,101]⟩⟩
noncomputable def w170:Str:=⟨⟨[105,115,95,105,110,116,101,103,101,114]⟩⟩
noncomputable def w171:Str:=⟨⟨[114,101,99,111,114,100,95,111,102]⟩⟩
noncomputable def w172:Str:=⟨⟨[101,120,116,101,110,100,115]⟩⟩
noncomputable def w173:Str:=⟨⟨[105,110,100,101,120,95,111,102]⟩⟩
noncomputable def w174:Str:=⟨⟨[102,105,101,108,100,95,110,97,109,101,100]⟩⟩
noncomputable def w175:Str:=⟨⟨[102,105,101,108,100,95,111,102]⟩⟩
noncomputable def w176:Str:=⟨⟨[100,101,114,101,102,95,111,102]⟩⟩
noncomputable def w177:Str:=⟨⟨[103,117,97,114,100,95,99,111,100,101]⟩⟩
noncomputable def w178:Str:=⟨⟨[103,117,97,114,100,95,111,102]⟩⟩
noncomputable def w179:Str:=⟨⟨[113,117,97,108,105,100,101,110,116]⟩⟩
noncomputable def w180:Str:=⟨⟨[115,101,108,101,99,116,111,114,115]⟩⟩
noncomputable def w181:Str:=⟨⟨[103,117,97,114,100,101,100]⟩⟩
noncomputable def w182:Str:=⟨⟨[69,114,114,111,114,76,105,115,116]⟩⟩
noncomputable def w183:Str:=⟨⟨[77,79,83,84,95,73,78,84,69,71,69,82]⟩⟩
noncomputable def w184:Str:=⟨⟨[77,79,83,84,95,87,79,82,68]⟩⟩
noncomputable def w185:Str:=⟨⟨[84,111,107,101,110]⟩⟩
noncomputable def w186:Str:=⟨⟨[107,101,121,119,111,114,100,115]⟩⟩
noncomputable def w187:Str:=⟨⟨[105,115,95,108,101,116,116,101,114]⟩⟩
noncomputable def w188:Str:=⟨⟨[105,115,95,100,105,103,105,116]⟩⟩
noncomputable def w189:Str:=⟨⟨[105,115,95,104,101,120,95,100,105,103,105,116]⟩⟩
noncomputable def w190:Str:=⟨⟨[100,105,103,105,116,115,95,118,97,108,117,101]⟩⟩
noncomputable def w191:Str:=⟨⟨[83,99,97,110,110,101,114]⟩⟩
noncomputable def w192:Str:=⟨⟨[84,121,112,101]⟩⟩
noncomputable def w193:Str:=⟨⟨[79,98,106]⟩⟩
noncomputable def w194:Str:=⟨⟨[84,121,112,101,115]⟩⟩
noncomputable def w195:Str:=⟨⟨[83,99,111,112,101]⟩⟩
noncomputable def w196:Str:=⟨⟨[83,99,111,112,101,115]⟩⟩
noncomputable def w197:Str:=⟨⟨[115,116,100,95,102,117,110,99,116,105,111,110,115]⟩⟩
noncomputable def w198:Str:=⟨⟨[115,116,100,95,112,114,111,99,101,100,117,114,101,115]⟩⟩
noncomputable def w199:Str:=⟨⟨[102,105,108,108]⟩⟩
noncomputable def w200:Str:=⟨⟨[77,79,83,84,95,80,65,82,84,83]⟩⟩
noncomputable def w201:Str:=⟨⟨[82,101,97,100,101,114]⟩⟩
noncomputable def w202:Str:=⟨⟨[95,108,97,119,95,116,97,107,101]⟩⟩
noncomputable def w203:Str:=⟨⟨[95,108,97,119,95,105,110,100,101,120]⟩⟩
noncomputable def w204:Str:=⟨⟨[95,108,97,119,95,116,111,108,100]⟩⟩
noncomputable def w205:Str:=⟨⟨[108,97,119]⟩⟩
noncomputable def w206:Str:=⟨⟨[95,95,105,110,105,116,95,95]⟩⟩
noncomputable def w207:Str:=⟨⟨[78,111,100,101,46,95,95,105,110,105,116,95,95]⟩⟩
noncomputable def w208:Str:=⟨⟨[109,111,100,117,108,101,121,97,114,100,46,116,114,101,101,115]⟩⟩
noncomputable def w209:Str:=⟨⟨[95,95,109,111,100,117,108,101,95,95]⟩⟩
noncomputable def w210:Str:=⟨⟨[95,95,102,105,114,115,116,108,105,110,101,110,111,95,95]⟩⟩
noncomputable def w211:Str:=⟨⟨[95,95,115,116,97,116,105,99,95,97,116,116,114,105,98,117,116,101,115,95,95]⟩⟩
noncomputable def w212:Str:=⟨⟨[95,95,100,105,99,116,95,95]⟩⟩
noncomputable def w213:Str:=⟨⟨[95,95,119,101,97,107,114,101,102,95,95]⟩⟩
noncomputable def w214:Str:=⟨⟨[109,111,100,117,108,101,121,97,114,100,46,116,121,112,101,114,101,108]⟩⟩
noncomputable def w215:Str:=⟨⟨[109,111,100,117,108,101,121,97,114,100,46,99,104,101,99,107,100,101,115,105,103]⟩⟩
noncomputable def w216:Str:=⟨⟨[109,111,100,117,108,101,121,97,114,100,46,100,101,115,105,103,112,97,114,115,101]⟩⟩
noncomputable def w217:Str:=⟨⟨[69,114,114,111,114,76,105,115,116,46,95,95,105,110,105,116,95,95]⟩⟩
noncomputable def w218:Str:=⟨⟨[109,111,100,117,108,101,121,97,114,100,46,101,114,114,111,114,115]⟩⟩
noncomputable def w219:Str:=⟨⟨[109,97,114,107]⟩⟩
noncomputable def w220:Str:=⟨⟨[102,105,114,115,116]⟩⟩
noncomputable def w221:Str:=⟨⟨[111,107]⟩⟩
noncomputable def w222:Str:=⟨⟨[84,111,107,101,110,46,95,95,105,110,105,116,95,95]⟩⟩
noncomputable def w223:Str:=⟨⟨[109,111,100,117,108,101,121,97,114,100,46,115,99,97,110,110,101,114]⟩⟩
noncomputable def w224:Str:=⟨⟨[83,99,97,110,110,101,114,46,95,95,105,110,105,116,95,95]⟩⟩
noncomputable def w225:Str:=⟨⟨[99,104,97,114]⟩⟩
noncomputable def w226:Str:=⟨⟨[83,99,97,110,110,101,114,46,99,104,97,114]⟩⟩
noncomputable def w227:Str:=⟨⟨[116,97,107,101]⟩⟩
noncomputable def w228:Str:=⟨⟨[83,99,97,110,110,101,114,46,116,97,107,101]⟩⟩
noncomputable def w229:Str:=⟨⟨[115,107,105,112]⟩⟩
noncomputable def w230:Str:=⟨⟨[83,99,97,110,110,101,114,46,115,107,105,112]⟩⟩
noncomputable def w231:Str:=⟨⟨[119,111,114,100]⟩⟩
noncomputable def w232:Str:=⟨⟨[83,99,97,110,110,101,114,46,119,111,114,100]⟩⟩
noncomputable def w233:Str:=⟨⟨[110,117,109,101,114,97,108]⟩⟩
noncomputable def w234:Str:=⟨⟨[83,99,97,110,110,101,114,46,110,117,109,101,114,97,108]⟩⟩
noncomputable def w235:Str:=⟨⟨[119,104,111,108,101]⟩⟩
noncomputable def w236:Str:=⟨⟨[83,99,97,110,110,101,114,46,119,104,111,108,101]⟩⟩
noncomputable def w237:Str:=⟨⟨[115,121,109,98,111,108]⟩⟩
noncomputable def w238:Str:=⟨⟨[83,99,97,110,110,101,114,46,115,121,109,98,111,108]⟩⟩
noncomputable def w239:Str:=⟨⟨[114,101,109,97,114,107]⟩⟩
noncomputable def w240:Str:=⟨⟨[104,101,120,97,100,101,99,105,109,97,108]⟩⟩
noncomputable def w241:Str:=⟨⟨[99,104,97,114,97,99,116,101,114]⟩⟩
noncomputable def w242:Str:=⟨⟨[114,101,97,108]⟩⟩
noncomputable def w243:Str:=⟨⟨[115,107,105,112,95,100,105,103,105,116,115]⟩⟩
noncomputable def w244:Str:=⟨⟨[115,116,114,105,110,103]⟩⟩
noncomputable def w245:Str:=⟨⟨[84,121,112,101,46,95,95,105,110,105,116,95,95]⟩⟩
noncomputable def w246:Str:=⟨⟨[109,111,100,117,108,101,121,97,114,100,46,116,121,112,101,115]⟩⟩
noncomputable def w247:Str:=⟨⟨[79,98,106,46,95,95,105,110,105,116,95,95]⟩⟩
noncomputable def w248:Str:=⟨⟨[84,121,112,101,115,46,95,95,105,110,105,116,95,95]⟩⟩
noncomputable def w249:Str:=⟨⟨[]⟩⟩
noncomputable def w250:Str:=⟨⟨[110,101,119]⟩⟩
noncomputable def w251:Str:=⟨⟨[84,121,112,101,115,46,110,101,119]⟩⟩
noncomputable def w252:Str:=⟨⟨[83,99,111,112,101,46,95,95,105,110,105,116,95,95]⟩⟩
noncomputable def w253:Str:=⟨⟨[109,111,100,117,108,101,121,97,114,100,46,115,99,111,112,101,115]⟩⟩
noncomputable def w254:Str:=⟨⟨[83,99,111,112,101,115,46,95,95,105,110,105,116,95,95]⟩⟩
noncomputable def w255:Str:=⟨⟨[83,99,111,112,101,115,46,111,112,101,110]⟩⟩
noncomputable def w256:Str:=⟨⟨[97,100,100]⟩⟩
noncomputable def w257:Str:=⟨⟨[83,99,111,112,101,115,46,97,100,100]⟩⟩
noncomputable def w258:Str:=⟨⟨[105,110,115,101,114,116]⟩⟩
noncomputable def w259:Str:=⟨⟨[83,99,111,112,101,115,46,105,110,115,101,114,116]⟩⟩
noncomputable def w260:Str:=⟨⟨[102,105,110,100]⟩⟩
noncomputable def w261:Str:=⟨⟨[83,99,111,112,101,115,46,102,105,110,100]⟩⟩
noncomputable def w262:Str:=⟨⟨[99,108,111,115,101]⟩⟩
noncomputable def w263:Str:=⟨⟨[99,117,114,114,101,110,116]⟩⟩
noncomputable def w264:Str:=⟨⟨[109,111,100,117,108,101,121,97,114,100,46,117,110,105,118,101,114,115,101]⟩⟩
noncomputable def w265:Str:=⟨⟨[82,101,97,100,101,114,46,95,95,105,110,105,116,95,95]⟩⟩
noncomputable def w266:Str:=⟨⟨[109,111,100,117,108,101,121,97,114,100,46,114,101,97,100,101,114]⟩⟩
noncomputable def w267:Str:=⟨⟨[115,116,101,112]⟩⟩
noncomputable def w268:Str:=⟨⟨[82,101,97,100,101,114,46,115,116,101,112]⟩⟩
noncomputable def w269:Str:=⟨⟨[97,116]⟩⟩
noncomputable def w270:Str:=⟨⟨[82,101,97,100,101,114,46,97,116]⟩⟩
noncomputable def w271:Str:=⟨⟨[82,101,97,100,101,114,46,115,107,105,112]⟩⟩
noncomputable def w272:Str:=⟨⟨[101,120,112,101,99,116]⟩⟩
noncomputable def w273:Str:=⟨⟨[82,101,97,100,101,114,46,101,120,112,101,99,116]⟩⟩
noncomputable def w274:Str:=⟨⟨[110,97,109,101]⟩⟩
noncomputable def w275:Str:=⟨⟨[82,101,97,100,101,114,46,110,97,109,101]⟩⟩
noncomputable def w276:Str:=⟨⟨[112,97,114,116]⟩⟩
noncomputable def w277:Str:=⟨⟨[82,101,97,100,101,114,46,112,97,114,116]⟩⟩
noncomputable def w278:Str:=⟨⟨[103,105,118,101,95,117,112]⟩⟩
noncomputable def w279:Str:=⟨⟨[101,110,116,101,114]⟩⟩
noncomputable def w280:Str:=⟨⟨[108,101,97,118,101]⟩⟩
noncomputable def w281:Str:=⟨⟨[115,107,105,112,95,116,111]⟩⟩
noncomputable def ko_0 (P:Params):Obj:=⟨.type SL.s14018661285674007319x4,none,(.dict ⟨[eP P w0 1 (.str w1 160),eP P w2 2 (.builtin "builtins.__doc__:str#opaque"),eP P w3 3 (.builtin "builtins.__package__:str#opaque"),eP P w4 4 (.builtin "builtins.__loader__:shared#opaque"),eP P w5 5 (.builtin SL.s11665532747177232413x24),eP P w6 6 (.builtin SL.s15183661809925369436x15),eP P w7 7 (.builtin SL.s13915890719876406383x10),eP P w8 8 (.builtin SL.s13459172003223722735x3),eP P w9 9 (.builtin SL.s10557405761357834076x3),eP P w10 10 (.builtin SL.s4233737765568776869x3),eP P w11 11 (.builtin SL.s2508922471967985374x5),eP P w12 12 (.builtin SL.s15574269061696679450x3),eP P w13 13 (.builtin SL.s6016482663378992977x10),eP P w14 14 (.builtin SL.s5596568736180474577x8),eP P w15 15 (.builtin SL.s2839554839881490554x3),eP P w16 16 (.builtin SL.s725004073602090463x7),eP P w17 17 (.builtin SL.s9436932552931045734x7),eP P w18 18 (.builtin SL.s2754603736356183583x3),eP P w19 19 (.builtin SL.s15185746759980889043x6),eP P w20 20 (.builtin SL.s8192189862530294059x4),eP P w21 21 (.builtin SL.s7038307821325472102x4),eP P w22 22 (.builtin SL.s5662562618415449548x6),eP P w23 23 (.builtin SL.s15281542589158584767x7),eP P w24 24 (.builtin SL.s17651547275483570877x7),eP P w25 25 (.builtin SL.s4036449017235975746x7),eP P w26 26 (.builtin SL.s8879979712987360175x4),eP P w27 27 (.builtin SL.s1801250619170735830x3),eP P w28 28 (.builtin SL.s17659931425627118568x2),eP P w29 29 (.builtin SL.s6063217899685152688x5),eP P w30 30 (.builtin SL.s8008927332132565319x10),eP P w31 31 (.builtin SL.s3544116645089599534x10),eP P w32 32 (.builtin SL.s13761710972054866084x4),eP P w33 33 (.builtin SL.s12896375587409280029x5),eP P w34 34 (.builtin SL.s13014049009108672802x3),eP P w35 35 (.builtin SL.s13935586738268321596x6),eP P w36 36 (.builtin SL.s8200498257699607233x3),eP P w37 37 (.builtin SL.s14114244577727609259x3),eP P w38 38 (.builtin SL.s1499430450269397089x4),eP P w39 39 (.builtin SL.s8755793994789770505x5),eP P w40 40 (.builtin SL.s15725212667919936108x3),eP P w41 41 (.builtin SL.s15791221867095933363x3),eP P w42 42 (.builtin SL.s81309575031448614x3),eP P w43 43 (.builtin SL.s8069831620301644142x5),eP P w44 44 (.builtin SL.s10061844253413749634x4),eP P w45 45 (.builtin SL.s9496514870978017513x5),eP P w46 46 (.builtin SL.s8899691144933366716x7),eP P w47 47 (.builtin SL.s15201008993051130160x6),eP P w48 48 (.builtin SL.s741896355592496720x3),eP P w49 49 (.builtin SL.s17925004256654032244x4),eP P w50 50 (.none),eP P w51 51 (.ellipsis),eP P w52 52 (.notImplemented),eP P w53 53 (.bool false),eP P w54 54 (.bool true),eP P w55 55 (.type SL.s11695548795398191787x4),eP P w56 56 (.type SL.s4156966113859768872x10),eP P w57 57 (.type SL.s9501651726347032510x9),eP P w58 58 (.type SL.s15722918466584999320x5),eP P w59 59 (.type SL.s591115383303110208x11),eP P w60 60 (.type SL.s15721156781594690315x7),eP P w61 61 (.type SL.s14018661285674007319x4),eP P w62 62 (.type SL.s14340494229221121180x9),eP P w63 63 (.type SL.s13429844117177748173x6),eP P w64 64 (.type SL.s16463266125957815391x5),eP P w65 65 (.type SL.s4922535414793169389x9),eP P w66 66 (.type SL.s8101838861749082086x8),eP P w67 67 (.type SL.s7066276694103001551x3),eP P w68 68 (.type SL.s9222952809800978799x4),eP P w69 69 (.type SL.s462964344163437139x3),eP P w70 70 (.type SL.s2742458400755230247x6),eP P w71 71 (.type SL.s1438033511350832697x5),eP P w72 72 (.type SL.s14365286008749172514x8),eP P w73 73 (.type SL.s3642769012341782148x3),eP P w74 74 (.type SL.s4674234679698826739x5),eP P w75 75 (.type SL.s16656946322747308186x12),eP P w76 76 (.type SL.s10796804682411823810x3),eP P w77 77 (.type SL.s4290257624100764138x5),eP P w78 78 (.type SL.s2766695959194262286x5),eP P w79 79 (.type SL.s17162191345867700912x4),eP P w80 80 (.type SL.s14339709457334898076x3),eP P w81 81 (.bool true),eP P w82 82 (.type SL.s4278001404047624695x13),eP P w83 83 (.type SL.s6585700554429387442x18),eP P w84 84 (.type SL.s5946037652744460706x9),eP P w85 85 (.type SL.s7410770068591931388x13),eP P w86 86 (.type SL.s11817881795495490833x17),eP P w87 87 (.type SL.s15679963881808890155x10),eP P w88 88 (.type SL.s3871700062485845797x15),eP P w89 89 (.type SL.s7689518266570723881x14),eP P w90 90 (.type SL.s9001593270443806431x14),eP P w91 91 (.type SL.s6882542574934516792x11),eP P w92 92 (.type SL.s14403400214490484960x8),eP P w93 93 (.type SL.s14457978657717015782x11),eP P w94 94 (.type SL.s1753610191782819921x11),eP P w95 95 (.type SL.s14119380538032626715x11),eP P w96 96 (.type SL.s11437920000406562045x9),eP P w97 97 (.type SL.s10852414792293593619x7),eP P w98 98 (.type SL.s14816307405966870543x14),eP P w99 99 (.type SL.s8682627914449686677x12),eP P w100 100 (.type SL.s4428170145600203450x18),eP P w101 101 (.type SL.s5991306692159431302x13),eP P w102 102 (.type SL.s16067994140765818257x11),eP P w103 103 (.type SL.s2327743974964600596x11),eP P w104 104 (.type SL.s2804747833354056582x9),eP P w105 105 (.type SL.s6070975301684473832x10),eP P w106 106 (.type SL.s14270485950484850486x7),eP P w107 107 (.type SL.s12041534306414923332x18),eP P w108 108 (.type SL.s2531307568338490285x13),eP P w109 109 (.type SL.s631175304937289666x17),eP P w110 110 (.type SL.s5144983644357021410x12),eP P w111 111 (.type SL.s18039099521571816885x18),eP P w112 112 (.type SL.s6011586214260557989x15),eP P w113 113 (.type SL.s5430567037509283100x13),eP P w114 114 (.type SL.s8117915138073963741x13),eP P w115 115 (.type SL.s3423317712779056401x25),eP P w116 116 (.type SL.s2007317383269046180x15),eP P w117 117 (.type SL.s17481586968713580700x14),eP P w118 118 (.type SL.s2450899226349176912x13),eP P w119 119 (.type SL.s16626165730633575011x14),eP P w120 120 (.type SL.s14288496050688921416x11),eP P w121 121 (.type SL.s5735081916595925998x15),eP P w122 122 (.type SL.s3865607918536308442x17),eP P w123 123 (.type SL.s13337502604062700212x15),eP P w124 124 (.type SL.s13114017843053701147x15),eP P w125 125 (.type SL.s17467278006356818441x17),eP P w126 126 (.type SL.s17722149559621369488x16),eP P w127 127 (.type SL.s7855274175708717672x17),eP P w128 128 (.type SL.s13351283678309829046x18),eP P w129 129 (.type SL.s6668348653404991179x15),eP P w130 130 (.type SL.s12913350958174193794x18),eP P w131 131 (.type SL.s16115879512475548326x12),eP P w132 132 (.type SL.s15920661018069861047x16),eP P w133 133 (.type SL.s10779130036587390575x21),eP P w134 134 (.type SL.s7801419657504700863x10),eP P w135 135 (.type SL.s1688129525768580628x8),eP P w136 136 (.type SL.s1031832959479892071x19),eP P w137 137 (.type SL.s8991790508128307865x19),eP P w138 138 (.type SL.s14539662485746970245x23),eP P w139 139 (.type SL.s11643622729373238714x14),eP P w140 140 (.type SL.s3386828779285465597x17),eP P w141 141 (.type SL.s13042696260734638735x12),eP P w142 142 (.type SL.s18239426817015966623x15),eP P w143 143 (.type SL.s1270395311379034370x22),eP P w144 144 (.type SL.s10696252587037064777x22),eP P w145 145 (.type SL.s7852717498200857586x20),eP P w146 146 (.type SL.s6377248116197321094x8),eP P w147 147 (.type SL.s3834378056692298002x18),eP P w148 148 (.type SL.s17586630440231065808x18),eP P w149 149 (.type SL.s15234114252648025395x21),eP P w150 150 (.type SL.s8496462677383758984x14),eP P w151 151 (.type SL.s10852414792293593619x7),eP P w152 152 (.type SL.s10852414792293593619x7),eP P w153 153 (.builtin SL.s16789243406116112673x4),eP P w154 154 (.builtin SL.s14400166428656793546x20),eP P w155 155 (.builtin SL.s5857708277339239366x20),eP P w156 156 (.builtin "builtins.copyright#opaque"),eP P w157 157 (.builtin "builtins.credits#opaque"),eP P w158 158 (.builtin "builtins.license#opaque"),eP P w159 159 (.builtin SL.s7804999707787243718x20)]⟩ 159),⟨[]⟩⟩
noncomputable def ko_2 (P:Params):Obj:=⟨.none,none,(.dict ⟨[]⟩ 0),⟨[]⟩⟩
noncomputable def ko_3 (P:Params):Obj:=⟨.type SL.s14018661285674007319x4,none,(.dict ⟨[eP P w0 165 (.str w160 1090),eP P w2 166 (.none),eP P w3 167 (.none),eP P w4 168 (.builtin SL.s7097527257260152453x26),eP P w5 169 (.none),eP P w161 170 (.ref 6),eP P w162 171 (.ref 4),eP P w163 173 (.str w164 172),eP P w165 174 (.none),eP P w166 193 (.ref 21),eP P w167 233 (.ref 39),eP P w168 240 (.ref 50),eP P w169 250 (.ref 57),eP P w170 257 (.ref 64),eP P w171 264 (.ref 71),eP P w172 274 (.ref 78),eP P w173 288 (.ref 85),eP P w174 297 (.ref 92),eP P w175 309 (.ref 99),eP P w176 319 (.ref 106),eP P w177 329 (.ref 113),eP P w178 341 (.ref 120),eP P w179 354 (.ref 127),eP P w180 365 (.ref 134),eP P w181 376 (.ref 141),eP P w182 430 (.ref 179),eP P w183 434 (.int (.ofNat 2147483647) 433),eP P w184 436 (.int (.ofNat 4294967295) 435),eP P w185 469 (.ref 200),eP P w186 475 (.ref 211),eP P w187 482 (.ref 218),eP P w188 489 (.ref 225),eP P w189 496 (.ref 232),eP P w190 507 (.ref 239),eP P w191 663 (.ref 348),eP P w192 707 (.ref 369),eP P w193 752 (.ref 390),eP P w194 811 (.ref 426),eP P w195 847 (.ref 447),eP P w196 934 (.ref 510),eP P w197 942 (.ref 521),eP P w198 948 (.ref 528),eP P w199 957 (.ref 535),eP P w200 961 (.int (.ofNat 120) 960),eP P w201 1089 (.ref 630),eP P w202 1101 (.ref 641),eP P w203 1109 (.ref 648),eP P w204 1115 (.ref 653),eP P w205 1141 (.ref 660)]⟩ 49),⟨[]⟩⟩
noncomputable def ko_29 (P:Params):Obj:=⟨.type SL.s2766695959194262286x5,none,(.seq ⟨[.none]⟩ 0),⟨[]⟩⟩
noncomputable def ko_35 (P:Params):Obj:=⟨.type SL.s5856160107412720595x4,none,(.fields ⟨[.str w206 208,.str w207 209,.str w164 210,.int (.ofNat 7) 0,.int (.ofNat 6) 0,.int (.ofNat 0) 0,.int (.ofNat 0) 0,.int (.ofNat 3) 0,.ref 30,.bool true,.int (.ofNat 181) 0,.ref 31,.none,.ref 32,.ref 33,.ref 34,.int (.ofNat 217) 0,.int (.ofNat 7) 0,.str w164 218]⟩),⟨[]⟩⟩
noncomputable def ko_36 (P:Params):Obj:=⟨.type SL.s7174869446012820540x8,none,(.func ⟨w206,w207,fnP (stB 2 0),.stmts (fnB (stB 2 0)),fnS (stB 2 0),3,[],.ref 29,.none,.none,.str w208 194,none,.ref 35,.none,0⟩),⟨[]⟩⟩
noncomputable def ko_38 (P:Params):Obj:=⟨.type SL.s14018661285674007319x4,none,(.dict ⟨[eP P w209 203 (.str w208 194),eP P w210 207 (.int (.ofNat 5) 206),eP P w206 219 (.ref 36),eP P w211 226 (.ref 37),eP P w212 228 (.ref 40),eP P w213 230 (.ref 41),eP P w2 231 (.none)]⟩ 4),⟨[]⟩⟩
noncomputable def ko_39 (P:Params):Obj:=⟨.type SL.s17162191345867700912x4,none,(.cls ⟨w167,[.type SL.s2742458400755230247x6],[.ref 39,.type SL.s2742458400755230247x6],38,w167,true,[],[],false,none,false⟩),⟨[none,none,some (.str w167 196),some (.str w167 204),some (.builtin SL.s11443829558043349243x14),some (.bool true)]⟩⟩
noncomputable def ko_49 (P:Params):Obj:=⟨.type SL.s5856160107412720595x4,none,(.fields ⟨[.str w168 234,.str w168 235,.str w164 236,.int (.ofNat 14) 0,.int (.ofNat 1) 0,.int (.ofNat 0) 0,.int (.ofNat 0) 0,.int (.ofNat 3) 0,.ref 44,.bool true,.int (.ofNat 181) 0,.ref 45,.none,.ref 46,.ref 47,.ref 48,.int (.ofNat 238) 0,.int (.ofNat 14) 0,.str w164 239]⟩),⟨[]⟩⟩
noncomputable def ko_50 (P:Params):Obj:=⟨.type SL.s7174869446012820540x8,none,(.func ⟨w168,w168,fnP (stA 3),.stmts (fnB (stA 3)),fnS (stA 3),3,[],.none,.none,.none,.str w208 194,none,.ref 49,.none,0⟩),⟨[]⟩⟩
noncomputable def ko_56 (P:Params):Obj:=⟨.type SL.s5856160107412720595x4,none,(.fields ⟨[.str w169 243,.str w169 244,.str w164 245,.int (.ofNat 19) 0,.int (.ofNat 2) 0,.int (.ofNat 0) 0,.int (.ofNat 0) 0,.int (.ofNat 3) 0,.ref 51,.bool true,.int (.ofNat 181) 0,.ref 52,.none,.ref 53,.ref 54,.ref 55,.int (.ofNat 248) 0,.int (.ofNat 19) 0,.str w164 249]⟩),⟨[]⟩⟩
noncomputable def ko_57 (P:Params):Obj:=⟨.type SL.s7174869446012820540x8,none,(.func ⟨w169,w169,fnP (stA 5),.stmts (fnB (stA 5)),fnS (stA 5),3,[],.none,.none,.none,.str w214 241,none,.ref 56,.none,0⟩),⟨[]⟩⟩
noncomputable def ko_63 (P:Params):Obj:=⟨.type SL.s5856160107412720595x4,none,(.fields ⟨[.str w170 251,.str w170 252,.str w164 253,.int (.ofNat 21) 0,.int (.ofNat 1) 0,.int (.ofNat 0) 0,.int (.ofNat 0) 0,.int (.ofNat 3) 0,.ref 58,.bool true,.int (.ofNat 181) 0,.ref 59,.none,.ref 60,.ref 61,.ref 62,.int (.ofNat 255) 0,.int (.ofNat 21) 0,.str w164 256]⟩),⟨[]⟩⟩
noncomputable def ko_64 (P:Params):Obj:=⟨.type SL.s7174869446012820540x8,none,(.func ⟨w170,w170,fnP (stA 6),.stmts (fnB (stA 6)),fnS (stA 6),3,[],.none,.none,.none,.str w214 241,none,.ref 63,.none,0⟩),⟨[]⟩⟩
noncomputable def ko_70 (P:Params):Obj:=⟨.type SL.s5856160107412720595x4,none,(.fields ⟨[.str w171 258,.str w171 259,.str w164 260,.int (.ofNat 23) 0,.int (.ofNat 1) 0,.int (.ofNat 0) 0,.int (.ofNat 0) 0,.int (.ofNat 3) 0,.ref 65,.bool true,.int (.ofNat 181) 0,.ref 66,.none,.ref 67,.ref 68,.ref 69,.int (.ofNat 262) 0,.int (.ofNat 23) 0,.str w164 263]⟩),⟨[]⟩⟩
noncomputable def ko_71 (P:Params):Obj:=⟨.type SL.s7174869446012820540x8,none,(.func ⟨w171,w171,fnP (stA 7),.stmts (fnB (stA 7)),fnS (stA 7),3,[],.none,.none,.none,.str w214 241,none,.ref 70,.none,0⟩),⟨[]⟩⟩
noncomputable def ko_77 (P:Params):Obj:=⟨.type SL.s5856160107412720595x4,none,(.fields ⟨[.str w172 265,.str w172 266,.str w164 267,.int (.ofNat 29) 0,.int (.ofNat 2) 0,.int (.ofNat 0) 0,.int (.ofNat 0) 0,.int (.ofNat 3) 0,.ref 72,.bool true,.int (.ofNat 181) 0,.ref 73,.none,.ref 74,.ref 75,.ref 76,.int (.ofNat 272) 0,.int (.ofNat 29) 0,.str w164 273]⟩),⟨[]⟩⟩
noncomputable def ko_78 (P:Params):Obj:=⟨.type SL.s7174869446012820540x8,none,(.func ⟨w172,w172,fnP (stA 8),.stmts (fnB (stA 8)),fnS (stA 8),3,[],.none,.none,.none,.str w214 241,none,.ref 77,.none,0⟩),⟨[]⟩⟩
noncomputable def ko_84 (P:Params):Obj:=⟨.type SL.s5856160107412720595x4,none,(.fields ⟨[.str w173 277,.str w173 278,.str w164 279,.int (.ofNat 42) 0,.int (.ofNat 5) 0,.int (.ofNat 0) 0,.int (.ofNat 0) 0,.int (.ofNat 3) 0,.ref 79,.bool true,.int (.ofNat 181) 0,.ref 80,.none,.ref 81,.ref 82,.ref 83,.int (.ofNat 286) 0,.int (.ofNat 42) 0,.str w164 287]⟩),⟨[]⟩⟩
noncomputable def ko_85 (P:Params):Obj:=⟨.type SL.s7174869446012820540x8,none,(.func ⟨w173,w173,fnP (stA 10),.stmts (fnB (stA 10)),fnS (stA 10),3,[],.none,.none,.none,.str w215 275,none,.ref 84,.none,0⟩),⟨[]⟩⟩
noncomputable def ko_91 (P:Params):Obj:=⟨.type SL.s5856160107412720595x4,none,(.fields ⟨[.str w174 289,.str w174 290,.str w164 291,.int (.ofNat 53) 0,.int (.ofNat 2) 0,.int (.ofNat 0) 0,.int (.ofNat 0) 0,.int (.ofNat 3) 0,.ref 86,.bool true,.int (.ofNat 181) 0,.ref 87,.none,.ref 88,.ref 89,.ref 90,.int (.ofNat 295) 0,.int (.ofNat 53) 0,.str w164 296]⟩),⟨[]⟩⟩
noncomputable def ko_92 (P:Params):Obj:=⟨.type SL.s7174869446012820540x8,none,(.func ⟨w174,w174,fnP (stA 11),.stmts (fnB (stA 11)),fnS (stA 11),3,[],.none,.none,.none,.str w215 275,none,.ref 91,.none,0⟩),⟨[]⟩⟩
noncomputable def ko_98 (P:Params):Obj:=⟨.type SL.s5856160107412720595x4,none,(.fields ⟨[.str w175 298,.str w175 299,.str w164 300,.int (.ofNat 60) 0,.int (.ofNat 5) 0,.int (.ofNat 0) 0,.int (.ofNat 0) 0,.int (.ofNat 3) 0,.ref 93,.bool true,.int (.ofNat 181) 0,.ref 94,.none,.ref 95,.ref 96,.ref 97,.int (.ofNat 307) 0,.int (.ofNat 60) 0,.str w164 308]⟩),⟨[]⟩⟩
noncomputable def ko_99 (P:Params):Obj:=⟨.type SL.s7174869446012820540x8,none,(.func ⟨w175,w175,fnP (stA 12),.stmts (fnB (stA 12)),fnS (stA 12),3,[],.none,.none,.none,.str w215 275,none,.ref 98,.none,0⟩),⟨[]⟩⟩
noncomputable def ko_105 (P:Params):Obj:=⟨.type SL.s5856160107412720595x4,none,(.fields ⟨[.str w176 310,.str w176 311,.str w164 312,.int (.ofNat 71) 0,.int (.ofNat 4) 0,.int (.ofNat 0) 0,.int (.ofNat 0) 0,.int (.ofNat 3) 0,.ref 100,.bool true,.int (.ofNat 181) 0,.ref 101,.none,.ref 102,.ref 103,.ref 104,.int (.ofNat 317) 0,.int (.ofNat 71) 0,.str w164 318]⟩),⟨[]⟩⟩
noncomputable def ko_106 (P:Params):Obj:=⟨.type SL.s7174869446012820540x8,none,(.func ⟨w176,w176,fnP (stA 13),.stmts (fnB (stA 13)),fnS (stA 13),3,[],.none,.none,.none,.str w215 275,none,.ref 105,.none,0⟩),⟨[]⟩⟩
noncomputable def ko_112 (P:Params):Obj:=⟨.type SL.s5856160107412720595x4,none,(.fields ⟨[.str w177 320,.str w177 321,.str w164 322,.int (.ofNat 76) 0,.int (.ofNat 2) 0,.int (.ofNat 0) 0,.int (.ofNat 0) 0,.int (.ofNat 3) 0,.ref 107,.bool true,.int (.ofNat 181) 0,.ref 108,.none,.ref 109,.ref 110,.ref 111,.int (.ofNat 327) 0,.int (.ofNat 76) 0,.str w164 328]⟩),⟨[]⟩⟩
noncomputable def ko_113 (P:Params):Obj:=⟨.type SL.s7174869446012820540x8,none,(.func ⟨w177,w177,fnP (stA 14),.stmts (fnB (stA 14)),fnS (stA 14),3,[],.none,.none,.none,.str w215 275,none,.ref 112,.none,0⟩),⟨[]⟩⟩
noncomputable def ko_119 (P:Params):Obj:=⟨.type SL.s5856160107412720595x4,none,(.fields ⟨[.str w178 330,.str w178 331,.str w164 332,.int (.ofNat 91) 0,.int (.ofNat 5) 0,.int (.ofNat 0) 0,.int (.ofNat 0) 0,.int (.ofNat 3) 0,.ref 114,.bool true,.int (.ofNat 181) 0,.ref 115,.none,.ref 116,.ref 117,.ref 118,.int (.ofNat 339) 0,.int (.ofNat 91) 0,.str w164 340]⟩),⟨[]⟩⟩
noncomputable def ko_120 (P:Params):Obj:=⟨.type SL.s7174869446012820540x8,none,(.func ⟨w178,w178,fnP (stA 15),.stmts (fnB (stA 15)),fnS (stA 15),3,[],.none,.none,.none,.str w215 275,none,.ref 119,.none,0⟩),⟨[]⟩⟩
noncomputable def ko_126 (P:Params):Obj:=⟨.type SL.s5856160107412720595x4,none,(.fields ⟨[.str w179 344,.str w179 345,.str w164 346,.int (.ofNat 98) 0,.int (.ofNat 1) 0,.int (.ofNat 0) 0,.int (.ofNat 0) 0,.int (.ofNat 3) 0,.ref 121,.bool true,.int (.ofNat 181) 0,.ref 122,.none,.ref 123,.ref 124,.ref 125,.int (.ofNat 352) 0,.int (.ofNat 98) 0,.str w164 353]⟩),⟨[]⟩⟩
noncomputable def ko_127 (P:Params):Obj:=⟨.type SL.s7174869446012820540x8,none,(.func ⟨w179,w179,fnP (stA 17),.stmts (fnB (stA 17)),fnS (stA 17),3,[],.none,.none,.none,.str w216 342,none,.ref 126,.none,0⟩),⟨[]⟩⟩
noncomputable def ko_133 (P:Params):Obj:=⟨.type SL.s5856160107412720595x4,none,(.fields ⟨[.str w180 355,.str w180 356,.str w164 357,.int (.ofNat 117) 0,.int (.ofNat 3) 0,.int (.ofNat 0) 0,.int (.ofNat 0) 0,.int (.ofNat 3) 0,.ref 128,.bool true,.int (.ofNat 181) 0,.ref 129,.none,.ref 130,.ref 131,.ref 132,.int (.ofNat 363) 0,.int (.ofNat 117) 0,.str w164 364]⟩),⟨[]⟩⟩
noncomputable def ko_134 (P:Params):Obj:=⟨.type SL.s7174869446012820540x8,none,(.func ⟨w180,w180,fnP (stA 18),.stmts (fnB (stA 18)),fnS (stA 18),3,[],.none,.none,.none,.str w216 342,none,.ref 133,.none,0⟩),⟨[]⟩⟩
noncomputable def ko_140 (P:Params):Obj:=⟨.type SL.s5856160107412720595x4,none,(.fields ⟨[.str w181 366,.str w181 367,.str w164 368,.int (.ofNat 137) 0,.int (.ofNat 3) 0,.int (.ofNat 0) 0,.int (.ofNat 0) 0,.int (.ofNat 3) 0,.ref 135,.bool true,.int (.ofNat 181) 0,.ref 136,.none,.ref 137,.ref 138,.ref 139,.int (.ofNat 374) 0,.int (.ofNat 137) 0,.str w164 375]⟩),⟨[]⟩⟩
noncomputable def ko_141 (P:Params):Obj:=⟨.type SL.s7174869446012820540x8,none,(.func ⟨w181,w181,fnP (stA 19),.stmts (fnB (stA 19)),fnS (stA 19),3,[],.none,.none,.none,.str w216 342,none,.ref 140,.none,0⟩),⟨[]⟩⟩
noncomputable def ko_154 (P:Params):Obj:=⟨.type SL.s5856160107412720595x4,none,(.fields ⟨[.str w206 391,.str w217 392,.str w164 393,.int (.ofNat 151) 0,.int (.ofNat 1) 0,.int (.ofNat 0) 0,.int (.ofNat 0) 0,.int (.ofNat 3) 0,.ref 149,.bool true,.int (.ofNat 181) 0,.ref 150,.none,.ref 151,.ref 152,.ref 153,.int (.ofNat 395) 0,.int (.ofNat 151) 0,.str w164 396]⟩),⟨[]⟩⟩
noncomputable def ko_155 (P:Params):Obj:=⟨.type SL.s7174869446012820540x8,none,(.func ⟨w206,w217,fnP (stB 21 0),.stmts (fnB (stB 21 0)),fnS (stB 21 0),3,[],.none,.none,.none,.str w218 377,none,.ref 154,.none,0⟩),⟨[]⟩⟩
noncomputable def ko_178 (P:Params):Obj:=⟨.type SL.s14018661285674007319x4,none,(.dict ⟨[eP P w209 386 (.str w218 377),eP P w210 390 (.int (.ofNat 149) 389),eP P w206 397 (.ref 155),eP P w219 406 (.ref 162),eP P w220 413 (.ref 169),eP P w221 420 (.ref 176),eP P w211 423 (.ref 177),eP P w212 425 (.ref 180),eP P w213 427 (.ref 181),eP P w2 428 (.none)]⟩ 4),⟨[]⟩⟩
noncomputable def ko_179 (P:Params):Obj:=⟨.type SL.s17162191345867700912x4,none,(.cls ⟨w182,[.type SL.s2742458400755230247x6],[.ref 179,.type SL.s2742458400755230247x6],178,w182,true,[],[],false,none,false⟩),⟨[none,none,some (.str w182 379),some (.str w182 387),some (.builtin SL.s11443829558043349243x14),some (.bool true)]⟩⟩
noncomputable def ko_196 (P:Params):Obj:=⟨.type SL.s5856160107412720595x4,none,(.fields ⟨[.str w206 449,.str w222 450,.str w164 451,.int (.ofNat 172) 0,.int (.ofNat 4) 0,.int (.ofNat 0) 0,.int (.ofNat 0) 0,.int (.ofNat 3) 0,.ref 191,.bool true,.int (.ofNat 181) 0,.ref 192,.none,.ref 193,.ref 194,.ref 195,.int (.ofNat 456) 0,.int (.ofNat 172) 0,.str w164 457]⟩),⟨[]⟩⟩
noncomputable def ko_197 (P:Params):Obj:=⟨.type SL.s7174869446012820540x8,none,(.func ⟨w206,w222,fnP (stB 25 0),.stmts (fnB (stB 25 0)),fnS (stB 25 0),3,[],.none,.none,.none,.str w223 431,none,.ref 196,.none,0⟩),⟨[]⟩⟩
noncomputable def ko_199 (P:Params):Obj:=⟨.type SL.s14018661285674007319x4,none,(.dict ⟨[eP P w209 444 (.str w223 431),eP P w210 448 (.int (.ofNat 170) 447),eP P w206 458 (.ref 197),eP P w211 462 (.ref 198),eP P w212 464 (.ref 201),eP P w213 466 (.ref 202),eP P w2 467 (.none)]⟩ 4),⟨[]⟩⟩
noncomputable def ko_200 (P:Params):Obj:=⟨.type SL.s17162191345867700912x4,none,(.cls ⟨w185,[.type SL.s2742458400755230247x6],[.ref 200,.type SL.s2742458400755230247x6],199,w185,true,[],[],false,none,false⟩),⟨[none,none,some (.str w185 437),some (.str w185 445),some (.builtin SL.s11443829558043349243x14),some (.bool true)]⟩⟩
noncomputable def ko_210 (P:Params):Obj:=⟨.type SL.s5856160107412720595x4,none,(.fields ⟨[.str w186 470,.str w186 471,.str w164 472,.int (.ofNat 176) 0,.int (.ofNat 0) 0,.int (.ofNat 0) 0,.int (.ofNat 0) 0,.int (.ofNat 3) 0,.ref 205,.bool true,.int (.ofNat 181) 0,.ref 206,.none,.ref 207,.ref 208,.ref 209,.int (.ofNat 473) 0,.int (.ofNat 176) 0,.str w164 474]⟩),⟨[]⟩⟩
noncomputable def ko_211 (P:Params):Obj:=⟨.type SL.s7174869446012820540x8,none,(.func ⟨w186,w186,fnP (stA 26),.stmts (fnB (stA 26)),fnS (stA 26),3,[],.none,.none,.none,.str w223 431,none,.ref 210,.none,0⟩),⟨[]⟩⟩
noncomputable def ko_217 (P:Params):Obj:=⟨.type SL.s5856160107412720595x4,none,(.fields ⟨[.str w187 476,.str w187 477,.str w164 478,.int (.ofNat 178) 0,.int (.ofNat 1) 0,.int (.ofNat 0) 0,.int (.ofNat 0) 0,.int (.ofNat 3) 0,.ref 212,.bool true,.int (.ofNat 181) 0,.ref 213,.none,.ref 214,.ref 215,.ref 216,.int (.ofNat 480) 0,.int (.ofNat 178) 0,.str w164 481]⟩),⟨[]⟩⟩
noncomputable def ko_218 (P:Params):Obj:=⟨.type SL.s7174869446012820540x8,none,(.func ⟨w187,w187,fnP (stA 27),.stmts (fnB (stA 27)),fnS (stA 27),3,[],.none,.none,.none,.str w223 431,none,.ref 217,.none,0⟩),⟨[]⟩⟩
noncomputable def ko_224 (P:Params):Obj:=⟨.type SL.s5856160107412720595x4,none,(.fields ⟨[.str w188 483,.str w188 484,.str w164 485,.int (.ofNat 180) 0,.int (.ofNat 1) 0,.int (.ofNat 0) 0,.int (.ofNat 0) 0,.int (.ofNat 3) 0,.ref 219,.bool true,.int (.ofNat 181) 0,.ref 220,.none,.ref 221,.ref 222,.ref 223,.int (.ofNat 487) 0,.int (.ofNat 180) 0,.str w164 488]⟩),⟨[]⟩⟩
noncomputable def ko_225 (P:Params):Obj:=⟨.type SL.s7174869446012820540x8,none,(.func ⟨w188,w188,fnP (stA 28),.stmts (fnB (stA 28)),fnS (stA 28),3,[],.none,.none,.none,.str w223 431,none,.ref 224,.none,0⟩),⟨[]⟩⟩
noncomputable def ko_231 (P:Params):Obj:=⟨.type SL.s5856160107412720595x4,none,(.fields ⟨[.str w189 490,.str w189 491,.str w164 492,.int (.ofNat 182) 0,.int (.ofNat 1) 0,.int (.ofNat 0) 0,.int (.ofNat 0) 0,.int (.ofNat 3) 0,.ref 226,.bool true,.int (.ofNat 181) 0,.ref 227,.none,.ref 228,.ref 229,.ref 230,.int (.ofNat 494) 0,.int (.ofNat 182) 0,.str w164 495]⟩),⟨[]⟩⟩
noncomputable def ko_232 (P:Params):Obj:=⟨.type SL.s7174869446012820540x8,none,(.func ⟨w189,w189,fnP (stA 29),.stmts (fnB (stA 29)),fnS (stA 29),3,[],.none,.none,.none,.str w223 431,none,.ref 231,.none,0⟩),⟨[]⟩⟩
noncomputable def ko_238 (P:Params):Obj:=⟨.type SL.s5856160107412720595x4,none,(.fields ⟨[.str w190 497,.str w190 498,.str w164 499,.int (.ofNat 184) 0,.int (.ofNat 3) 0,.int (.ofNat 0) 0,.int (.ofNat 0) 0,.int (.ofNat 3) 0,.ref 233,.bool true,.int (.ofNat 181) 0,.ref 234,.none,.ref 235,.ref 236,.ref 237,.int (.ofNat 505) 0,.int (.ofNat 184) 0,.str w164 506]⟩),⟨[]⟩⟩
noncomputable def ko_239 (P:Params):Obj:=⟨.type SL.s7174869446012820540x8,none,(.func ⟨w190,w190,fnP (stA 30),.stmts (fnB (stA 30)),fnS (stA 30),3,[],.none,.none,.none,.str w223 431,none,.ref 238,.none,0⟩),⟨[]⟩⟩
noncomputable def ko_252 (P:Params):Obj:=⟨.type SL.s5856160107412720595x4,none,(.fields ⟨[.str w206 520,.str w224 521,.str w164 522,.int (.ofNat 193) 0,.int (.ofNat 3) 0,.int (.ofNat 0) 0,.int (.ofNat 0) 0,.int (.ofNat 3) 0,.ref 247,.bool true,.int (.ofNat 181) 0,.ref 248,.none,.ref 249,.ref 250,.ref 251,.int (.ofNat 526) 0,.int (.ofNat 193) 0,.str w164 527]⟩),⟨[]⟩⟩
noncomputable def ko_253 (P:Params):Obj:=⟨.type SL.s7174869446012820540x8,none,(.func ⟨w206,w224,fnP (stB 31 0),.stmts (fnB (stB 31 0)),fnS (stB 31 0),3,[],.none,.none,.none,.str w223 431,none,.ref 252,.none,0⟩),⟨[]⟩⟩
noncomputable def ko_254 (P:Params):Obj:=⟨.type SL.s2766695959194262286x5,none,(.seq ⟨[.int (.ofNat 0) 529]⟩ 0),⟨[]⟩⟩
noncomputable def ko_260 (P:Params):Obj:=⟨.type SL.s5856160107412720595x4,none,(.fields ⟨[.str w225 530,.str w226 531,.str w164 532,.int (.ofNat 199) 0,.int (.ofNat 2) 0,.int (.ofNat 0) 0,.int (.ofNat 0) 0,.int (.ofNat 3) 0,.ref 255,.bool true,.int (.ofNat 181) 0,.ref 256,.none,.ref 257,.ref 258,.ref 259,.int (.ofNat 535) 0,.int (.ofNat 199) 0,.str w164 536]⟩),⟨[]⟩⟩
noncomputable def ko_261 (P:Params):Obj:=⟨.type SL.s7174869446012820540x8,none,(.func ⟨w225,w226,fnP (stB 31 1),.stmts (fnB (stB 31 1)),fnS (stB 31 1),3,[],.ref 254,.none,.none,.str w223 431,none,.ref 260,.none,0⟩),⟨[]⟩⟩
noncomputable def ko_267 (P:Params):Obj:=⟨.type SL.s5856160107412720595x4,none,(.fields ⟨[.str w227 538,.str w228 539,.str w164 540,.int (.ofNat 202) 0,.int (.ofNat 1) 0,.int (.ofNat 0) 0,.int (.ofNat 0) 0,.int (.ofNat 3) 0,.ref 262,.bool true,.int (.ofNat 181) 0,.ref 263,.none,.ref 264,.ref 265,.ref 266,.int (.ofNat 545) 0,.int (.ofNat 202) 0,.str w164 546]⟩),⟨[]⟩⟩
noncomputable def ko_268 (P:Params):Obj:=⟨.type SL.s7174869446012820540x8,none,(.func ⟨w227,w228,fnP (stB 31 2),.stmts (fnB (stB 31 2)),fnS (stB 31 2),3,[],.none,.none,.none,.str w223 431,none,.ref 267,.none,0⟩),⟨[]⟩⟩
noncomputable def ko_274 (P:Params):Obj:=⟨.type SL.s5856160107412720595x4,none,(.fields ⟨[.str w229 548,.str w230 549,.str w164 550,.int (.ofNat 222) 0,.int (.ofNat 1) 0,.int (.ofNat 0) 0,.int (.ofNat 0) 0,.int (.ofNat 3) 0,.ref 269,.bool true,.int (.ofNat 181) 0,.ref 270,.none,.ref 271,.ref 272,.ref 273,.int (.ofNat 553) 0,.int (.ofNat 222) 0,.str w164 554]⟩),⟨[]⟩⟩
noncomputable def ko_275 (P:Params):Obj:=⟨.type SL.s7174869446012820540x8,none,(.func ⟨w229,w230,fnP (stB 31 3),.stmts (fnB (stB 31 3)),fnS (stB 31 3),3,[],.none,.none,.none,.str w223 431,none,.ref 274,.none,0⟩),⟨[]⟩⟩
noncomputable def ko_288 (P:Params):Obj:=⟨.type SL.s5856160107412720595x4,none,(.fields ⟨[.str w231 566,.str w232 567,.str w164 568,.int (.ofNat 250) 0,.int (.ofNat 2) 0,.int (.ofNat 0) 0,.int (.ofNat 0) 0,.int (.ofNat 3) 0,.ref 283,.bool true,.int (.ofNat 181) 0,.ref 284,.none,.ref 285,.ref 286,.ref 287,.int (.ofNat 573) 0,.int (.ofNat 250) 0,.str w164 574]⟩),⟨[]⟩⟩
noncomputable def ko_289 (P:Params):Obj:=⟨.type SL.s7174869446012820540x8,none,(.func ⟨w231,w232,fnP (stB 31 5),.stmts (fnB (stB 31 5)),fnS (stB 31 5),3,[],.none,.none,.none,.str w223 431,none,.ref 288,.none,0⟩),⟨[]⟩⟩
noncomputable def ko_295 (P:Params):Obj:=⟨.type SL.s5856160107412720595x4,none,(.fields ⟨[.str w233 576,.str w234 577,.str w164 578,.int (.ofNat 260) 0,.int (.ofNat 2) 0,.int (.ofNat 0) 0,.int (.ofNat 0) 0,.int (.ofNat 3) 0,.ref 290,.bool true,.int (.ofNat 181) 0,.ref 291,.none,.ref 292,.ref 293,.ref 294,.int (.ofNat 585) 0,.int (.ofNat 260) 0,.str w164 586]⟩),⟨[]⟩⟩
noncomputable def ko_296 (P:Params):Obj:=⟨.type SL.s7174869446012820540x8,none,(.func ⟨w233,w234,fnP (stB 31 6),.stmts (fnB (stB 31 6)),fnS (stB 31 6),3,[],.none,.none,.none,.str w223 431,none,.ref 295,.none,0⟩),⟨[]⟩⟩
noncomputable def ko_302 (P:Params):Obj:=⟨.type SL.s5856160107412720595x4,none,(.fields ⟨[.str w235 588,.str w236 589,.str w164 590,.int (.ofNat 280) 0,.int (.ofNat 4) 0,.int (.ofNat 0) 0,.int (.ofNat 0) 0,.int (.ofNat 3) 0,.ref 297,.bool true,.int (.ofNat 181) 0,.ref 298,.none,.ref 299,.ref 300,.ref 301,.int (.ofNat 595) 0,.int (.ofNat 280) 0,.str w164 596]⟩),⟨[]⟩⟩
noncomputable def ko_303 (P:Params):Obj:=⟨.type SL.s7174869446012820540x8,none,(.func ⟨w235,w236,fnP (stB 31 7),.stmts (fnB (stB 31 7)),fnS (stB 31 7),3,[],.none,.none,.none,.str w223 431,none,.ref 302,.none,0⟩),⟨[]⟩⟩
noncomputable def ko_344 (P:Params):Obj:=⟨.type SL.s5856160107412720595x4,none,(.fields ⟨[.str w237 644,.str w238 645,.str w164 646,.int (.ofNat 332) 0,.int (.ofNat 1) 0,.int (.ofNat 0) 0,.int (.ofNat 0) 0,.int (.ofNat 3) 0,.ref 339,.bool true,.int (.ofNat 181) 0,.ref 340,.none,.ref 341,.ref 342,.ref 343,.int (.ofNat 649) 0,.int (.ofNat 332) 0,.str w164 650]⟩),⟨[]⟩⟩
noncomputable def ko_345 (P:Params):Obj:=⟨.type SL.s7174869446012820540x8,none,(.func ⟨w237,w238,fnP (stB 31 13),.stmts (fnB (stB 31 13)),fnS (stB 31 13),3,[],.none,.none,.none,.str w223 431,none,.ref 344,.none,0⟩),⟨[]⟩⟩
noncomputable def ko_347 (P:Params):Obj:=⟨.type SL.s14018661285674007319x4,none,(.dict ⟨[eP P w209 515 (.str w223 431),eP P w210 519 (.int (.ofNat 191) 518),eP P w206 528 (.ref 253),eP P w225 537 (.ref 261),eP P w227 547 (.ref 268),eP P w229 555 (.ref 275),eP P w239 565 (.ref 282),eP P w231 575 (.ref 289),eP P w233 587 (.ref 296),eP P w235 597 (.ref 303),eP P w240 607 (.ref 310),eP P w241 617 (.ref 317),eP P w242 626 (.ref 324),eP P w243 633 (.ref 331),eP P w244 643 (.ref 338),eP P w237 651 (.ref 345),eP P w211 656 (.ref 346),eP P w212 658 (.ref 349),eP P w213 660 (.ref 350),eP P w2 661 (.none)]⟩ 4),⟨[]⟩⟩
noncomputable def ko_348 (P:Params):Obj:=⟨.type SL.s17162191345867700912x4,none,(.cls ⟨w191,[.type SL.s2742458400755230247x6],[.ref 348,.type SL.s2742458400755230247x6],347,w191,true,[],[],false,none,false⟩),⟨[none,none,some (.str w191 508),some (.str w191 516),some (.builtin SL.s11443829558043349243x14),some (.bool true)]⟩⟩
noncomputable def ko_365 (P:Params):Obj:=⟨.type SL.s5856160107412720595x4,none,(.fields ⟨[.str w206 678,.str w245 679,.str w164 680,.int (.ofNat 342) 0,.int (.ofNat 4) 0,.int (.ofNat 0) 0,.int (.ofNat 0) 0,.int (.ofNat 3) 0,.ref 360,.bool true,.int (.ofNat 181) 0,.ref 361,.none,.ref 362,.ref 363,.ref 364,.int (.ofNat 685) 0,.int (.ofNat 342) 0,.str w164 686]⟩),⟨[]⟩⟩
noncomputable def ko_366 (P:Params):Obj:=⟨.type SL.s7174869446012820540x8,none,(.func ⟨w206,w245,fnP (stB 33 0),.stmts (fnB (stB 33 0)),fnS (stB 33 0),3,[],.none,.none,.none,.str w246 664,none,.ref 365,.none,0⟩),⟨[]⟩⟩
noncomputable def ko_368 (P:Params):Obj:=⟨.type SL.s14018661285674007319x4,none,(.dict ⟨[eP P w209 673 (.str w246 664),eP P w210 677 (.int (.ofNat 340) 676),eP P w206 687 (.ref 366),eP P w211 700 (.ref 367),eP P w212 702 (.ref 370),eP P w213 704 (.ref 371),eP P w2 705 (.none)]⟩ 4),⟨[]⟩⟩
noncomputable def ko_369 (P:Params):Obj:=⟨.type SL.s17162191345867700912x4,none,(.cls ⟨w192,[.type SL.s2742458400755230247x6],[.ref 369,.type SL.s2742458400755230247x6],368,w192,true,[],[],false,none,false⟩),⟨[none,none,some (.str w192 666),some (.str w192 674),some (.builtin SL.s11443829558043349243x14),some (.bool true)]⟩⟩
noncomputable def ko_386 (P:Params):Obj:=⟨.type SL.s5856160107412720595x4,none,(.fields ⟨[.str w206 720,.str w247 721,.str w164 722,.int (.ofNat 357) 0,.int (.ofNat 5) 0,.int (.ofNat 0) 0,.int (.ofNat 0) 0,.int (.ofNat 3) 0,.ref 381,.bool true,.int (.ofNat 181) 0,.ref 382,.none,.ref 383,.ref 384,.ref 385,.int (.ofNat 728) 0,.int (.ofNat 357) 0,.str w164 729]⟩),⟨[]⟩⟩
noncomputable def ko_387 (P:Params):Obj:=⟨.type SL.s7174869446012820540x8,none,(.func ⟨w206,w247,fnP (stB 34 0),.stmts (fnB (stB 34 0)),fnS (stB 34 0),3,[],.none,.none,.none,.str w246 664,none,.ref 386,.none,0⟩),⟨[]⟩⟩
noncomputable def ko_389 (P:Params):Obj:=⟨.type SL.s14018661285674007319x4,none,(.dict ⟨[eP P w209 715 (.str w246 664),eP P w210 719 (.int (.ofNat 355) 718),eP P w206 730 (.ref 387),eP P w211 745 (.ref 388),eP P w212 747 (.ref 391),eP P w213 749 (.ref 392),eP P w2 750 (.none)]⟩ 4),⟨[]⟩⟩
noncomputable def ko_390 (P:Params):Obj:=⟨.type SL.s17162191345867700912x4,none,(.cls ⟨w193,[.type SL.s2742458400755230247x6],[.ref 390,.type SL.s2742458400755230247x6],389,w193,true,[],[],false,none,false⟩),⟨[none,none,some (.str w193 708),some (.str w193 716),some (.builtin SL.s11443829558043349243x14),some (.bool true)]⟩⟩
noncomputable def ko_407 (P:Params):Obj:=⟨.type SL.s5856160107412720595x4,none,(.fields ⟨[.str w206 765,.str w248 766,.str w164 767,.int (.ofNat 374) 0,.int (.ofNat 1) 0,.int (.ofNat 0) 0,.int (.ofNat 0) 0,.int (.ofNat 3) 0,.ref 402,.bool true,.int (.ofNat 181) 0,.ref 403,.none,.ref 404,.ref 405,.ref 406,.int (.ofNat 769) 0,.int (.ofNat 374) 0,.str w164 770]⟩),⟨[]⟩⟩
noncomputable def ko_408 (P:Params):Obj:=⟨.type SL.s7174869446012820540x8,none,(.func ⟨w206,w248,fnP (stB 35 0),.stmts (fnB (stB 35 0)),fnS (stB 35 0),3,[],.none,.none,.none,.str w246 664,none,.ref 407,.none,0⟩),⟨[]⟩⟩
noncomputable def ko_409 (P:Params):Obj:=⟨.type SL.s2766695959194262286x5,none,(.seq ⟨[.str w249 772,.str w249 773]⟩ 0),⟨[]⟩⟩
noncomputable def ko_415 (P:Params):Obj:=⟨.type SL.s5856160107412720595x4,none,(.fields ⟨[.str w250 774,.str w251 775,.str w164 776,.int (.ofNat 385) 0,.int (.ofNat 5) 0,.int (.ofNat 0) 0,.int (.ofNat 0) 0,.int (.ofNat 3) 0,.ref 410,.bool true,.int (.ofNat 181) 0,.ref 411,.none,.ref 412,.ref 413,.ref 414,.int (.ofNat 783) 0,.int (.ofNat 385) 0,.str w164 784]⟩),⟨[]⟩⟩
noncomputable def ko_416 (P:Params):Obj:=⟨.type SL.s7174869446012820540x8,none,(.func ⟨w250,w251,fnP (stB 35 1),.stmts (fnB (stB 35 1)),fnS (stB 35 1),3,[],.ref 409,.none,.none,.str w246 664,none,.ref 415,.none,0⟩),⟨[]⟩⟩
noncomputable def ko_425 (P:Params):Obj:=⟨.type SL.s14018661285674007319x4,none,(.dict ⟨[eP P w209 760 (.str w246 664),eP P w210 764 (.int (.ofNat 372) 763),eP P w206 771 (.ref 408),eP P w250 785 (.ref 416),eP P w244 794 (.ref 423),eP P w211 804 (.ref 424),eP P w212 806 (.ref 427),eP P w213 808 (.ref 428),eP P w2 809 (.none)]⟩ 4),⟨[]⟩⟩
noncomputable def ko_426 (P:Params):Obj:=⟨.type SL.s17162191345867700912x4,none,(.cls ⟨w194,[.type SL.s2742458400755230247x6],[.ref 426,.type SL.s2742458400755230247x6],425,w194,true,[],[],false,none,false⟩),⟨[none,none,some (.str w194 753),some (.str w194 761),some (.builtin SL.s11443829558043349243x14),some (.bool true)]⟩⟩
noncomputable def ko_443 (P:Params):Obj:=⟨.type SL.s5856160107412720595x4,none,(.fields ⟨[.str w206 826,.str w252 827,.str w164 828,.int (.ofNat 402) 0,.int (.ofNat 3) 0,.int (.ofNat 0) 0,.int (.ofNat 0) 0,.int (.ofNat 3) 0,.ref 438,.bool true,.int (.ofNat 181) 0,.ref 439,.none,.ref 440,.ref 441,.ref 442,.int (.ofNat 832) 0,.int (.ofNat 402) 0,.str w164 833]⟩),⟨[]⟩⟩
noncomputable def ko_444 (P:Params):Obj:=⟨.type SL.s7174869446012820540x8,none,(.func ⟨w206,w252,fnP (stB 37 0),.stmts (fnB (stB 37 0)),fnS (stB 37 0),3,[],.none,.none,.none,.str w253 812,none,.ref 443,.none,0⟩),⟨[]⟩⟩
noncomputable def ko_446 (P:Params):Obj:=⟨.type SL.s14018661285674007319x4,none,(.dict ⟨[eP P w209 821 (.str w253 812),eP P w210 825 (.int (.ofNat 400) 824),eP P w206 834 (.ref 444),eP P w211 840 (.ref 445),eP P w212 842 (.ref 448),eP P w213 844 (.ref 449),eP P w2 845 (.none)]⟩ 4),⟨[]⟩⟩
noncomputable def ko_447 (P:Params):Obj:=⟨.type SL.s17162191345867700912x4,none,(.cls ⟨w195,[.type SL.s2742458400755230247x6],[.ref 447,.type SL.s2742458400755230247x6],446,w195,true,[],[],false,none,false⟩),⟨[none,none,some (.str w195 814),some (.str w195 822),some (.builtin SL.s11443829558043349243x14),some (.bool true)]⟩⟩
noncomputable def ko_464 (P:Params):Obj:=⟨.type SL.s5856160107412720595x4,none,(.fields ⟨[.str w206 860,.str w254 861,.str w164 862,.int (.ofNat 410) 0,.int (.ofNat 3) 0,.int (.ofNat 0) 0,.int (.ofNat 0) 0,.int (.ofNat 3) 0,.ref 459,.bool true,.int (.ofNat 181) 0,.ref 460,.none,.ref 461,.ref 462,.ref 463,.int (.ofNat 866) 0,.int (.ofNat 410) 0,.str w164 867]⟩),⟨[]⟩⟩
noncomputable def ko_465 (P:Params):Obj:=⟨.type SL.s7174869446012820540x8,none,(.func ⟨w206,w254,fnP (stB 38 0),.stmts (fnB (stB 38 0)),fnS (stB 38 0),3,[],.none,.none,.none,.str w253 812,none,.ref 464,.none,0⟩),⟨[]⟩⟩
noncomputable def ko_471 (P:Params):Obj:=⟨.type SL.s5856160107412720595x4,none,(.fields ⟨[.str w153 869,.str w255 870,.str w164 871,.int (.ofNat 416) 0,.int (.ofNat 2) 0,.int (.ofNat 0) 0,.int (.ofNat 0) 0,.int (.ofNat 3) 0,.ref 466,.bool true,.int (.ofNat 181) 0,.ref 467,.none,.ref 468,.ref 469,.ref 470,.int (.ofNat 875) 0,.int (.ofNat 416) 0,.str w164 876]⟩),⟨[]⟩⟩
noncomputable def ko_472 (P:Params):Obj:=⟨.type SL.s7174869446012820540x8,none,(.func ⟨w153,w255,fnP (stB 38 1),.stmts (fnB (stB 38 1)),fnS (stB 38 1),3,[],.none,.none,.none,.str w253 812,none,.ref 471,.none,0⟩),⟨[]⟩⟩
noncomputable def ko_492 (P:Params):Obj:=⟨.type SL.s5856160107412720595x4,none,(.fields ⟨[.str w256 893,.str w257 894,.str w164 895,.int (.ofNat 430) 0,.int (.ofNat 2) 0,.int (.ofNat 0) 0,.int (.ofNat 0) 0,.int (.ofNat 3) 0,.ref 487,.bool true,.int (.ofNat 181) 0,.ref 488,.none,.ref 489,.ref 490,.ref 491,.int (.ofNat 899) 0,.int (.ofNat 430) 0,.str w164 900]⟩),⟨[]⟩⟩
noncomputable def ko_493 (P:Params):Obj:=⟨.type SL.s7174869446012820540x8,none,(.func ⟨w256,w257,fnP (stB 38 4),.stmts (fnB (stB 38 4)),fnS (stB 38 4),3,[],.none,.none,.none,.str w253 812,none,.ref 492,.none,0⟩),⟨[]⟩⟩
noncomputable def ko_499 (P:Params):Obj:=⟨.type SL.s5856160107412720595x4,none,(.fields ⟨[.str w258 902,.str w259 903,.str w164 904,.int (.ofNat 441) 0,.int (.ofNat 5) 0,.int (.ofNat 0) 0,.int (.ofNat 0) 0,.int (.ofNat 3) 0,.ref 494,.bool true,.int (.ofNat 181) 0,.ref 495,.none,.ref 496,.ref 497,.ref 498,.int (.ofNat 911) 0,.int (.ofNat 441) 0,.str w164 912]⟩),⟨[]⟩⟩
noncomputable def ko_500 (P:Params):Obj:=⟨.type SL.s7174869446012820540x8,none,(.func ⟨w258,w259,fnP (stB 38 5),.stmts (fnB (stB 38 5)),fnS (stB 38 5),3,[],.none,.none,.none,.str w253 812,none,.ref 499,.none,0⟩),⟨[]⟩⟩
noncomputable def ko_506 (P:Params):Obj:=⟨.type SL.s5856160107412720595x4,none,(.fields ⟨[.str w260 914,.str w261 915,.str w164 916,.int (.ofNat 450) 0,.int (.ofNat 2) 0,.int (.ofNat 0) 0,.int (.ofNat 0) 0,.int (.ofNat 3) 0,.ref 501,.bool true,.int (.ofNat 181) 0,.ref 502,.none,.ref 503,.ref 504,.ref 505,.int (.ofNat 920) 0,.int (.ofNat 450) 0,.str w164 921]⟩),⟨[]⟩⟩
noncomputable def ko_507 (P:Params):Obj:=⟨.type SL.s7174869446012820540x8,none,(.func ⟨w260,w261,fnP (stB 38 6),.stmts (fnB (stB 38 6)),fnS (stB 38 6),3,[],.none,.none,.none,.str w253 812,none,.ref 506,.none,0⟩),⟨[]⟩⟩
noncomputable def ko_509 (P:Params):Obj:=⟨.type SL.s14018661285674007319x4,none,(.dict ⟨[eP P w209 855 (.str w253 812),eP P w210 859 (.int (.ofNat 408) 858),eP P w206 868 (.ref 465),eP P w153 877 (.ref 472),eP P w262 885 (.ref 479),eP P w263 892 (.ref 486),eP P w256 901 (.ref 493),eP P w258 913 (.ref 500),eP P w260 922 (.ref 507),eP P w211 927 (.ref 508),eP P w212 929 (.ref 511),eP P w213 931 (.ref 512),eP P w2 932 (.none)]⟩ 4),⟨[]⟩⟩
noncomputable def ko_510 (P:Params):Obj:=⟨.type SL.s17162191345867700912x4,none,(.cls ⟨w196,[.type SL.s2742458400755230247x6],[.ref 510,.type SL.s2742458400755230247x6],509,w196,true,[],[],false,none,false⟩),⟨[none,none,some (.str w196 848),some (.str w196 856),some (.builtin SL.s11443829558043349243x14),some (.bool true)]⟩⟩
noncomputable def ko_520 (P:Params):Obj:=⟨.type SL.s5856160107412720595x4,none,(.fields ⟨[.str w197 937,.str w197 938,.str w164 939,.int (.ofNat 456) 0,.int (.ofNat 0) 0,.int (.ofNat 0) 0,.int (.ofNat 0) 0,.int (.ofNat 3) 0,.ref 515,.bool true,.int (.ofNat 181) 0,.ref 516,.none,.ref 517,.ref 518,.ref 519,.int (.ofNat 940) 0,.int (.ofNat 456) 0,.str w164 941]⟩),⟨[]⟩⟩
noncomputable def ko_521 (P:Params):Obj:=⟨.type SL.s7174869446012820540x8,none,(.func ⟨w197,w197,fnP (stA 40),.stmts (fnB (stA 40)),fnS (stA 40),3,[],.none,.none,.none,.str w264 935,none,.ref 520,.none,0⟩),⟨[]⟩⟩
noncomputable def ko_527 (P:Params):Obj:=⟨.type SL.s5856160107412720595x4,none,(.fields ⟨[.str w198 943,.str w198 944,.str w164 945,.int (.ofNat 458) 0,.int (.ofNat 0) 0,.int (.ofNat 0) 0,.int (.ofNat 0) 0,.int (.ofNat 3) 0,.ref 522,.bool true,.int (.ofNat 181) 0,.ref 523,.none,.ref 524,.ref 525,.ref 526,.int (.ofNat 946) 0,.int (.ofNat 458) 0,.str w164 947]⟩),⟨[]⟩⟩
noncomputable def ko_528 (P:Params):Obj:=⟨.type SL.s7174869446012820540x8,none,(.func ⟨w198,w198,fnP (stA 41),.stmts (fnB (stA 41)),fnS (stA 41),3,[],.none,.none,.none,.str w264 935,none,.ref 527,.none,0⟩),⟨[]⟩⟩
noncomputable def ko_534 (P:Params):Obj:=⟨.type SL.s5856160107412720595x4,none,(.fields ⟨[.str w199 949,.str w199 950,.str w164 951,.int (.ofNat 460) 0,.int (.ofNat 1) 0,.int (.ofNat 0) 0,.int (.ofNat 0) 0,.int (.ofNat 3) 0,.ref 529,.bool true,.int (.ofNat 181) 0,.ref 530,.none,.ref 531,.ref 532,.ref 533,.int (.ofNat 955) 0,.int (.ofNat 460) 0,.str w164 956]⟩),⟨[]⟩⟩
noncomputable def ko_535 (P:Params):Obj:=⟨.type SL.s7174869446012820540x8,none,(.func ⟨w199,w199,fnP (stA 42),.stmts (fnB (stA 42)),fnS (stA 42),3,[],.none,.none,.none,.str w264 935,none,.ref 534,.none,0⟩),⟨[]⟩⟩
noncomputable def ko_543 (P:Params):Obj:=⟨.type SL.s2766695959194262286x5,none,(.seq ⟨[.none]⟩ 0),⟨[]⟩⟩
noncomputable def ko_549 (P:Params):Obj:=⟨.type SL.s5856160107412720595x4,none,(.fields ⟨[.str w206 974,.str w265 975,.str w164 976,.int (.ofNat 475) 0,.int (.ofNat 5) 0,.int (.ofNat 0) 0,.int (.ofNat 0) 0,.int (.ofNat 3) 0,.ref 544,.bool true,.int (.ofNat 181) 0,.ref 545,.none,.ref 546,.ref 547,.ref 548,.int (.ofNat 982) 0,.int (.ofNat 475) 0,.str w164 983]⟩),⟨[]⟩⟩
noncomputable def ko_550 (P:Params):Obj:=⟨.type SL.s7174869446012820540x8,none,(.func ⟨w206,w265,fnP (stB 45 0),.stmts (fnB (stB 45 0)),fnS (stB 45 0),3,[],.ref 543,.none,.none,.str w266 958,none,.ref 549,.none,0⟩),⟨[]⟩⟩
noncomputable def ko_556 (P:Params):Obj:=⟨.type SL.s5856160107412720595x4,none,(.fields ⟨[.str w267 985,.str w268 986,.str w164 987,.int (.ofNat 491) 0,.int (.ofNat 1) 0,.int (.ofNat 0) 0,.int (.ofNat 0) 0,.int (.ofNat 3) 0,.ref 551,.bool true,.int (.ofNat 181) 0,.ref 552,.none,.ref 553,.ref 554,.ref 555,.int (.ofNat 990) 0,.int (.ofNat 491) 0,.str w164 991]⟩),⟨[]⟩⟩
noncomputable def ko_557 (P:Params):Obj:=⟨.type SL.s7174869446012820540x8,none,(.func ⟨w267,w268,fnP (stB 45 1),.stmts (fnB (stB 45 1)),fnS (stB 45 1),3,[],.none,.none,.none,.str w266 958,none,.ref 556,.none,0⟩),⟨[]⟩⟩
noncomputable def ko_563 (P:Params):Obj:=⟨.type SL.s5856160107412720595x4,none,(.fields ⟨[.str w269 993,.str w270 994,.str w164 995,.int (.ofNat 496) 0,.int (.ofNat 2) 0,.int (.ofNat 0) 0,.int (.ofNat 0) 0,.int (.ofNat 3) 0,.ref 558,.bool true,.int (.ofNat 181) 0,.ref 559,.none,.ref 560,.ref 561,.ref 562,.int (.ofNat 998) 0,.int (.ofNat 496) 0,.str w164 999]⟩),⟨[]⟩⟩
noncomputable def ko_564 (P:Params):Obj:=⟨.type SL.s7174869446012820540x8,none,(.func ⟨w269,w270,fnP (stB 45 2),.stmts (fnB (stB 45 2)),fnS (stB 45 2),3,[],.none,.none,.none,.str w266 958,none,.ref 563,.none,0⟩),⟨[]⟩⟩
noncomputable def ko_570 (P:Params):Obj:=⟨.type SL.s5856160107412720595x4,none,(.fields ⟨[.str w229 1001,.str w271 1002,.str w164 1003,.int (.ofNat 499) 0,.int (.ofNat 2) 0,.int (.ofNat 0) 0,.int (.ofNat 0) 0,.int (.ofNat 3) 0,.ref 565,.bool true,.int (.ofNat 181) 0,.ref 566,.none,.ref 567,.ref 568,.ref 569,.int (.ofNat 1006) 0,.int (.ofNat 499) 0,.str w164 1007]⟩),⟨[]⟩⟩
noncomputable def ko_571 (P:Params):Obj:=⟨.type SL.s7174869446012820540x8,none,(.func ⟨w229,w271,fnP (stB 45 3),.stmts (fnB (stB 45 3)),fnS (stB 45 3),3,[],.none,.none,.none,.str w266 958,none,.ref 570,.none,0⟩),⟨[]⟩⟩
noncomputable def ko_577 (P:Params):Obj:=⟨.type SL.s5856160107412720595x4,none,(.fields ⟨[.str w272 1009,.str w273 1010,.str w164 1011,.int (.ofNat 505) 0,.int (.ofNat 2) 0,.int (.ofNat 0) 0,.int (.ofNat 0) 0,.int (.ofNat 3) 0,.ref 572,.bool true,.int (.ofNat 181) 0,.ref 573,.none,.ref 574,.ref 575,.ref 576,.int (.ofNat 1015) 0,.int (.ofNat 505) 0,.str w164 1016]⟩),⟨[]⟩⟩
noncomputable def ko_578 (P:Params):Obj:=⟨.type SL.s7174869446012820540x8,none,(.func ⟨w272,w273,fnP (stB 45 4),.stmts (fnB (stB 45 4)),fnS (stB 45 4),3,[],.none,.none,.none,.str w266 958,none,.ref 577,.none,0⟩),⟨[]⟩⟩
noncomputable def ko_591 (P:Params):Obj:=⟨.type SL.s5856160107412720595x4,none,(.fields ⟨[.str w274 1026,.str w275 1027,.str w164 1028,.int (.ofNat 517) 0,.int (.ofNat 1) 0,.int (.ofNat 0) 0,.int (.ofNat 0) 0,.int (.ofNat 3) 0,.ref 586,.bool true,.int (.ofNat 181) 0,.ref 587,.none,.ref 588,.ref 589,.ref 590,.int (.ofNat 1030) 0,.int (.ofNat 517) 0,.str w164 1031]⟩),⟨[]⟩⟩
noncomputable def ko_592 (P:Params):Obj:=⟨.type SL.s7174869446012820540x8,none,(.func ⟨w274,w275,fnP (stB 45 6),.stmts (fnB (stB 45 6)),fnS (stB 45 6),3,[],.none,.none,.none,.str w266 958,none,.ref 591,.none,0⟩),⟨[]⟩⟩
noncomputable def ko_619 (P:Params):Obj:=⟨.type SL.s5856160107412720595x4,none,(.fields ⟨[.str w276 1054,.str w277 1055,.str w164 1056,.int (.ofNat 533) 0,.int (.ofNat 1) 0,.int (.ofNat 0) 0,.int (.ofNat 0) 0,.int (.ofNat 3) 0,.ref 614,.bool true,.int (.ofNat 181) 0,.ref 615,.none,.ref 616,.ref 617,.ref 618,.int (.ofNat 1058) 0,.int (.ofNat 533) 0,.str w164 1059]⟩),⟨[]⟩⟩
noncomputable def ko_620 (P:Params):Obj:=⟨.type SL.s7174869446012820540x8,none,(.func ⟨w276,w277,fnP (stB 45 10),.stmts (fnB (stB 45 10)),fnS (stB 45 10),3,[],.none,.none,.none,.str w266 958,none,.ref 619,.none,0⟩),⟨[]⟩⟩
noncomputable def ko_629 (P:Params):Obj:=⟨.type SL.s14018661285674007319x4,none,(.dict ⟨[eP P w209 969 (.str w266 958),eP P w210 973 (.int (.ofNat 473) 972),eP P w206 984 (.ref 550),eP P w267 992 (.ref 557),eP P w269 1000 (.ref 564),eP P w229 1008 (.ref 571),eP P w272 1017 (.ref 578),eP P w219 1025 (.ref 585),eP P w274 1032 (.ref 592),eP P w278 1039 (.ref 599),eP P w279 1046 (.ref 606),eP P w280 1053 (.ref 613),eP P w276 1060 (.ref 620),eP P w281 1068 (.ref 627),eP P w211 1082 (.ref 628),eP P w212 1084 (.ref 631),eP P w213 1086 (.ref 632),eP P w2 1087 (.none)]⟩ 4),⟨[]⟩⟩
noncomputable def ko_630 (P:Params):Obj:=⟨.type SL.s17162191345867700912x4,none,(.cls ⟨w201,[.type SL.s2742458400755230247x6],[.ref 630,.type SL.s2742458400755230247x6],629,w201,true,[],[],false,none,false⟩),⟨[none,none,some (.str w201 962),some (.str w201 970),some (.builtin SL.s11443829558043349243x14),some (.bool true)]⟩⟩
noncomputable def ko_640 (P:Params):Obj:=⟨.type SL.s5856160107412720595x4,none,(.fields ⟨[.str w202 1092,.str w202 1093,.str w164 1094,.int (.ofNat 542) 0,.int (.ofNat 2) 0,.int (.ofNat 0) 0,.int (.ofNat 0) 0,.int (.ofNat 3) 0,.ref 635,.bool true,.int (.ofNat 181) 0,.ref 636,.none,.ref 637,.ref 638,.ref 639,.int (.ofNat 1099) 0,.int (.ofNat 542) 0,.str w164 1100]⟩),⟨[]⟩⟩
noncomputable def ko_641 (P:Params):Obj:=⟨.type SL.s7174869446012820540x8,none,(.func ⟨w202,w202,fnP (stA 47),.stmts (fnB (stA 47)),fnS (stA 47),3,[],.none,.none,.none,.str w160 1090,none,.ref 640,.none,0⟩),⟨[]⟩⟩
noncomputable def ko_647 (P:Params):Obj:=⟨.type SL.s5856160107412720595x4,none,(.fields ⟨[.str w203 1102,.str w203 1103,.str w164 1104,.int (.ofNat 548) 0,.int (.ofNat 1) 0,.int (.ofNat 0) 0,.int (.ofNat 0) 0,.int (.ofNat 3) 0,.ref 642,.bool true,.int (.ofNat 181) 0,.ref 643,.none,.ref 644,.ref 645,.ref 646,.int (.ofNat 1107) 0,.int (.ofNat 548) 0,.str w164 1108]⟩),⟨[]⟩⟩
noncomputable def ko_648 (P:Params):Obj:=⟨.type SL.s7174869446012820540x8,none,(.func ⟨w203,w203,fnP (stA 48),.stmts (fnB (stA 48)),fnS (stA 48),3,[],.none,.none,.none,.str w160 1090,none,.ref 647,.none,0⟩),⟨[]⟩⟩
noncomputable def ko_652 (P:Params):Obj:=⟨.type SL.s5856160107412720595x4,none,(.fields ⟨[.str w204 1110,.str w204 1111,.str w164 1112,.int (.ofNat 551) 0,.int (.ofNat 1) 0,.int (.ofNat 0) 0,.int (.ofNat 0) 0,.int (.ofNat 3) 0,.ref 649,.bool true,.int (.ofNat 181) 0,.ref 650,.none,.none,.none,.ref 651,.int (.ofNat 1113) 0,.int (.ofNat 551) 0,.str w164 1114]⟩),⟨[]⟩⟩
noncomputable def ko_653 (P:Params):Obj:=⟨.type SL.s7174869446012820540x8,none,(.func ⟨w204,w204,fnP (stA 49),.stmts (fnB (stA 49)),fnS (stA 49),3,[],.none,.none,.none,.str w160 1090,none,.ref 652,.none,0⟩),⟨[]⟩⟩
noncomputable def ko_659 (P:Params):Obj:=⟨.type SL.s5856160107412720595x4,none,(.fields ⟨[.str w205 1116,.str w205 1117,.str w164 1118,.int (.ofNat 558) 0,.int (.ofNat 1) 0,.int (.ofNat 0) 0,.int (.ofNat 0) 0,.int (.ofNat 3) 0,.ref 654,.bool true,.int (.ofNat 181) 0,.ref 655,.none,.ref 656,.ref 657,.ref 658,.int (.ofNat 1139) 0,.int (.ofNat 558) 0,.str w164 1140]⟩),⟨[]⟩⟩
noncomputable def ko_660 (P:Params):Obj:=⟨.type SL.s7174869446012820540x8,none,(.func ⟨w205,w205,fnP (stA 50),.stmts (fnB (stA 50)),fnS (stA 50),3,[],.none,.none,.none,.str w160 1090,none,.ref 659,.none,0⟩),⟨[]⟩⟩
noncomputable def kL (P:Params):Frag:=[(0,ko_0 P),(2,ko_2 P),(3,ko_3 P),(29,ko_29 P),(35,ko_35 P),(36,ko_36 P),(38,ko_38 P),(39,ko_39 P),(49,ko_49 P),(50,ko_50 P),(56,ko_56 P),(57,ko_57 P),(63,ko_63 P),(64,ko_64 P),(70,ko_70 P),(71,ko_71 P),(77,ko_77 P),(78,ko_78 P),(84,ko_84 P),(85,ko_85 P),(91,ko_91 P),(92,ko_92 P),(98,ko_98 P),(99,ko_99 P),(105,ko_105 P),(106,ko_106 P),(112,ko_112 P),(113,ko_113 P),(119,ko_119 P),(120,ko_120 P),(126,ko_126 P),(127,ko_127 P),(133,ko_133 P),(134,ko_134 P),(140,ko_140 P),(141,ko_141 P),(154,ko_154 P),(155,ko_155 P),(178,ko_178 P),(179,ko_179 P),(196,ko_196 P),(197,ko_197 P),(199,ko_199 P),(200,ko_200 P),(210,ko_210 P),(211,ko_211 P),(217,ko_217 P),(218,ko_218 P),(224,ko_224 P),(225,ko_225 P),(231,ko_231 P),(232,ko_232 P),(238,ko_238 P),(239,ko_239 P),(252,ko_252 P),(253,ko_253 P),(254,ko_254 P),(260,ko_260 P),(261,ko_261 P),(267,ko_267 P),(268,ko_268 P),(274,ko_274 P),(275,ko_275 P),(288,ko_288 P),(289,ko_289 P),(295,ko_295 P),(296,ko_296 P),(302,ko_302 P),(303,ko_303 P),(344,ko_344 P),(345,ko_345 P),(347,ko_347 P),(348,ko_348 P),(365,ko_365 P),(366,ko_366 P),(368,ko_368 P),(369,ko_369 P),(386,ko_386 P),(387,ko_387 P),(389,ko_389 P),(390,ko_390 P),(407,ko_407 P),(408,ko_408 P),(409,ko_409 P),(415,ko_415 P),(416,ko_416 P),(425,ko_425 P),(426,ko_426 P),(443,ko_443 P),(444,ko_444 P),(446,ko_446 P),(447,ko_447 P),(464,ko_464 P),(465,ko_465 P),(471,ko_471 P),(472,ko_472 P),(492,ko_492 P),(493,ko_493 P),(499,ko_499 P),(500,ko_500 P),(506,ko_506 P),(507,ko_507 P),(509,ko_509 P),(510,ko_510 P),(520,ko_520 P),(521,ko_521 P),(527,ko_527 P),(528,ko_528 P),(534,ko_534 P),(535,ko_535 P),(543,ko_543 P),(549,ko_549 P),(550,ko_550 P),(556,ko_556 P),(557,ko_557 P),(563,ko_563 P),(564,ko_564 P),(570,ko_570 P),(571,ko_571 P),(577,ko_577 P),(578,ko_578 P),(591,ko_591 P),(592,ko_592 P),(619,ko_619 P),(620,ko_620 P),(629,ko_629 P),(630,ko_630 P),(640,ko_640 P),(641,ko_641 P),(647,ko_647 P),(648,ko_648 P),(652,ko_652 P),(653,ko_653 P),(659,ko_659 P),(660,ko_660 P)]
noncomputable def ktop (P:Params):KT:=(.node (some (ko_0 P)) (.node none (.node (some (ko_3 P)) (.node none (.node none (.node none (.node (some (ko_63 P)) (.node (some (ko_127 P)) .nil .nil) (.node none .nil (.node (some (ko_447 P)) .nil .nil))) (.node none (.node none (.node none (.node (some (ko_543 P)) .nil .nil) .nil) (.node (some (ko_415 P)) .nil .nil)) .nil)) (.node none (.node none (.node none (.node none (.node (some (ko_527 P)) .nil .nil) .nil) .nil) (.node none (.node none (.node (some (ko_591 P)) .nil .nil) .nil) .nil)) (.node none (.node none (.node (some (ko_303 P)) .nil .nil) .nil) (.node (some (ko_239 P)) .nil .nil)))) (.node none (.node (some (ko_39 P)) (.node (some (ko_71 P)) (.node none .nil (.node none (.node (some (ko_647 P)) .nil .nil) .nil)) (.node (some (ko_199 P)) .nil .nil)) (.node none (.node none (.node (some (ko_295 P)) .nil .nil) .nil) (.node (some (ko_231 P)) .nil .nil))) (.node none (.node none (.node none (.node none (.node (some (ko_535 P)) .nil .nil) .nil) (.node (some (ko_407 P)) .nil .nil)) (.node none .nil (.node (some (ko_471 P)) .nil .nil))) (.node (some (ko_119 P)) .nil .nil)))) (.node none (.node none (.node (some (ko_35 P)) (.node none (.node none .nil (.node (some (ko_387 P)) .nil .nil)) .nil) (.node (some (ko_99 P)) .nil .nil)) (.node none (.node none (.node none (.node (some (ko_275 P)) .nil .nil) (.node none (.node (some (ko_659 P)) .nil .nil) .nil)) (.node (some (ko_211 P)) .nil .nil)) (.node none (.node (some (ko_179 P)) (.node none (.node (some (ko_563 P)) .nil .nil) .nil) .nil) (.node none .nil (.node (some (ko_499 P)) .nil .nil))))) (.node none (.node none (.node none (.node none (.node (some (ko_267 P)) .nil .nil) .nil) .nil) (.node none .nil (.node none (.node none (.node (some (ko_619 P)) .nil .nil) .nil) .nil))) (.node none (.node (some (ko_91 P)) (.node (some (ko_155 P)) .nil .nil) (.node none (.node (some (ko_347 P)) .nil .nil) .nil)) (.node none (.node none (.node none (.node (some (ko_571 P)) .nil .nil) .nil) (.node (some (ko_443 P)) .nil .nil)) (.node none .nil (.node (some (ko_507 P)) .nil .nil))))))) (.node none (.node none (.node none (.node none (.node none (.node none .nil (.node none (.node (some (ko_641 P)) .nil .nil) .nil)) (.node none (.node none (.node (some (ko_577 P)) .nil .nil) .nil) .nil)) (.node none (.node none (.node (some (ko_289 P)) .nil .nil) .nil) (.node (some (ko_225 P)) .nil .nil))) (.node (some (ko_49 P)) (.node none .nil (.node none .nil (.node (some (ko_465 P)) .nil .nil))) (.node (some (ko_113 P)) .nil (.node none (.node (some (ko_369 P)) .nil .nil) .nil)))) (.node none (.node none (.node none (.node none (.node none (.node (some (ko_521 P)) .nil .nil) .nil) .nil) .nil) (.node (some (ko_105 P)) (.node none .nil (.node (some (ko_425 P)) .nil .nil)) .nil)) (.node (some (ko_57 P)) (.node none (.node none .nil (.node (some (ko_409 P)) .nil .nil)) (.node (some (ko_217 P)) (.node (some (ko_345 P)) .nil .nil) .nil)) .nil))) (.node none (.node none (.node none (.node none (.node (some (ko_133 P)) (.node (some (ko_261 P)) .nil .nil) (.node (some (ko_389 P)) .nil .nil)) (.node (some (ko_197 P)) .nil .nil)) (.node none (.node none (.node none (.node (some (ko_549 P)) .nil .nil) .nil) .nil) .nil)) (.node none (.node (some (ko_85 P)) .nil .nil) (.node none .nil (.node none (.node none (.node (some (ko_629 P)) .nil .nil) .nil) .nil)))) (.node (some (ko_29 P)) (.node none (.node (some (ko_77 P)) (.node (some (ko_141 P)) .nil (.node none (.node (some (ko_653 P)) .nil .nil) .nil)) .nil) (.node none (.node none (.node none (.node (some (ko_557 P)) .nil .nil) .nil) .nil) (.node none (.node (some (ko_365 P)) .nil .nil) (.node (some (ko_493 P)) .nil .nil)))) (.node none .nil (.node none .nil (.node (some (ko_253 P)) .nil (.node (some (ko_509 P)) .nil .nil)))))))) (.node (some (ko_2 P)) (.node none (.node none (.node none (.node none (.node (some (ko_64 P)) (.node none .nil (.node none (.node (some (ko_640 P)) .nil .nil) .nil)) .nil) (.node none (.node none (.node (some (ko_288 P)) .nil .nil) (.node (some (ko_416 P)) .nil .nil)) (.node (some (ko_224 P)) .nil .nil))) (.node none (.node none (.node none (.node none (.node (some (ko_528 P)) .nil .nil) .nil) .nil) (.node none (.node none (.node (some (ko_592 P)) .nil .nil) .nil) (.node (some (ko_464 P)) .nil .nil))) (.node (some (ko_112 P)) .nil (.node none (.node (some (ko_368 P)) .nil .nil) .nil)))) (.node none (.node none (.node none (.node none (.node none (.node (some (ko_520 P)) .nil .nil) .nil) (.node none (.node (some (ko_648 P)) .nil .nil) .nil)) (.node (some (ko_200 P)) .nil .nil)) (.node none (.node none (.node (some (ko_296 P)) .nil .nil) .nil) (.node (some (ko_232 P)) .nil .nil))) (.node (some (ko_56 P)) (.node none (.node none .nil (.node (some (ko_408 P)) .nil .nil)) (.node none (.node (some (ko_344 P)) .nil .nil) (.node (some (ko_472 P)) .nil .nil))) (.node (some (ko_120 P)) .nil .nil)))) (.node none (.node none (.node (some (ko_36 P)) (.node none (.node none (.node (some (ko_260 P)) .nil .nil) .nil) (.node (some (ko_196 P)) .nil .nil)) .nil) (.node none (.node (some (ko_84 P)) (.node none .nil (.node none (.node (some (ko_660 P)) .nil .nil) .nil)) .nil) (.node none (.node none (.node none (.node (some (ko_564 P)) .nil .nil) .nil) .nil) (.node none .nil (.node (some (ko_500 P)) .nil .nil))))) (.node none (.node none (.node none (.node (some (ko_140 P)) (.node (some (ko_268 P)) .nil .nil) (.node none (.node (some (ko_652 P)) .nil .nil) .nil)) .nil) (.node none (.node none (.node none (.node (some (ko_556 P)) .nil .nil) .nil) .nil) (.node none (.node none (.node (some (ko_620 P)) .nil .nil) .nil) (.node (some (ko_492 P)) .nil .nil)))) (.node none (.node (some (ko_92 P)) .nil (.node none (.node (some (ko_348 P)) .nil .nil) .nil)) (.node none (.node none .nil (.node (some (ko_444 P)) .nil .nil)) (.node (some (ko_252 P)) .nil .nil)))))) (.node none (.node none (.node none (.node none (.node none (.node none .nil (.node (some (ko_386 P)) .nil .nil)) (.node none (.node none (.node (some (ko_578 P)) .nil .nil) .nil) .nil)) (.node (some (ko_98 P)) .nil .nil)) (.node (some (ko_50 P)) (.node none (.node none (.node (some (ko_274 P)) .nil .nil) .nil) (.node (some (ko_210 P)) .nil .nil)) (.node none (.node (some (ko_178 P)) .nil .nil) .nil))) (.node none (.node none .nil (.node (some (ko_106 P)) (.node none .nil (.node (some (ko_426 P)) .nil .nil)) .nil)) (.node none (.node none (.node (some (ko_154 P)) .nil .nil) (.node (some (ko_218 P)) .nil .nil)) (.node none (.node none (.node none (.node (some (ko_570 P)) .nil .nil) .nil) .nil) (.node none .nil (.node (some (ko_506 P)) .nil .nil)))))) (.node none (.node none (.node (some (ko_38 P)) (.node (some (ko_70 P)) (.node (some (ko_134 P)) .nil (.node (some (ko_390 P)) .nil .nil)) .nil) (.node none (.node none (.node none (.node (some (ko_550 P)) .nil .nil) .nil) .nil) .nil)) (.node none (.node none (.node none (.node none (.node (some (ko_534 P)) .nil .nil) .nil) .nil) .nil) (.node none .nil (.node none (.node none (.node (some (ko_630 P)) .nil .nil) .nil) .nil)))) (.node none (.node none (.node (some (ko_78 P)) .nil .nil) (.node none (.node none (.node (some (ko_302 P)) .nil .nil) .nil) (.node (some (ko_238 P)) (.node (some (ko_366 P)) .nil .nil) .nil))) (.node none .nil (.node (some (ko_126 P)) (.node none .nil (.node (some (ko_446 P)) .nil .nil)) (.node (some (ko_254 P)) .nil (.node (some (ko_510 P)) .nil .nil)))))))))
noncomputable def kA:List Nat:=[0,2,3,29,35,36,38,39,49,50,56,57,63,64,70,71,77,78,84,85,91,92,98,99,105,106,112,113,119,120,126,127,133,134,140,141,154,155,178,179,196,197,199,200,210,211,217,218,224,225,231,232,238,239,252,253,254,260,261,267,268,274,275,288,289,295,296,302,303,344,345,347,348,365,366,368,369,386,387,389,390,407,408,409,415,416,425,426,443,444,446,447,464,465,471,472,492,493,499,500,506,507,509,510,520,521,527,528,534,535,543,549,550,556,557,563,564,570,571,577,578,591,592,619,620,629,630,640,641,647,648,652,653,659,660]
noncomputable def kN:Nat:=661
noncomputable def kTk:Nat:=1142
theorem kA_eq (P:Params):kA=(kL P).map (·.1):=by kernel_rfl
theorem kT_eq (P:Params):KT.of (kL P)=ktop P:=by kernel_rfl
noncomputable def denZ:Code->Sem Fin:=PySem.W.Fast.tw11892475500146522536 PySem.W.Fast.tw14364793385576792824
theorem denZ_eq:denote treeTable=denZ:=by
  unfold denZ
  rw [<- PySem.W.Fast.te11892475500146522536,<- PySem.W.Fast.te14364793385576792824]
noncomputable def topZ (p:Program) (w:World) (n₀:Nat) (ann:Option Value):Nat->SharedT->Thread->Option SharedT
  | 0,_,_=>none
  | n+1,s,t=>match through t with
    | true=>some s
    | false=>match PySem.W.Fast.tw6613529449190102663 n₀ ann t with
      | false=>none
      | true=>match PySem.W.Fast.tw10156331382660048174 denZ p w s t with
        | some (s',t')=>topZ p w n₀ ann n s' t'
        | none=>none
theorem topZ_of {p:Program} {w:World} {n₀:Nat} {ann:Option Value}:∀ {n:Nat} {s s':SharedT} {t:Thread},topZ p w n₀ ann n s t=some s'->topRun treeTable p w n₀ ann n s.abs t=some s'.abs
  | 0,_,_,_,h=>by cases h
  | n+1,s,s',t,h=>by
    unfold topZ at h
    unfold topRun
    cases he:through t with
    | true=>rw [he] at h; cases h; rfl
    | false =>
      rw [he,<- PySem.W.Fast.te6613529449190102663] at h;cases hk:stepOk n₀ ann t with
      | false=>rw [hk] at h; cases h
      | true =>
        rw [hk,<- PySem.W.Fast.te10156331382660048174,<- denZ_eq] at h;cases hs:stepT (denote treeTable) p w s t with
        | none=>rw [hs] at h; cases h
        | some r =>
          obtain ⟨s₂,t₂⟩:=r;rw [hs] at h;rw [stepT_spec hs];exact topZ_of h
noncomputable def btOf:List Obj->Nat->BT->BT
  | [],_,T=>T
  | o::l,i,T=>btOf l (i+1) (T.ins i o)
noncomputable def s0T (w:World) (os:OsState):SharedT:=⟨btOf (boot_heap w.params).objs.toList 0 .nil,11,(boot_heap w.params).life,Array.mk [],boot_drawn,boot_toks,os⟩
noncomputable def s0S (w:World) (os:OsState):Shared:=⟨boot_heap w.params,Array.mk [],boot_drawn,boot_toks,os⟩
theorem s0_abs (w:World) (os:OsState):(s0T w os).abs=s0S w os:=by kernel_rfl
noncomputable def annZ:Option Value:=some (.ref 6)
theorem s0_size (w:World):((boot_heap w.params).isNs mainGlobals && (Array.mk []:Array GenState).size == 0,(boot_heap w.params).objs.size,(boot_heap w.params).nsMap mainGlobals "__annotations__")=(true,11,annZ):=by kernel_rfl
noncomputable def mods0:List Str:=importedModules pz.main.body
noncomputable def qv:Program:=view pz [0,2,3,5,6,7,8,10,11,12,13,14,15,17,18,19,21,23,24,25,26,27,28,29,30,31,33,34,35,37,38,40,41,42,44,45,47,48,49,50]
noncomputable def xtV (s:Shared):Bool:=xlAt qv [] s && recOk [] s
noncomputable def lookB (w:World) (s:Shared):Bool:=staticsOk mods0 (boot_heap w.params) s.heap && namesBound pz s.heap && gensDone s && laidKept (boot_heap w.params) s.heap
theorem top_end (w:World) (os:OsState):(topZ pz w 11 annZ 4500 (s0T w os) (topStub pz)).map (fun S=>(lookB w S.abs,obsZ kA S.abs))=some (true,valZ kL kN kTk w):=by kernel_rfl
noncomputable def seenZ (S:SharedT):=PySem.W.Fast.tw4187177175401517315 qv [] mods0 xtV true S.abs
noncomputable def seenA (S:SharedT):=((seenZ S).1,(seenZ S).2.1,(seenZ S).2.2.1,(seenZ S).2.2.2.1)
noncomputable def seenB (S:SharedT):=(seenZ S).2.2.2.2
theorem top_seeA (w:World) (os:OsState):(topZ pz w 11 annZ 4500 (s0T w os) (topStub pz)).map seenA=some (expectedOf qv,bltViewBooted,true,true):=by kernel_rfl
theorem top_seeB (w:World) (os:OsState):(topZ pz w 11 annZ 4500 (s0T w os) (topStub pz)).map seenB=some (pinGoodD (drecsOf qv),plainGoodE qv (looseW qv []),plainGoodD qv [],wideGood qv,clsGoodW qv []):=by kernel_rfl
theorem tupZ {A B C D E:Type} {t:A×B×C×D×E} {a:A} {b:B} {c:C} {d:D} {e:E} (h:(t.1,t.2.1,t.2.2.1,t.2.2.2.1)=(a,b,c,d)) (k:t.2.2.2.2=e):t=(a,b,c,d,e):=by
  obtain ⟨_,_,_,_,_⟩:=t;cases h;cases k
  rfl
theorem map_at {α β:Type} {o:Option α} {f:α->β} {a:α} {b:β} (h:o=some a) (e:o.map f=some b):f a=b:=by
  subst h;exact Option.some.inj e
theorem op1:opening pz=plainProg pz.main.scope.names:=by kernel_rfl
theorem op2 (s:Shared):fenceModules? pz s=some s:=by kernel_rfl
theorem open0 (w:World):(fencedOpening treeTable pz w 8964).map (fun s=>(s.heap,s.gens,s.drawn,s.toks))=some (boot_heap w.params,Array.mk [],boot_drawn,boot_toks):=boot_open (p:=pz) (N:=8964) op1 (by decide) op2 w
theorem run0 {w:World} {os:OsState} {S:SharedT} (hS:topZ pz w 11 annZ 4500 (s0T w os) (topStub pz)=some S):topRun treeTable pz w 11 annZ 8964 ⟨boot_heap w.params,Array.mk [],boot_drawn,boot_toks,os⟩ (topStub pz)=some S.abs:=by
  have r:=topRun_mono (8964 - 4500) _ _ _ _ (topZ_of hS);rw [s0_abs,show 4500+(8964 - 4500)=8964 from rfl] at r;exact r
theorem from0 {w:World} {os:OsState} {S:Shared} (hS:topRun treeTable pz w 11 annZ 8964 ⟨boot_heap w.params,Array.mk [],boot_drawn,boot_toks,os⟩ (topStub pz)=some S) (hl:lookB w S=true):topFrom treeTable pz w 8964 ⟨boot_heap w.params,Array.mk [],boot_drawn,boot_toks,os⟩=some S:=by
  obtain ⟨z1,z2,z3⟩:_∧_∧_:=by simpa only [Prod.mk.injEq] using s0_size w
  unfold topFrom
  dsimp only
  rw [z1,z2,z3,hS];show (match lookB w S with | true=>_ | false=>_)=_
  rw [hl]
theorem left1 {p q:Program} {mods loose:List Str} {tb:String->Option Builtin} {N:Nat} {w:World} {s₀ s₁:Shared} {Xt:Shared->Bool} {α:Type} {Yf:Shared->α} {y:α} {e₀:_} (e:fencedOpening tb p w N=some s₀)
    (t:topFrom tb p w N s₀=some s₁) (l2:openSeen q loose mods Xt true s₁=e₀) (l3:Yf s₁=y) :
    (openEnds tb p w N).map (fun s=>(openSeen q loose mods Xt true s,Yf s))=some (e₀,y):=by
  unfold openEnds
  rw [e,Option.bind_some,t,Option.map_some,l2,l3]
theorem left0:LeftO pz qv [] xtV (obsZ kA) (valZ kL kN kTk) 8964:=fun w=>by
  obtain ⟨⟨h,gs,d,k,os⟩,e,e'⟩:=Option.map_eq_some_iff.mp (open0 w);obtain ⟨rfl,rfl,rfl,rfl⟩:h=boot_heap w.params∧gs=Array.mk []∧d=boot_drawn∧k=boot_toks:=by simpa using e'
  obtain ⟨S,hS,hl⟩:=Option.map_eq_some_iff.mp (top_end w os);obtain ⟨l1,l3⟩:_∧_:=by simpa only [Prod.mk.injEq] using hl
  have l2:=map_at (f:=seenA) hS (top_seeA w os);have l4:=map_at (f:=seenB) hS (top_seeB w os)
  unfold seenA at l2
  unfold seenB at l4
  have l2:=tupZ l2 l4
  unfold seenZ at l2
  rw [<- PySem.W.Fast.te4187177175401517315] at l2;exact left1 e (from0 (run0 hS) l1) l2 l3
inductive LT where
  | nil
  | node (a:Addr) (o:Obj) (l r:LT)
namespace LT
noncomputable def get:LT->Nat->Option (Addr×Obj)
  | .nil,_=>none
  | .node a o l r,i=>match Nat.beq i 0 with
    | true=>some (a,o)
    | false=>match Nat.beq (i % 2) 1 with
      | true=>l.get (i / 2)
      | false=>r.get (i / 2 - 1)
noncomputable def set:LT->Nat->(Obj->Obj)->LT
  | .nil,_,_=>.nil
  | .node a o l r,i,f=>match Nat.beq i 0 with
    | true=>.node a (f o) l r
    | false=>match Nat.beq (i % 2) 1 with
      | true=>.node a o (l.set (i / 2) f) r
      | false=>.node a o l (r.set (i / 2 - 1) f)
noncomputable def ins:LT->Nat->Addr->Obj->LT
  | .nil,_,a,o=>.node a o .nil .nil
  | .node a o l r,i,a',o'=>match Nat.beq i 0 with
    | true=>.node a' o' l r
    | false=>match Nat.beq (i % 2) 1 with
      | true=>.node a o (l.ins (i / 2) a' o') r
      | false=>.node a o l (r.ins (i / 2 - 1) a' o')
theorem get_node (a:Addr) (o:Obj) (l r:LT) (i:Nat):(node a o l r).get i=if i=0 then some (a,o) else if i % 2=1 then l.get (i / 2) else r.get (i / 2 - 1):=by
  show (match Nat.beq i 0 with | true=>some (a,o) | false=>match Nat.beq (i % 2) 1 with | true=>l.get (i / 2) | false=>r.get (i / 2 - 1))=_
  rw [BT.beq_eq,BT.beq_eq]
  by_cases h:i=0
  · simp [h]
  · by_cases q:i % 2=1 <;> simp [h,q]
theorem set_node (a:Addr) (o:Obj) (l r:LT) (i:Nat) (f:Obj->Obj):(node a o l r).set i f=if i=0 then node a (f o) l r else if i % 2=1 then node a o (l.set (i / 2) f) r else node a o l (r.set (i / 2 - 1) f):=by
  show (match Nat.beq i 0 with | true=>node a (f o) l r | false=>match Nat.beq (i % 2) 1 with | true=>node a o (l.set (i / 2) f) r | false=>node a o l (r.set (i / 2 - 1) f))=_
  rw [BT.beq_eq,BT.beq_eq]
  by_cases h:i=0
  · simp [h]
  · by_cases q:i % 2=1 <;> simp [h,q]
theorem ins_node (a:Addr) (o:Obj) (l r:LT) (i:Nat) (a':Addr) (o':Obj):(node a o l r).ins i a' o' = if i=0 then node a' o' l r else if i % 2=1 then node a o (l.ins (i / 2) a' o') r else node a o l (r.ins (i / 2 - 1) a' o'):=by
  show (match Nat.beq i 0 with | true=>node a' o' l r | false=>match Nat.beq (i % 2) 1 with | true=>node a o (l.ins (i / 2) a' o') r | false=>node a o l (r.ins (i / 2 - 1) a' o'))=_
  rw [BT.beq_eq,BT.beq_eq]
  by_cases h:i=0
  · simp [h]
  · by_cases q:i % 2=1 <;> simp [h,q]
theorem get_set (f:Obj->Obj):∀ (t:LT) (j i:Nat),(t.set j f).get i=if i=j then (t.get j).map (fun p=>(p.1,f p.2)) else t.get i
  | .nil,j,i=>by show (LT.nil.get i)=_; simp [get]
  | .node a o l r,j,i=>by
    rw [set_node,get_node a o l r j,get_node a o l r i]
    by_cases hj:j=0
    · subst hj;simp only [if_true];rw [get_node]
      by_cases hi:i=0 <;> simp [hi]
    · rw [if_neg hj]
      by_cases pj:j % 2=1
      · rw [if_pos pj,get_node]
        by_cases hi:i=0
        · subst hi; rw [if_pos rfl,if_neg (Ne.symm hj),if_pos rfl]
        · rw [if_neg hi]
          by_cases pi:i % 2=1
          · rw [if_pos pi,get_set f l]
            by_cases e:i=j
            · subst e; simp [hi,pi]
            · have:¬ (i / 2=j / 2):=by omega
              rw [if_neg this,if_neg e,if_neg hi,if_pos pi]
          · rw [if_neg pi];have e:¬ i=j:=by intro e; subst e; exact pi pj
            rw [if_neg e,if_neg hi,if_neg pi]
      · rw [if_neg pj,get_node]
        by_cases hi:i=0
        · subst hi; rw [if_pos rfl,if_neg (Ne.symm hj),if_pos rfl]
        · rw [if_neg hi]
          by_cases pi:i % 2=1
          · rw [if_pos pi];have e:¬ i=j:=by intro e; subst e; exact pj pi
            rw [if_neg e,if_neg hi,if_pos pi]
          · rw [if_neg pi,get_set f r]
            by_cases e:i=j
            · subst e; simp [hi,pi]
            · have:¬ (i / 2 - 1=j / 2 - 1):=by omega
              rw [if_neg this,if_neg e,if_neg hi,if_neg pi]
theorem get_ins (a':Addr) (o':Obj):∀ (t:LT) (j:Nat),((t.ins j a' o').get j).isSome=true->∀ i,(t.ins j a' o').get i=if i=j then some (a',o') else t.get i
  | .nil,j,h,i=>by
    have h':((LT.node a' o' .nil .nil).get j).isSome=true:=h;show (LT.node a' o' .nil .nil).get i=_;rw [get_node] at h' ⊢
    by_cases hj:j=0
    · subst hj
      by_cases hi:i=0 <;> simp [hi,get]
    · exfalso
      rw [if_neg hj] at h'
      by_cases p:j % 2=1 <;> simp [p,get] at h'
  | .node a o l r,j,h,i=>by
    rw [ins_node] at h ⊢
    by_cases hj:j=0
    · subst hj;simp only [if_true];rw [get_node,get_node]
      by_cases hi:i=0 <;> simp [hi]
    · rw [if_neg hj] at h ⊢
      by_cases pj:j % 2=1
      · rw [if_pos pj] at h ⊢;rw [get_node,if_neg hj,if_pos pj] at h;rw [get_node,get_node a o l r i]
        by_cases hi:i=0
        · subst hi; simp [Ne.symm hj]
        · rw [if_neg hi,if_neg hi]
          by_cases pi:i % 2=1
          · rw [if_pos pi,if_pos pi,get_ins a' o' l (j / 2) h]
            by_cases e:i=j
            · subst e; simp
            · have:¬ (i / 2=j / 2):=by omega
              rw [if_neg this,if_neg e]
          · rw [if_neg pi,if_neg pi];have e:¬ i=j:=by intro e; subst e; exact pi pj
            rw [if_neg e]
      · rw [if_neg pj] at h ⊢;rw [get_node,if_neg hj,if_neg pj] at h;rw [get_node,get_node a o l r i]
        by_cases hi:i=0
        · subst hi; simp [Ne.symm hj]
        · rw [if_neg hi,if_neg hi]
          by_cases pi:i % 2=1
          · rw [if_pos pi,if_pos pi];have e:¬ i=j:=by intro e; subst e; exact pj pi
            rw [if_neg e]
          · rw [if_neg pi,if_neg pi,get_ins a' o' r (j / 2 - 1) h]
            by_cases e:i=j
            · subst e; simp
            · have:¬ (i / 2 - 1=j / 2 - 1):=by omega
              rw [if_neg this,if_neg e]
end LT
noncomputable def Full (T:LT) (n:Nat):Prop:=∀ j,(T.get j).isSome=true ↔ j < n
theorem full_ins {a:Nat} {o:Obj}:∀ (T:LT) (n:Nat),(∀ j,j < n->(T.get j).isSome=true)->((T.ins n a o).get n).isSome=true
  | .nil,n,h=>by
    cases n with
    | zero=>rfl
    | succ n=>have:=h 0 (by omega); simp [LT.get] at this
  | .node a' o' l r,n,h=>by
    rw [LT.ins_node]
    by_cases h0:n=0
    · subst h0; rfl
    · rw [if_neg h0]
      by_cases p:n % 2=1
      · rw [if_pos p,LT.get_node,if_neg h0,if_pos p];refine full_ins l (n / 2) fun j hj=>?_;have:=h (2*j+1) (by omega);rw [LT.get_node,if_neg (by omega),if_pos (by omega)] at this
        rwa [show (2*j+1) / 2=j from by omega] at this
      · rw [if_neg p,LT.get_node,if_neg h0,if_neg p];refine full_ins r (n / 2 - 1) fun j hj=>?_;have:=h (2*j+2) (by omega);rw [LT.get_node,if_neg (by omega),if_neg (by omega)] at this
        rwa [show (2*j+2) / 2 - 1=j from by omega] at this
theorem Full.step {T:LT} {n:Nat} (h:Full T n) (a:Nat) (o:Obj):Full (T.ins n a o) (n+1):=fun j=>by
  rw [LT.get_ins a o T n (full_ins T n fun j hj=>(h j).mpr hj)]
  by_cases e:j=n
  · subst e; simp
  · rw [if_neg e,h j]; omega
theorem get_step {T:LT} {n:Nat} (h:Full T n) (a:Nat) (o:Obj) (j:Nat):(T.ins n a o).get j=if j=n then some (a,o) else T.get j:=
  LT.get_ins a o T n (full_ins T n fun j hj=>(h j).mpr hj) j
theorem full_nil:Full .nil 0:=fun j=>by simp [LT.get]
theorem Full.set {T:LT} {n:Nat} (h:Full T n) (i:Nat) (f:Obj->Obj):Full (T.set i f) n:=fun j=>by
  rw [LT.get_set]
  by_cases e:j=i
  · subst e; rw [if_pos rfl]; simp [h j]
  · rw [if_neg e,h j]
noncomputable def cfM (self:Addr) (fd:FuncData) (args:Args):Sem Fin:=do
  let compiled <- match fd.code with
    | .none=>pure fd.qualname
    | c=>do match <- field c 1 with
      | .str q _=>pure q
      | _=>pure fd.qualname
  let binds <- bindArgs fd args
  let env <- newFunctionEnv fd.scope fd.globals fd.closure binds (compiled++".<locals>.") (some self) fd.code none fd.builtins
  match fd.body with
  | .stmts b=>.pure (.again (.func b env))
  | .expr e=>.pure (.again (.expr e env))
noncomputable def okF (fd:FuncData):Bool:=match fd.scope.isGenerator with
  | true=>false
  | false=>match fd.scope.isCoroutine with
    | true=>false
    | false=>true
noncomputable def ins (t:Sem Fin):Sem Fin:=t.bind fun fin=>enterFrame.bind fun _=>.pure fin
noncomputable def act:Bool->Sem Fin->Sem Fin
  | true,t=>ins t
  | false,t=>t
theorem cf_eq {a:Addr} {fd:FuncData} {args:Args} (h:okF fd=true):callFunction a fd args=ins (cfM a fd args):=by
  unfold okF at h
  split at h
  · cases h
  · rename_i hg
    split at h
    · cases h
    · rename_i hc
      have e:ins (cfM a fd args)=(cfM a fd args) >>= fun fin=>enterFrame >>= fun _=>(pure fin:Sem Fin):=rfl;rw [e]
      unfold callFunction cfM
      cases hq:fd.code <;> cases hb:fd.body <;> simp only [bind_assoc,pure_bind,hg,hc] <;> first
        | rfl
        | (refine congrArg _ (funext fun q=>?_); first | rfl | (split <;> simp only [bind_assoc,pure_bind] <;> rfl))
structure KF where
  c:Code
  k:Result->Sem Fin
noncomputable def toK:List KF->Kont
  | []=>.base
  | f::κ=>.ret f.c none f.k (toK κ)
noncomputable def wK:List KF->Nat
  | []=>0
  | f::κ=>Nat.add (wK κ) f.c.weight
noncomputable def quietP (c:Code):Bool:=c.quiet
noncomputable def isGI (id:String):Bool:=id == "str.__getitem__"
noncomputable def isAdd (id:String):Bool:=id == "str.__add__"
noncomputable def isLen (id:String):Bool:=id == "len"
inductive OV where
  | a (n:Nat)
  | t (x:Sem Fin)
  | i (n:Int)
  | s (x:Str)
structure MS where
  pd:Bool
  c:Code
  κ:List KF
  t:Sem Fin
  T:LT
  m:Nat
  N:Nat
  tk:Nat
  ob:List (OV×OV)
  ln:List Nat
structure Tx where
  S:Str
  q:Nat
  win:List Nat
structure RE where
  D:Code->Sem Fin
  CF:Addr->FuncData->Args->Sem Fin
  W:List KF->Nat
  Qt:Code->Bool
  GI:String->Bool
  AD:String->Bool
  LE:String->Bool
  kt:KT
  g:Setting
  g2:Setting
  tx:Tx
noncomputable def takeN:List Nat->Nat->List Nat
  | [],_=>[]
  | x::l,n=>match n with
    | 0=>[]
    | n+1=>x::takeN l n
noncomputable def dropN:List Nat->Nat->List Nat
  | [],_=>[]
  | x::l,n=>match n with
    | 0=>x::l
    | n+1=>dropN l n
noncomputable def lenN:List Nat->Nat
  | []=>0
  | _::l=>Nat.succ (lenN l)
noncomputable def sliceCut (tx:Tx) (T:LT) (i n j:Nat) (x:Str) (a:Addr):Option (Str×List (OV×OV)):=
  match Nat.blt (Nat.add i n) (lenN tx.win) with
  | false=>none
  | true=>match T.get j with
    | none=>none
    | some p=>match p.2.cls with
      | .type "slice"=>match p.2.data with
        | .fields vs=>match vs with
          | ⟨[.int lo _,.int hi _,.none]⟩=>some (⟨⟨takeN (dropN tx.win i) n⟩⟩,[(.s x,.s tx.S),(.a a,.a p.1),(.i lo,.i (Int.ofNat (Nat.add tx.q i))),(.i hi,.i (Int.ofNat (Nat.add tx.q (Nat.add i n))))])
          | _=>none
        | _=>none
      | _=>none
noncomputable def appO:List (OV×OV)->List (OV×OV)->List (OV×OV)
  | [],l=>l
  | x::r,l=>x::appO r l
noncomputable def run (E:RE):Nat->List Nat->Bool->Code->List KF->Sem Fin->LT->Nat->Nat->Nat->List (OV×OV)->List Nat->MS
  | 0,_,pd,c,κ,t,T,m,N,tk,ob,ln=>⟨pd,c,κ,t,T,m,N,tk,ob,ln⟩
  | n+1,orc,pd,c,κ,t,T,m,N,tk,ob,ln=>match t with
    | .pure fin=>match pd with
      | true=>match Nat.ble (E.W (⟨c,fun _=>.raise .none⟩::κ)) 100 with
        | true=>run E n orc false c κ (.pure fin) T m N tk ob ln
        | false=>⟨pd,c,κ,t,T,m,N,tk,ob,ln⟩
      | false=>match fin with
        | .done f=>match κ with
          | []=>⟨pd,c,κ,t,T,m,N,tk,ob,ln⟩
          | fr::κ=>run E n orc false fr.c κ (fr.k (.ok f)) T m N tk ob ln
        | .again c'=>match E.Qt c' with
          | false=>⟨pd,c,κ,t,T,m,N,tk,ob,ln⟩
          | true=>match c' with
            | .call f args=>match orc with
              | []=>⟨pd,c,κ,t,T,m,N,tk,ob,ln⟩
              | o::orc=>match o with
                | 0=>run E n orc false (.call f args) κ (E.D (.call f args)) T m N tk ob ln
                | 1=>match f with
                  | .ref a=>match E.kt.get a with
                    | some b=>match b.data with
                      | .func fd=>match okF fd with
                        | true=>run E n orc true (.call (.ref a) args) κ (E.CF a fd args) T m N tk ob ln
                        | false=>⟨pd,c,κ,t,T,m,N,tk,ob,ln⟩
                      | _=>⟨pd,c,κ,t,T,m,N,tk,ob,ln⟩
                    | none=>⟨pd,c,κ,t,T,m,N,tk,ob,ln⟩
                  | _=>⟨pd,c,κ,t,T,m,N,tk,ob,ln⟩
                | _=>⟨pd,c,κ,t,T,m,N,tk,ob,ln⟩
            | .whileLoop a b d e=>match orc with
              | []=>⟨pd,c,κ,t,T,m,N,tk,ob,ln⟩
              | o::orc=>match o with
                | 0=>run E n orc false (.whileLoop a b d e) κ (E.D (.whileLoop a b d e)) T m N tk ob ln
                | _=>⟨pd,c,κ,t,T,m,N,tk,ob,ln⟩
            | .forLoop a b d e v=>match orc with
              | []=>⟨pd,c,κ,t,T,m,N,tk,ob,ln⟩
              | o::orc=>match o with
                | 0=>run E n orc false (.forLoop a b d e v) κ (E.D (.forLoop a b d e v)) T m N tk ob ln
                | _=>⟨pd,c,κ,t,T,m,N,tk,ob,ln⟩
            | c'=>run E n orc false c' κ (E.D c') T m N tk ob ln
    | .raise e=>match pd with
      | true=>⟨pd,c,κ,t,T,m,N,tk,ob,ln⟩
      | false=>match κ with
        | []=>⟨pd,c,κ,t,T,m,N,tk,ob,ln⟩
        | fr::κ=>run E n orc false fr.c κ (fr.k (.error e)) T m N tk ob ln
    | .rule _ k=>run E n orc pd c κ (k ()) T m N tk ob ln
    | .at _ k=>run E n orc pd c κ (k ()) T m N tk ob ln
    | .point _ k=>run E n orc pd c κ (k ()) T m N tk ob ln
    | .ask k=>run E n orc pd c κ (k E.g) T m N tk ((.t (k E.g),.t (k E.g2))::ob) ln
    | .load a p k=>match orc with
      | []=>⟨pd,c,κ,.load a p k,T,m,N,tk,ob,ln⟩
      | j::orc=>match j with
        | 0=>match E.kt.get a with
          | some o=>run E n orc pd c κ (k o) T m N tk ob ln
          | none=>⟨pd,c,κ,.load a p k,T,m,N,tk,ob,ln⟩
        | j+1=>match T.get j with
          | some x=>run E n orc pd c κ (k x.2) T m N tk ((.a a,.a x.1)::ob) ln
          | none=>⟨pd,c,κ,.load a p k,T,m,N,tk,ob,ln⟩
    | .loadIfAlive a k=>match orc with
      | []=>⟨pd,c,κ,.loadIfAlive a k,T,m,N,tk,ob,ln⟩
      | j::orc=>match j with
        | 0=>match E.kt.get a with
          | some o=>run E n orc pd c κ (k (some o)) T m N tk ob ln
          | none=>⟨pd,c,κ,.loadIfAlive a k,T,m,N,tk,ob,ln⟩
        | j+1=>match T.get j with
          | some x=>run E n orc pd c κ (k (some x.2)) T m N tk ((.a a,.a x.1)::ob) ln
          | none=>⟨pd,c,κ,.loadIfAlive a k,T,m,N,tk,ob,ln⟩
    | .update a p f k=>match orc with
      | []=>⟨pd,c,κ,.update a p f k,T,m,N,tk,ob,ln⟩
      | j::orc=>match j with
        | 0=>⟨pd,c,κ,.update a p f k,T,m,N,tk,ob,ln⟩
        | j+1=>match T.get j with
          | some x=>match (f x.2).isFreed with
            | true=>⟨pd,c,κ,.update a p f k,T,m,N,tk,ob,ln⟩
            | false=>run E n orc pd c κ (k ()) (T.set j f) m N tk ((.a a,.a x.1)::ob) ln
          | none=>⟨pd,c,κ,.update a p f k,T,m,N,tk,ob,ln⟩
    | .alloc o k=>match o.isFreed with
      | true=>⟨pd,c,κ,.alloc o k,T,m,N,tk,ob,ln⟩
      | false=>match ((T.ins m (N+m) o).get m).isSome with
        | true=>run E n orc pd c κ (k (N+m)) (T.ins m (N+m) o) (m+1) N tk ob ln
        | false=>⟨pd,c,κ,.alloc o k,T,m,N,tk,ob,ln⟩
    | .fresh k=>run E n orc pd c κ (k tk) T m N (tk+1) ob ln
    | .handled own k=>match own with
      | true=>⟨pd,c,κ,.handled own k,T,m,N,tk,ob,ln⟩
      | false=>run E n orc pd c κ (k none) T m N tk ob ln
    | .call c' hd gd l k=>match pd with
      | true=>⟨pd,c,κ,.call c' hd gd l k,T,m,N,tk,ob,ln⟩
      | false=>match hd with
        | some v=>⟨pd,c,κ,.call c' (some v) gd l k,T,m,N,tk,ob,ln⟩
        | none=>match c' with
          | .call f args=>match orc with
            | []=>⟨pd,c,κ,.call (.call f args) none gd l k,T,m,N,tk,ob,ln⟩
            | o::orc=>match o with
              | 0=>run E n orc false (.call f args) (⟨c,k⟩::κ) (E.D (.call f args)) T m N tk ob ln
              | 1=>match f with
                | .ref a=>match E.kt.get a with
                  | some b=>match b.data with
                    | .func fd=>match okF fd with
                      | true=>run E n orc true (.call (.ref a) args) (⟨c,k⟩::κ) (E.CF a fd args) T m N tk ob ln
                      | false=>⟨pd,c,κ,.call (.call (.ref a) args) none gd l k,T,m,N,tk,ob,ln⟩
                    | _=>⟨pd,c,κ,.call (.call (.ref a) args) none gd l k,T,m,N,tk,ob,ln⟩
                  | none=>⟨pd,c,κ,.call (.call (.ref a) args) none gd l k,T,m,N,tk,ob,ln⟩
                | f=>⟨pd,c,κ,.call (.call f args) none gd l k,T,m,N,tk,ob,ln⟩
              | 3=>match orc with
                | i::u::j::orc=>match f,args with
                  | .builtin id,⟨[.str x tx',.ref a],[]⟩=>match E.GI id with
                    | true=>match sliceCut E.tx T i u j x a with
                      | some r=>run E n orc false c κ (k (.ok (.ret (.str r.1 tk)))) T m N (tk+1) (appO r.2 ob) ln
                      | none=>⟨pd,c,κ,.call (.call (.builtin id) ⟨[.str x tx',.ref a],[]⟩) none gd l k,T,m,N,tk,ob,ln⟩
                    | false=>⟨pd,c,κ,.call (.call (.builtin id) ⟨[.str x tx',.ref a],[]⟩) none gd l k,T,m,N,tk,ob,ln⟩
                  | f,args=>⟨pd,c,κ,.call (.call f args) none gd l k,T,m,N,tk,ob,ln⟩
                | _=>⟨pd,c,κ,.call (.call f args) none gd l k,T,m,N,tk,ob,ln⟩
              | 4=>match f,args with
                | .builtin id,⟨[.str x tx',.str y ty'],[]⟩=>match E.AD id with
                  | true=>match x.length with
                    | 0=>⟨pd,c,κ,.call (.call (.builtin id) ⟨[.str x tx',.str y ty'],[]⟩) none gd l k,T,m,N,tk,ob,ln⟩
                    | _+1=>match y.length with
                      | 0=>⟨pd,c,κ,.call (.call (.builtin id) ⟨[.str x tx',.str y ty'],[]⟩) none gd l k,T,m,N,tk,ob,ln⟩
                      | _+1=>run E n orc false c κ (k (.ok (.ret (.str (x++y) tk)))) T m N (tk+1) ob ((x++y).length::ln)
                  | false=>⟨pd,c,κ,.call (.call (.builtin id) ⟨[.str x tx',.str y ty'],[]⟩) none gd l k,T,m,N,tk,ob,ln⟩
                | f,args=>⟨pd,c,κ,.call (.call f args) none gd l k,T,m,N,tk,ob,ln⟩
              | 5=>match f,args with
                | .builtin id,⟨[.str x tx'],[]⟩=>match E.LE id with
                  | true=>run E n orc false c κ (k (.ok (.ret (.int (Int.ofNat x.length) (tk+1))))) T m N (tk+1+1) ob (x.length::ln)
                  | false=>⟨pd,c,κ,.call (.call (.builtin id) ⟨[.str x tx'],[]⟩) none gd l k,T,m,N,tk,ob,ln⟩
                | f,args=>⟨pd,c,κ,.call (.call f args) none gd l k,T,m,N,tk,ob,ln⟩
              | _=>⟨pd,c,κ,.call (.call f args) none gd l k,T,m,N,tk,ob,ln⟩
          | .whileLoop a b d e=>match orc with
            | []=>⟨pd,c,κ,.call (.whileLoop a b d e) none gd l k,T,m,N,tk,ob,ln⟩
            | o::orc=>match o with
              | 0=>run E n orc false (.whileLoop a b d e) (⟨c,k⟩::κ) (E.D (.whileLoop a b d e)) T m N tk ob ln
              | _=>⟨pd,c,κ,.call (.whileLoop a b d e) none gd l k,T,m,N,tk,ob,ln⟩
          | .forLoop a b d e v=>match orc with
            | []=>⟨pd,c,κ,.call (.forLoop a b d e v) none gd l k,T,m,N,tk,ob,ln⟩
            | o::orc=>match o with
              | 0=>run E n orc false (.forLoop a b d e v) (⟨c,k⟩::κ) (E.D (.forLoop a b d e v)) T m N tk ob ln
              | _=>⟨pd,c,κ,.call (.forLoop a b d e v) none gd l k,T,m,N,tk,ob,ln⟩
          | .builtin i as=>match orc with
            | []=>⟨pd,c,κ,.call (.builtin i as) none gd l k,T,m,N,tk,ob,ln⟩
            | o::orc=>match o with
              | 0=>run E n orc false (.builtin i as) (⟨c,k⟩::κ) (E.D (.builtin i as)) T m N tk ob ln
              | _=>⟨pd,c,κ,.call (.builtin i as) none gd l k,T,m,N,tk,ob,ln⟩
          | c'=>run E n orc false c' (⟨c,k⟩::κ) (E.D c') T m N tk ob ln
    | t=>⟨pd,c,κ,t,T,m,N,tk,ob,ln⟩
structure Rep (kt:KT) (fr:Nat->Prop) (h₀:Heap) (T:LT) (m N:Nat) (h:Heap):Prop where
  size:h.objs.size=N+m
  own:∀ (j:Nat) (a:Nat) (o:Obj),T.get j=some (a,o)->j < m∧h.get? a=some o∧661<=a∧¬ fr a
  inj:∀ (i j a:Nat) (o o':Obj),T.get i=some (a,o)->T.get j=some (a,o')->i=j
  top:∀ a o,kt.get a=some o->h.get? a=some o
  keep:∀ b o,fr b->h₀.get? b=some o->h.get? b=some o
  grow:h₀.objs.size<=N+m
  full:Full T m
structure Stat (kt:KT) (fr:Nat->Prop) (h₀:Heap):Prop where
  frlt:∀ b:Nat,fr b->b < h₀.objs.size
  ktlt:∀ (a:Nat) (o:Obj),kt.get a=some o->a < 661
  big:661<=h₀.objs.size
section
variable {kt:KT} {fr:Nat->Prop} {h₀ h:Heap} {T:LT} {m N:Nat}
theorem Rep.alloc (S:Stat kt fr h₀) (D:Rep kt fr h₀ T m N h) {o:Obj} (hf:o.isFreed=false) (hi:((T.ins m (N+m) o).get m).isSome=true) :
    Rep kt fr h₀ (T.ins m (N+m) o) (m+1) N (h.push o):=by
  refine ⟨by rw [Heap.size_push,D.size,Nat.add_assoc],fun j a o' e=>?_,fun i j a o' o'' e e'=>?_,fun a o' e=>Heap.get?_push_of_some _ (D.top a o' e),fun b o' q e=>Heap.get?_push_of_some _ (D.keep b o' q e),Nat.le_succ_of_le D.grow,D.full.step _ _⟩
  · rw [LT.get_ins _ _ _ _ hi] at e
    split at e
    · rename_i hj
      cases e;refine ⟨by omega,?_,Nat.le_trans S.big D.grow,fun q=>?_⟩
      · rw [<- D.size]; exact Heap.get?_push_size _ hf
      · have:=S.frlt _ q;have:=D.grow
        omega
    · have z:=D.own j a o' e;exact ⟨Nat.lt_succ_of_lt z.1,Heap.get?_push_of_some _ z.2.1,z.2.2⟩
  · rw [LT.get_ins _ _ _ _ hi] at e e';have old:∀ j o',T.get j=some (N+m,o')->False:=fun j o' q=>by
      have:=Heap.lt_size (D.own j _ _ q).2.1;rw [D.size] at this;exact Nat.lt_irrefl _ this
    split at e
    · rename_i hj
      split at e'
      · rename_i hj'
        exact hj.trans hj'.symm
      · cases e;exact (old _ _ e').elim
    · split at e'
      · cases e';exact (old _ _ e).elim
      · exact D.inj i j a o' o'' e e'
theorem Rep.update (S:Stat kt fr h₀) (D:Rep kt fr h₀ T m N h) {j:Nat} {a:Addr} {o:Obj} {f:Obj->Obj} (e:T.get j=some (a,o)) (hf:(f o).isFreed=false) :
    Rep kt fr h₀ (T.set j f) m N (h.update a f):=by
  have z:=D.own j a o e;have hs:Heap.SameBut a h (h.update a f):=Heap.SameBut.update ..;refine ⟨by rw [hs.1,D.size],fun i b o' e'=>?_,fun i i' b o' o'' e' e''=>?_,fun b o' e'=>?_,fun b o' q e'=>?_,D.grow,D.full.set _ _⟩
  · rw [LT.get_set] at e'
    split at e'
    · rename_i hi
      subst hi;rw [e] at e';cases e';exact ⟨z.1,Heap.get?_update_self f z.2.1 hf,z.2.2⟩
    · rename_i hi
      have y:=D.own i b o' e';refine ⟨y.1,(hs.2 b fun q=>hi ?_).trans y.2.1,y.2.2⟩;subst q;exact D.inj _ _ _ _ _ e' e
  · have key:∀ i b o',(T.set j f).get i=some (b,o')->∃ o₂,T.get i=some (b,o₂):=fun i b o' q=>by
      rw [LT.get_set] at q
      split at q
      · rename_i hi
        subst hi;rw [e] at q;cases q;exact ⟨_,e⟩
      · exact ⟨_,q⟩
    obtain ⟨o₁,q₁⟩:=key _ _ _ e';obtain ⟨o₂,q₂⟩:=key _ _ _ e'';exact D.inj _ _ _ _ _ q₁ q₂
  · refine (hs.2 b ?_).trans (D.top b o' e');exact Nat.ne_of_lt (Nat.lt_of_lt_of_le (S.ktlt b o' e') z.2.2.1)
  · refine (hs.2 b fun q'=>?_).trans (D.keep b o' q e');subst q';exact z.2.2.2 q
end
noncomputable def MW (V:XV) (c:Code) (κ:List KF) (t:Sem Fin) (s:Shared):Prop:=Means V c none (toK κ) t s
structure Snd (V:XV) (E:RE) (fr:Nat->Prop) (h₀:Heap):Prop where
  hD:E.D=denote table
  hCF:E.CF=cfM
  hW:E.W=wK
  hQ:E.Qt=quietP
  hGI:∀ id,E.GI id=true->id = "str.__getitem__"
  hAD:∀ id,E.AD id=true->id = "str.__add__"
  hLE:∀ id,E.LE id=true->id = "len"
  hg:E.g=⟨V.prog,V.w.params⟩∨E.g2=⟨V.prog,V.w.params⟩
  hh:V.A₀.handled=none
  hdep:V.A₀.depth+100 < recursionLimit
  hNL:∀ h:Heap,(∀ a o,E.kt.get a=some o->h.get? a=some o)->h.NoLimit
  st:Stat E.kt fr h₀
  tx:∃ pre post,E.tx.S.cps.toList=pre++(E.tx.win++post)∧pre.length=E.tx.q
  wl:E.tx.win.length<=sizeLine
noncomputable def Good (V:XV) (E:RE) (fr:Nat->Prop) (h₀:Heap) (g:Array GenState) (d:Drawn) (os:OsState) (X:MS):Prop:=
  ∀ h,Rep E.kt fr h₀ X.T X.m X.N h->MW V X.c X.κ (act X.pd X.t) ⟨h,g,d,X.tk,os⟩
theorem handled_toK (V:XV) (hh:V.A₀.handled=none):∀ κ,(aroundOf V true (toK κ)).handled=none
  | []=>hh
  | f::κ=>by
    show (((aroundOf V true (toK κ)).under f.c).mark none).handled=none;show (none:Option Value).or ((aroundOf V true (toK κ)).under f.c).handled=none;exact handled_toK V hh κ
theorem depth_toK (V:XV):∀ κ,(aroundOf V true (toK κ)).depth=V.A₀.depth+wK κ
  | []=>rfl
  | f::κ=>by
    show (aroundOf V true (toK κ)).depth+f.c.weight=V.A₀.depth+(Nat.add (wK κ) f.c.weight);rw [depth_toK V κ];exact Nat.add_assoc ..
theorem call_weight (f:Value) (args:Args):(Code.call f args).weight=0:=by rfl
theorem act_load (pd:Bool) (a:Addr) (p:Option Value) (k:Obj->Sem Fin):act pd (.load a p k) = .load a p fun o=>act pd (k o):=by cases pd <;> rfl
theorem act_alive (pd:Bool) (a:Addr) (k:Option Obj->Sem Fin):act pd (.loadIfAlive a k) = .loadIfAlive a fun o=>act pd (k o):=by cases pd <;> rfl
theorem act_update (pd:Bool) (a:Addr) (p:Option Value) (f:Obj->Obj) (k:Unit->Sem Fin):act pd (.update a p f k) = .update a p f fun o=>act pd (k o):=by cases pd <;> rfl
theorem act_alloc (pd:Bool) (o:Obj) (k:Addr->Sem Fin):act pd (.alloc o k) = .alloc o fun a=>act pd (k a):=by cases pd <;> rfl
theorem act_fresh (pd:Bool) (k:Tok->Sem Fin):act pd (.fresh k) = .fresh fun a=>act pd (k a):=by cases pd <;> rfl
theorem act_rule (pd:Bool) (g:String) (k:Unit->Sem Fin):act pd (.rule g k) = .rule g fun a=>act pd (k a):=by cases pd <;> rfl
theorem act_at (pd:Bool) (g:Pos) (k:Unit->Sem Fin):act pd (.at g k) = .at g fun a=>act pd (k a):=by cases pd <;> rfl
theorem act_point (pd:Bool) (g:List Value) (k:Unit->Sem Fin):act pd (.point g k) = .point g fun a=>act pd (k a):=by cases pd <;> rfl
theorem act_ask (pd:Bool) (k:Setting->Sem Fin):act pd (.ask k) = .ask fun a=>act pd (k a):=by cases pd <;> rfl
theorem act_handled (pd:Bool) (b:Bool) (k:Option Value->Sem Fin):act pd (.handled b k) = .handled b fun a=>act pd (k a):=by cases pd <;> rfl
section
variable {V:XV} {E:RE} {fr:Nat->Prop} {h₀:Heap} {g:Array GenState} {d:Drawn} {os:OsState}
theorem call_def (S:Snd V E fr h₀) {κ:List KF} {a:Addr} {args:Args} {h:Heap} {b:Obj} {fd:FuncData} {tk:Nat} (hb:h.get? a=some b) (hd:b.data = .func fd) (ok:okF fd=true)
    (x:MW V (.call (.ref a) args) κ (act true (E.CF a fd args)) ⟨h,g,d,tk,os⟩):MW V (.call (.ref a) args) κ (denote table (.call (.ref a) args)) ⟨h,g,d,tk,os⟩:=by
  show wpOwn _ _ _ (Sem.load a none fun o=>match o.data with
    | .func fd=>callFunction a fd args
    | .fields vs=>_
    | _=>_) _ _ _
  refine y_load _ _ _ _ _ _ _ _ _ _ _ _ _ _ _ b hb ?_;obtain ⟨cls,dict,data,slots⟩:=b
  dsimp only at hd
  subst hd;show wpOwn _ _ _ (callFunction a fd args) _ _ _;rw [cf_eq ok,<- S.hCF];exact x
theorem ret_ok {κ:List KF} {fr':KF} {r:Result} {s:Shared} (x:MW V fr'.c κ (fr'.k r) s):endOf V (toK (fr'::κ)) r s:=x
theorem slice_drop:∀ (l:List Nat) (i:Nat),dropN l i=l.drop i
  | [],i=>by simp [dropN]
  | x::l,0=>rfl
  | x::l,i+1=>slice_drop l i
theorem slice_take:∀ (l:List Nat) (i:Nat),takeN l i=l.take i
  | [],i=>by simp [takeN]
  | x::l,0=>rfl
  | x::l,i+1=>congrArg (x::·) (slice_take l i)
theorem lenN_eq:∀ (l:List Nat),lenN l=l.length
  | []=>rfl
  | x::l=>congrArg Nat.succ (lenN_eq l)
theorem mem_appO {x:OV×OV}:∀ {l r:List (OV×OV)},x ∈ appO l r ↔ x ∈ l∨x ∈ r
  | [],r=>by simp [appO]
  | y::l,r=>by show x ∈ y::appO l r ↔ _; rw [List.mem_cons,mem_appO,List.mem_cons,or_assoc]
end
section
variable {V:XV} {E:RE} {fr:Nat->Prop} {h₀:Heap} {g:Array GenState} {d:Drawn} {os:OsState}
theorem code_function {prog:Program} {w:World} {A:Around} {s:Shared} {id:String} {b:Builtin} {args:List Value} {R:Result->Shared->Prop} (hk:builtinKind id=none) (hp:plainId id=true)
    (hb:entryFor table id=some b) (ha:argsOk id ⟨args,[]⟩)
    (hc:wpAny (model prog w) A.in1 (b ⟨args,[]⟩) (fun fin s'=>match fin with | .done f=>R (.ok f) s' | .again c'=>c'.quiet=true∧codeAny (model prog w) A c' R s') (fun e s'=>R (.error e) s') s) :
    codeAny (model prog w) A (.call (.builtin id) ⟨args,[]⟩) R s:=by
  refine codeAny_call_builtin hp hb ?_;simp only [checkBuiltinCall,hk];cases hsig:Manifest.signature? id with
  | none=>exact wpAny_pure hc
  | some sig =>
    simp only [argsOk,hsig] at ha;have h2:Bind.checkArgs id sig ⟨args,[]⟩=pure ():=ha;show wpAny _ A.in1 (Bind.checkArgs id sig ⟨args,[]⟩) _ _ s;rw [h2]; exact wpAny_pure hc
theorem slice_sound {tx:Tx} {T:LT} {i n j:Nat} {x:Str} {a:Addr} {t:Tok} {r:Str×List (OV×OV)} {prog:Program} {w:World} {A:Around} {s:Shared} {R:Result->Shared->Prop}
    (hr:sliceCut tx T i n j x a=some r) (hob:∀ e ∈ r.2,e.1=e.2) (hT:∀ a o,T.get j=some (a,o)->s.heap.get? a=some o)
    (htx:∃ pre post,tx.S.cps.toList=pre++(tx.win++post)∧pre.length=tx.q) (hwl:tx.win.length<=sizeLine)
    (x':R (.ok (.ret (.str r.1 s.toks))) { s with toks:=s.toks+1 }):codeAny (model prog w) A (.call (.builtin "str.__getitem__") ⟨[.str x t,.ref a],[]⟩) R s:=by
  unfold sliceCut at hr
  split at hr
  · cases hr
  · rename_i hlt
    split at hr
    · cases hr
    · rename_i p hp
      split at hr
      · rename_i hcls
        split at hr
        · rename_i vs hvs
          split at hr
          · rename_i lo tlo hi thi
            cases hr;obtain ⟨sa,so⟩:=p;have e1:OV.s x=OV.s tx.S:=hob _ (.head _);have e2:OV.a a=OV.a sa:=hob _ (.tail _ (.head _));have e3:OV.i lo=OV.i (Int.ofNat (Nat.add tx.q i)):=hob _ (.tail _ (.tail _ (.head _)));have e4:OV.i hi=OV.i (Int.ofNat (Nat.add tx.q (Nat.add i n))):=hob _ (.tail _ (.tail _ (.tail _ (.head _))));cases e1; cases e2; cases e3; cases e4;have ho:=hT _ _ hp
            dsimp only at hcls hvs
            have hsl:s.heap.IsSlice a (some (Int.ofNat (Nat.add tx.q i),tlo)) (some (Int.ofNat (Nat.add tx.q (Nat.add i n)),thi)) none:=⟨so,ho,hcls,hvs⟩;obtain ⟨pre,post,hS,hq⟩:=htx;have hlen:Nat.add i n < tx.win.length:=by
              have:=blt_true hlt
              rwa [lenN_eq] at this
            have hlen':i+n < tx.win.length:=hlen;have hSl:tx.S.length=pre.length+(tx.win.length+post.length):=by
              show tx.S.cps.size=_;rw [<- Array.length_toList,hS,List.length_append,List.length_append]
            refine codeAny_call_builtin F.slot_str_getitem.plain F.entry_str_getitem (F.slot_str_getitem.check _ _ _ _ _ _ _ _ (typeIs_str s tx.S t) (F.args_str_getitem_2 _ _) ?_);refine meets_str_getitem_slice tx.S t a _ _ _ rfl prog w A R s ⟨hsl,?_⟩;have hpick:∀ a b:Nat,a<=b->b<=tx.S.length->slicePicked tx.S (some ((a:Int),tlo)) (some ((b:Int),thi)) none=(List.range (b - a)).map (fun k=>a+k):=fun a b h1 h2=>StrLaws.strSliceIndices_plain h1 h2;have hp1:=hpick (tx.q+i) (tx.q+(i+n)) (by omega) (by omega);have hp2:=StrLaws.sliced_plain tx.S (a:=tx.q+i) (b:=tx.q+(i+n)) (by omega) (by omega)
            unfold sliceMade
            have e5:(slicePicked tx.S (some (Int.ofNat (Nat.add tx.q i),tlo)) (some (Int.ofNat (Nat.add tx.q (Nat.add i n)),thi)) none).length=n:=by
              rw [show slicePicked tx.S (some (Int.ofNat (Nat.add tx.q i),tlo)) (some (Int.ofNat (Nat.add tx.q (Nat.add i n)),thi)) none=_ from hp1,List.length_map,List.length_range]
              omega
            have e6:((slicePicked tx.S (some (Int.ofNat (Nat.add tx.q i),tlo)) (some (Int.ofNat (Nat.add tx.q (Nat.add i n)),thi)) none).filterMap (tx.S.cps[·]?))=takeN (dropN tx.win i) n:=by
              refine Eq.trans hp2 ?_;rw [slice_take,slice_drop,hS,show tx.q+(i+n) - (tx.q+i)=n from by omega,<- hq,List.drop_append,List.drop_eq_nil_of_le (by omega),List.nil_append,Nat.add_sub_cancel_left,List.drop_append,List.take_append_of_le_length (by rw [List.length_drop]; omega)]
            rw [e5,e6];have e7:(n == tx.S.length)=false:=by
              rw [beq_eq_false_iff_ne]
              omega
            rw [e7,Bool.and_false,if_neg (by decide)];refine ⟨?_,x'⟩;show (takeN (dropN tx.win i) n).toArray.size<=sizeLine;rw [List.size_toArray];have:(takeN (dropN tx.win i) n).length<=n:=by rw [slice_take]; exact List.length_take_le ..
            omega
          · cases hr
        · cases hr
      · cases hr
theorem add_sound {x y:Str} {t u:Tok} {prog:Program} {w:World} {A:Around} {s:Shared} {R:Result->Shared->Prop} (hx:x.length ≠ 0) (hy:y.length ≠ 0) (hl:(x++y).length<=sizeLine)
    (x':R (.ok (.ret (.str (x++y) s.toks))) { s with toks:=s.toks+1 }):codeAny (model prog w) A (.call (.builtin "str.__add__") ⟨[.str x t,.str y u],[]⟩) R s:=by
  refine codeAny_call_builtin F.slot_str_add.plain F.entry_str_add (F.slot_str_add.check _ _ _ _ _ _ _ _ (typeIs_str s x t) (F.args_str_add_2 _ _) ?_);refine gives_str_add x y t u prog w A R s ?_;rw [if_neg (by simpa using hx),if_neg (by simpa using hy)];exact ⟨hl,x'⟩
theorem len_sound {x:Str} {t:Tok} {prog:Program} {w:World} {A:Around} {s:Shared} {R:Result->Shared->Prop} (hl:x.length<=sizeLine)
    (x':R (.ok (.ret (.int (Int.ofNat x.length) (s.toks+1)))) { s with toks:=s.toks+1+1 }):codeAny (model prog w) A (.call (.builtin "len") ⟨[.str x t],[]⟩) R s:=by
  refine code_function kind_len plain_len entry_len (args_len1 _) ?_
  unfold Builtin.«len»
  refine wpAny_bind (m:=PySem.oneArg "len" _) (wpAny_pure ?_);refine wpAny_bind (m:=callSpecial? (.str x t) (Str.ofString "__len__")) (wpAny_callSpecial?_slot (name:=Str.ofString "__len__") (typeIs_str s x t) F.slot_str_len (call_gives F.slot_str_len (typeIs_str s x t) F.entry_str_len (F.args_str_len_1 _) (gives_str_len x t) ?_));show wpAny _ _ _ _ _ { s with toks:=s.toks+1 };refine wpAny_bind (wpAny_holding (wpAny_pure ?_));refine wpAny_bind (wpAny_letGo ?_);have h0:¬ (x.length:Int) < 0:=by omega
  have h1:¬ (x.length:Int) ≥ 2 ^ 63:=by
    have:sizeLine=2 ^ 24:=rfl
    omega
  show wpAny _ _ (if (x.length:Int) < 0 then _ else _) _ _ _;rw [if_neg h0];show wpAny _ _ (if (x.length:Int) ≥ 2 ^ 63 then _ else _) _ _ _;rw [if_neg h1];exact fun _ _ _=>x'
end
section
variable {V:XV} {E:RE} {fr:Nat->Prop} {h₀:Heap} {g:Array GenState} {d:Drawn} {os:OsState}
noncomputable def Mono (ob:List (OV×OV)) (ln:List Nat) (Y:MS):Prop:=(∀ x ∈ ob,x ∈ Y.ob)∧∀ x ∈ ln,x ∈ Y.ln
theorem Mono.id {pd c κ t T m N tk ob ln}:Mono ob ln ⟨pd,c,κ,t,T,m,N,tk,ob,ln⟩:=⟨fun _ h=>h,fun _ h=>h⟩
theorem Mono.o {x ob ln Y} (h:Mono (x::ob) ln Y):Mono ob ln Y:=⟨fun y q=>h.1 y (.tail _ q),h.2⟩
theorem Mono.r2 {r ob ln Y} (h:Mono (appO r ob) ln Y):Mono ob ln Y:=⟨fun y q=>h.1 y (mem_appO.mpr (.inr q)),h.2⟩
theorem Mono.l {x ob ln Y} (h:Mono ob (x::ln) Y):Mono ob ln Y:=⟨h.1,fun y q=>h.2 y (.tail _ q)⟩
set_option maxHeartbeats 4000000 in
theorem run_mono:∀ n orc pd c κ t T m N tk ob ln,Mono ob ln (run E n orc pd c κ t T m N tk ob ln):=by
  intro n
  induction n with
  | zero=>intros; exact .id
  | succ n ih =>
    intro orc pd c κ t T m N tk ob ln;cases t with
    | pure fin =>
      cases pd with
      | true=>simp only [run]; split <;> first | exact ih .. | exact .id
      | false =>
        cases fin with
        | done f=>cases κ with
          | nil=>exact .id
          | cons f' κ=>exact ih ..
        | again c' =>
          cases hq:E.Qt c' with
          | false=>simp only [run,hq]; exact .id
          | true =>
            simp only [run,hq];cases c' with
            | call f args =>
              cases orc with
              | nil=>exact .id
              | cons o orc =>
                match o with
                | 0=>exact ih ..
                | 1 =>
                  cases f with
                  | ref a=>dsimp only; (repeat' split) <;> first | exact ih .. | exact .id
                  | _=>exact .id
                | n+2=>exact .id
            | whileLoop x1 x2 x3 x4 =>
              cases orc with
              | nil=>exact .id
              | cons o orc=>cases o with
                | zero=>exact ih ..
                | succ=>exact .id
            | forLoop x1 x2 x3 x4 x5 =>
              cases orc with
              | nil=>exact .id
              | cons o orc=>cases o with
                | zero=>exact ih ..
                | succ=>exact .id
            | _=>exact ih ..
    | raise e =>
      cases pd with
      | true=>exact .id
      | false=>cases κ with
        | nil=>exact .id
        | cons f' κ=>exact ih ..
    | rule tag k=>exact ih ..
    | «at» q k=>exact ih ..
    | point q k=>exact ih ..
    | ask k=>exact (ih ..).o
    | load a q k =>
      cases orc with
      | nil=>exact .id
      | cons o orc=>cases o with
        | zero=>simp only [run]; split <;> first | exact ih .. | exact .id
        | succ j=>simp only [run]; split <;> first | exact (ih ..).o | exact .id
    | loadIfAlive a k =>
      cases orc with
      | nil=>exact .id
      | cons o orc=>cases o with
        | zero=>simp only [run]; split <;> first | exact ih .. | exact .id
        | succ j=>simp only [run]; split <;> first | exact (ih ..).o | exact .id
    | update a q f k =>
      cases orc with
      | nil=>exact .id
      | cons o orc=>cases o with
        | zero=>exact .id
        | succ j=>simp only [run]; (repeat' split) <;> first | exact (ih ..).o | exact .id
    | alloc o k=>simp only [run]; (repeat' split) <;> first | exact ih .. | exact .id
    | fresh k=>exact ih ..
    | handled own k=>cases own with
      | true=>exact .id
      | false=>exact ih ..
    | call c' hd gd l k =>
      cases pd with
      | true=>exact .id
      | false=>cases hd with
        | some v=>exact .id
        | none =>
          cases c' with
          | call f args =>
            cases orc with
            | nil=>exact .id
            | cons o orc =>
              match o with
              | 0=>exact ih ..
              | 1 =>
                cases f with
                | ref a=>simp only [run]; (repeat' split) <;> first | exact ih .. | exact .id
                | _=>exact .id
              | 2=>exact .id
              | 3 =>
                match orc with
                | []=>exact .id
                | [_]=>exact .id
                | [_,_]=>exact .id
                | i::u::j::orc=>simp only [run]; (repeat' split) <;> first | exact (ih ..).r2 | exact .id
              | 4=>simp only [run]; (repeat' split) <;> first | exact (ih ..).l | exact .id
              | 5=>simp only [run]; (repeat' split) <;> first | exact (ih ..).l | exact .id
              | n+6=>exact .id
          | builtin x1 x2 =>
            cases orc with
            | nil=>exact .id
            | cons o orc=>cases o with
              | zero=>exact ih ..
              | succ=>exact .id
          | whileLoop x1 x2 x3 x4 =>
            cases orc with
            | nil=>exact .id
            | cons o orc=>cases o with
              | zero=>exact ih ..
              | succ=>exact .id
          | forLoop x1 x2 x3 x4 x5 =>
            cases orc with
            | nil=>exact .id
            | cons o orc=>cases o with
              | zero=>exact ih ..
              | succ=>exact .id
          | _=>exact ih ..
    | _=>exact .id
end
section
variable {V:XV} {E:RE} {fr:Nat->Prop} {h₀:Heap} {g:Array GenState} {d:Drawn} {os:OsState}
noncomputable def Fine (X:MS):Prop:=(∀ e ∈ X.ob,e.1=e.2)∧∀ n ∈ X.ln,n<=sizeLine
theorem enter_plain {κ:List KF} {c':Code} {s:Shared} (S:Snd V E fr h₀) (x:MW V c' κ (E.D c') s):codeAny (model V.prog V.w) (aroundOf V true (toK κ)) c' (endOf V (toK κ)) s:=by
  rw [S.hD] at x;exact y_code _ _ _ _ _ _ x
theorem mw_call {κ:List KF} {c c':Code} {gd:Bool} {l:List Value} {k:Result->Sem Fin} {s:Shared} (x:codeAny (model V.prog V.w) (aroundOf V true (toK (⟨c,k⟩::κ))) c' (endOf V (toK (⟨c,k⟩::κ))) s) :
    MW V c κ (.call c' none gd l k) s:=y_call _ _ _ _ _ _ _ s c' none gd l k (fun e=>nomatch e) x
theorem mw_again {κ:List KF} {c c':Code} {s:Shared} (hq:c'.quiet=true) (x:codeAny (model V.prog V.w) (aroundOf V true (toK κ)) c' (endOf V (toK κ)) s) :
    MW V c κ (.pure (.again c')) s:=y_pure _ _ _ _ _ _ _ _ _ (y_again _ _ _ _ _ _ hq x)
theorem enter_def (S:Snd V E fr h₀) {κ:List KF} {a:Addr} {args:Args} {h:Heap} {b:Obj} {fd:FuncData} {tk:Nat} (hb:h.get? a=some b) (hd:b.data = .func fd) (ok:okF fd=true)
    (x:MW V (.call (.ref a) args) κ (act true (E.CF a fd args)) ⟨h,g,d,tk,os⟩):codeAny (model V.prog V.w) (aroundOf V true (toK κ)) (.call (.ref a) args) (endOf V (toK κ)) ⟨h,g,d,tk,os⟩:=
  y_code _ _ _ _ _ _ (call_def S hb hd ok x)
set_option maxHeartbeats 8000000 in
theorem run_sound (S:Snd V E fr h₀):∀ n orc pd c κ t T m N tk ob ln,Fine (run E n orc pd c κ t T m N tk ob ln)->Good V E fr h₀ g d os (run E n orc pd c κ t T m N tk ob ln)->Good V E fr h₀ g d os ⟨pd,c,κ,t,T,m,N,tk,ob,ln⟩:=by
  intro n
  induction n with
  | zero=>intro _ _ _ _ _ _ _ _ _ _ _ _ h; exact h
  | succ n ih =>
    intro orc pd c κ t T m N tk ob ln hF hG;cases t with
    | pure fin =>
      cases pd with
      | true =>
        simp only [run] at hF hG;cases hw:Nat.ble (E.W (⟨c,fun _=>.raise .none⟩::κ)) 100 with
        | false=>simp only [hw] at hG; exact hG
        | true =>
          simp only [hw] at hF hG;have z:=ih _ _ _ _ _ _ _ _ _ _ _ hF hG;intro h D;have y:=z h D;show wpOwn _ _ _ (enterFrame.bind fun _=>.pure fin) _ _ _;refine wpOwn_bind (m:=enterFrame) (f:=fun _=>(.pure fin:Sem Fin)) (wpOwn_of_wpAny (wpAny_enterFrame (S.hNL h D.top) ?_ y));rw [S.hW] at hw;have hw':wK (⟨c,fun _=>.raise .none⟩::κ)<=100:=Nat.le_of_ble_eq_true hw;have hc:((aroundOf V true (toK κ)).under c).depth=(aroundOf V true (toK κ)).depth+c.weight:=rfl;have hc':wK (⟨c,fun _=>.raise .none⟩::κ)=wK κ+c.weight:=rfl;rw [hc,depth_toK];have:=S.hdep
          omega
      | false =>
        cases fin with
        | done f =>
          cases κ with
          | nil=>exact hG
          | cons f' κ =>
            simp only [run] at hF hG;intro h D;exact y_pure _ _ _ _ _ _ _ _ _ (y_done _ _ _ _ _ _ (ret_ok (ih _ _ _ _ _ _ _ _ _ _ _ hF hG h D)))
        | again c' =>
          simp only [run] at hF hG;cases hq:E.Qt c' with
          | false=>simp only [hq] at hG; exact hG
          | true =>
            simp only [hq] at hF hG;rw [S.hQ] at hq;cases c' with
            | call f args =>
              cases orc with
              | nil=>exact hG
              | cons o orc =>
                match o with
                | 0 =>
                  intro h D;exact mw_again hq (enter_plain S (ih _ _ _ _ _ _ _ _ _ _ _ hF hG h D))
                | 1 =>
                  cases f with
                  | ref a =>
                    cases hb:E.kt.get a with
                    | none=>simp only [hb] at hG; exact hG
                    | some b =>
                      cases hfd:b.data with
                      | func fd =>
                        cases hok:okF fd with
                        | true =>
                          simp only [hb,hfd,hok] at hF hG;intro h D;exact mw_again hq (enter_def S (D.top _ _ hb) hfd hok (ih _ _ _ _ _ _ _ _ _ _ _ hF hG h D))
                        | false=>simp only [hb,hfd,hok] at hG; exact hG
                      | _=>simp only [hb,hfd] at hG; exact hG
                  | _=>exact hG
                | n+2=>exact hG
            | whileLoop x1 x2 x3 x4 =>
              cases orc with
              | nil=>exact hG
              | cons o orc =>
                match o with
                | 0 =>
                  intro h D;exact mw_again hq (enter_plain S (ih _ _ _ _ _ _ _ _ _ _ _ hF hG h D))
                | n+1=>exact hG
            | forLoop x1 x2 x3 x4 x5 =>
              cases orc with
              | nil=>exact hG
              | cons o orc =>
                match o with
                | 0 =>
                  intro h D;exact mw_again hq (enter_plain S (ih _ _ _ _ _ _ _ _ _ _ _ hF hG h D))
                | n+1=>exact hG
            | _ =>
              intro h D;exact mw_again hq (enter_plain S (ih _ _ _ _ _ _ _ _ _ _ _ hF hG h D))
    | raise e =>
      cases pd with
      | true=>exact hG
      | false =>
        cases κ with
        | nil=>exact hG
        | cons f' κ =>
          intro h D;exact y_raise _ _ _ _ _ _ _ _ _ (y_err _ _ _ (ret_ok (ih _ _ _ _ _ _ _ _ _ _ _ hF hG h D)))
    | rule tag k =>
      intro h D;show MW V c κ (act pd _) _;rw [act_rule];exact y_skim _ _ _ _ _ _ _ _ _ 1 (ih _ _ _ _ _ _ _ _ _ _ _ hF hG h D)
    | «at» q k =>
      intro h D;show MW V c κ (act pd _) _;rw [act_at];exact y_skim _ _ _ _ _ _ _ _ _ 1 (ih _ _ _ _ _ _ _ _ _ _ _ hF hG h D)
    | point q k =>
      intro h D;show MW V c κ (act pd _) _;rw [act_point];exact y_skim _ _ _ _ _ _ _ _ _ 1 (ih _ _ _ _ _ _ _ _ _ _ _ hF hG h D)
    | ask k =>
      intro h D;show MW V c κ (act pd _) _;rw [act_ask];have z:=ih _ _ _ _ _ _ _ _ _ _ _ hF hG h D;have z':MW V c κ (act pd (k ⟨V.prog,V.w.params⟩)) ⟨h,g,d,tk,os⟩:=by
        rcases S.hg with q | q
        · exact q ▸ z
        · have hF':Fine (run E n orc pd c κ (k E.g) T m N tk ((.t (k E.g),.t (k E.g2))::ob) ln):=hF;have e':=hF'.1 (.t (k E.g),.t (k E.g2)) ((run_mono ..).1 _ (.head _));have e:k E.g=k E.g2:=OV.t.inj e';rw [e] at z;exact q ▸ z
      exact y_skim _ _ _ _ _ _ _ _ _ 1 z'
    | load a q k =>
      cases orc with
      | nil=>exact hG
      | cons o orc =>
        cases o with
        | zero =>
          cases hb:E.kt.get a with
          | none=>simp only [run,hb] at hG; exact hG
          | some b =>
            simp only [run,hb] at hF hG;intro h D;show MW V c κ (act pd _) _;rw [act_load];exact y_load _ _ _ _ _ _ _ _ _ _ _ _ _ _ _ b (D.top _ _ hb) (ih _ _ _ _ _ _ _ _ _ _ _ hF hG h D)
        | succ j =>
          cases hb:T.get j with
          | none=>simp only [run,hb] at hG; exact hG
          | some x =>
            simp only [run,hb] at hF hG;obtain ⟨a',b⟩:=x;have e:=hF.1 _ ((run_mono ..).1 _ (.head _));cases e;intro h D;show MW V c κ (act pd _) _;rw [act_load];exact y_load _ _ _ _ _ _ _ _ _ _ _ _ _ _ _ b (D.own _ _ _ hb).2.1 (ih _ _ _ _ _ _ _ _ _ _ _ hF hG h D)
    | loadIfAlive a k =>
      cases orc with
      | nil=>exact hG
      | cons o orc =>
        cases o with
        | zero =>
          cases hb:E.kt.get a with
          | none=>simp only [run,hb] at hG; exact hG
          | some b =>
            simp only [run,hb] at hF hG;intro h D;show MW V c κ (act pd _) _;rw [act_alive];exact y_alive _ _ _ _ _ _ _ _ _ _ _ _ _ _ b (D.top _ _ hb) (ih _ _ _ _ _ _ _ _ _ _ _ hF hG h D)
        | succ j =>
          cases hb:T.get j with
          | none=>simp only [run,hb] at hG; exact hG
          | some x =>
            simp only [run,hb] at hF hG;obtain ⟨a',b⟩:=x;have e:=hF.1 _ ((run_mono ..).1 _ (.head _));cases e;intro h D;show MW V c κ (act pd _) _;rw [act_alive];exact y_alive _ _ _ _ _ _ _ _ _ _ _ _ _ _ b (D.own _ _ _ hb).2.1 (ih _ _ _ _ _ _ _ _ _ _ _ hF hG h D)
    | update a q f k =>
      cases orc with
      | nil=>exact hG
      | cons o orc =>
        cases o with
        | zero=>exact hG
        | succ j =>
          cases hb:T.get j with
          | none=>simp only [run,hb] at hG; exact hG
          | some x =>
            cases hfr:(f x.2).isFreed with
            | true=>simp only [run,hb,hfr] at hG; exact hG
            | false =>
              simp only [run,hb,hfr] at hF hG;obtain ⟨a',b⟩:=x;have e:=hF.1 _ ((run_mono ..).1 _ (.head _));cases e;intro h D;show MW V c κ (act pd _) _;rw [act_update];exact wpOwn_bind (m:=updatePart _ q f) (f:=fun o=>act pd (k o)) (wpOwn_of_wpAny (wpAny_updatePart (D.own _ _ _ hb).2.1 (ih _ _ _ _ _ _ _ _ _ _ _ hF hG _ (D.update S.st hb hfr))))
    | alloc o k =>
      cases hfr:o.isFreed with
      | true=>simp only [run,hfr] at hG; exact hG
      | false =>
        cases hi:((T.ins m (N+m) o).get m).isSome with
        | false=>simp only [run,hfr,hi] at hG; exact hG
        | true =>
          simp only [run,hfr,hi] at hF hG;intro h D;show MW V c κ (act pd _) _;rw [act_alloc];have z:=ih _ _ _ _ _ _ _ _ _ _ _ hF hG _ (D.alloc S.st hfr hi);refine wpOwn_bind (m:=alloc o) (f:=fun a=>act pd (k a)) (wpOwn_of_wpAny (wpAny_alloc ?_));show wpOwn _ _ _ (act pd (k h.objs.size)) _ _ _;rw [D.size];exact z
    | fresh k =>
      intro h D;show MW V c κ (act pd _) _;rw [act_fresh];exact y_fresh _ _ _ _ _ _ _ _ _ _ _ _ _ (ih _ _ _ _ _ _ _ _ _ _ _ hF hG h D)
    | handled own k =>
      cases own with
      | true=>exact hG
      | false =>
        intro h D;show MW V c κ (act pd _) _;rw [act_handled];refine y_handled _ _ _ _ _ _ _ _ _ ?_;rw [handled_toK V S.hh κ];exact ih _ _ _ _ _ _ _ _ _ _ _ hF hG h D
    | call c' hd gd l k =>
      cases pd with
      | true=>exact hG
      | false =>
        cases hd with
        | some v=>exact hG
        | none =>
          cases c' with
          | call f args =>
            cases orc with
            | nil=>exact hG
            | cons o orc =>
              match o with
              | 0 =>
                intro h D;exact mw_call (enter_plain S (ih _ _ _ _ _ _ _ _ _ _ _ hF hG h D))
              | 1 =>
                cases f with
                | ref a =>
                  cases hb:E.kt.get a with
                  | none=>simp only [run,hb] at hG; exact hG
                  | some b =>
                    cases hfd:b.data with
                    | func fd =>
                      cases hok:okF fd with
                      | true =>
                        simp only [run,hb,hfd,hok] at hF hG;intro h D;exact mw_call (enter_def S (D.top _ _ hb) hfd hok (ih _ _ _ _ _ _ _ _ _ _ _ hF hG h D))
                      | false=>simp only [run,hb,hfd,hok] at hG; exact hG
                    | _=>simp only [run,hb,hfd] at hG; exact hG
                | _=>exact hG
              | 2=>exact hG
              | 3 =>
                match orc with
                | []=>exact hG
                | [_]=>exact hG
                | [_,_]=>exact hG
                | i::u::j::orc =>
                  simp only [run] at hG
                  split at hG
                  · rename_i id x tx' a
                    cases hgi:E.GI id with
                    | false=>simp only [hgi] at hG; exact hG
                    | true =>
                      cases hsl:sliceCut E.tx T i u j x a with
                      | none=>simp only [hgi,hsl] at hG; exact hG
                      | some r =>
                        simp only [run,hgi,hsl] at hF hG;intro h D;have hid:=S.hGI _ hgi;subst hid;refine mw_call (slice_sound hsl (fun e he=>hF.1 _ ((run_mono ..).1 _ (mem_appO.mpr (.inl he)))) (fun a o q=>(D.own _ _ _ q).2.1) S.tx S.wl ?_);exact ih _ _ _ _ _ _ _ _ _ _ _ hF hG h D
                  · exact hG
              | 4 =>
                simp only [run] at hG
                split at hG
                · rename_i id x tx' y ty'
                  cases hgi:E.AD id with
                  | false=>simp only [hgi] at hG; exact hG
                  | true =>
                    cases hx:x.length with
                    | zero=>simp only [hgi,hx] at hG; exact hG
                    | succ nx =>
                      cases hy:y.length with
                      | zero=>simp only [hgi,hx,hy] at hG; exact hG
                      | succ ny =>
                        simp only [run,hgi,hx,hy] at hF hG;intro h D;have hid:=S.hAD _ hgi;subst hid;refine mw_call (add_sound (by omega) (by omega) (hF.2 _ ((run_mono ..).2 _ (.head _))) ?_);exact ih _ _ _ _ _ _ _ _ _ _ _ hF hG h D
                · exact hG
              | 5 =>
                simp only [run] at hG
                split at hG
                · rename_i id x tx'
                  cases hgi:E.LE id with
                  | false=>simp only [hgi] at hG; exact hG
                  | true =>
                    simp only [run,hgi] at hF hG;intro h D;have hid:=S.hLE _ hgi;subst hid;refine mw_call (len_sound (hF.2 _ ((run_mono ..).2 _ (.head _))) ?_);exact ih _ _ _ _ _ _ _ _ _ _ _ hF hG h D
                · exact hG
              | n+6=>exact hG
          | builtin x1 x2 =>
            cases orc with
            | nil=>exact hG
            | cons o orc =>
              match o with
              | 0 =>
                intro h D;exact mw_call (enter_plain S (ih _ _ _ _ _ _ _ _ _ _ _ hF hG h D))
              | n+1=>exact hG
          | whileLoop x1 x2 x3 x4 =>
            cases orc with
            | nil=>exact hG
            | cons o orc =>
              match o with
              | 0 =>
                intro h D;exact mw_call (enter_plain S (ih _ _ _ _ _ _ _ _ _ _ _ hF hG h D))
              | n+1=>exact hG
          | forLoop x1 x2 x3 x4 x5 =>
            cases orc with
            | nil=>exact hG
            | cons o orc =>
              match o with
              | 0 =>
                intro h D;exact mw_call (enter_plain S (ih _ _ _ _ _ _ _ _ _ _ _ hF hG h D))
              | n+1=>exact hG
          | _ =>
            intro h D;exact mw_call (enter_plain S (ih _ _ _ _ _ _ _ _ _ _ _ hF hG h D))
    | _=>exact hG
end
noncomputable def er:Value->Value
  | .int i _=>.int i 0
  | .str s _=>.str s 0
  | .float x _=>.float x 0
  | .bytes b _=>.bytes b 0
  | v=>v
noncomputable def un (t:Tok):Value->Value
  | .int i _=>.int i t
  | .str s _=>.str s t
  | .float x _=>.float x t
  | .bytes b _=>.bytes b t
  | v=>v
structure Nz where
  h:Nat->Int
  k:Nat->Tok
  v:Nat->Tok
  n:Nat
noncomputable def erL:List Value->List Value
  | []=>[]
  | v::l=>er v::erL l
noncomputable def unL (f:Nat->Tok):Nat->List Value->List Value
  | _,[]=>[]
  | i,v::l=>un (f i) v::unL f (Nat.succ i) l
noncomputable def erE:List DictEntry->List DictEntry
  | []=>[]
  | e::l=>⟨0,er e.key,er e.val⟩::erE l
noncomputable def unE (z:Nz):Nat->List DictEntry->List DictEntry
  | _,[]=>[]
  | i,e::l=>⟨z.h i,un (z.k i) e.key,un (z.v i) e.val⟩::unE z (Nat.succ i) l
noncomputable def erD:Data->Data
  | .seq ⟨l⟩ _=>.seq ⟨erL l⟩ 0
  | .dict ⟨l⟩ _=>.dict ⟨erE l⟩ 0
  | .fields ⟨l⟩=>.fields ⟨erL l⟩
  | .prim v=>.prim (er v)
  | d=>d
noncomputable def unD (z:Nz):Data->Data
  | .seq ⟨l⟩ _=>.seq ⟨unL z.v 0 l⟩ z.n
  | .dict ⟨l⟩ _=>.dict ⟨unE z 0 l⟩ z.n
  | .fields ⟨l⟩=>.fields ⟨unL z.v 0 l⟩
  | .prim v=>.prim (un (z.v 0) v)
  | d=>d
noncomputable def erO:Obj->Obj
  | ⟨c,d,dt,s⟩=>⟨c,d,erD dt,s⟩
noncomputable def unO (z:Nz):Obj->Obj
  | ⟨c,d,dt,s⟩=>⟨c,d,unD z dt,s⟩
noncomputable def tokOf:Value->Tok
  | .int _ t=>t
  | .str _ t=>t
  | .float _ t=>t
  | .bytes _ t=>t
  | _=>0
theorem un_er (v:Value):un (tokOf v) (er v)=v:=by cases v <;> rfl
theorem er_un (t:Tok) (v:Value):er (un t v)=er v:=by cases v <;> rfl
theorem erL_eq:∀ l,erL l=l.map er
  | []=>rfl
  | v::l=>congrArg (er v::·) (erL_eq l)
theorem unL_er (f:Nat->Tok):∀ (l:List Value) (i:Nat),(∀ j v,l[j]? = some v->f (i+j)=tokOf v)->unL f i (erL l)=l
  | [],_,_=>rfl
  | v::l,i,h=>by
    show un (f i) (er v)::unL f (Nat.succ i) (erL l)=_;rw [show f i=tokOf v from h 0 v rfl,un_er,unL_er f l (Nat.succ i) fun j w e=>by
      have:=h (j+1) w (by simpa using e);rw [<- this]
      congr 1
      omega]
theorem unE_er (z:Nz):∀ (l:List DictEntry) (i:Nat),(∀ j e,l[j]? = some e->z.h (i+j)=e.hash∧z.k (i+j)=tokOf e.key∧z.v (i+j)=tokOf e.val)->unE z i (erE l)=l
  | [],_,_=>rfl
  | e::l,i,h=>by
    obtain ⟨h1,h2,h3⟩:=h 0 e rfl;show (⟨z.h i,un (z.k i) (er e.key),un (z.v i) (er e.val)⟩:DictEntry)::unE z (Nat.succ i) (erE l)=_;rw [show z.h i=e.hash from h1,show z.k i=tokOf e.key from h2,show z.v i=tokOf e.val from h3,un_er,un_er,unE_er z l (Nat.succ i) fun j w q=>by
      have:=h (j+1) w (by simpa using q);rw [show Nat.succ i+j=i+(j+1) from by omega];exact this]
theorem unD_er (dt:Data):∃ z,unD z (erD dt)=dt:=by
  cases dt with
  | seq items n =>
    obtain ⟨l⟩:=items;refine ⟨⟨fun _=>0,fun _=>0,fun j=>(l[j]?.map tokOf).getD 0,n⟩,?_⟩;show Data.seq ⟨unL _ 0 (erL l)⟩ n=_;rw [unL_er _ l 0 fun j v e=>by simp [e]]
  | dict es n =>
    obtain ⟨l⟩:=es;refine ⟨⟨fun j=>(l[j]?.map (·.hash)).getD 0,fun j=>(l[j]?.map (fun e=>tokOf e.key)).getD 0,fun j=>(l[j]?.map (fun e=>tokOf e.val)).getD 0,n⟩,?_⟩;show Data.dict ⟨unE _ 0 (erE l)⟩ n=_;rw [unE_er _ l 0 fun j v e=>by simp [e]]
  | fields vs =>
    obtain ⟨l⟩:=vs;refine ⟨⟨fun _=>0,fun _=>0,fun j=>(l[j]?.map tokOf).getD 0,0⟩,?_⟩;show Data.fields ⟨unL _ 0 (erL l)⟩=_;rw [unL_er _ l 0 fun j v e=>by simp [e]]
  | prim v=>exact ⟨⟨fun _=>0,fun _=>0,fun _=>tokOf v,0⟩,congrArg Data.prim (un_er v)⟩
  | _=>exact ⟨⟨fun _=>0,fun _=>0,fun _=>0,0⟩,rfl⟩
theorem unO_er (o:Obj):∃ z,unO z (erO o)=o:=by
  obtain ⟨c,d,dt,s⟩:=o;obtain ⟨z,e⟩:=unD_er dt;exact ⟨z,congrArg (fun x=>Obj.mk c d x s) e⟩
theorem un_nz (e o:Obj) (h:erO o=e):∃ z,o=unO z e:=by
  obtain ⟨z,q⟩:=unO_er o;exact ⟨z,by rw [<- h]; exact q.symm⟩
theorem erL_un (f:Nat->Tok):∀ (l:List Value) (i:Nat),erL (unL f i l)=erL l
  | [],_=>rfl
  | v::l,i=>by show er (un (f i) v)::erL (unL f (Nat.succ i) l)=_; rw [er_un,erL_un f l]; rfl
theorem erE_un (z:Nz):∀ (l:List DictEntry) (i:Nat),erE (unE z i l)=erE l
  | [],_=>rfl
  | e::l,i=>by show (⟨0,er (un (z.k i) e.key),er (un (z.v i) e.val)⟩:DictEntry)::erE (unE z (Nat.succ i) l)=_; rw [er_un,er_un,erE_un z l]; rfl
theorem erO_un (z:Nz) (o:Obj):erO (unO z o)=erO o:=by
  obtain ⟨c,d,dt,s⟩:=o;have:erD (unD z dt)=erD dt:=by
    cases dt with
    | seq items n=>obtain ⟨l⟩:=items; show Data.seq ⟨erL (unL z.v 0 l)⟩ 0=Data.seq ⟨erL l⟩ 0; rw [erL_un]
    | dict es n=>obtain ⟨l⟩:=es; show Data.dict ⟨erE (unE z 0 l)⟩ 0=Data.dict ⟨erE l⟩ 0; rw [erE_un]
    | fields vs=>obtain ⟨l⟩:=vs; show Data.fields ⟨erL (unL z.v 0 l)⟩=Data.fields ⟨erL l⟩; rw [erL_un]
    | prim v=>exact congrArg Data.prim (er_un ..)
    | _=>rfl
  exact congrArg (fun x=>Obj.mk c d x s) this
noncomputable def Has (h:Heap) (a:Nat) (e:Obj):Prop:=661<=a∧∃ o,h.get? a=some o∧erO o=e
theorem Has.lt {h:Heap} {a:Nat} {e:Obj} (x:Has h a e):a < h.objs.size:=let ⟨_,_,ho,_⟩:=x; Heap.lt_size ho
theorem Has.uniq {h:Heap} {a:Nat} {e e':Obj} (x:Has h a e) (y:Has h a e'):e=e':=by
  obtain ⟨_,o,ho,eo⟩:=x;obtain ⟨_,o',ho',eo'⟩:=y;rw [ho] at ho';cases ho';rw [<- eo,eo']
noncomputable def HasAll (h:Heap):List (Nat×Obj)->Prop
  | []=>True
  | p::l=>Has h p.1 p.2∧HasAll h l
theorem HasAll.get {h:Heap}:∀ {l:List (Nat×Obj)},HasAll h l->∀ {j:Nat} {p:Nat×Obj},l[j]? = some p->Has h p.1 p.2
  | [],_,j,p,e=>by simp at e
  | q::l,H,0,p,e=>by cases e; exact H.1
  | q::l,H,j+1,p,e=>H.2.get (by simpa using e)
noncomputable def mkT (zs:Nat->Nz):Nat->LT->List (Nat×Obj)->LT
  | _,T,[]=>T
  | i,T,p::l=>mkT zs (Nat.succ i) (T.ins i p.1 (unO (zs i) p.2)) l
theorem mkT_full (zs:Nat->Nz):∀ (l:List (Nat×Obj)) (n:Nat) (T:LT),Full T n->Full (mkT zs n T l) (n+l.length)
  | [],n,T,h=>h
  | p::l,n,T,h=>by
    have:=mkT_full zs l (n+1) _ (h.step p.1 (unO (zs n) p.2));rw [List.length_cons,show n+(l.length+1)=n+1+l.length from by omega];exact this
theorem mkT_get (zs:Nat->Nz):∀ (l:List (Nat×Obj)) (n:Nat) (T:LT),Full T n->∀ j,(mkT zs n T l).get j=if j < n then T.get j else (l[j - n]?).map fun p=>(p.1,unO (zs j) p.2)
  | [],n,T,h,j=>by
    show T.get j=_
    by_cases e:j < n
    · rw [if_pos e]
    · rw [if_neg e];have:¬ (T.get j).isSome=true:=fun q=>e ((h j).mp q);cases hT:T.get j with
      | none=>simp
      | some x=>rw [hT] at this; exact absurd rfl this
  | p::l,n,T,h,j=>by
    show (mkT zs (n+1) _ l).get j=_;rw [mkT_get zs l (n+1) _ (Full.step h p.1 (unO (zs n) p.2)) j,get_step h]
    by_cases e:j < n
    · rw [if_pos (by omega),if_neg (by omega),if_pos e]
    · rw [if_neg e]
      by_cases e':j=n
      · subst e';rw [if_pos (by omega),if_pos rfl]
        simp
      · rw [if_neg (by omega)];have:j - n=(j - (n+1))+1:=by omega
        rw [this]
        simp
noncomputable def erF:Flow->Flow
  | .ret v=>.ret (er v)
  | f=>f
noncomputable def erC:Code->Code
  | .call f args=>.call f ⟨erL args.pos,args.kw⟩
  | .builtin f args=>.builtin f ⟨erL args.pos,args.kw⟩
  | c=>c
noncomputable def unC (f:Nat->Tok):Code->Code
  | .call g args=>.call g ⟨unL f 0 args.pos,args.kw⟩
  | .builtin g args=>.builtin g ⟨unL f 0 args.pos,args.kw⟩
  | c=>c
theorem un_code (c:Code):∃ f,c=unC f (erC c):=by
  cases c with
  | call g args =>
    obtain ⟨pos,kw⟩:=args;refine ⟨fun j=>(pos[j]?.map tokOf).getD 0,?_⟩;show Code.call g ⟨pos,kw⟩=Code.call g ⟨unL _ 0 (erL pos),kw⟩;rw [unL_er _ pos 0 fun j v e=>by simp [e]]
  | builtin g args =>
    obtain ⟨pos,kw⟩:=args;refine ⟨fun j=>(pos[j]?.map tokOf).getD 0,?_⟩;show Code.builtin g ⟨pos,kw⟩=Code.builtin g ⟨unL _ 0 (erL pos),kw⟩;rw [unL_er _ pos 0 fun j v e=>by simp [e]]
  | _=>exact ⟨fun _=>0,rfl⟩
structure Base (w:World) (Dp Un:Nat) (A:Around) (s:Shared):Prop where
  hh:A.handled=none
  dep:A.depth+Dp < recursionLimit
  uni:A.units+Un < cLine
  top:∀ (a:Nat) (o:Obj),(ktop w.params).get a=some o->s.heap.get? a=some o
structure After (s s':Shared) (W:List Nat):Prop where
  gens:s'.gens=s.gens
  drawn:s'.drawn=s.drawn
  os:s'.os=s.os
  size:s.heap.objs.size<=s'.heap.objs.size
  keep:∀ (b:Nat) (o:Obj),s.heap.get? b=some o->b ∉ W->s'.heap.get? b=some o
structure Post where
  r:Flow
  upd:List Obj
  news:List (Nat×Obj)
noncomputable def keys (l:List (Nat×Obj)):List Nat:=l.map (·.1)
noncomputable def Con (w:World) (Dp Un:Nat) (cd:Code) (pre:List (Nat×Obj)) (Sd:Heap->Prop) {β:Type} (out:β->Post) (Pd:β->Heap->Prop):Prop:=
  ∀ (A:Around) (s:Shared) (R:Result->Shared->Prop) (c:Code),Base w Dp Un A s->erC c=cd->HasAll s.heap pre->(keys pre).Nodup->Sd s.heap ->
    (∀ (b:β) (fl:Flow) (s':Shared),erF fl=(out b).r->After s s' (keys pre)->HasAll s'.heap (List.zip (keys pre) (out b).upd)->(out b).upd.length=pre.length->HasAll s'.heap (out b).news ->
      (keys (out b).news).Nodup->(∀ a ∈ keys (out b).news,s.heap.objs.size<=a)->Pd b s'.heap->R (.ok fl) s')->codeAny (model pz w) A c R s
noncomputable def frOf (T:LT) (n:Nat) (b:Nat):Prop:=b < n∧∀ j a o,T.get j=some (a,o)->a ≠ b
theorem Rep.rebase {kt:KT} {fr:Nat->Prop} {h₀ h:Heap} {T:LT} {m N:Nat} (D:Rep kt fr h₀ T m N h):Rep kt (frOf T h.objs.size) h T m N h:=
  ⟨D.size,fun j a o e=>⟨(D.own j a o e).1,(D.own j a o e).2.1,(D.own j a o e).2.2.1,fun q=>q.2 j a o e rfl⟩,D.inj,D.top,fun _ _ _ e=>e,Nat.le_of_eq D.size,D.full⟩
theorem Rep.trans {kt:KT} {fr:Nat->Prop} {h₀ h₁ h:Heap} {T T':LT} {m m' N N':Nat} (S:Stat kt fr h₀) (D:Rep kt fr h₀ T m N h₁) (D':Rep kt (frOf T h₁.objs.size) h₁ T' m' N' h)
    (sub:∀ j a o,T'.get j=some (a,o)->¬ fr a):Rep kt fr h₀ T' m' N' h:=
  ⟨D'.size,fun j a o e=>⟨(D'.own j a o e).1,(D'.own j a o e).2.1,(D'.own j a o e).2.2.1,sub j a o e⟩,D'.inj,D'.top,fun b o q e=>D'.keep b o ⟨by
      have:=D.grow;have:=S.frlt b q;rw [D.size]; omega,fun j a o' e' z=>(D.own j a o' e').2.2.2 (z ▸ q)⟩ (D.keep b o q e),by
      have:=D.grow;have:=D'.grow;rw [D.size] at this
      omega,D'.full⟩
theorem Rep.away {kt:KT} {fr:Nat->Prop} {h₀ h₁ h:Heap} {T T':LT} {m m' N N':Nat} (S:Stat kt fr h₀) (D:Rep kt fr h₀ T m N h₁) (D':Rep kt (frOf T h₁.objs.size) h₁ T' m' N' h) :
    Rep kt fr h₀ T' m' N' h:=Rep.trans S D D' fun j a o e q=>(D'.own j a o e).2.2.2 ⟨by
      have:=D.grow;have:=S.frlt a q;rw [D.size]; omega,fun j' a' o' e' z=>(D.own j' a' o' e').2.2.2 (z ▸ q)⟩
theorem Stat.rebase {kt:KT} {fr:Nat->Prop} {h₀ h:Heap} {T:LT} {m N:Nat} (S:Stat kt fr h₀) (D:Rep kt fr h₀ T m N h):Stat kt (frOf T h.objs.size) h:=
  ⟨fun _ q=>q.1,S.ktlt,by have:=S.big; have:=D.grow; rw [D.size]; omega⟩
noncomputable def go (E:RE) (n:Nat) (orc:List Nat) (X:MS):MS:=run E n orc X.pd X.c X.κ X.t X.T X.m X.N X.tk [] []
noncomputable def obL:List (OV×OV)->List OV
  | []=>[]
  | x::l=>x.1::obL l
noncomputable def obR:List (OV×OV)->List OV
  | []=>[]
  | x::l=>x.2::obR l
theorem ob_eq:∀ {l:List (OV×OV)},obL l=obR l->∀ e ∈ l,e.1=e.2
  | x::l,h,e,he=>by
    injection h with h1 h2
    cases he with
    | head=>exact h1
    | tail _ q=>exact ob_eq h2 e q
noncomputable def callC:Sem Fin->Option Code
  | .call c none _ _ _=>some c
  | _=>none
noncomputable def callK:Sem Fin->Result->Sem Fin
  | .call _ _ _ _ k=>k
  | _=>fun _=>.raise .none
theorem callC_eq {t:Sem Fin} {c:Code} (h:callC t=some c):∃ gd l,t = .call c none gd l (callK t):=by
  cases t with
  | call c' hd gd l k =>
    cases hd with
    | none=>cases h; exact ⟨gd,l,rfl⟩
    | some v=>cases h
  | _=>cases h
noncomputable def finF (X:MS):Option Flow:=match X.κ,X.pd,X.t with
  | [],false,.pure (.done f)=>some f
  | _,_,_=>none
noncomputable def uK:List KF->Nat
  | []=>0
  | f::κ=>Nat.add (uK κ) f.c.cUnits
theorem units_toK (V:XV):∀ κ,(aroundOf V true (toK κ)).units=V.A₀.units+uK κ
  | []=>rfl
  | f::κ=>by
    show (aroundOf V true (toK κ)).units+f.c.cUnits=V.A₀.units+(Nat.add (uK κ) f.c.cUnits);rw [units_toK V κ];exact Nat.add_assoc ..
noncomputable def lookA (T:LT):List Nat->List (Option (Nat×Obj))
  | []=>[]
  | j::l=>(match T.get j with | some p=>some (p.1,erO p.2) | none=>none)::lookA T l
noncomputable def someA:List (Nat×Obj)->List (Option (Nat×Obj))
  | []=>[]
  | p::l=>some p::someA l
noncomputable def upto:Nat->Nat->List Nat
  | _,0=>[]
  | i,n+1=>i::upto (Nat.succ i) n
noncomputable def adr (T:LT) (j:Nat):Nat:=match T.get j with | some p=>p.1 | none=>0
noncomputable def zipU:List (Nat×Obj)->List Obj->List (Nat×Obj)
  | p::l,o::r=>(p.1,o)::zipU l r
  | _,_=>[]
theorem zipU_eq:∀ (l:List (Nat×Obj)) (r:List Obj),zipU l r=List.zip (keys l) r
  | [],r=>by simp [zipU,keys]
  | p::l,[]=>by simp [zipU,keys]
  | p::l,o::r=>by show (p.1,o)::zipU l r=_; rw [zipU_eq l r]; rfl
theorem look_has {kt:KT} {fr:Nat->Prop} {h₀ h:Heap} {T:LT} {m N:Nat} (D:Rep kt fr h₀ T m N h):∀ {idx:List Nat} {l:List (Nat×Obj)},lookA T idx=someA l->HasAll h l
  | [],[],_=>trivial
  | [],_::_,e=>by cases e
  | _::_,[],e=>by cases e
  | j::idx,p::l,e=>by
    injection e with e1 e2
    refine ⟨?_,look_has D e2⟩
    split at e1
    · rename_i q hq
      cases e1;have z:=D.own j _ _ hq;exact ⟨z.2.2.1,_,z.2.1,rfl⟩
    · cases e1
theorem look_get {T:LT}:∀ {idx:List Nat} {l:List (Nat×Obj)},lookA T idx=someA l->∀ (i:Nat) (p:Nat×Obj),l[i]? = some p->∃ (j:Nat) (o:Obj),idx[i]? = some j∧T.get j=some (p.1,o)∧erO o=p.2
  | [],[],_,i,p,h=>by simp at h
  | [],_::_,e,_,_,_=>by cases e
  | _::_,[],e,_,_,_=>by cases e
  | j::idx,q::l,e,i,p,h=>by
    injection e with e1 e2
    cases i with
    | zero =>
      cases h
      split at e1
      · rename_i x hx
        cases e1;exact ⟨j,x.2,rfl,hx,rfl⟩
      · cases e1
    | succ i =>
      obtain ⟨j',o,h1,h2,h3⟩:=look_get e2 i p (by simpa using h);exact ⟨j',o,by simpa using h1,h2,h3⟩
theorem look_nodup {kt:KT} {fr:Nat->Prop} {h₀ h:Heap} {T:LT} {m N:Nat} (D:Rep kt fr h₀ T m N h) {idx:List Nat} {l:List (Nat×Obj)} (e:lookA T idx=someA l) (hn:idx.Nodup):(keys l).Nodup:=by
  rw [List.nodup_iff_pairwise_ne,List.pairwise_iff_getElem] at hn;rw [List.nodup_iff_pairwise_ne,List.pairwise_iff_getElem];intro i i' hi hi' lt q;have hl:i < l.length:=by simpa [keys] using hi
  have hl':i' < l.length:=by simpa [keys] using hi'
  obtain ⟨j,o,h1,h2,h3⟩:=look_get e i l[i] (List.getElem?_eq_getElem hl);obtain ⟨j',o',h1',h2',h3'⟩:=look_get e i' l[i'] (List.getElem?_eq_getElem hl');have q':l[i].1=l[i'].1:=by simpa [keys] using q
  rw [q'] at h2;have z:=D.inj _ _ _ _ _ h2 h2';obtain ⟨k1,e1⟩:=List.getElem?_eq_some_iff.mp h1;obtain ⟨k2,e2⟩:=List.getElem?_eq_some_iff.mp h1';exact hn i i' k1 k2 lt (by rw [e1,e2,z])
noncomputable def den:Code->Sem Fin:=PySem.W.Fast.tw11892475500146522536 PySem.W.Fast.tw14364793385576792824
theorem den_eq:den=denote table:=by
  unfold den
  rw [<- PySem.W.Fast.te11892475500146522536,<- PySem.W.Fast.te14364793385576792824,<- table_eq_tree]
noncomputable def pf (P:Params) (b1 b2 b3:Bool):Params:={ P with followText:=fun r=>if r = "special-get-raises" then b1 else if r = "comprehension-iter-twice" then b2 else if r = "for-iterable-display-folded" then b3 else P.followText r }
theorem pf_self (P:Params):P=pf P (P.followText "special-get-raises") (P.followText "comprehension-iter-twice") (P.followText "for-iterable-display-folded"):=by
  unfold pf
  have:P.followText=fun r=>if r = "special-get-raises" then P.followText "special-get-raises" else if r = "comprehension-iter-twice" then P.followText "comprehension-iter-twice" else if r = "for-iterable-display-folded" then P.followText "for-iterable-display-folded" else P.followText r:=by
    funext r
    by_cases h1:r = "special-get-raises"
    · rw [if_pos h1,h1]
    · rw [if_neg h1]
      by_cases h2:r = "comprehension-iter-twice"
      · rw [if_pos h2,h2]
      · rw [if_neg h2]
        by_cases h3:r = "for-iterable-display-folded"
        · rw [if_pos h3,h3]
        · rw [if_neg h3]
  conv=>lhs; rw [show P={ P with followText:=P.followText } from rfl]
  rw [<- this]
noncomputable def locZ:Str:=⟨⟨[46,60,108,111,99,97,108,115,62,46]⟩⟩
theorem locZ_eq:locZ=Str.ofString ".<locals>.":=by kernel_rfl
noncomputable def cfT (self:Addr) (fd:FuncData) (args:Args):Sem Fin:=
  letI:Monad Sem:=PySem.W.Fast.tw12456147031677567982
  do
  let compiled <- match fd.code with
    | .none=>pure fd.qualname
    | c=>do match <- PySem.W.Fast.tw6609576154772507232 c 1 with
      | .str q _=>pure q
      | _=>pure fd.qualname
  let binds <- PySem.W.Fast.tw9782568553167038054 fd args
  let env <- PySem.W.Fast.tw11113344188204177931 fd.scope fd.globals fd.closure binds (@HAppend.hAppend Str Str Str (@instHAppendOfAppend Str PySem.W.Fast.tw178013285451222756) compiled locZ) (some self) fd.code none fd.builtins
  match fd.body with
  | .stmts b=>.pure (.again (.func b env))
  | .expr e=>.pure (.again (.expr e env))
theorem cfT_eq:cfT=cfM:=by
  delta cfT cfM
  rw [<- PySem.W.Fast.te12456147031677567982,<- PySem.W.Fast.te6609576154772507232,<- PySem.W.Fast.te9782568553167038054,<- PySem.W.Fast.te11113344188204177931,<- PySem.W.Fast.te178013285451222756,locZ_eq]
  all_goals rfl
noncomputable def wcT (c:Code):Nat:=Nat.add (Nat.add (Nat.add (PySem.W.Fast.tw10353961693711113640 c) (match c.isCreation with | true=>1 | false=>0)) (match c.isGuard with | true=>1 | false=>0)) (match c.isCaller with | true=>claimMargin | false=>0)
theorem wcT_eq (c:Code):wcT c=c.weight:=by
  unfold wcT Code.weight
  rw [<- PySem.W.Fast.te10353961693711113640];cases c.isCreation <;> cases c.isGuard <;> cases c.isCaller <;> rfl
noncomputable def wKT:List KF->Nat
  | []=>0
  | f::κ=>Nat.add (wKT κ) (wcT f.c)
theorem wKT_eq:wKT=wK:=by
  funext κ
  induction κ with
  | nil=>rfl
  | cons f κ ih =>
    unfold wKT wK
    rw [ih,wcT_eq]
noncomputable def thZ (c:Code):Thread:=⟨.pure (.again c),c,default,[]⟩
noncomputable def quietT (c:Code):Bool:=!(PySem.W.Fast.tw15578638425004381011 (thZ c) && !PySem.W.Fast.tw8446751554062831747 (thZ c) || PySem.W.Fast.tw6516510885911402389 (thZ c))
theorem quietT_eq:quietT=quietP:=by
  funext c
  unfold quietT quietP thZ Code.quiet Thread.loud
  rw [<- PySem.W.Fast.te15578638425004381011,<- PySem.W.Fast.te8446751554062831747,<- PySem.W.Fast.te6516510885911402389]
noncomputable def EE (P:Params) (b1 b2 b3:Bool) (tx:Tx):RE:=⟨den,cfT,wKT,quietT,isGI,isAdd,isLen,ktop P,⟨pz,pf P true b2 b3⟩,⟨pz,pf P false b2 b3⟩,tx⟩
noncomputable def Rows (w:World) (b1 b2 b3:Bool):Prop:=w.params=pf w.params b1 b2 b3
noncomputable def V0 (w:World) (A:Around) (R:Result->Shared->Prop) (s:Shared):XV:=⟨pz,w,{},0,.nil,[],A,R,s.drawn,0,s.os⟩
noncomputable def X0 (c:Code) (T:LT) (m N tk:Nat):MS:=⟨false,c,[],.pure (.again c),T,m,N,tk,[],[]⟩
noncomputable def tx0:Tx:=⟨⟨#[]⟩,0,[]⟩
noncomputable def TxOk (tx:Tx):Prop:=(∃ pre post,tx.S.cps.toList=pre++(tx.win++post)∧pre.length=tx.q)∧tx.win.length<=sizeLine
theorem tx0_ok:TxOk tx0:=⟨⟨[],[],rfl,rfl⟩,Nat.zero_le _⟩
theorem kt_2 (P:Params):(ktop P).get 2=some { cls:=.none,data:=.dict #[] }:=by kernel_rfl
noncomputable def ob660 (P:Params):Obj:=((ktop P).get 660).getD default
theorem kt_660 (P:Params):(ktop P).get 660=some (ob660 P):=by kernel_rfl
noncomputable def ktOk:KT->Nat->Nat->Nat->Bool
  | .nil,_,_,_=>true
  | .node v l r,s,b,n=>(match v with | some _=>Nat.blt b n | none=>true) && (ktOk l (2*s) (s+b) n && ktOk r (2*s) (2*s+b) n)
theorem ktOk_get:∀ {t:KT} {s b n:Nat},ktOk t s b n=true->∀ {j:Nat} {o:Obj},t.get j=some o->s*j+b < n
  | .nil,_,_,_,_,_,_,e=>by cases e
  | .node v l r,s,b,n,H,j,o,e=>by
    obtain ⟨h1,h2⟩:=Bool.and_eq_true_iff.mp H;obtain ⟨h2,h3⟩:=Bool.and_eq_true_iff.mp h2;rw [KT.get_node] at e
    by_cases h0:j=0
    · subst h0;rw [if_pos rfl] at e;subst e;have:=blt_true h1
      omega
    · rw [if_neg h0] at e
      by_cases p:j % 2=1
      · rw [if_pos p] at e;have z:=ktOk_get h2 e;rw [<- KT.arith1 p] at z;exact z
      · rw [if_neg p] at e;have z:=ktOk_get h3 e;rw [<- KT.arith2 h0 p] at z;exact z
theorem kt_lt (P:Params) (a:Nat) (o:Obj) (h:(ktop P).get a=some o):a < 661:=by
  have z:=ktOk_get (t:=ktop P) (s:=1) (b:=0) (n:=661) (by kernel_rfl) h
  omega
theorem noLimit_of {P:Params} {h:Heap} (x:∀ (a:Nat) (o:Obj),(ktop P).get a=some o->h.get? a=some o):h.NoLimit:=by
  have e:=x 2 _ (kt_2 P);exact ⟨fun _=>none,⟨_,#[],0,e,rfl,fun e he=>by simp at he,fun _=>rfl⟩,rfl⟩
theorem isGI_is (id:String) (h:isGI id=true):id = "str.__getitem__":=by simpa [isGI] using h
theorem isAdd_is (id:String) (h:isAdd id=true):id = "str.__add__":=by simpa [isAdd] using h
theorem isLen_is (id:String) (h:isLen id=true):id = "len":=by simpa [isLen] using h
section
variable {w:World} {b1 b2 b3:Bool} {tx:Tx} {A:Around} {R:Result->Shared->Prop} {s:Shared} {fr:Nat->Prop} {h₀:Heap} {Dp Un:Nat}
structure GoodC (w:World) (b1 b2 b3:Bool) (tx:Tx) (A:Around) (R:Result->Shared->Prop) (s:Shared) (fr:Nat->Prop) (h₀:Heap) (X:MS):Prop where
  val:Good (V0 w A R s) (EE w.params b1 b2 b3 tx) fr h₀ s.gens s.drawn s.os X
structure Cx (w:World) (b1 b2 b3:Bool) (Dp Un:Nat) (tx:Tx) (A:Around) (fr:Nat->Prop) (h₀:Heap):Prop where
  rows:Rows w b1 b2 b3
  hh:A.handled=none
  dep:A.depth+Dp < recursionLimit
  uni:A.units+Un < cLine
  st:Stat (ktop w.params) fr h₀
  tx:TxOk tx
  dp:100<=Dp
theorem Cx.snd (C:Cx w b1 b2 b3 Dp Un tx A fr h₀):Snd (V0 w A R s) (EE w.params b1 b2 b3 tx) fr h₀ where
  hD:=den_eq
  hCF:=cfT_eq
  hW:=wKT_eq
  hQ:=quietT_eq
  hGI:=isGI_is
  hAD:=isAdd_is
  hLE:=isLen_is
  hg:=by
    have e:=C.rows;cases b1
    · refine .inr ?_;show Setting.mk pz (pf w.params false b2 b3)=⟨pz,w.params⟩;rw [<- e]
    · refine .inl ?_;show Setting.mk pz (pf w.params true b2 b3)=⟨pz,w.params⟩;rw [<- e]
  hh:=C.hh
  hdep:=by have:=C.dep; have:=C.dp; show A.depth+100 < recursionLimit; omega
  hNL:=fun h x=>noLimit_of x
  st:=C.st
  tx:=C.tx.1
  wl:=C.tx.2
theorem seg (C:Cx w b1 b2 b3 Dp Un tx A fr h₀) {X:MS} (n:Nat) (orc:List Nat) (h1:obL (go (EE w.params b1 b2 b3 tx) n orc X).ob=obR (go (EE w.params b1 b2 b3 tx) n orc X).ob) (h2:(go (EE w.params b1 b2 b3 tx) n orc X).ln=[])
    (h:GoodC w b1 b2 b3 tx A R s fr h₀ (go (EE w.params b1 b2 b3 tx) n orc X)):GoodC w b1 b2 b3 tx A R s fr h₀ X:=by
  have z:=run_sound (C.snd (R:=R) (s:=s)) n orc X.pd X.c X.κ X.t X.T X.m X.N X.tk [] [] ⟨ob_eq h1,fun x hx=>by rw [show (run _ n orc X.pd X.c X.κ X.t X.T X.m X.N X.tk [] []).ln=[] from h2] at hx; cases hx⟩ h.val;exact ⟨z⟩
theorem segL (C:Cx w b1 b2 b3 Dp Un tx A fr h₀) {X:MS} (n:Nat) (orc:List Nat) (l:List Nat) (h1:obL (go (EE w.params b1 b2 b3 tx) n orc X).ob=obR (go (EE w.params b1 b2 b3 tx) n orc X).ob) (h2:(go (EE w.params b1 b2 b3 tx) n orc X).ln=l)
    (h3:∀ x ∈ l,x<=sizeLine) (h:GoodC w b1 b2 b3 tx A R s fr h₀ (go (EE w.params b1 b2 b3 tx) n orc X)):GoodC w b1 b2 b3 tx A R s fr h₀ X:=by
  have z:=run_sound (C.snd (R:=R) (s:=s)) n orc X.pd X.c X.κ X.t X.T X.m X.N X.tk [] [] ⟨ob_eq h1,fun x hx=>by rw [show (run _ n orc X.pd X.c X.κ X.t X.T X.m X.N X.tk [] []).ln=l from h2] at hx; exact h3 x hx⟩ h.val;exact ⟨z⟩
theorem has_nz {h:Heap}:∀ (l:List (Nat×Obj)),HasAll h l->∃ zs:Nat->Nz,∀ j p,l[j]? = some p->661<=p.1∧h.get? p.1=some (unO (zs j) p.2)
  | [],_=>⟨fun _=>⟨fun _=>0,fun _=>0,fun _=>0,0⟩,fun j p e=>by simp at e⟩
  | q::l,H=>by
    obtain ⟨zs,hz⟩:=has_nz l H.2;obtain ⟨hq,o,ho,he⟩:=H.1;obtain ⟨z,e⟩:=un_nz _ _ he;refine ⟨fun j=>match j with | 0=>z | j+1=>zs j,fun j p e'=>?_⟩
    cases j with
    | zero=>cases e'; exact ⟨hq,by rw [ho,e]⟩
    | succ j=>exact hz j p (by simpa using e')
theorem rep_start {h:Heap} {pre:List (Nat×Obj)} {zs:Nat->Nz} (hz:∀ j p,pre[j]? = some p->661<=p.1∧h.get? p.1=some (unO (zs j) p.2)) (hn:(keys pre).Nodup) (top:∀ (a:Nat) (o:Obj),(ktop w.params).get a=some o->h.get? a=some o)
    {N:Nat} (hN:h.objs.size=N+pre.length):Rep (ktop w.params) (frOf (mkT zs 0 .nil pre) h.objs.size) h (mkT zs 0 .nil pre) pre.length N h:=by
  have hg:=mkT_get zs pre 0 .nil full_nil;have key:∀ j a o,(mkT zs 0 .nil pre).get j=some (a,o)->∃ p,pre[j]? = some p∧a=p.1∧o=unO (zs j) p.2:=fun j a o e=>by
    rw [hg,if_neg (Nat.not_lt_zero _),Nat.sub_zero] at e;cases q:pre[j]? with
    | none=>rw [q] at e; cases e
    | some p=>rw [q] at e; cases e; exact ⟨p,rfl,rfl,rfl⟩
  refine ⟨hN,fun j a o e=>?_,fun i j a o o' e e'=>?_,top,fun _ _ _ e=>e,Nat.le_of_eq hN,by have:=mkT_full zs pre 0 .nil full_nil; rwa [Nat.zero_add] at this⟩
  · obtain ⟨p,q,rfl,rfl⟩:=key j a o e;refine ⟨(List.getElem?_eq_some_iff.mp q).1,(hz j p q).2,(hz j p q).1,fun x=>x.2 j _ _ e rfl⟩
  · obtain ⟨p,q,rfl,_⟩:=key i a o e;obtain ⟨p',q',e2,_⟩:=key j _ o' e';obtain ⟨k1,r1⟩:=List.getElem?_eq_some_iff.mp q;obtain ⟨k2,r2⟩:=List.getElem?_eq_some_iff.mp q';rw [List.nodup_iff_pairwise_ne,List.pairwise_iff_getElem] at hn;rcases Nat.lt_trichotomy i j with lt | rfl | lt
    · exact absurd (by simpa [keys,r1,r2] using e2) (hn i j (by simpa [keys] using k1) (by simpa [keys] using k2) lt)
    · rfl
    · exact absurd (by simpa [keys,r1,r2] using e2.symm) (hn j i (by simpa [keys] using k2) (by simpa [keys] using k1) lt)
theorem length_le_size {h:Heap}:∀ (l:List (Nat×Obj)),HasAll h l->(keys l).Nodup->l.length<=h.objs.size:=by
  intro l H hn;have:(keys l).length<=(List.range h.objs.size).length:=by
    refine List.Nodup.length_le_of_subset hn fun a ha=>?_;obtain ⟨p,hp,rfl⟩:=List.mem_map.mp ha;obtain ⟨j,hj⟩:=List.getElem?_of_mem hp;exact List.mem_range.mpr (H.get hj).lt
  simpa [keys] using this
theorem con_start {cd:Code} {pre:List (Nat×Obj)} {Sd:Heap->Prop} {β:Type} {out:β->Post} {Pd:β->Heap->Prop} (hP:Rows w b1 b2 b3) (htx:TxOk tx) (dp:100<=Dp)
    (x:∀ (A:Around) (s:Shared) (R:Result->Shared->Prop) (zs:Nat->Nz) (ta:Nat->Tok) (N:Nat),Cx w b1 b2 b3 Dp Un tx A (frOf (mkT zs 0 .nil pre) s.heap.objs.size) s.heap->Sd s.heap ->
      Rep (ktop w.params) (frOf (mkT zs 0 .nil pre) s.heap.objs.size) s.heap (mkT zs 0 .nil pre) pre.length N s.heap ->
      (∀ (b:β) (fl:Flow) (s':Shared),erF fl=(out b).r->After s s' (keys pre)->HasAll s'.heap (List.zip (keys pre) (out b).upd)->(out b).upd.length=pre.length->HasAll s'.heap (out b).news ->
        (keys (out b).news).Nodup->(∀ a ∈ keys (out b).news,s.heap.objs.size<=a)->Pd b s'.heap->R (.ok fl) s') ->
      GoodC w b1 b2 b3 tx A R s (frOf (mkT zs 0 .nil pre) s.heap.objs.size) s.heap (X0 (unC ta cd) (mkT zs 0 .nil pre) pre.length N s.toks)):Con w Dp Un cd pre Sd out Pd:=by
  intro A s R c hb hc hp hn hs hR;obtain ⟨zs,hz⟩:=has_nz pre hp;obtain ⟨ta,e⟩:=un_code c;rw [hc] at e;subst e;have hle:=length_le_size pre hp hn;have hN:s.heap.objs.size=(s.heap.objs.size - pre.length)+pre.length:=by omega
  have D:=rep_start hz hn hb.top hN;have big:661<=s.heap.objs.size:=Heap.lt_size (hb.top 660 _ (kt_660 _));have C:Cx w b1 b2 b3 Dp Un tx A (frOf (mkT zs 0 .nil pre) s.heap.objs.size) s.heap:=⟨hP,hb.hh,hb.dep,hb.uni,⟨fun _ q=>q.1,fun a o e=>kt_lt _ a o e,big⟩,htx,dp⟩;have z:=(x A s R zs ta _ C hs D hR).val s.heap D;intro Γ p hcd hΓ;have y:=z (Γ.goto (unC ta cd)) p rfl (hΓ.goto _);exact y.2 Γ p hcd hΓ
end
noncomputable def putU (zs:Nat->Nz):Nat->LT->List Nat->List Obj->LT
  | i,T,j::idx,o::l=>putU zs (Nat.succ i) (T.set j fun _=>unO (zs i) o) idx l
  | _,T,_,_=>T
theorem putU_other (zs:Nat->Nz) {j:Nat}:∀ (idx:List Nat) (l:List Obj) (i:Nat) (T:LT),j ∉ idx->(putU zs i T idx l).get j=T.get j
  | [],l,i,T,_=>by cases l <;> rfl
  | k::idx,[],i,T,_=>rfl
  | k::idx,o::l,i,T,h=>by
    show (putU zs (i+1) _ idx l).get j=_;have hne:j ≠ k:=fun e=>h (by rw [e]; exact .head _);rw [putU_other zs idx l (i+1) _ fun q=>h (.tail _ q),LT.get_set,if_neg hne]
theorem putU_at (zs:Nat->Nz) {j:Nat} {a:Addr} {o' o:Obj}:∀ (idx:List Nat) (l:List Obj) (i:Nat) (T:LT),idx.Nodup->∀ k,idx[k]? = some j->l[k]? = some o->T.get j=some (a,o')->(putU zs i T idx l).get j=some (a,unO (zs (i+k)) o)
  | [],l,i,T,_,k,h,_,_=>by simp at h
  | x::idx,[],i,T,_,k,_,h,_=>by simp at h
  | x::idx,y::l,i,T,hn,k,h1,h2,hT=>by
    show (putU zs (i+1) _ idx l).get j=_;obtain ⟨hx,hn⟩:=List.nodup_cons.mp hn;cases k with
    | zero =>
      cases h1; cases h2;rw [putU_other zs idx l _ _ hx,LT.get_set,if_pos rfl,hT]
      rfl
    | succ k =>
      have h1':idx[k]? = some j:=by simpa using h1
      have hne:j ≠ x:=fun e=>hx (e ▸ List.mem_of_getElem? h1');have z:=putU_at zs idx l (i+1) (T.set x fun _=>unO (zs i) y) hn k h1' (by simpa using h2) (by rw [LT.get_set,if_neg hne]; exact hT);rw [z,show i+1+k=i+(k+1) from by omega]
theorem putU_full (zs:Nat->Nz) {n:Nat}:∀ (idx:List Nat) (l:List Obj) (i:Nat) (T:LT),Full T n->Full (putU zs i T idx l) n
  | [],l,i,T,h=>by cases l <;> exact h
  | k::idx,[],i,T,h=>h
  | k::idx,o::l,i,T,h=>putU_full zs idx l (i+1) _ (h.set _ _)
section
variable {w:World} {b1 b2 b3:Bool} {tx:Tx} {A:Around} {R:Result->Shared->Prop} {s:Shared} {fr:Nat->Prop} {h₀:Heap} {Dp Un:Nat}
theorem mem_keys {l:List (Nat×Obj)} {a:Nat}:a ∈ keys l ↔ ∃ (j:Nat) (p:Nat×Obj),l[j]? = some p∧p.1=a:=by
  constructor
  · intro h;obtain ⟨p,hp,rfl⟩:=List.mem_map.mp h;obtain ⟨j,hj⟩:=List.getElem?_of_mem hp;exact ⟨j,p,hj,rfl⟩
  · rintro ⟨j,p,hj,rfl⟩;exact List.mem_map_of_mem (List.mem_of_getElem? hj)
theorem rep_put {kt:KT} {h h':Heap} {T:LT} {m N:Nat} {s s':Shared} (S:Stat kt fr h₀) (D:Rep kt fr h₀ T m N h) (hs:s.heap=h) (hs':s'.heap=h') {pre:List (Nat×Obj)} {idx:List Nat} (hl:lookA T idx=someA pre) (hn:idx.Nodup)
    (F:After s s' (keys pre)) {upd:List Obj} (hu:HasAll h' (List.zip (keys pre) upd)) (hul:upd.length=pre.length) {news:List (Nat×Obj)} (hw:HasAll h' news) (hwn:(keys news).Nodup) (hwf:∀ a ∈ keys news,h.objs.size<=a) :
    ∃ zu zn N',Rep kt fr h₀ (mkT zn m (putU zu 0 T idx upd) news) (m+news.length) N' h':=by
  subst hs hs';have ktl:=S.ktlt;obtain ⟨zu,hzu⟩:=has_nz _ hu;obtain ⟨zn,hzn⟩:=has_nz _ hw;have hlen:idx.length=pre.length:=by
    have:∀ {idx:List Nat} {l:List (Nat×Obj)},lookA T idx=someA l->idx.length=l.length:=by
      intro idx
      induction idx with
      | nil=>intro l e; cases l with
        | nil=>rfl
        | cons=>cases e
      | cons j idx ih=>intro l e; cases l with
        | nil=>cases e
        | cons p l=>injection e with _ e2; rw [List.length_cons,List.length_cons,ih e2]
    exact this hl
  have hz:∀ k p,pre[k]? = some p->∀ o,upd[k]? = some o->s'.heap.get? p.1=some (unO (zu k) o):=fun k p e o e'=>by
    have q:(List.zip (keys pre) upd)[k]? = some (p.1,o):=by
      rw [List.getElem?_zip_eq_some];exact ⟨by simp [keys,e],e'⟩
    exact (hzu k _ q).2
  have FT:Full (putU zu 0 T idx upd) m:=putU_full zu idx upd 0 T D.full;have small:news.length<=s'.heap.objs.size - s.heap.objs.size:=by
    have:(keys news).length<=(List.range' s.heap.objs.size (s'.heap.objs.size - s.heap.objs.size)).length:=by
      refine List.Nodup.length_le_of_subset hwn fun a ha=>?_;have h1:=hwf a ha;obtain ⟨j,p,e,rfl⟩:=mem_keys.mp ha;have h2:=(hw.get e).lt;rw [List.mem_range'_1]
      omega
    simpa [keys] using this
  have hsz:=D.size;have hszle:=F.size;refine ⟨zu,fun i=>zn (i - m),s'.heap.objs.size - (m+news.length),?_⟩;have hg:=mkT_get (fun i=>zn (i - m)) news m (putU zu 0 T idx upd) FT;have inIdx:∀ j a o,T.get j=some (a,o)->(a ∈ keys pre ↔ j ∈ idx):=fun j a o e=>by
    constructor
    · intro q;obtain ⟨k,p,hk,rfl⟩:=mem_keys.mp q;obtain ⟨j',o',h1,h2,_⟩:=look_get hl k p hk;rw [D.inj _ _ _ _ _ e h2];exact List.mem_of_getElem? h1
    · intro q;obtain ⟨k,hk⟩:=List.getElem?_of_mem q;have hkl:k < pre.length:=by rw [<- hlen]; exact (List.getElem?_eq_some_iff.mp hk).1
      obtain ⟨j',o',h1,h2,_⟩:=look_get hl k pre[k] (List.getElem?_eq_getElem hkl);rw [hk] at h1;cases h1;rw [e] at h2;cases h2;exact mem_keys.mpr ⟨k,_,List.getElem?_eq_getElem hkl,rfl⟩
  have old:∀ j a o,(putU zu 0 T idx upd).get j=some (a,o)->∃ o₀,T.get j=some (a,o₀)∧s'.heap.get? a=some o:=fun j a o e=>by
    by_cases hj:j ∈ idx
    · obtain ⟨k,hk⟩:=List.getElem?_of_mem hj;have hkl:k < pre.length:=by rw [<- hlen]; exact (List.getElem?_eq_some_iff.mp hk).1
      have hku:k < upd.length:=by rw [hul]; exact hkl
      obtain ⟨j',o',h1,h2,_⟩:=look_get hl k pre[k] (List.getElem?_eq_getElem hkl);rw [hk] at h1;cases h1;have z:=putU_at zu idx upd 0 T hn k hk (List.getElem?_eq_getElem hku) h2;rw [z] at e;cases e;refine ⟨o',h2,?_⟩;rw [Nat.zero_add];exact hz k _ (List.getElem?_eq_getElem hkl) _ (List.getElem?_eq_getElem hku)
    · rw [putU_other zu idx upd 0 T hj] at e;exact ⟨o,e,F.keep a o (D.own j a o e).2.1 fun q=>hj ((inIdx j a o e).mp q)⟩
  have nw:∀ j a o,¬ j < m->(mkT (fun i=>zn (i - m)) m (putU zu 0 T idx upd) news).get j=some (a,o)->∃ p,news[j - m]? = some p∧a=p.1∧o=unO (zn (j - m)) p.2:=fun j a o hj e=>by
    rw [hg,if_neg hj] at e;cases q:news[j - m]? with
    | none=>rw [q] at e; cases e
    | some p=>rw [q] at e; cases e; exact ⟨p,rfl,rfl,rfl⟩
  have ol:∀ j a o,j < m->(mkT (fun i=>zn (i - m)) m (putU zu 0 T idx upd) news).get j=some (a,o)->∃ o₀,T.get j=some (a,o₀)∧s'.heap.get? a=some o:=fun j a o hj e=>by
    rw [hg,if_pos hj] at e;exact old j a o e
  refine ⟨by omega,fun j a o e=>?_,fun i j a o o' e e'=>?_,fun a o e=>?_,fun b o q e=>?_,?_,mkT_full _ news m _ FT⟩
  · by_cases hj:j < m
    · obtain ⟨o₀,h1,h2⟩:=ol j a o hj e;have z:=D.own j a o₀ h1;exact ⟨by omega,h2,z.2.2⟩
    · obtain ⟨p,h1,rfl,rfl⟩:=nw j a o hj e;have z:=hzn _ p h1;have hk:=(List.getElem?_eq_some_iff.mp h1).1;refine ⟨by omega,z.2,z.1,fun q=>?_⟩;have h2:=hwf p.1 (mem_keys.mpr ⟨_,p,h1,rfl⟩);have h3:=S.frlt _ q;have:=D.grow
      omega
  · by_cases hi:i < m
    · obtain ⟨o₀,h1,h2⟩:=ol i a o hi e;have z:=Heap.lt_size (D.own i a o₀ h1).2.1
      by_cases hj:j < m
      · obtain ⟨o₀',h1',_⟩:=ol j a o' hj e';exact D.inj _ _ _ _ _ h1 h1'
      · obtain ⟨p,h1',rfl,rfl⟩:=nw j a o' hj e';have h2:=hwf p.1 (mem_keys.mpr ⟨_,p,h1',rfl⟩);exact absurd z (Nat.not_lt.mpr h2)
    · obtain ⟨p,h1,rfl,rfl⟩:=nw i a o hi e
      by_cases hj:j < m
      · obtain ⟨o₀',h1',_⟩:=ol j p.1 o' hj e';have z:=Heap.lt_size (D.own j p.1 o₀' h1').2.1;have h2:=hwf p.1 (mem_keys.mpr ⟨_,p,h1,rfl⟩);exact absurd z (Nat.not_lt.mpr h2)
      · obtain ⟨p',h1',e2,rfl⟩:=nw j p.1 o' hj e';obtain ⟨k1,r1⟩:=List.getElem?_eq_some_iff.mp h1;obtain ⟨k2,r2⟩:=List.getElem?_eq_some_iff.mp h1';rw [List.nodup_iff_pairwise_ne,List.pairwise_iff_getElem] at hwn;rcases Nat.lt_trichotomy (i - m) (j - m) with lt | q | lt
        · exact absurd (by simpa [keys,r1,r2] using e2) (hwn (i - m) (j - m) (by simpa [keys] using k1) (by simpa [keys] using k2) lt)
        · omega
        · exact absurd (by simpa [keys,r1,r2] using e2.symm) (hwn (j - m) (i - m) (by simpa [keys] using k2) (by simpa [keys] using k1) lt)
  · refine F.keep a o (D.top a o e) fun q=>?_;obtain ⟨k,p,hk,e2⟩:=mem_keys.mp q;obtain ⟨j',o',h1,h2,_⟩:=look_get hl k p hk;have h3:=(D.own _ _ _ h2).2.2.1;have h4:=ktl a o e
    omega
  · refine F.keep b o (D.keep b o q e) fun q'=>?_;obtain ⟨k,p,hk,e2⟩:=mem_keys.mp q';obtain ⟨j',o',h1,h2,_⟩:=look_get hl k p hk;exact (D.own _ _ _ h2).2.2.2 (e2 ▸ q)
  · have:=D.grow
    omega
end
noncomputable def unF (t:Tok):Flow->Flow
  | .ret v=>.ret (un t v)
  | f=>f
theorem un_flow (f:Flow):∃ t,f=unF t (erF f):=by
  cases f with
  | ret v=>exact ⟨tokOf v,by show Flow.ret v = .ret (un _ (er v)); rw [un_er]⟩
  | _=>exact ⟨0,rfl⟩
noncomputable def resume (X:MS) (fl:Flow) (T:LT) (m N tk:Nat):MS:=⟨false,X.c,X.κ,callK X.t (.ok fl),T,m,N,tk,[],[]⟩
noncomputable def Tr (w:World) (fr:Nat->Prop) (h₀:Heap) (fr':Nat->Prop) (h₁:Heap):Prop:=∀ T m N h,Rep (ktop w.params) fr' h₁ T m N h->Rep (ktop w.params) fr h₀ T m N h
section
variable {w:World} {b1 b2 b3:Bool} {tx:Tx} {A:Around} {R:Result->Shared->Prop} {s:Shared} {fr fr0:Nat->Prop} {h₀ h₁:Heap} {Dp Un:Nat}
theorem Cx.rebase (C:Cx w b1 b2 b3 Dp Un tx A fr h₀) {T:LT} {m N:Nat} {h:Heap} (D:Rep (ktop w.params) fr h₀ T m N h):Cx w b1 b2 b3 Dp Un tx A (frOf T h.objs.size) h:=
  ⟨C.rows,C.hh,C.dep,C.uni,C.st.rebase D,C.tx,C.dp⟩
theorem stop (C:Cx w b1 b2 b3 Dp Un tx A fr h₀) (tr:Tr w fr0 h₁ fr h₀) {X:MS} {Dp' Un':Nat} {cd:Code} {pre:List (Nat×Obj)} {Sd:Heap->Prop} {β:Type} {out:β->Post} {Pd:β->Heap->Prop}
    (K:Con w Dp' Un' cd pre Sd out Pd) (idx:List Nat) (hpd:X.pd=false) (hc:(callC X.t).map erC=some cd) (hl:lookA X.T idx=someA pre) (hn:idx.Nodup)
    (hd:Nat.ble (Nat.add (wK (⟨X.c,callK X.t⟩::X.κ)) Dp') Dp=true) (hu:Nat.ble (Nat.add (uK (⟨X.c,callK X.t⟩::X.κ)) Un') Un=true)
    (hS:∀ h,Rep (ktop w.params) fr h₀ X.T X.m X.N h->Sd h)
    (x:∀ (b:β) (t:Tok) (zu zn:Nat->Nz) (N' tk':Nat) (h':Heap),Cx w b1 b2 b3 Dp Un tx A (frOf (mkT zn X.m (putU zu 0 X.T idx (out b).upd) (out b).news) h'.objs.size) h' ->
      Tr w fr0 h₁ (frOf (mkT zn X.m (putU zu 0 X.T idx (out b).upd) (out b).news) h'.objs.size) h' ->
      Rep (ktop w.params) fr h₀ (mkT zn X.m (putU zu 0 X.T idx (out b).upd) (out b).news) (X.m+(out b).news.length) N' h'->Pd b h' ->
      GoodC w b1 b2 b3 tx A R s (frOf (mkT zn X.m (putU zu 0 X.T idx (out b).upd) (out b).news) h'.objs.size) h' (resume X (unF t (out b).r) (mkT zn X.m (putU zu 0 X.T idx (out b).upd) (out b).news) (X.m+(out b).news.length) N' tk')) :
    GoodC w b1 b2 b3 tx A R s fr h₀ X:=by
  refine ⟨?_⟩;intro h D;obtain ⟨pd,c,κ,t,T,m,N,tk,ob,ln⟩:=X
  dsimp only at *
  subst hpd;cases hcc:callC t with
  | none=>rw [hcc] at hc; cases hc
  | some c' =>
    rw [hcc] at hc;obtain ⟨gd,l,ht⟩:=callC_eq hcc;have hc':erC c' = cd:=Option.some.inj hc;show MW _ c κ t _;rw [ht];refine mw_call (K _ _ _ c' ⟨handled_toK _ C.hh _,?_,?_,D.top⟩ hc' (look_has D hl) (look_nodup D hl hn) (hS h D) fun b fl s' hfl F hU hUl hN hNn hNf hP=>?_)
    · rw [depth_toK];have:=Nat.le_of_ble_eq_true hd;have h2:=C.dep;have e:Nat.add (wK (⟨c,callK t⟩::κ)) Dp' = wK (⟨c,callK t⟩::κ)+Dp':=rfl;show A.depth+wK (⟨c,callK t⟩::κ)+Dp' < recursionLimit
      omega
    · rw [units_toK];have:=Nat.le_of_ble_eq_true hu;have h2:=C.uni;have e:Nat.add (uK (⟨c,callK t⟩::κ)) Un' = uK (⟨c,callK t⟩::κ)+Un':=rfl;show A.units+uK (⟨c,callK t⟩::κ)+Un' < cLine
      omega
    · obtain ⟨zu,zn,N',D'⟩:=rep_put C.st D rfl rfl hl hn F hU hUl hN hNn hNf;obtain ⟨tt,ef⟩:=un_flow fl;rw [hfl] at ef;have z:=(x b tt zu zn N' s'.toks s'.heap (C.rebase D') (fun T'' m'' N'' h'' D''=>tr _ _ _ _ (Rep.away C.st D' D'')) D' hP).val s'.heap D'.rebase;have e2:s' = ⟨s'.heap,s.gens,s.drawn,s'.toks,s.os⟩:=by
        obtain ⟨hp,gg,dd,tk2,oo⟩:=s';have h1:=F.gens;have h2:=F.drawn;have h3:=F.os
        dsimp only at h1 h2 h3
        rw [h1,h2,h3]
      rw [e2,ef];exact z
theorem sub_keys {pre:List (Nat×Obj)} {zs:Nat->Nz} {n:Nat} {b:Nat} (hb:b < n) (h:b ∉ keys pre):frOf (mkT zs 0 .nil pre) n b:=by
  refine ⟨hb,fun j a o e q=>h ?_⟩;rw [mkT_get zs pre 0 .nil full_nil,if_neg (Nat.not_lt_zero _),Nat.sub_zero] at e;cases hq:pre[j]? with
  | none=>rw [hq] at e; cases e
  | some p =>
    rw [hq] at e;cases e;exact mem_keys.mpr ⟨j,p,hq,q⟩
noncomputable def jnOk (k:Nat):List Nat->Bool
  | []=>true
  | j::l=>Nat.ble k j && (!(l.contains j) && jnOk k l)
theorem jnOk_nd {k:Nat}:∀ {l:List Nat},jnOk k l=true->l.Nodup∧∀ j ∈ l,k<=j
  | [],_=>⟨List.nodup_nil,fun _ h=>nomatch h⟩
  | j::l,h=>by
    obtain ⟨h1,h2⟩:=Bool.and_eq_true_iff.mp h;obtain ⟨h2,h3⟩:=Bool.and_eq_true_iff.mp h2;obtain ⟨z1,z2⟩:=jnOk_nd h3;refine ⟨List.nodup_cons.mpr ⟨by simpa using h2,z1⟩,fun i hi=>?_⟩;cases hi with
    | head=>exact Nat.le_of_ble_eq_true h1
    | tail _ q=>exact z2 i q
theorem upto_get:∀ (n i k:Nat),k < n->(upto i n)[k]? = some (i+k)
  | 0,_,_,h=>by omega
  | n+1,i,0,_=>rfl
  | n+1,i,k+1,h=>by
    show (upto (Nat.succ i) n)[k]? = _;rw [upto_get n (Nat.succ i) k (by omega)]
    congr 1
    omega
theorem finish {pre:List (Nat×Obj)} {zs:Nat->Nz} {β:Type} {out:β->Post} {Pd:β->Heap->Prop} (C:Cx w b1 b2 b3 Dp Un tx A fr h₀) (tr:Tr w (frOf (mkT zs 0 .nil pre) s.heap.objs.size) s.heap fr h₀)
    (hR:∀ (b:β) (fl:Flow) (s':Shared),erF fl=(out b).r->After s s' (keys pre)->HasAll s'.heap (List.zip (keys pre) (out b).upd)->(out b).upd.length=pre.length->HasAll s'.heap (out b).news ->
        (keys (out b).news).Nodup->(∀ a ∈ keys (out b).news,s.heap.objs.size<=a)->Pd b s'.heap->R (.ok fl) s')
    {X:MS} (b:β) (jn:List Nat) (hf:(finF X).map erF=some (out b).r) (hu:lookA X.T (upto 0 pre.length)=someA (zipU pre (out b).upd)) (hul:(out b).upd.length=pre.length)
    (hn:lookA X.T jn=someA (out b).news) (hj:jnOk pre.length jn=true) (hP:∀ h,Rep (ktop w.params) fr h₀ X.T X.m X.N h->Pd b h):GoodC w b1 b2 b3 tx A R s fr h₀ X:=by
  refine ⟨?_⟩;intro h D;obtain ⟨pd,c,κ,t,T,m,N,tk,ob,ln⟩:=X
  dsimp only at *
  have hfin:∃ f,κ=[]∧pd=false∧t = .pure (.done f)∧erF f=(out b).r:=by
    cases q:finF ⟨pd,c,κ,t,T,m,N,tk,ob,ln⟩ with
    | none=>rw [q] at hf; cases hf
    | some f =>
      rw [q] at hf
      unfold finF at q
      dsimp only at q
      split at q
      · cases q;exact ⟨_,rfl,rfl,rfl,Option.some.inj hf⟩
      · cases q
  obtain ⟨f,rfl,rfl,rfl,hfe⟩:=hfin;have D0:=tr _ _ _ _ D;have hz:=look_has D0 hu;rw [zipU_eq] at hz;have hnn:=jnOk_nd hj;refine y_pure _ _ _ _ _ _ _ _ _ (y_done _ _ _ _ _ _ ?_);refine hR b f _ hfe ⟨rfl,rfl,rfl,by rw [D0.size]; exact D0.grow,fun a o e hk=>D0.keep a o (sub_keys (Heap.lt_size e) hk) e⟩ hz hul (look_has D0 hn) (look_nodup D0 hn hnn.1) (fun a ha=>?_) (hP h D);obtain ⟨i,p,hi,rfl⟩:=mem_keys.mp ha;obtain ⟨j,o,h1,h2,_⟩:=look_get hn i p hi;apply Nat.le_of_not_lt;intro hlt;have hkj:=hnn.2 j (List.mem_of_getElem? h1);have nfr:=(D0.own j _ _ h2).2.2.2;refine nfr (sub_keys hlt fun hk=>?_);obtain ⟨k,p',hk',e2⟩:=mem_keys.mp hk;have hkl:k < pre.length:=(List.getElem?_eq_some_iff.mp hk').1;have hku:k < (out b).upd.length:=by rw [hul]; exact hkl
  have hzk:(zipU pre (out b).upd)[k]? = some (p'.1,(out b).upd[k]):=by
    rw [zipU_eq,List.getElem?_zip_eq_some];exact ⟨by simp [keys,hk'],List.getElem?_eq_getElem hku⟩
  obtain ⟨j',o',h1',h2',_⟩:=look_get hu k _ hzk;rw [upto_get _ _ _ hkl] at h1';cases h1';have h2'':T.get (0+k)=some (p.1,o'):=by rw [<- e2]; exact h2'
  have:=D0.inj _ _ _ _ _ h2 h2''
  omega
end
structure Pst where
  r:Flow
  upd:List Obj
  news:List (Nat×Obj)
  more:List (Nat×Obj)
noncomputable def Ret (s:Shared) (pre:List (Nat×Obj)) {β:Type} (out:β->Pst) (Pd:β->Prop) (R:Result->Shared->Prop):Prop:=
  ∀ (b:β) (fl:Flow) (s':Shared),erF fl=(out b).r->After s s' (keys pre)->HasAll s'.heap (List.zip (keys pre) (out b).upd)->(out b).upd.length=pre.length->HasAll s'.heap ((out b).news++(out b).more) ->
      (keys ((out b).news++(out b).more)).Nodup->(∀ a ∈ keys ((out b).news++(out b).more),s.heap.objs.size<=a)->Pd b->R (.ok fl) s'
noncomputable def Ct (w:World) (Dp Un:Nat) (cd:Code) (pre ext:List (Nat×Obj)) {β:Type} (out:β->Pst) (Pd:β->Prop):Prop:=
  ∀ (A:Around) (s:Shared) (R:Result->Shared->Prop) (c:Code),Base w Dp Un A s->erC c=cd->HasAll s.heap (pre++ext)->(keys (pre++ext)).Nodup->Ret s pre out Pd R->codeAny (model pz w) A c R s
theorem has_append {h:Heap}:∀ {l r:List (Nat×Obj)},HasAll h (l++r) ↔ HasAll h l∧HasAll h r
  | [],r=>⟨fun x=>⟨trivial,x⟩,fun x=>x.2⟩
  | p::l,r=>⟨fun x=>⟨⟨x.1,(has_append.mp x.2).1⟩,(has_append.mp x.2).2⟩,fun x=>⟨x.1.1,has_append.mpr ⟨x.1.2,x.2⟩⟩⟩
theorem keys_append (l r:List (Nat×Obj)):keys (l++r)=keys l++keys r:=List.map_append
structure Sup (fr:Nat->Prop) (h:Heap) (l:List (Nat×Obj)):Prop where
  has:HasAll h l
  nd:(keys l).Nodup
  fr:∀ a ∈ keys l,fr a
theorem Sup.nil {fr:Nat->Prop} {h:Heap}:Sup fr h []:=⟨trivial,List.nodup_nil,fun _ h=>nomatch h⟩
theorem Sup.left {fr:Nat->Prop} {h:Heap} {l r:List (Nat×Obj)} (x:Sup fr h (l++r)):Sup fr h l:=by
  have n:=x.nd;have f:=x.fr;rw [keys_append] at n f;exact ⟨(has_append.mp x.has).1,(List.nodup_append.mp n).1,fun a ha=>f a (List.mem_append_left _ ha)⟩
theorem Sup.right {fr:Nat->Prop} {h:Heap} {l r:List (Nat×Obj)} (x:Sup fr h (l++r)):Sup fr h r:=by
  have n:=x.nd;have f:=x.fr;rw [keys_append] at n f;exact ⟨(has_append.mp x.has).2,(List.nodup_append.mp n).2.1,fun a ha=>f a (List.mem_append_right _ ha)⟩
theorem Sup.perm {fr:Nat->Prop} {h:Heap} {l r:List (Nat×Obj)} (x:Sup fr h l) (p:l.Perm r):Sup fr h r:=by
  refine ⟨?_,(List.Perm.nodup_iff (p.map _)).mp x.nd,fun a ha=>x.fr a ((p.map _).mem_iff.mpr ha)⟩;have key:∀ {l:List (Nat×Obj)},HasAll h l ↔ ∀ q ∈ l,Has h q.1 q.2:=by
    intro l
    induction l with
    | nil=>simp [HasAll]
    | cons q l ih=>simp only [HasAll,ih,List.mem_cons,forall_eq_or_imp]
  exact key.mpr fun q hq=>key.mp x.has q (p.mem_iff.mpr hq)
theorem Sup.cast {fr:Nat->Prop} {h:Heap} {l r:List (Nat×Obj)} (x:Sup fr h l) (e:l=r):Sup fr h r:=e ▸ x
theorem look_append {T:LT}:∀ {i j:List Nat} {l r:List (Nat×Obj)},lookA T i=someA l->lookA T j=someA r->lookA T (i++j)=someA (l++r)
  | [],_,[],_,_,h=>h
  | [],_,_::_,_,e,_=>by cases e
  | _::_,_,[],_,e,_=>by cases e
  | a::i,j,p::l,r,e,h=>by
    injection e with e1 e2
    show _::lookA T (i++j)=some p::someA (l++r);rw [look_append e2 h];exact congrArg (·::_) e1
section
variable {w:World} {b1 b2 b3:Bool} {tx:Tx} {A:Around} {R:Result->Shared->Prop} {s:Shared} {fr fr0:Nat->Prop} {h₀ h₁:Heap} {Dp Un:Nat}
theorem ledger_not {kt:KT} {h:Heap} {T:LT} {m N:Nat} (D:Rep kt fr h₀ T m N h) {idx:List Nat} {l:List (Nat×Obj)} (e:lookA T idx=someA l):∀ a ∈ keys l,¬ fr a:=by
  intro a ha;obtain ⟨i,p,hi,rfl⟩:=mem_keys.mp ha;obtain ⟨j,o,_,h2,_⟩:=look_get e i p hi;exact (D.own j _ _ h2).2.2.2
theorem sup_has {kt:KT} {h:Heap} {T:LT} {m N:Nat} (D:Rep kt fr h₀ T m N h) {l:List (Nat×Obj)} (x:Sup fr h₀ l):HasAll h l:=by
  obtain ⟨h1,h2,h3⟩:=x;clear h2
  induction l with
  | nil=>trivial
  | cons p l ih =>
    obtain ⟨⟨q,o,ho,e⟩,h1⟩:=h1;exact ⟨⟨q,o,D.keep _ _ (h3 _ (.head _)) ho,e⟩,ih h1 fun a ha=>h3 a (.tail _ ha)⟩
theorem nodup_join {kt:KT} {h:Heap} {T:LT} {m N:Nat} (D:Rep kt fr h₀ T m N h) {idx:List Nat} {l r:List (Nat×Obj)} (e:lookA T idx=someA l) (hn:idx.Nodup) (x:Sup fr h₀ r):(keys (l++r)).Nodup:=by
  rw [keys_append,List.nodup_append];exact ⟨look_nodup D e hn,x.nd,fun a ha b hb q=>ledger_not D e a ha (x.fr a (q ▸ hb))⟩
theorem ct_start {cd:Code} {pre ro sup:List (Nat×Obj)} {β:Type} {out:β->Pst} {Pd:β->Prop} (hP:Rows w b1 b2 b3) (htx:TxOk tx) (dp:100<=Dp)
    (x:∀ (A:Around) (s:Shared) (R:Result->Shared->Prop) (zs:Nat->Nz) (ta:Nat->Tok) (N:Nat),Cx w b1 b2 b3 Dp Un tx A (frOf (mkT zs 0 .nil (pre++ro)) s.heap.objs.size) s.heap ->
      Sup (frOf (mkT zs 0 .nil (pre++ro)) s.heap.objs.size) s.heap sup->Rep (ktop w.params) (frOf (mkT zs 0 .nil (pre++ro)) s.heap.objs.size) s.heap (mkT zs 0 .nil (pre++ro)) (pre++ro).length N s.heap ->
      Ret s pre out Pd R ->
      GoodC w b1 b2 b3 tx A R s (frOf (mkT zs 0 .nil (pre++ro)) s.heap.objs.size) s.heap (X0 (unC ta cd) (mkT zs 0 .nil (pre++ro)) (pre++ro).length N s.toks)):Ct w Dp Un cd pre (ro++sup) out Pd:=by
  intro A s R c hb hc hp hn hR;rw [<- List.append_assoc] at hp hn;obtain ⟨hp,hq⟩:=has_append.mp hp;rw [keys_append,List.nodup_append] at hn;obtain ⟨zs,hz⟩:=has_nz (pre++ro) hp;obtain ⟨ta,e⟩:=un_code c;rw [hc] at e;subst e;have hle:=length_le_size (pre++ro) hp hn.1;have hN:s.heap.objs.size=(s.heap.objs.size - (pre++ro).length)+(pre++ro).length:=by omega
  have D:=rep_start hz hn.1 hb.top hN;have big:661<=s.heap.objs.size:=Heap.lt_size (hb.top 660 _ (kt_660 _));have C:Cx w b1 b2 b3 Dp Un tx A (frOf (mkT zs 0 .nil (pre++ro)) s.heap.objs.size) s.heap:=⟨hP,hb.hh,hb.dep,hb.uni,⟨fun _ q=>q.1,fun a o e=>kt_lt _ a o e,big⟩,htx,dp⟩;have U:Sup (frOf (mkT zs 0 .nil (pre++ro)) s.heap.objs.size) s.heap sup:=⟨hq,hn.2.1,fun a ha=>by
    obtain ⟨j,p,hj,e⟩:=mem_keys.mp ha;exact sub_keys (e ▸ (hq.get hj).lt) fun q=>hn.2.2 a q a ha rfl⟩
  have z:=(x A s R zs ta _ C U D hR).val s.heap D;intro Γ p hcd hΓ;have y:=z (Γ.goto (unC ta cd)) p rfl (hΓ.goto _);exact y.2 Γ p hcd hΓ
theorem after_call (C:Cx w b1 b2 b3 Dp Un tx A fr h₀) (tr:Tr w fr0 h₁ fr h₀) {T:LT} {m N:Nat} {s s':Shared} (D:Rep (ktop w.params) fr h₀ T m N s.heap) {pre:List (Nat×Obj)} {idx:List Nat} (hl:lookA T idx=someA pre) (hn:idx.Nodup) {P:Pst}
    (F:After s s' (keys pre)) (hU:HasAll s'.heap (List.zip (keys pre) P.upd)) (hUl:P.upd.length=pre.length) (hN:HasAll s'.heap (P.news++P.more)) (hNn:(keys (P.news++P.more)).Nodup) (hNf:∀ a ∈ keys (P.news++P.more),s.heap.objs.size<=a) :
    ∃ zu zn N',Rep (ktop w.params) fr h₀ (mkT zn m (putU zu 0 T idx P.upd) P.news) (m+P.news.length) N' s'.heap ∧
      Cx w b1 b2 b3 Dp Un tx A (frOf (mkT zn m (putU zu 0 T idx P.upd) P.news) s'.heap.objs.size) s'.heap ∧
      Tr w fr0 h₁ (frOf (mkT zn m (putU zu 0 T idx P.upd) P.news) s'.heap.objs.size) s'.heap ∧
      (∀ l,Sup fr h₀ l->Sup (frOf (mkT zn m (putU zu 0 T idx P.upd) P.news) s'.heap.objs.size) s'.heap (P.more++l))∧(∀ a ∈ keys P.more,h₁.objs.size<=a):=by
  rw [keys_append] at hNn hNf;obtain ⟨hN,hM⟩:=has_append.mp hN;have hNn':=List.nodup_append.mp hNn;obtain ⟨zu,zn,N',D'⟩:=rep_put C.st D rfl rfl hl hn F hU hUl hN hNn'.1 fun a ha=>hNf a (List.mem_append_left _ ha);have D0:=tr _ _ _ _ D;refine ⟨zu,zn,N',D',C.rebase D',fun T'' m'' N'' h'' D''=>tr _ _ _ _ (Rep.away C.st D' D''),fun l x=>?_,fun a ha=>?_⟩
  · have hb:∀ a ∈ keys l,a < s.heap.objs.size:=fun a ha=>by
      have:=C.st.frlt a (x.fr a ha);have:=D.grow;rw [D.size]; omega
    refine ⟨has_append.mpr ⟨hM,sup_has D' x⟩,?_,fun a ha=>?_⟩
    · rw [keys_append,List.nodup_append];exact ⟨hNn'.2.1,x.nd,fun a ha b hb' q=>by
        have:=hNf a (List.mem_append_right _ ha);have:=hb b hb'
        omega⟩
    · rw [keys_append,List.mem_append] at ha;rcases ha with ha | ha
      · obtain ⟨i,p,hi,e⟩:=mem_keys.mp ha;refine ⟨e ▸ (hM.get hi).lt,fun j a' o hj q=>?_⟩;have hge:=hNf a (List.mem_append_right _ ha);rw [mkT_get zn P.news m _ (putU_full zu idx P.upd 0 T D.full)] at hj
        split at hj
        · obtain ⟨o₀,ho⟩:∃ o₀,T.get j=some (a',o₀):=by
            by_cases hji:j ∈ idx
            · obtain ⟨k,hk⟩:=List.getElem?_of_mem hji;have hlen:∀ {idx:List Nat} {l:List (Nat×Obj)},lookA T idx=someA l->idx.length=l.length:=by
                intro idx
                induction idx with
                | nil=>intro l e; cases l with
                  | nil=>rfl
                  | cons=>cases e
                | cons j idx ih=>intro l e; cases l with
                  | nil=>cases e
                  | cons p l=>injection e with _ e2; rw [List.length_cons,List.length_cons,ih e2]
              have hkl:k < pre.length:=by rw [<- hlen hl]; exact (List.getElem?_eq_some_iff.mp hk).1
              have hku:k < P.upd.length:=by rw [hUl]; exact hkl
              obtain ⟨j',o',h1,h2,_⟩:=look_get hl k pre[k] (List.getElem?_eq_getElem hkl);rw [hk] at h1;cases h1;have z:=putU_at zu idx P.upd 0 T hn k hk (List.getElem?_eq_getElem hku) h2;rw [z] at hj;cases hj;exact ⟨o',h2⟩
            · rw [putU_other zu idx P.upd 0 T hji] at hj;exact ⟨o,hj⟩
          have hlt:=Heap.lt_size (D.own j a' o₀ ho).2.1;rw [q] at hlt;exact absurd hlt (Nat.not_lt.mpr hge)
        · cases hq:P.news[j - m]? with
          | none=>rw [hq] at hj; cases hj
          | some p' =>
            rw [hq] at hj;cases hj;exact hNn'.2.2 _ (mem_keys.mpr ⟨_,p',hq,rfl⟩) a ha q
      · refine ⟨Nat.lt_of_lt_of_le (hb a ha) F.size,fun j a' o hj q=>?_⟩;subst q;exact (D'.own j a' o hj).2.2.2 (x.fr a' ha)
  · have h1:=hNf a (List.mem_append_right _ ha);have h2:=D0.grow;have h3:=D0.size
    omega
theorem stopC (C:Cx w b1 b2 b3 Dp Un tx A fr h₀) (tr:Tr w fr0 h₁ fr h₀) {X:MS} {Dp' Un':Nat} {cd:Code} {pre l2 l3:List (Nat×Obj)} {β:Type} {out:β->Pst} {Pd:β->Prop}
    (K:Ct w Dp' Un' cd pre (l2++l3) out Pd) (idx idx2:List Nat) (hpd:X.pd=false) (hc:(callC X.t).map erC=some cd) (hl:lookA X.T idx=someA pre) (hl2:lookA X.T idx2=someA l2) (hn:(idx++idx2).Nodup)
    (hd:Nat.ble (Nat.add (wK (⟨X.c,callK X.t⟩::X.κ)) Dp') Dp=true) (hu:Nat.ble (Nat.add (uK (⟨X.c,callK X.t⟩::X.κ)) Un') Un=true) (h3:Sup fr h₀ l3)
    (x:∀ (b:β) (t:Tok) (zu zn:Nat->Nz) (N' tk':Nat) (h':Heap),Cx w b1 b2 b3 Dp Un tx A (frOf (mkT zn X.m (putU zu 0 X.T idx (out b).upd) (out b).news) h'.objs.size) h' ->
      Tr w fr0 h₁ (frOf (mkT zn X.m (putU zu 0 X.T idx (out b).upd) (out b).news) h'.objs.size) h' ->
      (∀ l,Sup fr h₀ l->Sup (frOf (mkT zn X.m (putU zu 0 X.T idx (out b).upd) (out b).news) h'.objs.size) h' ((out b).more++l))->(∀ a ∈ keys (out b).more,h₁.objs.size<=a)->Pd b ->
      GoodC w b1 b2 b3 tx A R s (frOf (mkT zn X.m (putU zu 0 X.T idx (out b).upd) (out b).news) h'.objs.size) h' (resume X (unF t (out b).r) (mkT zn X.m (putU zu 0 X.T idx (out b).upd) (out b).news) (X.m+(out b).news.length) N' tk')) :
    GoodC w b1 b2 b3 tx A R s fr h₀ X:=by
  refine ⟨?_⟩;intro h D;obtain ⟨pd,c,κ,t,T,m,N,tk,ob,ln⟩:=X
  dsimp only at *
  subst hpd;cases hcc:callC t with
  | none=>rw [hcc] at hc; cases hc
  | some c' =>
    rw [hcc] at hc;obtain ⟨gd,l,ht⟩:=callC_eq hcc;have hc':erC c' = cd:=Option.some.inj hc;show MW _ c κ t _;rw [ht];have hl2':=look_append hl hl2;refine mw_call (K _ _ _ c' ⟨handled_toK _ C.hh _,?_,?_,D.top⟩ hc' ?_ ?_ fun b fl s' hfl F hU hUl hN hNn hNf hP=>?_)
    · rw [depth_toK];have:=Nat.le_of_ble_eq_true hd;have h2:=C.dep;have e:Nat.add (wK (⟨c,callK t⟩::κ)) Dp' = wK (⟨c,callK t⟩::κ)+Dp':=rfl;show A.depth+wK (⟨c,callK t⟩::κ)+Dp' < recursionLimit
      omega
    · rw [units_toK];have:=Nat.le_of_ble_eq_true hu;have h2:=C.uni;have e:Nat.add (uK (⟨c,callK t⟩::κ)) Un' = uK (⟨c,callK t⟩::κ)+Un':=rfl;show A.units+uK (⟨c,callK t⟩::κ)+Un' < cLine
      omega
    · rw [<- List.append_assoc];exact has_append.mpr ⟨look_has D hl2',sup_has D h3⟩
    · rw [<- List.append_assoc];exact nodup_join D hl2' hn h3
    · obtain ⟨zu,zn,N',D',C',tr',su,fs⟩:=after_call (s:=⟨h,s.gens,s.drawn,tk,s.os⟩) (P:=out b) C tr D hl (List.nodup_append.mp hn).1 F hU hUl hN hNn hNf;obtain ⟨tt,ef⟩:=un_flow fl;rw [hfl] at ef;have z:=(x b tt zu zn N' s'.toks s'.heap C' tr' su fs hP).val s'.heap D'.rebase;have e2:s' = ⟨s'.heap,s.gens,s.drawn,s'.toks,s.os⟩:=by
        obtain ⟨hp,gg,dd,tk2,oo⟩:=s';have h1:=F.gens;have h2:=F.drawn;have h3:=F.os
        dsimp only at h1 h2 h3
        rw [h1,h2,h3]
      rw [e2,ef];exact z
noncomputable def lookO (T:LT):List Nat->List (Option (Nat×Obj))
  | []=>[]
  | j::l=>T.get j::lookO T l
theorem lookO_get {T T':LT}:∀ {l:List Nat},lookO T l=lookO T' l->∀ j ∈ l,T.get j=T'.get j
  | j::l,h,i,hi=>by
    injection h with h1 h2
    cases hi with
    | head=>exact h1
    | tail _ q=>exact lookO_get h2 i q
noncomputable def FinD (s:Shared) (pre ro:List (Nat×Obj)) (zs:Nat->Nz) {β:Type} (out:β->Pst) (Pd:β->Prop) (fr:Nat->Prop) (h₀:Heap) (T:LT) (r:Flow):Prop:=
  ∃ (b:β) (ln l3:List (Nat×Obj)) (jn:List Nat),r=(out b).r∧lookA T (upto 0 pre.length)=someA (zipU pre (out b).upd)∧(out b).upd.length=pre.length ∧
    lookO T (upto pre.length ro.length)=lookO (mkT zs 0 .nil (pre++ro)) (upto pre.length ro.length)∧lookA T jn=someA ln∧jnOk (pre++ro).length jn=true∧Sup fr h₀ l3∧(∀ a ∈ keys l3,s.heap.objs.size<=a) ∧
    (out b).news++(out b).more=ln++l3∧Pd b
theorem fin_core {pre ro:List (Nat×Obj)} {zs:Nat->Nz} {β:Type} {out:β->Pst} {Pd:β->Prop} {N₀:Nat} (tr:Tr w (frOf (mkT zs 0 .nil (pre++ro)) s.heap.objs.size) s.heap fr h₀)
    (D₀:Rep (ktop w.params) (frOf (mkT zs 0 .nil (pre++ro)) s.heap.objs.size) s.heap (mkT zs 0 .nil (pre++ro)) (pre++ro).length N₀ s.heap) (hR:Ret s pre out Pd R)
    {T:LT} {m N tk:Nat} {h:Heap} {f:Flow} (D:Rep (ktop w.params) fr h₀ T m N h) (F:FinD s pre ro zs out Pd fr h₀ T (erF f)):R (.ok f) ⟨h,s.gens,s.drawn,tk,s.os⟩:=by
  obtain ⟨b,ln,l3,jn,hfe,hu,hul,hro,hn,hj,hs,hfr,heq,hP⟩:=F;have D0:=tr _ _ _ _ D;have hz:=look_has D0 hu;rw [zipU_eq] at hz;have hnn:=jnOk_nd hj;refine hR b f _ hfe ⟨rfl,rfl,rfl,by rw [D0.size]; exact D0.grow,fun a o e hk=>?_⟩ hz hul (by rw [heq]; exact has_append.mpr ⟨look_has D0 hn,sup_has D hs⟩) (by rw [heq]; exact nodup_join D hn hnn.1 hs) (fun a ha=>?_) hP
  · by_cases hk2:a ∈ keys (pre++ro)
    · rw [keys_append,List.mem_append] at hk2;rcases hk2 with hk2 | hk2
      · exact absurd hk2 hk
      · obtain ⟨k,p,hp,rfl⟩:=mem_keys.mp hk2;have hkl:k < ro.length:=(List.getElem?_eq_some_iff.mp hp).1;have hget:(mkT zs 0 .nil (pre++ro)).get (pre.length+k)=some (p.1,unO (zs (pre.length+k)) p.2):=by
          rw [mkT_get zs (pre++ro) 0 .nil full_nil,if_neg (Nat.not_lt_zero _),Nat.sub_zero,List.getElem?_append_right (by omega),show pre.length+k - pre.length=k from by omega,hp]
          rfl
        have z1:=(D₀.own _ _ _ hget).2.1;have hmem:pre.length+k ∈ upto pre.length ro.length:=List.mem_of_getElem? (upto_get _ _ _ hkl);rw [<- lookO_get hro _ hmem] at hget;have z2:=(D0.own _ _ _ hget).2.1;rw [e] at z1;rw [z2,z1]
    · exact D0.keep a o (sub_keys (Heap.lt_size e) hk2) e
  · rw [heq,keys_append,List.mem_append] at ha;rcases ha with ha | ha
    · obtain ⟨i,p,hi,rfl⟩:=mem_keys.mp ha;obtain ⟨j,o,h1,h2,_⟩:=look_get hn i p hi;apply Nat.le_of_not_lt;intro hlt;have hkj:=hnn.2 j (List.mem_of_getElem? h1);have nfr:=(D0.own j _ _ h2).2.2.2;refine nfr (sub_keys hlt fun hk=>?_);rw [keys_append,List.mem_append] at hk;have hkj':pre.length+ro.length<=j:=by rw [List.length_append] at hkj; exact hkj
      rcases hk with hk | hk
      · obtain ⟨k,p',hk',e2⟩:=mem_keys.mp hk;have hkl:k < pre.length:=(List.getElem?_eq_some_iff.mp hk').1;have hku:k < (out b).upd.length:=by rw [hul]; exact hkl
        have hzk:(zipU pre (out b).upd)[k]? = some (p'.1,(out b).upd[k]):=by
          rw [zipU_eq,List.getElem?_zip_eq_some];exact ⟨by simp [keys,hk'],List.getElem?_eq_getElem hku⟩
        obtain ⟨j',o',h1',h2',_⟩:=look_get hu k _ hzk;rw [upto_get _ _ _ hkl] at h1';cases h1';have h2'':T.get (0+k)=some (p.1,o'):=by rw [<- e2]; exact h2'
        have:=D0.inj _ _ _ _ _ h2 h2''
        omega
      · obtain ⟨k,p',hk',e2⟩:=mem_keys.mp hk;have hkl:k < ro.length:=(List.getElem?_eq_some_iff.mp hk').1;have hget:(mkT zs 0 .nil (pre++ro)).get (pre.length+k)=some (p'.1,unO (zs (pre.length+k)) p'.2):=by
          rw [mkT_get zs (pre++ro) 0 .nil full_nil,if_neg (Nat.not_lt_zero _),Nat.sub_zero,List.getElem?_append_right (by omega),show pre.length+k - pre.length=k from by omega,hk']
          rfl
        have hmem:pre.length+k ∈ upto pre.length ro.length:=List.mem_of_getElem? (upto_get _ _ _ hkl);rw [<- lookO_get hro _ hmem,e2] at hget;have:=D0.inj _ _ _ _ _ h2 hget
        omega
    · exact hfr a ha
theorem finishC {pre ro:List (Nat×Obj)} {zs:Nat->Nz} {β:Type} {out:β->Pst} {Pd:β->Prop} {N₀:Nat} (tr:Tr w (frOf (mkT zs 0 .nil (pre++ro)) s.heap.objs.size) s.heap fr h₀)
    (D₀:Rep (ktop w.params) (frOf (mkT zs 0 .nil (pre++ro)) s.heap.objs.size) s.heap (mkT zs 0 .nil (pre++ro)) (pre++ro).length N₀ s.heap) (hR:Ret s pre out Pd R)
    {X:MS} (b:β) (ln l3:List (Nat×Obj)) (jn:List Nat) (hf:(finF X).map erF=some (out b).r) (hu:lookA X.T (upto 0 pre.length)=someA (zipU pre (out b).upd)) (hul:(out b).upd.length=pre.length)
    (hro:lookO X.T (upto pre.length ro.length)=lookO (mkT zs 0 .nil (pre++ro)) (upto pre.length ro.length))
    (hn:lookA X.T jn=someA ln) (hj:jnOk (pre++ro).length jn=true) (hs:Sup fr h₀ l3) (hfr:∀ a ∈ keys l3,s.heap.objs.size<=a) (heq:(out b).news++(out b).more=ln++l3) (hP:Pd b):GoodC w b1 b2 b3 tx A R s fr h₀ X:=by
  refine ⟨?_⟩;intro h D;obtain ⟨pd,c,κ,t,T,m,N,tk,ob,lns⟩:=X
  dsimp only at *
  have hfin:∃ f,κ=[]∧pd=false∧t = .pure (.done f)∧erF f=(out b).r:=by
    cases q:finF ⟨pd,c,κ,t,T,m,N,tk,ob,lns⟩ with
    | none=>rw [q] at hf; cases hf
    | some f =>
      rw [q] at hf
      unfold finF at q
      dsimp only at q
      split at q
      · cases q;exact ⟨_,rfl,rfl,rfl,Option.some.inj hf⟩
      · cases q
  obtain ⟨f,rfl,rfl,rfl,hfe⟩:=hfin;exact y_pure _ _ _ _ _ _ _ _ _ (y_done _ _ _ _ _ _ (fin_core tr D₀ hR D ⟨b,ln,l3,jn,hfe,hu,hul,hro,hn,hj,hs,hfr,heq,hP⟩))
noncomputable def againC (X:MS):Option Code:=match X.κ,X.pd,X.t with
  | [],false,.pure (.again c)=>some c
  | _,_,_=>none
theorem tailC (C:Cx w b1 b2 b3 Dp Un tx A fr h₀) {X:MS} {Dp' Un':Nat} {cd:Code} {pre l2 l3:List (Nat×Obj)} {β:Type} {out:β->Pst} {Pd:β->Prop}
    (K:Ct w Dp' Un' cd pre (l2++l3) out Pd) (idx idx2:List Nat) (hc:(againC X).map erC=some cd) (hq:(againC X).map Code.quiet=some true) (hl:lookA X.T idx=someA pre) (hl2:lookA X.T idx2=someA l2) (hn:(idx++idx2).Nodup)
    (hd:Nat.ble Dp' Dp=true) (hu:Nat.ble Un' Un=true) (h3:Sup fr h₀ l3)
    {pre₀ ro₀:List (Nat×Obj)} {zs₀:Nat->Nz} {γ:Type} {out₀:γ->Pst} {Pd₀:γ->Prop} {N₀:Nat} (tr:Tr w (frOf (mkT zs₀ 0 .nil (pre₀++ro₀)) s.heap.objs.size) s.heap fr h₀)
    (D₀:Rep (ktop w.params) (frOf (mkT zs₀ 0 .nil (pre₀++ro₀)) s.heap.objs.size) s.heap (mkT zs₀ 0 .nil (pre₀++ro₀)) (pre₀++ro₀).length N₀ s.heap) (hR:Ret s pre₀ out₀ Pd₀ R)
    (x:∀ (b:β) (zu zn:Nat->Nz) (h':Heap),(∀ l,Sup fr h₀ l->Sup (frOf (mkT zn X.m (putU zu 0 X.T idx (out b).upd) (out b).news) h'.objs.size) h' ((out b).more++l))->(∀ a ∈ keys (out b).more,s.heap.objs.size<=a)->Pd b ->
      FinD s pre₀ ro₀ zs₀ out₀ Pd₀ (frOf (mkT zn X.m (putU zu 0 X.T idx (out b).upd) (out b).news) h'.objs.size) h' (mkT zn X.m (putU zu 0 X.T idx (out b).upd) (out b).news) (out b).r) :
    GoodC w b1 b2 b3 tx A R s fr h₀ X:=by
  refine ⟨?_⟩;intro h D;obtain ⟨pd,c,κ,t,T,m,N,tk,ob,ln⟩:=X
  dsimp only at *
  have hfin:∃ c',κ=[]∧pd=false∧t = .pure (.again c')∧erC c' = cd∧c'.quiet=true:=by
    cases q:againC ⟨pd,c,κ,t,T,m,N,tk,ob,ln⟩ with
    | none=>rw [q] at hc; cases hc
    | some f =>
      rw [q] at hc hq
      unfold againC at q
      dsimp only at q
      split at q
      · cases q;exact ⟨_,rfl,rfl,rfl,Option.some.inj hc,Option.some.inj hq⟩
      · cases q
  obtain ⟨c',rfl,rfl,rfl,hc',hq'⟩:=hfin;have hl2':=look_append hl hl2;refine mw_again hq' (K _ _ _ c' ⟨handled_toK _ C.hh _,?_,?_,D.top⟩ hc' ?_ ?_ fun b fl s' hfl F hU hUl hN hNn hNf hP=>?_)
  · have:=Nat.le_of_ble_eq_true hd;have h2:=C.dep;show A.depth+Dp' < recursionLimit
    omega
  · have:=Nat.le_of_ble_eq_true hu;have h2:=C.uni;show A.units+Un' < cLine
    omega
  · rw [<- List.append_assoc];exact has_append.mpr ⟨look_has D hl2',sup_has D h3⟩
  · rw [<- List.append_assoc];exact nodup_join D hl2' hn h3
  · obtain ⟨zu,zn,N',D',C',tr',su,fs⟩:=after_call (s:=⟨h,s.gens,s.drawn,tk,s.os⟩) (P:=out b) C tr D hl (List.nodup_append.mp hn).1 F hU hUl hN hNn hNf;have e2:s' = ⟨s'.heap,s.gens,s.drawn,s'.toks,s.os⟩:=by
      obtain ⟨hp,gg,dd,tk2,oo⟩:=s';have h1:=F.gens;have h2:=F.drawn;have h3:=F.os
      dsimp only at h1 h2 h3
      rw [h1,h2,h3]
    rw [e2];have z:=x b zu zn s'.heap su fs hP;rw [<- hfl] at z;exact fin_core tr' D₀ hR D'.rebase z
end
section
variable {w:World} {b1 b2 b3:Bool} {tx:Tx} {Dp Un:Nat} {A:Around} {R:Result->Shared->Prop} {s:Shared} {fr fr0:Nat->Prop} {h₀ h₁:Heap}
theorem sg (C:Cx w b1 b2 b3 Dp Un tx A fr h₀) {X:MS} (n:Nat) (orc:List Nat) (h:let Y:=go (EE w.params b1 b2 b3 tx) n orc X; GoodC w b1 b2 b3 tx A R s fr h₀ Y)
    (h1:obL (go (EE w.params b1 b2 b3 tx) n orc X).ob=obR (go (EE w.params b1 b2 b3 tx) n orc X).ob:=by kernel_rfl) (h2:(go (EE w.params b1 b2 b3 tx) n orc X).ln=[]:=by kernel_rfl):GoodC w b1 b2 b3 tx A R s fr h₀ X:=seg C n orc h1 h2 h
theorem sK (s:Shared) (R:Result->Shared->Prop) (C:Cx w b1 b2 b3 Dp Un tx A fr h₀) (tr:Tr w fr0 h₁ fr h₀) (l2 l3:List (Nat×Obj)) {Dp' Un':Nat} {cd:Code} {pre:List (Nat×Obj)} {β:Type} {out:β->Pst} {Pd:β->Prop}
    (K:Ct w Dp' Un' cd pre (l2++l3) out Pd) (idx idx2:List Nat) (h3:Sup fr h₀ l3) ⦃X:MS⦄
    (x:∀ (b:β) (t:Tok) (zu zn:Nat->Nz) (N' tk':Nat) (h':Heap),let T':=mkT zn X.m (putU zu 0 X.T idx (out b).upd) (out b).news; Cx w b1 b2 b3 Dp Un tx A (frOf T' h'.objs.size) h' ->
      Tr w fr0 h₁ (frOf T' h'.objs.size) h' ->
      (∀ l,Sup fr h₀ l->Sup (frOf T' h'.objs.size) h' ((out b).more++l))->(∀ a ∈ keys (out b).more,h₁.objs.size<=a)->Pd b ->
      let Y:=resume X (unF t (out b).r) T' (X.m+(out b).news.length) N' tk'; GoodC w b1 b2 b3 tx A R s (frOf T' h'.objs.size) h' Y)
    (hpd:X.pd=false:=by kernel_rfl) (hc:(callC X.t).map erC=some cd:=by kernel_rfl) (hl:lookA X.T idx=someA pre:=by kernel_rfl) (hl2:lookA X.T idx2=someA l2:=by kernel_rfl) (hn:(decide ((idx++idx2).Nodup))=true:=by kernel_rfl)
    (hd:Nat.ble (Nat.add (wK (⟨X.c,callK X.t⟩::X.κ)) Dp') Dp=true:=by kernel_rfl) (hu:Nat.ble (Nat.add (uK (⟨X.c,callK X.t⟩::X.κ)) Un') Un=true:=by kernel_rfl) :
    GoodC w b1 b2 b3 tx A R s fr h₀ X:=stopC C tr K idx idx2 hpd hc hl hl2 (of_decide_eq_true hn) hd hu h3 x
theorem sN (s:Shared) (R:Result->Shared->Prop) (C:Cx w b1 b2 b3 Dp Un tx A fr h₀) (tr:Tr w fr0 h₁ fr h₀) (l2:List (Nat×Obj)) {Dp' Un':Nat} {cd:Code} {pre:List (Nat×Obj)} {β:Type} {out:β->Pst} {Pd:β->Prop}
    (K:Ct w Dp' Un' cd pre (l2++[]) out Pd) (idx idx2:List Nat) ⦃X:MS⦄
    (x:∀ (b:β) (t:Tok) (zu zn:Nat->Nz) (N' tk':Nat) (h':Heap),let T':=mkT zn X.m (putU zu 0 X.T idx (out b).upd) (out b).news; Cx w b1 b2 b3 Dp Un tx A (frOf T' h'.objs.size) h' ->
      Tr w fr0 h₁ (frOf T' h'.objs.size) h' ->
      (∀ l,Sup fr h₀ l->Sup (frOf T' h'.objs.size) h' ((out b).more++l))->(∀ a ∈ keys (out b).more,h₁.objs.size<=a)->Pd b ->
      let Y:=resume X (unF t (out b).r) T' (X.m+(out b).news.length) N' tk'; GoodC w b1 b2 b3 tx A R s (frOf T' h'.objs.size) h' Y)
    (hpd:X.pd=false:=by kernel_rfl) (hc:(callC X.t).map erC=some cd:=by kernel_rfl) (hl:lookA X.T idx=someA pre:=by kernel_rfl) (hl2:lookA X.T idx2=someA l2:=by kernel_rfl) (hn:(decide ((idx++idx2).Nodup))=true:=by kernel_rfl)
    (hd:Nat.ble (Nat.add (wK (⟨X.c,callK X.t⟩::X.κ)) Dp') Dp=true:=by kernel_rfl) (hu:Nat.ble (Nat.add (uK (⟨X.c,callK X.t⟩::X.κ)) Un') Un=true:=by kernel_rfl) :
    GoodC w b1 b2 b3 tx A R s fr h₀ X:=stopC C tr K idx idx2 hpd hc hl hl2 (of_decide_eq_true hn) hd hu Sup.nil x
theorem tK {s:Shared} {R:Result->Shared->Prop} (C:Cx w b1 b2 b3 Dp Un tx A fr h₀) (l2 l3:List (Nat×Obj)) {Dp' Un':Nat} {cd:Code} {pre:List (Nat×Obj)} {β:Type} {out:β->Pst} {Pd:β->Prop}
    (K:Ct w Dp' Un' cd pre (l2++l3) out Pd) (idx idx2:List Nat) (h3:Sup fr h₀ l3)
    {pre₀ ro₀:List (Nat×Obj)} {zs₀:Nat->Nz} {γ:Type} {out₀:γ->Pst} {Pd₀:γ->Prop} {N₀:Nat} (tr:Tr w (frOf (mkT zs₀ 0 .nil (pre₀++ro₀)) s.heap.objs.size) s.heap fr h₀)
    (D₀:Rep (ktop w.params) (frOf (mkT zs₀ 0 .nil (pre₀++ro₀)) s.heap.objs.size) s.heap (mkT zs₀ 0 .nil (pre₀++ro₀)) (pre₀++ro₀).length N₀ s.heap) (hR:Ret s pre₀ out₀ Pd₀ R) ⦃X:MS⦄
    (x:∀ (b:β) (zu zn:Nat->Nz) (h':Heap),(∀ l,Sup fr h₀ l->Sup (frOf (mkT zn X.m (putU zu 0 X.T idx (out b).upd) (out b).news) h'.objs.size) h' ((out b).more++l))->(∀ a ∈ keys (out b).more,s.heap.objs.size<=a)->Pd b ->
      FinD s pre₀ ro₀ zs₀ out₀ Pd₀ (frOf (mkT zn X.m (putU zu 0 X.T idx (out b).upd) (out b).news) h'.objs.size) h' (mkT zn X.m (putU zu 0 X.T idx (out b).upd) (out b).news) (out b).r)
    (hc:(againC X).map erC=some cd:=by kernel_rfl) (hq:(againC X).map Code.quiet=some true:=by kernel_rfl) (hl:lookA X.T idx=someA pre:=by kernel_rfl) (hl2:lookA X.T idx2=someA l2:=by kernel_rfl) (hn:(decide ((idx++idx2).Nodup))=true:=by kernel_rfl)
    (hd:Nat.ble Dp' Dp=true:=by kernel_rfl) (hu:Nat.ble Un' Un=true:=by kernel_rfl) :
    GoodC w b1 b2 b3 tx A R s fr h₀ X:=tailC C K idx idx2 hc hq hl hl2 (of_decide_eq_true hn) hd hu h3 tr D₀ hR x
end
noncomputable def dE:List (Str×Value)->List DictEntry
  | []=>[]
  | p::l=>⟨0,.str p.1 0,p.2⟩::dE l
noncomputable def dictO (l:List (Str×Value)):Obj:=⟨.type "dict",none,.dict ⟨dE l⟩ 0,#[]⟩
noncomputable def frameO (l:List (Str×Value)):Obj:=⟨.type "frame",none,.dict ⟨dE l⟩ 0,#[]⟩
noncomputable def instO (C d:Nat):Obj:=⟨.ref C,some d,.plain,#[]⟩
noncomputable def listO (l:List Value):Obj:=⟨.type "list",none,.seq ⟨l⟩ 0,#[]⟩
noncomputable def tupO (l:List Value):Obj:=⟨.type "tuple",none,.seq ⟨l⟩ 0,#[]⟩
noncomputable def k_source:Str:=⟨⟨[115,111,117,114,99,101]⟩⟩
noncomputable def k_errors:Str:=⟨⟨[101,114,114,111,114,115]⟩⟩
noncomputable def k_place:Str:=⟨⟨[112,108,97,99,101]⟩⟩
noncomputable def k_words:Str:=⟨⟨[119,111,114,100,115]⟩⟩
noncomputable def k_kind:Str:=⟨⟨[107,105,110,100]⟩⟩
noncomputable def k_value:Str:=⟨⟨[118,97,108,117,101]⟩⟩
noncomputable def k_op:Str:=⟨⟨[111,112]⟩⟩
noncomputable def k_type:Str:=⟨⟨[116,121,112,101]⟩⟩
noncomputable def k_kids:Str:=⟨⟨[107,105,100,115]⟩⟩
noncomputable def k_sure:Str:=⟨⟨[115,117,114,101]⟩⟩
noncomputable def k_number:Str:=⟨⟨[110,117,109,98,101,114]⟩⟩
noncomputable def k_form:Str:=⟨⟨[102,111,114,109]⟩⟩
noncomputable def k_size:Str:=⟨⟨[115,105,122,101]⟩⟩
noncomputable def k_base:Str:=⟨⟨[98,97,115,101]⟩⟩
noncomputable def k_length:Str:=⟨⟨[108,101,110,103,116,104]⟩⟩
noncomputable def k_fields:Str:=⟨⟨[102,105,101,108,100,115]⟩⟩
noncomputable def k_level:Str:=⟨⟨[108,101,118,101,108]⟩⟩
noncomputable def k_params:Str:=⟨⟨[112,97,114,97,109,115]⟩⟩
noncomputable def k_module:Str:=⟨⟨[109,111,100,117,108,101]⟩⟩
noncomputable def k_label:Str:=⟨⟨[108,97,98,101,108]⟩⟩
noncomputable def k_hidden:Str:=⟨⟨[104,105,100,100,101,110]⟩⟩
noncomputable def k_exno:Str:=⟨⟨[101,120,110,111]⟩⟩
noncomputable def k_name:Str:=⟨⟨[110,97,109,101]⟩⟩
noncomputable def k_exported:Str:=⟨⟨[101,120,112,111,114,116,101,100]⟩⟩
noncomputable def k_readonly:Str:=⟨⟨[114,101,97,100,111,110,108,121]⟩⟩
noncomputable def k_slot:Str:=⟨⟨[115,108,111,116]⟩⟩
noncomputable def k_offset:Str:=⟨⟨[111,102,102,115,101,116]⟩⟩
noncomputable def k_isparam:Str:=⟨⟨[105,115,112,97,114,97,109]⟩⟩
noncomputable def k_narrowed:Str:=⟨⟨[110,97,114,114,111,119,101,100]⟩⟩
noncomputable def k_counter:Str:=⟨⟨[99,111,117,110,116,101,114]⟩⟩
noncomputable def k_known:Str:=⟨⟨[107,110,111,119,110]⟩⟩
noncomputable def k_boolean:Str:=⟨⟨[98,111,111,108,101,97,110]⟩⟩
noncomputable def k_char:Str:=⟨⟨[99,104,97,114]⟩⟩
noncomputable def k_byte:Str:=⟨⟨[98,121,116,101]⟩⟩
noncomputable def k_integer:Str:=⟨⟨[105,110,116,101,103,101,114]⟩⟩
noncomputable def k_mask:Str:=⟨⟨[109,97,115,107]⟩⟩
noncomputable def k_nil:Str:=⟨⟨[110,105,108]⟩⟩
noncomputable def k_none:Str:=⟨⟨[110,111,110,101]⟩⟩
noncomputable def k_names:Str:=⟨⟨[110,97,109,101,115]⟩⟩
noncomputable def k_order:Str:=⟨⟨[111,114,100,101,114]⟩⟩
noncomputable def k_slots:Str:=⟨⟨[115,108,111,116,115]⟩⟩
noncomputable def k_types:Str:=⟨⟨[116,121,112,101,115]⟩⟩
noncomputable def k_stack:Str:=⟨⟨[115,116,97,99,107]⟩⟩
noncomputable def k_scanner:Str:=⟨⟨[115,99,97,110,110,101,114]⟩⟩
noncomputable def k_imptr:Str:=⟨⟨[105,109,112,111,114,116,101,114]⟩⟩
noncomputable def k_scopes:Str:=⟨⟨[115,99,111,112,101,115]⟩⟩
noncomputable def k_procs:Str:=⟨⟨[112,114,111,99,115]⟩⟩
noncomputable def k_records:Str:=⟨⟨[114,101,99,111,114,100,115]⟩⟩
noncomputable def k_forwards:Str:=⟨⟨[102,111,114,119,97,114,100,115]⟩⟩
noncomputable def k_nest:Str:=⟨⟨[110,101,115,116]⟩⟩
noncomputable def k_parts:Str:=⟨⟨[112,97,114,116,115]⟩⟩
noncomputable def k_token:Str:=⟨⟨[116,111,107,101,110]⟩⟩
noncomputable def k_rows:Str:=⟨⟨[114,111,119,115]⟩⟩
noncomputable def k_places:Str:=⟨⟨[112,108,97,99,101,115]⟩⟩
noncomputable def k_node:Str:=⟨⟨[110,111,100,101]⟩⟩
noncomputable def k_rd:Str:=⟨⟨[114,100]⟩⟩
noncomputable def k_expression:Str:=⟨⟨[101,120,112,114,101,115,115,105,111,110]⟩⟩
noncomputable def k_field:Str:=⟨⟨[102,105,101,108,100]⟩⟩
noncomputable def k_record:Str:=⟨⟨[114,101,99,111,114,100]⟩⟩
noncomputable def k_pointer:Str:=⟨⟨[112,111,105,110,116,101,114]⟩⟩
noncomputable def k_state:Str:=⟨⟨[115,116,97,116,101]⟩⟩
noncomputable def k_pair:Str:=⟨⟨[112,97,105,114]⟩⟩
noncomputable def k_three:Str:=⟨⟨[116,104,114,101,101]⟩⟩
noncomputable def k_sorts:Str:=⟨⟨[115,111,114,116,115]⟩⟩
noncomputable def k_t:Str:=⟨⟨[116]⟩⟩
noncomputable def k_variable:Str:=⟨⟨[118,97,114,105,97,98,108,101]⟩⟩
noncomputable def k_start:Str:=⟨⟨[115,116,97,114,116]⟩⟩
noncomputable def k_due:Str:=⟨⟨[100,117,101]⟩⟩
noncomputable def k_said:Str:=⟨⟨[115,97,105,100]⟩⟩
noncomputable def k_go_of:Str:=⟨⟨[103,111,95,111,102]⟩⟩
noncomputable def k_spot_of:Str:=⟨⟨[115,112,111,116,95,111,102]⟩⟩
noncomputable def k_figure:Str:=⟨⟨[102,105,103,117,114,101]⟩⟩
noncomputable def k_row:Str:=⟨⟨[114,111,119]⟩⟩
noncomputable def k_at:Str:=⟨⟨[97,116]⟩⟩
noncomputable def k_most:Str:=⟨⟨[109,111,115,116]⟩⟩
noncomputable def k_self:Str:=⟨⟨[115,101,108,102]⟩⟩
noncomputable def k_begun:Str:=⟨⟨[98,101,103,117,110]⟩⟩
noncomputable def k_symbol:Str:=⟨⟨[115,121,109,98,111,108]⟩⟩
noncomputable def k_index:Str:=⟨⟨[105,110,100,101,120]⟩⟩
noncomputable def v_dot:Str:=⟨⟨[46]⟩⟩
noncomputable def v_lbr:Str:=⟨⟨[91]⟩⟩
noncomputable def v_rbr:Str:=⟨⟨[93]⟩⟩
noncomputable def v_lpar:Str:=⟨⟨[40]⟩⟩
noncomputable def v_rpar:Str:=⟨⟨[41]⟩⟩
noncomputable def v_hat:Str:=⟨⟨[94]⟩⟩
noncomputable def v_comma:Str:=⟨⟨[44]⟩⟩
noncomputable def v_assign:Str:=⟨⟨[58,61]⟩⟩
noncomputable def v_ident:Str:=⟨⟨[105,100,101,110,116]⟩⟩
noncomputable def v_int:Str:=⟨⟨[105,110,116]⟩⟩
noncomputable def v_empty:Str:=⟨⟨[]⟩⟩
noncomputable def v_var:Str:=⟨⟨[118,97,114]⟩⟩
noncomputable def v_deref:Str:=⟨⟨[100,101,114,101,102]⟩⟩
noncomputable def v_index:Str:=⟨⟨[105,110,100,101,120]⟩⟩
noncomputable def v_guard:Str:=⟨⟨[103,117,97,114,100]⟩⟩
noncomputable def v_field:Str:=⟨⟨[102,105,101,108,100]⟩⟩
noncomputable def v_const:Str:=⟨⟨[99,111,110,115,116]⟩⟩
noncomputable def v_n:Str:=⟨⟨[110]⟩⟩
noncomputable def v_m:Str:=⟨⟨[109]⟩⟩
noncomputable def v_q:Str:=⟨⟨[113]⟩⟩
noncomputable def v_v:Str:=⟨⟨[118]⟩⟩
noncomputable def v_P:Str:=⟨⟨[80]⟩⟩
noncomputable def v_record:Str:=⟨⟨[114,101,99,111,114,100]⟩⟩
noncomputable def v_pointer:Str:=⟨⟨[112,111,105,110,116,101,114]⟩⟩
noncomputable def v_array:Str:=⟨⟨[97,114,114,97,121]⟩⟩
noncomputable def v_integer:Str:=⟨⟨[105,110,116,101,103,101,114]⟩⟩
noncomputable def wordsO:Obj:=tupO [.str ⟨⟨[65,82,82,65,89]⟩⟩ 0,.str ⟨⟨[66,69,71,73,78]⟩⟩ 0,.str ⟨⟨[66,89]⟩⟩ 0,.str ⟨⟨[67,65,83,69]⟩⟩ 0,.str ⟨⟨[67,79,78,83,84]⟩⟩ 0,.str ⟨⟨[68,73,86]⟩⟩ 0,.str ⟨⟨[68,79]⟩⟩ 0,.str ⟨⟨[69,76,83,69]⟩⟩ 0,.str ⟨⟨[69,76,83,73,70]⟩⟩ 0,.str ⟨⟨[69,78,68]⟩⟩ 0,.str ⟨⟨[70,79,82]⟩⟩ 0,.str ⟨⟨[73,70]⟩⟩ 0,.str ⟨⟨[73,77,80,79,82,84]⟩⟩ 0,.str ⟨⟨[73,78]⟩⟩ 0,.str ⟨⟨[73,83]⟩⟩ 0,.str ⟨⟨[77,79,68]⟩⟩ 0,.str ⟨⟨[77,79,68,85,76,69]⟩⟩ 0,.str ⟨⟨[78,73,76]⟩⟩ 0,.str ⟨⟨[79,70]⟩⟩ 0,.str ⟨⟨[79,82]⟩⟩ 0,.str ⟨⟨[80,79,73,78,84,69,82]⟩⟩ 0,.str ⟨⟨[80,82,79,67,69,68,85,82,69]⟩⟩ 0,.str ⟨⟨[82,69,67,79,82,68]⟩⟩ 0,.str ⟨⟨[82,69,80,69,65,84]⟩⟩ 0,.str ⟨⟨[82,69,84,85,82,78]⟩⟩ 0,.str ⟨⟨[84,72,69,78]⟩⟩ 0,.str ⟨⟨[84,79]⟩⟩ 0,.str ⟨⟨[84,89,80,69]⟩⟩ 0,.str ⟨⟨[85,78,84,73,76]⟩⟩ 0,.str ⟨⟨[86,65,82]⟩⟩ 0,.str ⟨⟨[87,72,73,76,69]⟩⟩ 0]
noncomputable def scD (S:Str) (er wa:Nat) (p:Nat):Obj:=dictO [(k_source,.str S 0),(k_errors,.ref er),(k_place,.int (Int.ofNat p) 0),(k_words,.ref wa)]
noncomputable def tokD (kind:Str) (value:Value) (p:Nat):Obj:=dictO [(k_kind,.str kind 0),(k_value,value),(k_place,.int (Int.ofNat p) 0)]
noncomputable def typD (nb:Nat) (form:Str) (size:Nat) (base:Value) (len:Nat) (f p h:Nat) (m l:Str):Obj:=
  dictO [(k_number,.int (Int.ofNat nb) 0),(k_form,.str form 0),(k_size,.int (Int.ofNat size) 0),(k_base,base),(k_length,.int (Int.ofNat len) 0),(k_fields,.ref f),(k_level,.int 0 0),(k_params,.ref p),(k_module,.str m 0),(k_label,.str l 0),(k_hidden,.ref h),(k_exno,.int 0 0)]
noncomputable def objD (name kind:Str) (ty:Nat) (m:Str) (slot:Nat):Obj:=
  dictO [(k_name,.str name 0),(k_kind,.str kind 0),(k_type,.ref ty),(k_place,.int 0 0),(k_exported,.bool false),(k_readonly,.bool false),(k_level,.int 0 0),(k_module,.str m 0),(k_value,.none),(k_slot,.int (Int.ofNat slot) 0),(k_offset,.int 0 0),(k_number,.int 0 0),(k_isparam,.bool false),(k_narrowed,.none)]
noncomputable def nodD (op:Str) (place:Nat) (ty ks:Nat) (value:Value):Obj:=
  dictO [(k_op,.str op 0),(k_place,.int (Int.ofNat place) 0),(k_type,.ref ty),(k_kids,.ref ks),(k_value,value),(k_sure,.bool false)]
noncomputable def rdD (a:Nat->Nat) (k ta:Nat):Obj:=
  dictO [(k_scanner,.ref (a 0)),(k_types,.ref (a 6)),(k_errors,.ref (a 2)),(k_imptr,.none),(k_scopes,.ref (a 46)),(k_module,.str v_empty 0),(k_procs,.ref (a 56)),(k_records,.ref (a 57)),(k_forwards,.ref (a 58)),(k_level,.int 0 0),(k_nest,.int 0 0),(k_parts,.int (Int.ofNat k) 0),(k_token,.ref ta)]
noncomputable def w_sc (a:Nat->Nat):List (Nat×Obj):=[(a 0,instO 348 (a 1)),(a 3,wordsO)]
noncomputable def typesD (a:Nat->Nat):Obj:=dictO [(k_counter,.int 11 0),(k_known,.ref (a 8)),(k_boolean,.ref (a 9)),(k_char,.ref (a 10)),(k_byte,.ref (a 11)),(k_integer,.ref (a 15)),(k_mask,.ref (a 12)),(k_nil,.ref (a 13)),(k_none,.ref (a 14))]
noncomputable def o_it (a:Nat->Nat):Obj:=typD 4 v_integer 4 .none 0 (a 17) (a 18) (a 19) v_empty v_empty
noncomputable def o_th (a:Nat->Nat):Obj:=typD 11 v_array 24 (.ref (a 25)) 3 (a 22) (a 23) (a 24) v_empty v_empty
noncomputable def o_pa (a:Nat->Nat):Obj:=typD 10 v_array 8 (.ref (a 15)) 2 (a 27) (a 28) (a 29) v_empty v_empty
noncomputable def v_M:Str:=⟨⟨[77]⟩⟩
noncomputable def v_R:Str:=⟨⟨[82]⟩⟩
noncomputable def v_type:Str:=⟨⟨[116,121,112,101]⟩⟩
noncomputable def o_rc (a:Nat->Nat):Obj:=typD 8 v_record 36 .none 0 (a 32) (a 33) (a 34) v_M v_R
noncomputable def o_pt (a:Nat->Nat):Obj:=typD 9 v_pointer 4 (.ref (a 30)) 0 (a 37) (a 38) (a 39) v_M v_P
noncomputable def w_ty (a:Nat->Nat):List (Nat×Obj):=[(a 15,instO 369 (a 16)),(a 16,o_it a),(a 20,instO 369 (a 21)),(a 21,o_th a),(a 25,instO 369 (a 26)),(a 26,o_pa a),(a 30,instO 369 (a 31)),(a 31,o_rc a),(a 35,instO 369 (a 36)),(a 36,o_pt a),
  (a 32,listO [.ref (a 40),.ref (a 42),.ref (a 44)]),(a 40,instO 390 (a 41)),(a 41,objD v_n v_field (a 15) v_empty 0),(a 42,instO 390 (a 43)),(a 43,objD v_m v_field (a 20) v_empty 0),(a 44,instO 390 (a 45)),(a 45,objD v_q v_field (a 35) v_empty 0)]
noncomputable def w_rd (a:Nat->Nat):List (Nat×Obj):=[(a 4,instO 630 (a 5)),(a 6,instO 426 (a 7)),(a 7,typesD a),(a 46,instO 510 (a 47)),(a 47,dictO [(k_types,.ref (a 6)),(k_module,.str v_empty 0),(k_stack,.ref (a 48)),(k_level,.int 0 0)]),
  (a 48,listO [.ref (a 49),.ref (a 50)]),(a 50,instO 447 (a 51)),(a 51,dictO [(k_level,.int 0 0),(k_label,.str v_empty 0),(k_names,.ref (a 52)),(k_order,.ref (a 53)),(k_slots,.int 0 0)]),(a 52,dictO [(v_P,.ref (a 54))]),
  (a 54,instO 390 (a 55)),(a 55,objD v_P v_type (a 35) v_empty 0)]
theorem strsAre_of:∀ (l:List Str) (f:Nat->Tok) (i:Nat),StrsAre (unL f i (l.map (.str · 0))) l
  | [],_,_=>.nil
  | x::l,f,i=>.cons x (f i) (strsAre_of l f (Nat.succ i))
noncomputable def strsL:List Str->List Value
  | []=>[]
  | x::l=>.str x 0::strsL l
theorem strsL_eq:∀ l,strsL l=l.map (.str · 0)
  | []=>rfl
  | x::l=>congrArg (_::·) (strsL_eq l)
theorem has_tup {h:Heap} {ad:Nat} {l:List Str} (x:Has h ad (tupO (strsL l))):∃ items,PyProof.Rows.IsTup h ad items∧StrsAre items.toList l:=by
  obtain ⟨_,o,ho,e⟩:=x;obtain ⟨z,rfl⟩:=un_nz _ _ e;exact ⟨_,⟨_,ho,rfl,_,rfl⟩,by rw [strsL_eq]; exact strsAre_of l z.v 0⟩
theorem ct_tupin {w:World} (l:List Str) (x:Str) (ad:Nat) :
    Ct w 0 0 (.call (.builtin "tuple.__contains__") ⟨[.ref ad,.str x 0],[]⟩) [] [(ad,tupO (strsL l))] (β:=Unit) (fun _=>⟨.ret (.bool (l.any (· == x))),[],[],[]⟩) (fun _=>True):=by
  intro A s R c hb hc hp hn hR;obtain ⟨f,e⟩:=un_code c;rw [hc] at e;subst e;obtain ⟨items,hi,hs⟩:=has_tup hp.1;show codeAny (model pz w) A (.call (.builtin "tuple.__contains__") ⟨[.ref ad,.str x (f 1)],[]⟩) R s;refine codeAny_call_builtin F.slot_tuple_contains.plain F.entry_tuple_contains (F.slot_tuple_contains.check _ _ _ _ _ _ _ _ hi.typeIs (F.args_tuple_contains_2 _ _) (tuple_contains_strs hi hs ?_));exact hR () _ s rfl ⟨rfl,rfl,rfl,Nat.le_refl _,fun _ _ h _=>h⟩ trivial rfl trivial List.nodup_nil (fun _ h=>nomatch h) trivial
section
variable {prog:Program} {w:World} {A:Around} {E:Value->Shared->Prop} {s:Shared}
theorem find_str {d:Addr} {o:Obj} {es:Array DictEntry} {ep:Nat} {x:Str} {t:Tok} {h:Int} {Q:Option Nat->Shared->Prop} (ho:s.heap.get? d=some o) (hd:o.data = .dict es ep) (hk:(es.all fun e=>isExactStrKey e.key)=true)
    (hq:Q (es.findIdx? fun e=>e.key.isStr x) s):wpAny (model prog w) A (dictFind d (.str x t) h) Q E s:=by
  unfold dictFind
  try with_reducible refine wpAny_holding ?_
  refine wpAny_bind (wpAny_dictEntries ho hd ?_)
  dsimp only
  rw [if_pos hk]
  unfold foundByValue
  cases hf:es.findIdx? (fun e=>e.key.isStr x) with
  | none=>rw [hf] at hq; exact wpAny_pure hq
  | some i =>
    rw [hf] at hq;obtain ⟨hlt,hi,_⟩:=Array.findIdx?_eq_some_iff_getElem.mp hf;simp only [Array.getElem?_eq_getElem hlt];cases hkey:es[i].key with
    | str y u =>
      rw [hkey] at hi;have e:y=x:=eq_of_beq hi;refine wpAny_bind (wpAny_dictEpoch ho hd (wpAny_bind (wpAny_eqBool_str (wpAny_bind (wpAny_dictEpoch ho hd ?_)))));show wpAny _ _ (if (ep != ep)=true then _ else _) _ E _;rw [if_neg (by simp),decide_eq_true e];exact wpAny_bind (wpAny_rule (wpAny_pure hq))
    | _=>rw [hkey] at hi; cases hi
theorem get_str {d:Addr} {o:Obj} {es:Array DictEntry} {ep:Nat} {x:Str} {t:Tok} {Q:Option Value->Shared->Prop} (ho:s.heap.get? d=some o) (hd:o.data = .dict es ep) (hk:(es.all fun e=>isExactStrKey e.key)=true)
    (hq:Q ((es.find? fun e=>e.key.isStr x).map (·.val)) { s with toks:=s.toks+1 }):wpAny (model prog w) A (dictGet d (.str x t)) Q E s:=by
  unfold dictGet
  try with_reducible refine wpAny_holding ?_
  refine wpAny_bind (wpAny_pyHash_str (wpAny_bind (find_str (s:={ s with toks:=s.toks+1 }) ho hd hk ?_)));have e:=findBy_of_findIdx? (fun (k:Str) (v:Value)=>v.isStr k) es x;have e2:((es.find? fun e=>e.key.isStr x).map (·.val))=findBy (fun (k:Str) (v:Value)=>v.isStr k) es x:=rfl;rw [e2,e] at hq;cases hi:es.findIdx? fun e=>e.key.isStr x with
  | none=>simp only [hi] at hq; exact wpAny_pure hq
  | some i=>simp only [hi] at hq; exact wpAny_bind (wpAny_dictEntries (s:={ s with toks:=s.toks+1 }) ho hd (wpAny_pure hq))
end
noncomputable def hitV:List (Str×Value)->Str->Option Value
  | [],_=>none
  | p::l,x=>match p.1 == x with
    | true=>some p.2
    | false=>hitV l x
theorem hit_un (z:Nz) (x:Str):∀ (l:List (Str×Value)) (i:Nat),(((unE z i (dE l)).find? fun e=>e.key.isStr x).map (·.val)).map er=(hitV l x).map er
  | [],i=>rfl
  | p::l,i=>by
    have e:unE z i (dE (p::l))=(⟨z.h i,.str p.1 (z.k i),un (z.v i) p.2⟩:DictEntry)::unE z (Nat.succ i) (dE l):=rfl;have e2:hitV (p::l) x=(match p.1 == x with | true=>some p.2 | false=>hitV l x):=rfl
    have e3:(Value.str p.1 (z.k i)).isStr x=(p.1 == x):=rfl;rw [e,e2,List.find?_cons]
    dsimp only
    rw [e3];cases p.1 == x with
    | true=>exact congrArg some (er_un _ _)
    | false=>exact hit_un z x l (Nat.succ i)
theorem all_un (z:Nz):∀ (l:List (Str×Value)) (i:Nat),((unE z i (dE l)).all fun e=>isExactStrKey e.key)=true
  | [],_=>rfl
  | p::l,i=>all_un z l (Nat.succ i)
theorem has_dict {h:Heap} {ad:Nat} {l:List (Str×Value)} (x:Has h ad (dictO l)):∃ o es ep,h.get? ad=some o∧o.data = .dict es ep∧o.ExactDict∧(es.all fun e=>isExactStrKey e.key)=true∧∀ x,((es.find? fun e=>e.key.isStr x).map (·.val)).map er=(hitV l x).map er:=by
  obtain ⟨_,o,ho,e⟩:=x;obtain ⟨z,rfl⟩:=un_nz _ _ e;refine ⟨_,⟨unE z 0 (dE l)⟩,z.n,ho,rfl,⟨rfl,rfl,rfl⟩,?_,fun x=>?_⟩
  · rw [<- Array.all_toList]; exact all_un z l 0
  · rw [<- Array.find?_toList]; exact hit_un z x l 0
theorem ct_dictget {w:World} (l:List (Str×Value)) (x:Str) (v:Value) (ad:Nat) (hv:hitV l x=some v) (he:er v=v) :
    Ct w 0 0 (.call (.builtin "dict.__getitem__") ⟨[.ref ad,.str x 0],[]⟩) [] [(ad,dictO l)] (β:=Unit) (fun _=>⟨.ret v,[],[],[]⟩) (fun _=>True):=by
  intro A s R c hb hc hp hn hR;obtain ⟨f,e⟩:=un_code c;rw [hc] at e;subst e;obtain ⟨o,es,ep,ho,hd,hx,hk,hh⟩:=has_dict hp.1;show codeAny (model pz w) A (.call (.builtin "dict.__getitem__") ⟨[.ref ad,.str x (f 1)],[]⟩) R s;refine codeAny_call_builtin F.slot_dict_getitem.plain F.entry_dict_getitem (F.slot_dict_getitem.check _ _ _ _ _ _ _ _ ⟨o,ho,hx.1⟩ (F.args_dict_getitem_2 _ _) ?_);show wpAny _ _ (dictGet ad (.str x (f 1)) >>= _) _ _ s;refine wpAny_bind (get_str ho hd hk ?_);have q:=hh x;rw [hv] at q;cases hf:(es.find? fun e=>e.key.isStr x).map (·.val) with
  | none=>rw [hf] at q; cases q
  | some u =>
    rw [hf] at q;refine wpAny_pure ?_;refine hR () (.ret u) _ ?_ ⟨rfl,rfl,rfl,Nat.le_refl _,fun _ _ h _=>h⟩ trivial rfl trivial List.nodup_nil (fun _ h=>nomatch h) trivial;show Flow.ret (er u)=Flow.ret v;rw [<- he];exact congrArg Flow.ret (Option.some.inj q)
theorem ct_dictin {w:World} (l:List (Str×Value)) (x:Str) (v:Value) (ad:Nat) (hv:hitV l x=some v) :
    Ct w 0 0 (.call (.builtin "dict.__contains__") ⟨[.ref ad,.str x 0],[]⟩) [] [(ad,dictO l)] (β:=Unit) (fun _=>⟨.ret (.bool true),[],[],[]⟩) (fun _=>True):=by
  intro A s R c hb hc hp hn hR;obtain ⟨f,e⟩:=un_code c;rw [hc] at e;subst e;obtain ⟨o,es,ep,ho,hd,hx,hk,hh⟩:=has_dict hp.1;show codeAny (model pz w) A (.call (.builtin "dict.__contains__") ⟨[.ref ad,.str x (f 1)],[]⟩) R s;refine codeAny_call_builtin F.slot_dict_contains.plain F.entry_dict_contains (F.slot_dict_contains.check _ _ _ _ _ _ _ _ ⟨o,ho,hx.1⟩ (F.args_dict_contains_2 _ _) ?_);show wpAny _ _ (dictGet ad (.str x (f 1)) >>= _) _ _ s;refine wpAny_bind (get_str ho hd hk ?_);have q:=hh x;rw [hv] at q;cases hf:(es.find? fun e=>e.key.isStr x).map (·.val) with
  | none=>rw [hf] at q; cases q
  | some u =>
    refine wpAny_pure ?_;exact hR () (.ret (.bool true)) _ rfl ⟨rfl,rfl,rfl,Nat.le_refl _,fun _ _ h _=>h⟩ trivial rfl trivial List.nodup_nil (fun _ h=>nomatch h) trivial
theorem Ct.perm {w:World} {Dp Un:Nat} {cd:Code} {pre e e':List (Nat×Obj)} {β:Type} {out:β->Pst} {Pd:β->Prop} (p:e.Perm e') (K:Ct w Dp Un cd pre e out Pd):Ct w Dp Un cd pre e' out Pd:=by
  intro A s R c hb hc hp hn hR;have q:(pre++e').Perm (pre++e):=List.Perm.append_left _ p.symm;have key:∀ {l:List (Nat×Obj)},HasAll s.heap l ↔ ∀ q ∈ l,Has s.heap q.1 q.2:=by
    intro l
    induction l with
    | nil=>simp [HasAll]
    | cons q l ih=>simp only [HasAll,ih,List.mem_cons,forall_eq_or_imp]
  exact K A s R c hb hc (key.mpr fun x hx=>key.mp hp x (q.mem_iff.mpr hx)) ((List.Perm.nodup_iff (q.map _)).mp hn) hR
theorem Ct.cast {w:World} {Dp Un:Nat} {cd:Code} {pre e e':List (Nat×Obj)} {β:Type} {out:β->Pst} {Pd:β->Prop} (p:e=e') (K:Ct w Dp Un cd pre e out Pd):Ct w Dp Un cd pre e' out Pd:=p ▸ K
inductive Ty | it | th | pa | rc | pt
noncomputable def tyA (a:Nat->Nat):Ty->Nat
  | .it=>a 15
  | .th=>a 20
  | .pa=>a 25
  | .rc=>a 30
  | .pt=>a 35
inductive Fld | n | m | q
noncomputable def Fld.ty:Fld->Ty
  | .n=>.it
  | .m=>.th
  | .q=>.pt
noncomputable def Fld.name:Fld->Str
  | .n=>v_n
  | .m=>v_m
  | .q=>v_q
noncomputable def fldA (a:Nat->Nat):Fld->Nat
  | .n=>a 40
  | .m=>a 42
  | .q=>a 44
inductive NT
  | var (A D K:Nat) (p:Bool) (vo vod:Nat)
  | fld (A D K pl:Nat) (f:Fld) (kid:NT)
  | drf (A D K pl:Nat) (kid:NT)
  | grd (A D K pl:Nat) (kid:NT)
  | idx (A D K pl:Nat) (two:Bool) (v CA CD CK cpl:Nat) (kid:NT)
namespace NT
noncomputable def addr:NT->Nat
  | var A ..=>A
  | fld A ..=>A
  | drf A ..=>A
  | grd A ..=>A
  | idx A ..=>A
noncomputable def dict:NT->Nat
  | var _ D ..=>D
  | fld _ D ..=>D
  | drf _ D ..=>D
  | grd _ D ..=>D
  | idx _ D ..=>D
noncomputable def ty:NT->Ty
  | var _ _ _ p ..=>match p with
    | true=>.pt
    | false=>.rc
  | fld _ _ _ _ f _=>f.ty
  | drf ..=>.rc
  | grd ..=>.pt
  | idx _ _ _ _ two ..=>match two with
    | true=>.pa
    | false=>.it
noncomputable def rest (a:Nat->Nat):NT->List (Nat×Obj)
  | var _ _ K _ vo vod=>[(K,listO []),(vo,instO 390 vod)]
  | _=>[]
noncomputable def flat (a:Nat->Nat):NT->List (Nat×Obj)
  | var A D K p vo vod=>[(A,instO 39 D),(D,nodD v_var 1 (tyA a (match p with | true=>.pt | false=>.rc)) K (.ref vo)),(K,listO []),(vo,instO 390 vod),(vod,objD v_v v_var (tyA a (match p with | true=>.pt | false=>.rc)) v_empty 0)]
  | fld A D K pl f kid=>[(A,instO 39 D),(D,nodD v_field pl (tyA a f.ty) K (.ref (fldA a f))),(K,listO [.ref kid.addr])]++flat a kid
  | drf A D K pl kid=>[(A,instO 39 D),(D,nodD v_deref pl (a 30) K .none),(K,listO [.ref kid.addr])]++flat a kid
  | grd A D K pl kid=>[(A,instO 39 D),(D,nodD v_guard pl (a 35) K (.ref (a 35))),(K,listO [.ref kid.addr])]++flat a kid
  | idx A D K pl two v CA CD CK cpl kid=>[(A,instO 39 D),(D,nodD v_index pl (tyA a (match two with | true=>.pa | false=>.it)) K .none),(K,listO [.ref kid.addr,.ref CA]),(CA,instO 39 CD),(CD,nodD v_const cpl (a 15) CK (.int (Int.ofNat v) 0)),(CK,listO [])]++flat a kid
noncomputable def base:NT->Nat
  | var A ..=>A
  | fld _ _ _ _ _ kid=>kid.base
  | drf A ..=>A
  | grd _ _ _ _ kid=>kid.base
  | idx _ _ _ _ _ _ _ _ _ _ kid=>kid.base
theorem perm_mid {α:Type} (x y z:List α):(x++(y++z)).Perm (y++(x++z)):=by
  rw [<- List.append_assoc,<- List.append_assoc];exact List.Perm.append_right _ List.perm_append_comm
theorem base_ex (a:Nat->Nat):∀ t:NT,∃ D b pl ty K x r,(flat a t).Perm ([(t.base,instO 39 D),(D,match b with | true=>nodD v_var pl ty K (.ref x) | false=>nodD v_deref pl ty K .none)]++r)
  | var A D K p vo vod=>⟨D,true,1,_,K,vo,_,List.Perm.refl _⟩
  | drf A D K pl kid=>⟨D,false,pl,_,K,0,_,List.Perm.refl _⟩
  | fld A D K pl f kid=>by
    obtain ⟨D',b,pl',ty,K',val,r,h⟩:=base_ex a kid;exact ⟨D',b,pl',ty,K',val,_,(List.Perm.append_left _ h).trans (perm_mid _ _ _)⟩
  | grd A D K pl kid=>by
    obtain ⟨D',b,pl',ty,K',val,r,h⟩:=base_ex a kid;exact ⟨D',b,pl',ty,K',val,_,(List.Perm.append_left _ h).trans (perm_mid _ _ _)⟩
  | idx A D K pl two v CA CD CK cpl kid=>by
    obtain ⟨D',b,pl',ty,K',val,r,h⟩:=base_ex a kid;exact ⟨D',b,pl',ty,K',val,_,(List.Perm.append_left _ h).trans (perm_mid _ _ _)⟩
noncomputable def under:NT->Nat
  | grd _ _ _ _ kid=>kid.under
  | var A ..=>A
  | fld A ..=>A
  | drf A ..=>A
  | idx A ..=>A
end NT
noncomputable def TakeCt (w:World) (a:Nat->Nat) (S:Str) (p p':Nat) (kind:Str) (val:Value) (p0:Nat):Prop:=
  Ct w 100 100 (.call (.ref 268) ⟨[.ref (a 0)],[]⟩) [(a 1,scD S (a 2) (a 3) p)] (w_sc a++[]) (β:=Nat×Nat) (fun b=>⟨.ret (.ref b.1),[scD S (a 2) (a 3) p'],[(b.1,instO 200 b.2),(b.2,tokD kind val p0)],[]⟩) (fun _=>True)
theorem trId {w:World} {fr:Nat->Prop} {h₀:Heap}:Tr w fr h₀ fr h₀:=fun _ _ _ _ D=>D
noncomputable def o_take_dn_0_1:List Nat:=[1,0,4,4,0,4,2,0,0,0,2,0,0,0,2,0,0,0,0,2,1,0,1,0,5,5,0,5,2,0,0,0,2,0,0,0,2,0,0,0,0,2,1,0,1,0,0,6,6,6,6,6,2,0,0,0,0,2,0,0,0,2,2,0,1,6,2,0,0,0,0,2,0,0,0,2,2,0,1,6,0,6,2,0,0,0,0,2,0,0,0,2,2,0,1,6,0,0,3,0,1,6,5,5,5,0,5,0,0,0,5,0,0,4,2,0,0,0,0,2,0,0,0,2,2,0,1,4,4,4,2,0,0,0,2,0,0,0,2,0,0,0,0,2,1,0,1,0,0,8,8,8,8,8,2,0,0,0,0,2,0,0,0,2,2,0,1,8,2,0,0,0,0,2,0,0,0,2,2,0,1,8,0,8,2,0,0,0,0,2,0,0,0,2,2,0,1,8,0,0,3,0,1,8,4,4,4,0,0,4,0,1,0,10,10,10,0,10,0,0,4,0,1,0,11,11,11,0,4,0,4,2,0,0,0,2,0,0,0,2,0,0,0,0,2,1,0,1,0,12,12,12,2,0,0,0,2,0,0,0,2,0,0,0,0,2,1,0,1,0,0,13,13,13,13,13,2,0,0,0,0,2,0,0,0,2,2,0,1,13,2,0,0,0,0,2,0,0,0,2,2,0,1,13,0,13,2,0,0,0,0,2,0,0,0,2,2,0,1,13,0,0,3,0,1,13,12,2,0,0,0,2,0,0,0,2,0,0,0,0,2,1,0,1,0,0,15,15,15,15,15,2,0,0,0,0,2,0,0,0,2,2,0,1,15,2,0,0,0,0,2,0,0,0,2,2,0,1,15,0,15,2,0,0,0,0,2,0,0,0,2,2,0,1,15,0,0,3,1,1,15,0,12,12,12,17,17]
noncomputable def o_take_dn_0_2:List Nat:=[12,2,0,0,0,2,0,0,0,2,0,0,0,0,2,1,0,1,0,0,18,18,18,18,18,2,0,0,0,0,2,0,0,0,2,2,0,1,18,2,0,0,0,0,2,0,0,0,2,2,0,1,18,0,18,2,0,0,0,0,2,0,0,0,2,2,0,1,18,0,0,3,0,1,18,0,12,2,0,0,0,2,0,0,0,2,0,0,0,0,2,1,0,1,0,0,20,20,20,20,20,2,0,0,0,0,2,0,0,0,2,2,0,1,20,2,0,0,0,0,2,0,0,0,2,2,0,1,20,0,20,2,0,0,0,0,2,0,0,0,2,2,0,1,20,0,0,3,0,1,20,4,4,4,0,4,0,0,4,0,0,0,4,2,0,0,0,0,2,0,2,0,2,0,0,0,2,0,1,1,1,0,4,4,0,0,0,0,0,0,0,0,0,0,0,0,0,0,0,0,0,0,0,0,0,0,0,0,0,0,0,0,0,0,0,23,0,23,0,0,0,0,1,0,24,24,24,24,24,24,24,24,24,24,23,0,0,0,0,23,0,23,0,23,0,0,0,23,0,22,22,22,24,24,23,0,0,0,0,23,0,23,0,23,0,0,0,23,0,22,22,22,24,24,23,0,0,0,0,23,0,23,0,23,0,0,0,23,0,22,22,22]
noncomputable def o_take_hat_0_1:List Nat:=[1,0,4,4,0,4,2,0,0,0,2,0,0,0,2,0,0,0,0,2,1,0,1,0,5,5,0,5,2,0,0,0,2,0,0,0,2,0,0,0,0,2,1,0,1,0,0,6,6,6,6,6,2,0,0,0,0,2,0,0,0,2,2,0,1,6,2,0,0,0,0,2,0,0,0,2,2,0,1,6,0,6,2,0,0,0,0,2,0,0,0,2,2,0,1,6,0,0,3,0,1,6,5,5,5,0,5,0,0,0,5,0,0,4,2,0,0,0,0,2,0,0,0,2,2,0,1,4,4,4,2,0,0,0,2,0,0,0,2,0,0,0,0,2,1,0,1,0,0,8,8,8,8,8,2,0,0,0,0,2,0,0,0,2,2,0,1,8,2,0,0,0,0,2,0,0,0,2,2,0,1,8,0,8,2,0,0,0,0,2,0,0,0,2,2,0,1,8,0,0,3,0,1,8,4,4,4,0,0,4,0,1,0,10,10,10,0,10,0,10,0,0,4,0,1,0,11,11,11,0,11,0,4,0,4,2,0,0,0,2,0,0,0,2,0,0,0,0,2,1,0,1,0,12,12,12,2,0,0,0,2,0,0,0,2,0,0,0,0,2,1,0,1,0,0,13,13,13,13,13,2,0,0,0,0,2,0,0,0,2,2,0,1,13,2,0,0,0,0,2,0,0,0,2,2,0,1,13,0,13,2,0,0,0,0,2,0,0,0,2,2,0,1,13,0,0,3,0,1,13,12,2,0,0,0,2,0,0,0,2,0,0,0,0,2,1,0,1,0,0,15,15,15,15,15,2,0,0,0,0,2,0,0,0,2,2,0,1,15,2,0,0,0,0,2,0,0,0,2,2,0,1,15,0,15,2,0,0,0,0,2,0,0,0,2,2,0,1,15,0,0,3,1,1,15,0,12,12,12,17,17]
noncomputable def o_take_lp_0_1:List Nat:=[1,0,4,4,0,4,2,0,0,0,2,0,0,0,2,0,0,0,0,2,1,0,1,0,5,5,0,5,2,0,0,0,2,0,0,0,2,0,0,0,0,2,1,0,1,0,0,6,6,6,6,6,2,0,0,0,0,2,0,0,0,2,2,0,1,6,2,0,0,0,0,2,0,0,0,2,2,0,1,6,0,6,2,0,0,0,0,2,0,0,0,2,2,0,1,6,0,0,3,0,1,6,5,5,5,0,5,2,0,0,0,2,0,0,0,2,0,0,0,0,2,1,0,1,0,0,8,8,8,8,8,2,0,0,0,0,2,0,0,0,2,2,0,1,8,2,0,0,0,0,2,0,0,0,2,2,0,1,8,0,8,2,0,0,0,0,2,0,0,0,2,2,0,1,8,0,0,3,1,1,8,0,5,0,0,0,5,0,0,4,2,0,0,0,0,2,0,0,0,2,2,0,1,4,4,4,2,0,0,0,2,0,0,0,2,0,0,0,0,2,1,0,1,0,0,10,10,10,10,10,2,0,0,0,0,2,0,0,0,2,2,0,1,10,2,0,0,0,0,2,0,0,0,2,2,0,1,10,0,10,2,0,0,0,0,2,0,0,0,2,2,0,1,10,0,0,3,0,1,10,4,4,4,0,0,4,0,1,0,12,12,12,0,12,0,0,4,0,1,0,13,13,13,0,4,0,4,2,0,0,0,2,0,0,0,2,0,0,0,0,2,1,0,1,0,14,14,14,2,0,0,0,2,0,0,0,2,0,0,0,0,2,1,0,1,0,0,15,15,15,15,15,2,0,0,0,0,2,0,0,0,2,2,0,1,15,2,0,0,0,0,2,0,0,0,2,2,0,1,15,0,15,2,0,0,0,0,2,0,0,0,2,2,0,1,15,0,0,3,0,1,15,14,2,0,0,0,2,0,0,0,2,0,0,0,0,2,1,0,1,0,0,17,17,17,17,17,2,0,0,0,0,2,0,0,0,2,2,0,1,17,2,0,0,0,0,2,0,0,0,2,2,0,1,17,0,17,2,0,0,0,0,2,0,0,0,2,2,0,1,17,0,0,3,1,1,17,0,14,14,14,19,19]
noncomputable def o_take_lp_0_2:List Nat:=[14,2,0,0,0,2,0,0,0,2,0,0,0,0,2,1,0,1,0,0,20,20,20,20,20,2,0,0,0,0,2,0,0,0,2,2,0,1,20,2,0,0,0,0,2,0,0,0,2,2,0,1,20,0,20,2,0,0,0,0,2,0,0,0,2,2,0,1,20,0,0,3,0,1,20,0,14,2,0,0,0,2,0,0,0,2,0,0,0,0,2,1,0,1,0,0,22,22,22,22,22,2,0,0,0,0,2,0,0,0,2,2,0,1,22,2,0,0,0,0,2,0,0,0,2,2,0,1,22,0,22,2,0,0,0,0,2,0,0,0,2,2,0,1,22,0,0,3,0,1,22,4,4,4,0,4,0,0,4,0,0,0,4,2,0,0,0,0,2,0,2,0,2,0,0,0,2,0,1,1,1,0,4,4,0,0,0,0,0,0,0,0,0,0,0,0,0,0,0,0,0,0,0,0,0,0,0,0,0,0,0,0,0,0,0,25,0,25,0,0,0,0,1,0,26,26,26,26,26,26,26,26,26,26,25,0,0,0,0,25,0,25,0,25,0,0,0,25,0,24,24,24,26,26,25,0,0,0,0,25,0,25,0,25,0,0,0,25,0,24,24,24,26,26,25,0,0,0,0,25,0,25,0,25,0,0,0,25,0,24,24,24]
noncomputable def o_take_as_0_1:List Nat:=[1,0,4,4,0,4,2,0,0,0,2,0,0,0,2,0,0,0,0,2,1,0,1,0,5,5,0,5,2,0,0,0,2,0,0,0,2,0,0,0,0,2,1,0,1,0,0,6,6,6,6,6,2,0,0,0,0,2,0,0,0,2,2,0,1,6,2,0,0,0,0,2,0,0,0,2,2,0,1,6,0,6,2,0,0,0,0,2,0,0,0,2,2,0,1,6,0,0,3,0,1,6,5,5,5,0,5,0,0,0,5,0,0,5,2,0,0,0,0,2,0,0,0,2,2,0,1,0,5,2,0,0,0,0,2,0,2,0,2,0,0,0,2,0,1,1,1,0,5,2,0,0,0,2,0,0,0,2,0,0,0,0,2,1,0,1,0,0,8,8,8,8,8,2,0,0,0,0,2,0,0,0,2,2,0,1,8,2,0,0,0,0,2,0,0,0,2,2,0,1,8,0,8,2,0,0,0,0,2,0,0,0,2,2,0,1,8,0,0,3,1,1,8,5,5,5,0,5,0,0,0,5,0,0,4,2,0,0,0,0,2,0,0,0,2,2,0,1,4,4,4,2,0,0,0,2,0,0,0,2,0,0,0,0,2,1,0,1,0,0,10,10,10,10,10,2,0,0,0,0,2,0,0,0,2,2,0,1,10,2,0,0,0,0,2,0,0,0,2,2,0,1,10,0,10,2,0,0,0,0,2,0,0,0,2,2,0,1,10,0,0,3,1,1,10,4,4,4,0,0,4,0,1,0,12,12,12,0,12,0,0,4,0,1,0,13,13,13,0,13,0,4,0,4,2,0,0,0,2,0,0,0,2,0,0,0,0,2,1,0,1,0,14,14,14,2,0,0,0,2,0,0,0,2,0,0,0,0,2,1,0,1,0,0,15,15,15,15,15,2,0,0,0,0,2,0,0,0,2,2,0,1,15,2,0,0,0,0,2,0,0,0,2,2,0,1,15,0,15,2,0,0,0,0,2,0,0,0,2,2,0,1,15,0,0,3,1,1,15,14,2,0,0,0,2,0,0,0,2,0,0,0,0,2,1,0,1,0,0,17,17,17,17,17,2,0,0,0,0,2,0,0,0,2,2,0,1,17,2,0,0,0,0,2,0,0,0,2,2,0,1,17,0,17,2,0,0,0,0,2,0,0,0,2,2,0,1,17,0,0,3,2,1,17,0,14,14,14,19,19]
noncomputable def o_take_as_0_2:List Nat:=[14,4,4,4,0,4,0,0,4,0,0,0,4,2,0,0,0,0,2,0,2,0,2,0,0,0,2,0,1,1,1,0,4,4,0,0,0,0,0,0,0,0,0,0,0,0,0,0,0,0,0,0,0,0,0,0,0,0,0,0,0,0,0,0,0,21,0,21,0,0,0,0,1,0,22,22,22,22,22,22,22,22,22,22,21,0,0,0,0,21,0,21,0,21,0,0,0,21,0,20,20,20,22,22,21,0,0,0,0,21,0,21,0,21,0,0,0,21,0,20,20,20,22,22,21,0,0,0,0,21,0,21,0,21,0,0,0,21,0,20,20,20]
noncomputable def o_take_dn_1_1:List Nat:=[1,0,4,4,0,4,2,0,0,0,2,0,0,0,2,0,0,0,0,2,1,0,1,0,5,5,0,5,2,0,0,0,2,0,0,0,2,0,0,0,0,2,1,0,1,0,0,6,6,6,6,6,2,0,0,0,0,2,0,0,0,2,2,0,1,6,2,0,0,0,0,2,0,0,0,2,2,0,1,6,0,6,2,0,0,0,0,2,0,0,0,2,2,0,1,6,0,0,3,0,1,6,5,5,5,0,5,0,0,0,5,0,0,5,2,0,0,0,0,2,0,0,0,2,2,0,1,0,5,2,0,0,0,0,2,0,2,0,2,0,0,0,2,0,1,1,1,0,5,2,0,0,0,2,0,0,0,2,0,0,0,0,2,1,0,1,0,0,8,8,8,8,8,2,0,0,0,0,2,0,0,0,2,2,0,1,8,2,0,0,0,0,2,0,0,0,2,2,0,1,8,0,8,2,0,0,0,0,2,0,0,0,2,2,0,1,8,0,0,3,1,1,8,5,5,5,0,5,0,0,0,5,0,0,4,2,0,0,0,0,2,0,0,0,2,2,0,1,4,4,4,2,0,0,0,2,0,0,0,2,0,0,0,0,2,1,0,1,0,0,10,10,10,10,10,2,0,0,0,0,2,0,0,0,2,2,0,1,10,2,0,0,0,0,2,0,0,0,2,2,0,1,10,0,10,2,0,0,0,0,2,0,0,0,2,2,0,1,10,0,0,3,1,1,10,4,4,4,0,0,4,0,1,0,12,12,12,0,12,0,0,4,0,1,0,13,13,13,0,4,0,4,2,0,0,0,2,0,0,0,2,0,0,0,0,2,1,0,1,0,14,14,14,2,0,0,0,2,0,0,0,2,0,0,0,0,2,1,0,1,0,0,15,15,15,15,15,2,0,0,0,0,2,0,0,0,2,2,0,1,15,2,0,0,0,0,2,0,0,0,2,2,0,1,15,0,15,2,0,0,0,0,2,0,0,0,2,2,0,1,15,0,0,3,1,1,15,14,2,0,0,0,2,0,0,0,2,0,0,0,0,2,1,0,1,0,0,17,17,17,17,17,2,0,0,0,0,2,0,0,0,2,2,0,1,17,2,0,0,0,0,2,0,0,0,2,2,0,1,17,0,17,2,0,0,0,0,2,0,0,0,2,2,0,1,17,0,0,3,2,1,17,0,14,14,14,19,19]
noncomputable def o_take_dn_1_2:List Nat:=[14,2,0,0,0,2,0,0,0,2,0,0,0,0,2,1,0,1,0,0,20,20,20,20,20,2,0,0,0,0,2,0,0,0,2,2,0,1,20,2,0,0,0,0,2,0,0,0,2,2,0,1,20,0,20,2,0,0,0,0,2,0,0,0,2,2,0,1,20,0,0,3,1,1,20,0,14,2,0,0,0,2,0,0,0,2,0,0,0,0,2,1,0,1,0,0,22,22,22,22,22,2,0,0,0,0,2,0,0,0,2,2,0,1,22,2,0,0,0,0,2,0,0,0,2,2,0,1,22,0,22,2,0,0,0,0,2,0,0,0,2,2,0,1,22,0,0,3,1,1,22,4,4,4,0,4,0,0,4,0,0,0,4,2,0,0,0,0,2,0,2,0,2,0,0,0,2,0,1,1,1,0,4,4,0,0,0,0,0,0,0,0,0,0,0,0,0,0,0,0,0,0,0,0,0,0,0,0,0,0,0,0,0,0,0,25,0,25,0,0,0,0,1,0,26,26,26,26,26,26,26,26,26,26,25,0,0,0,0,25,0,25,0,25,0,0,0,25,0,24,24,24,26,26,25,0,0,0,0,25,0,25,0,25,0,0,0,25,0,24,24,24,26,26,25,0,0,0,0,25,0,25,0,25,0,0,0,25,0,24,24,24]
noncomputable def o_take_as_1_1:List Nat:=[1,0,4,4,0,4,2,0,0,0,2,0,0,0,2,0,0,0,0,2,1,0,1,0,5,5,0,5,2,0,0,0,2,0,0,0,2,0,0,0,0,2,1,0,1,0,0,6,6,6,6,6,2,0,0,0,0,2,0,0,0,2,2,0,1,6,2,0,0,0,0,2,0,0,0,2,2,0,1,6,0,6,2,0,0,0,0,2,0,0,0,2,2,0,1,6,0,0,3,0,1,6,5,5,5,0,5,0,0,0,5,0,0,5,2,0,0,0,0,2,0,0,0,2,2,0,1,0,5,2,0,0,0,0,2,0,2,0,2,0,0,0,2,0,1,1,1,0,5,2,0,0,0,2,0,0,0,2,0,0,0,0,2,1,0,1,0,0,8,8,8,8,8,2,0,0,0,0,2,0,0,0,2,2,0,1,8,2,0,0,0,0,2,0,0,0,2,2,0,1,8,0,8,2,0,0,0,0,2,0,0,0,2,2,0,1,8,0,0,3,1,1,8,5,5,5,0,5,0,0,0,5,0,0,5,2,0,0,0,0,2,0,0,0,2,2,0,1,0,5,2,0,0,0,0,2,0,2,0,2,0,0,0,2,0,1,1,1,0,5,2,0,0,0,2,0,0,0,2,0,0,0,0,2,1,0,1,0,0,10,10,10,10,10,2,0,0,0,0,2,0,0,0,2,2,0,1,10,2,0,0,0,0,2,0,0,0,2,2,0,1,10,0,10,2,0,0,0,0,2,0,0,0,2,2,0,1,10,0,0,3,2,1,10,5,5,5,0,5,0,0,0,5,0,0,4,2,0,0,0,0,2,0,0,0,2,2,0,1,4,4,4,2,0,0,0,2,0,0,0,2,0,0,0,0,2,1,0,1,0,0,12,12,12,12,12,2,0,0,0,0,2,0,0,0,2,2,0,1,12,2,0,0,0,0,2,0,0,0,2,2,0,1,12,0,12,2,0,0,0,0,2,0,0,0,2,2,0,1,12,0,0,3,2,1,12,4,4,4,0,0,4,0,1,0,14,14,14,0,14,0,0,4,0,1,0,15,15,15,0,15,0,4,0,4,2,0,0,0,2,0,0,0,2,0,0,0,0,2,1,0,1,0,16,16,16,2,0,0,0,2,0,0,0,2,0,0,0,0,2,1,0,1,0,0,17,17,17,17,17,2,0,0,0,0,2,0,0,0,2,2,0,1,17,2,0,0,0,0,2,0,0,0,2,2,0,1,17,0,17,2,0,0,0,0,2,0,0,0,2,2,0,1,17,0,0,3,2,1,17,16,2,0,0,0,2,0,0,0,2,0,0,0,0,2,1,0,1,0,0,19,19,19,19,19,2,0,0,0,0,2,0,0,0,2,2,0,1,19,2,0,0,0,0,2,0,0,0,2,2,0,1,19,0,19,2,0,0,0,0,2,0,0,0,2,2,0,1,19,0,0,3,3,1,19,0,16,16,16,21,21]
noncomputable def o_take_as_1_2:List Nat:=[16,4,4,4,0,4,0,0,4,0,0,0,4,2,0,0,0,0,2,0,2,0,2,0,0,0,2,0,1,1,1,0,4,4,0,0,0,0,0,0,0,0,0,0,0,0,0,0,0,0,0,0,0,0,0,0,0,0,0,0,0,0,0,0,0,23,0,23,0,0,0,0,1,0,24,24,24,24,24,24,24,24,24,24,23,0,0,0,0,23,0,23,0,23,0,0,0,23,0,22,22,22,24,24,23,0,0,0,0,23,0,23,0,23,0,0,0,23,0,22,22,22,24,24,23,0,0,0,0,23,0,23,0,23,0,0,0,23,0,22,22,22]
noncomputable def o_take_id_ns_1:List Nat:=[1,0,4,4,0,4,2,0,0,0,2,0,0,0,2,0,0,0,0,2,1,0,1,0,5,5,0,5,2,0,0,0,2,0,0,0,2,0,0,0,0,2,1,0,1,0,0,6,6,6,6,6,2,0,0,0,0,2,0,0,0,2,2,0,1,6,2,0,0,0,0,2,0,0,0,2,2,0,1,6,0,6,2,0,0,0,0,2,0,0,0,2,2,0,1,6,0,0,3,0,1,6,5,5,5,0,5,0,0,0,5,0,0,4,2,0,0,0,0,2,0,0,0,2,2,0,1,4,4,4,2,0,0,0,2,0,0,0,2,0,0,0,0,2,1,0,1,0,0,8,8,8,8,8,2,0,0,0,0,2,0,0,0,2,2,0,1,8,2,0,0,0,0,2,0,0,0,2,2,0,1,8,0,8,2,0,0,0,0,2,0,0,0,2,2,0,1,8,0,0,3,0,1,8,4,4,4,0,0,4,0,1,0,10,10,10,0,10,0,4,2,0,0,0,2,0,0,0,2,0,0,0,0,2,1,4,0,1,0,11,11,11,11,11,11,11,0,0,11,2,0,0,0,0,2,0,0,0,2,2,0,1,11,11,0,3,0,1,11,0,1,0,13,13,13,0,13,0,11,0,11,11,0,0,11,2,0,0,0,0,2,0,0,0,2,2,0,1,11,11,0,3,1,1,13,0,1,0,15,15,15,0,15,0,0,11,2,0,0,0,0,2,0,0,0,2,2,0,1,11,11,0,3,1,1,15,0,1,0,17,17,17,0,11,11,2,0,0,0,0,2,0,2,0,2,0,0,0,2,0,1,1,1,11,2,0,0,0,0,2,0,0,0,2,2,0,1,11,11,3,0,1,17,11,11,11,11,2,0,0,0,0,2,0,0,0,2,2,0,1,3,3]
noncomputable def o_take_id_ns_2:List Nat:=[0,11,11,0,0,0,0,0,0,0,0,0,0,0,0,0,0,0,0,0,0,0,0,0,0,0,0,0,0,0,0,0,0,0,20,0,20,0,0,0,0,1,0,21,21,21,21,21,21,21,21,21,21,20,0,0,0,0,20,0,20,0,20,0,0,0,20,0,19,19,19,21,21,20,0,0,0,0,20,0,20,0,20,0,0,0,20,0,19,19,19,21,21,20,0,0,0,0,20,0,20,0,20,0,0,0,20,0,19,19,19]
noncomputable def o_take_id_ml_1:List Nat:=[1,0,4,4,0,4,2,0,0,0,2,0,0,0,2,0,0,0,0,2,1,0,1,0,5,5,0,5,2,0,0,0,2,0,0,0,2,0,0,0,0,2,1,0,1,0,0,6,6,6,6,6,2,0,0,0,0,2,0,0,0,2,2,0,1,6,2,0,0,0,0,2,0,0,0,2,2,0,1,6,0,6,2,0,0,0,0,2,0,0,0,2,2,0,1,6,0,0,3,0,1,6,5,5,5,0,5,0,0,0,5,0,0,4,2,0,0,0,0,2,0,0,0,2,2,0,1,4,4,4,2,0,0,0,2,0,0,0,2,0,0,0,0,2,1,0,1,0,0,8,8,8,8,8,2,0,0,0,0,2,0,0,0,2,2,0,1,8,2,0,0,0,0,2,0,0,0,2,2,0,1,8,0,8,2,0,0,0,0,2,0,0,0,2,2,0,1,8,0,0,3,0,1,8,4,4,4,0,0,4,0,1,0,10,10,10,0,10,0,4,2,0,0,0,2,0,0,0,2,0,0,0,0,2,1,4,0,1,0,11,11,11,11,11,11,11,0,0,11,2,0,0,0,0,2,0,0,0,2,2,0,1,11,11,0,3,0,1,11,0,1,0,13,13,13,0,13,0,11,0,11,11,0,0,11,2,0,0,0,0,2,0,0,0,2,2,0,1,11,11,0,3,1,1,13,0,1,0,15,15,15,0,15,0,15,0,0,11,2,0,0,0,0,2,0,0,0,2,2,0,1,11,11,0,3,1,1,15,0,1,0,17,17,17,0,17,0,11,11,2,0,0,0,0,2,0,2,0,2,0,0,0,2,0,1,1,1,11,2,0,0,0,0,2,0,0,0,2,2,0,1,11,11,3,0,1,17,11,11,11,11,2,0,0,0,0,2,0,0,0,2,2,0,1,3,3]
noncomputable def o_take_id_P_1:List Nat:=[1,0,4,4,0,4,2,0,0,0,2,0,0,0,2,0,0,0,0,2,1,0,1,0,5,5,0,5,2,0,0,0,2,0,0,0,2,0,0,0,0,2,1,0,1,0,0,6,6,6,6,6,2,0,0,0,0,2,0,0,0,2,2,0,1,6,2,0,0,0,0,2,0,0,0,2,2,0,1,6,0,6,2,0,0,0,0,2,0,0,0,2,2,0,1,6,0,0,3,0,1,6,5,5,5,0,5,0,0,0,5,0,0,4,2,0,0,0,0,2,0,0,0,2,2,0,1,4,4,4,2,0,0,0,2,0,0,0,2,0,0,0,0,2,1,0,1,0,0,8,8,8,8,8,2,0,0,0,0,2,0,0,0,2,2,0,1,8,2,0,0,0,0,2,0,0,0,2,2,0,1,8,0,8,2,0,0,0,0,2,0,0,0,2,2,0,1,8,0,0,3,0,1,8,4,4,4,0,0,4,0,1,0,10,10,10,0,10,0,10,0,4,2,0,0,0,2,0,0,0,2,0,0,0,0,2,1,4,0,1,0,11,11,11,11,11,11,11,0,0,11,2,0,0,0,0,2,0,0,0,2,2,0,1,11,11,0,3,0,1,11,0,1,0,13,13,13,0,13,0,13,0,11,0,11,11,0,0,11,2,0,0,0,0,2,0,0,0,2,2,0,1,11,11,0,3,1,1,13,0,1,0,15,15,15,0,15,0,0,11,2,0,0,0,0,2,0,0,0,2,2,0,1,11,11,0,3,1,1,15,0,1,0,17,17,17,0,11,11,2,0,0,0,0,2,0,2,0,2,0,0,0,2,0,1,1,1,11,2,0,0,0,0,2,0,0,0,2,2,0,1,11,11,3,0,1,17,11,11,11,11,2,0,0,0,0,2,0,0,0,2,2,0,1,3,3]
noncomputable def o_take_num0r_1:List Nat:=[1,0,4,4,0,4,2,0,0,0,2,0,0,0,2,0,0,0,0,2,1,0,1,0,5,5,0,5,2,0,0,0,2,0,0,0,2,0,0,0,0,2,1,0,1,0,0,6,6,6,6,6,2,0,0,0,0,2,0,0,0,2,2,0,1,6,2,0,0,0,0,2,0,0,0,2,2,0,1,6,0,6,2,0,0,0,0,2,0,0,0,2,2,0,1,6,0,0,3,0,1,6,5,5,5,0,5,0,0,0,5,0,0,4,2,0,0,0,0,2,0,0,0,2,2,0,1,4,4,4,2,0,0,0,2,0,0,0,2,0,0,0,0,2,1,0,1,0,0,8,8,8,8,8,2,0,0,0,0,2,0,0,0,2,2,0,1,8,2,0,0,0,0,2,0,0,0,2,2,0,1,8,0,8,2,0,0,0,0,2,0,0,0,2,2,0,1,8,0,0,3,0,1,8,4,4,4,0,0,4,0,1,0,10,10,10,0,10,0,0,4,0,1,0,11,11,11,0,11,0,4,2,0,0,0,2,0,0,0,2,0,0,0,0,2,1,4,0,1,0,12,12,12,12,12,12,12,0,0,12,2,0,0,0,0,2,0,0,0,2,2,0,1,12,12,0,3,0,1,12,0,1,0,14,14,0,14,0,1,0,15,15,15,0,15,0,12,0,12,12,0,0,12,2,0,0,0,0,2,0,0,0,2,2,0,1,12,12,0,3,1,1,15,0,1,0,17,17,0,17,0,1,0,18,18,18,0,18,0,17,0,17,0,12,2,0,0,0,0,2,0,0,0,2,2,0,1,12,12,3,0,1,18,12,12,12,2,0,0,0,0,2,0,0,0,2,2,0,1,12,12,0,3,1,1,19,12,12,12,0,12,0,12,12,12,0,0,12,2,0,0,0,0,2,0,0,0,2,2,0,1,12,12,0,3,0,1,20,0,1,0,22,22,22,0,22,0,12,0,12,12,0,0,12,2,0,0,0,0,2,0,0,0,2,2,0,1,12,12,0,3,1,1,22,0,1,0,24,24,24,0,24,0,12,12,2,0,0,0,0,2,0,2,0,2,0,0,0,2,0,1,1,1,12,2,0,0,0,2,0,0,0,2,0,0,0,0,2,1,0,1,0,0,25,25,25,25,25,2,0,0,0,0,2,0,0,0,2,2,0,1,25,2,0,0,0,0,2,0,0,0,2,2,0,1,25,0,25,2,0,0,0,0,2,0,0,0,2,2,0,1,25,0,0,3,1,1,25,0,0,12,2,0,0,0,0,2,0,0,0,2,2,0,1,12,12,3,0,1,26,0,0,1,0,28,28,28,28,28,28,28,28,28,0,29,0,29,0,29,29,29,29,29,28,28,28,28,0,28,0,0,28,28,28,28,0,0,29,0,29,29,29,29,29,31,28,12,12,12,2,0,0,0,2,0,0,0,2,0,0,0,0,2,1,12,12,0,0,1,0,32,32,32,32,32,32,32,32,32,32,0,0,32,32,0,0,0,0,0,0,0,0,0,0,0,0,0,0,0,0,0,0,0,0,0,0,0,0,0,0,0,0,0,0,0,34,0,34,0,0,0,0,1,0,35,35,35,35,35,35,35,35,35,35,34,0,0,0,0,34,0,34,0,34,0,0,0,34,0,33,33,33,35,35,34,0,0,0,0,34,0,34,0,34,0,0,0,34,0,33,33,33,35,35,34,0,0,0,0,34,0,34,0,34,0,0,0,34,0,33,33,33]
noncomputable def o_take_num0c_1:List Nat:=[1,0,4,4,0,4,2,0,0,0,2,0,0,0,2,0,0,0,0,2,1,0,1,0,5,5,0,5,2,0,0,0,2,0,0,0,2,0,0,0,0,2,1,0,1,0,0,6,6,6,6,6,2,0,0,0,0,2,0,0,0,2,2,0,1,6,2,0,0,0,0,2,0,0,0,2,2,0,1,6,0,6,2,0,0,0,0,2,0,0,0,2,2,0,1,6,0,0,3,0,1,6,5,5,5,0,5,0,0,0,5,0,0,4,2,0,0,0,0,2,0,0,0,2,2,0,1,4,4,4,2,0,0,0,2,0,0,0,2,0,0,0,0,2,1,0,1,0,0,8,8,8,8,8,2,0,0,0,0,2,0,0,0,2,2,0,1,8,2,0,0,0,0,2,0,0,0,2,2,0,1,8,0,8,2,0,0,0,0,2,0,0,0,2,2,0,1,8,0,0,3,0,1,8,4,4,4,0,0,4,0,1,0,10,10,10,0,10,0,0,4,0,1,0,11,11,11,0,11,0,4,2,0,0,0,2,0,0,0,2,0,0,0,0,2,1,4,0,1,0,12,12,12,12,12,12,12,0,0,12,2,0,0,0,0,2,0,0,0,2,2,0,1,12,12,0,3,0,1,12,0,1,0,14,14,0,14,0,1,0,15,15,15,0,15,0,12,0,12,12,0,0,12,2,0,0,0,0,2,0,0,0,2,2,0,1,12,12,0,3,1,1,15,0,1,0,17,17,0,17,0,1,0,18,18,18,0,17,0,12,2,0,0,0,0,2,0,0,0,2,2,0,1,12,12,3,0,1,18,12,12,12,2,0,0,0,0,2,0,0,0,2,2,0,1,12,12,0,3,1,1,19,12,12,12,0,12,0,12,12,12,0,0,12,2,0,0,0,0,2,0,0,0,2,2,0,1,12,12,0,3,0,1,20,0,1,0,22,22,22,0,22,0,12,0,12,12,0,0,12,2,0,0,0,0,2,0,0,0,2,2,0,1,12,12,0,3,1,1,22,0,1,0,24,24,24,0,12,12,2,0,0,0,0,2,0,2,0,2,0,0,0,2,0,1,1,1,12,2,0,0,0,2,0,0,0,2,0,0,0,0,2,1,0,1,0,0,25,25,25,25,25,2,0,0,0,0,2,0,0,0,2,2,0,1,25,2,0,0,0,0,2,0,0,0,2,2,0,1,25,0,25,2,0,0,0,0,2,0,0,0,2,2,0,1,25,0,0,3,1,1,25,0,0,12,2,0,0,0,0,2,0,0,0,2,2,0,1,12,12,3,0,1,26,0,0,1,0,28,28,28,28,28,28,28,28,28,0,29,0,29,0,29,29,29,29,29,28,28,28,28,0,28,0,0,28,28,28,28,0,0,29,0,29,29,29,29,29,31,28,12,12,12,2,0,0,0,2,0,0,0,2,0,0,0,0,2,1,12,12,0,0,1,0,32,32,32,32,32,32,32,32,32,32,0,0,32,32,0,0,0,0,0,0,0,0,0,0,0,0,0,0,0,0,0,0,0,0,0,0,0,0,0,0,0,0,0,0,0,34,0,34,0,0,0,0,1,0,35,35,35,35,35,35,35,35,35,35,34,0,0,0,0,34,0,34,0,34,0,0,0,34,0,33,33,33,35,35,34,0,0,0,0,34,0,34,0,34,0,0,0,34,0,33,33,33,35,35,34,0,0,0,0,34,0,34,0,34,0,0,0,34,0,33,33,33]
noncomputable def o_take_snum0_1:List Nat:=[1,0,4,4,0,4,2,0,0,0,2,0,0,0,2,0,0,0,0,2,1,0,1,0,5,5,0,5,2,0,0,0,2,0,0,0,2,0,0,0,0,2,1,0,1,0,0,6,6,6,6,6,2,0,0,0,0,2,0,0,0,2,2,0,1,6,2,0,0,0,0,2,0,0,0,2,2,0,1,6,0,6,2,0,0,0,0,2,0,0,0,2,2,0,1,6,0,0,3,0,1,6,5,5,5,0,5,0,0,0,5,0,0,5,2,0,0,0,0,2,0,0,0,2,2,0,1,0,5,2,0,0,0,0,2,0,2,0,2,0,0,0,2,0,1,1,1,0,5,2,0,0,0,2,0,0,0,2,0,0,0,0,2,1,0,1,0,0,8,8,8,8,8,2,0,0,0,0,2,0,0,0,2,2,0,1,8,2,0,0,0,0,2,0,0,0,2,2,0,1,8,0,8,2,0,0,0,0,2,0,0,0,2,2,0,1,8,0,0,3,1,1,8,5,5,5,0,5,0,0,0,5,0,0,4,2,0,0,0,0,2,0,0,0,2,2,0,1,4,4,4,2,0,0,0,2,0,0,0,2,0,0,0,0,2,1,0,1,0,0,10,10,10,10,10,2,0,0,0,0,2,0,0,0,2,2,0,1,10,2,0,0,0,0,2,0,0,0,2,2,0,1,10,0,10,2,0,0,0,0,2,0,0,0,2,2,0,1,10,0,0,3,1,1,10,4,4,4,0,0,4,0,1,0,12,12,12,0,12,0,0,4,0,1,0,13,13,13,0,13,0,4,2,0,0,0,2,0,0,0,2,0,0,0,0,2,1,4,0,1,0,14,14,14,14,14,14,14,0,0,14,2,0,0,0,0,2,0,0,0,2,2,0,1,14,14,0,3,1,1,14,0,1,0,16,16,0,16,0,1,0,17,17,17,0,17,0,14,0,14,14,0,0,14,2,0,0,0,0,2,0,0,0,2,2,0,1,14,14,0,3,2,1,17,0,1,0,19,19,0,19,0,1,0,20,20,20,0,20,0,19,0,19,0,14,2,0,0,0,0,2,0,0,0,2,2,0,1,14,14,3,1,1,20,14,14,14,2,0,0,0,0,2,0,0,0,2,2,0,1,14,14,0,3,2,1,21,14,14,14,0,14,0,14,14,14,0,0,14,2,0,0,0,0,2,0,0,0,2,2,0,1,14,14,0,3,1,1,22,0,1,0,24,24,24,0,24,0,14,0,14,14,0,0,14,2,0,0,0,0,2,0,0,0,2,2,0,1,14,14,0,3,2,1,24,0,1,0,26,26,26,0,26,0,14,14,2,0,0,0,0,2,0,2,0,2,0,0,0,2,0,1,1,1,14,2,0,0,0,2,0,0,0,2,0,0,0,0,2,1,0,1,0,0,27,27,27,27,27,2,0,0,0,0,2,0,0,0,2,2,0,1,27,2,0,0,0,0,2,0,0,0,2,2,0,1,27,0,27,2,0,0,0,0,2,0,0,0,2,2,0,1,27,0,0,3,2,1,27,0,0,14,2,0,0,0,0,2,0,0,0,2,2,0,1,14,14,3,1,1,28,0,0,1,0,30,30,30,30,30,30,30,30,30,0,31,0,31,0,31,31,31,31,31,30,30,30,30,0,30,0,0,30,30,30,30,0,0,31,0,31,31,31,31,31,33,30,14,14,14,2,0,0,0,2,0,0,0,2,0,0,0,0,2,1,14,14,0,0,1,0,34,34,34,34,34,34,34,34,34,34,0,0,34,34,0,0,0,0,0,0,0,0,0,0,0,0,0,0,0,0,0,0,0,0,0,0,0,0,0,0,0,0,0,0,0,36,0,36,0,0,0,0,1,0,37,37,37,37,37,37,37,37,37,37,36,0,0,0,0,36,0,36,0,36,0,0,0,36,0,35,35,35,37,37,36,0,0,0,0,36,0,36,0,36,0,0,0,36,0,35,35,35,37,37,36,0,0,0,0,36,0,36,0,36,0,0,0,36,0,35,35,35]
theorem take_dn_0 {w:World} {b1 b2 b3:Bool} (hP:Rows w b1 b2 b3) (a:Nat->Nat) (S:Str) (q x:Nat) (htx:TxOk ⟨S,q,[46,110,x]⟩):TakeCt w a S q (q+1) v_dot (.str v_empty 0) (q+0):=by
  refine ct_start hP htx (by decide) fun A s R zs ta N C U D hR=>?_;refine sg C 4000 o_take_dn_0_1 ?_;intro _;have K_1:=sN s R C trId [((N+16),tupO (strsL [(⟨⟨[58,61]⟩⟩:Str),(⟨⟨[60,61]⟩⟩:Str),(⟨⟨[62,61]⟩⟩:Str),(⟨⟨[46,46]⟩⟩:Str)]))] (ct_tupin [(⟨⟨[58,61]⟩⟩:Str),(⟨⟨[60,61]⟩⟩:Str),(⟨⟨[62,61]⟩⟩:Str),(⟨⟨[46,46]⟩⟩:Str)] (⟨⟨[46,110]⟩⟩:Str) (N+16)) [] [16];refine K_1 ?_;intro _ _ _ _ N_1 _ _ _ C_1 tr_1 _ _ _ _;refine sg C_1 4000 o_take_dn_0_2 ?_;intro _;exact finishC (Pd:=fun _=>True) tr_1 D hR ((N_1+22),(N_1+21)) _ [] [22,21] (by kernel_rfl) (by kernel_rfl) rfl (by kernel_rfl) (by kernel_rfl) rfl Sup.nil (fun _ h=>nomatch h) rfl trivial
theorem take_dm_0 {w:World} {b1 b2 b3:Bool} (hP:Rows w b1 b2 b3) (a:Nat->Nat) (S:Str) (q x:Nat) (htx:TxOk ⟨S,q,[46,109,x]⟩):TakeCt w a S q (q+1) v_dot (.str v_empty 0) (q+0):=by
  refine ct_start hP htx (by decide) fun A s R zs ta N C U D hR=>?_;refine sg C 4000 o_take_dn_0_1 ?_;intro _;have K_1:=sN s R C trId [((N+16),tupO (strsL [(⟨⟨[58,61]⟩⟩:Str),(⟨⟨[60,61]⟩⟩:Str),(⟨⟨[62,61]⟩⟩:Str),(⟨⟨[46,46]⟩⟩:Str)]))] (ct_tupin [(⟨⟨[58,61]⟩⟩:Str),(⟨⟨[60,61]⟩⟩:Str),(⟨⟨[62,61]⟩⟩:Str),(⟨⟨[46,46]⟩⟩:Str)] (⟨⟨[46,109]⟩⟩:Str) (N+16)) [] [16];refine K_1 ?_;intro _ _ _ _ N_1 _ _ _ C_1 tr_1 _ _ _ _;refine sg C_1 4000 o_take_dn_0_2 ?_;intro _;exact finishC (Pd:=fun _=>True) tr_1 D hR ((N_1+22),(N_1+21)) _ [] [22,21] (by kernel_rfl) (by kernel_rfl) rfl (by kernel_rfl) (by kernel_rfl) rfl Sup.nil (fun _ h=>nomatch h) rfl trivial
theorem take_dq_0 {w:World} {b1 b2 b3:Bool} (hP:Rows w b1 b2 b3) (a:Nat->Nat) (S:Str) (q x:Nat) (htx:TxOk ⟨S,q,[46,113,x]⟩):TakeCt w a S q (q+1) v_dot (.str v_empty 0) (q+0):=by
  refine ct_start hP htx (by decide) fun A s R zs ta N C U D hR=>?_;refine sg C 4000 o_take_dn_0_1 ?_;intro _;have K_1:=sN s R C trId [((N+16),tupO (strsL [(⟨⟨[58,61]⟩⟩:Str),(⟨⟨[60,61]⟩⟩:Str),(⟨⟨[62,61]⟩⟩:Str),(⟨⟨[46,46]⟩⟩:Str)]))] (ct_tupin [(⟨⟨[58,61]⟩⟩:Str),(⟨⟨[60,61]⟩⟩:Str),(⟨⟨[62,61]⟩⟩:Str),(⟨⟨[46,46]⟩⟩:Str)] (⟨⟨[46,113]⟩⟩:Str) (N+16)) [] [16];refine K_1 ?_;intro _ _ _ _ N_1 _ _ _ C_1 tr_1 _ _ _ _;refine sg C_1 4000 o_take_dn_0_2 ?_;intro _;exact finishC (Pd:=fun _=>True) tr_1 D hR ((N_1+22),(N_1+21)) _ [] [22,21] (by kernel_rfl) (by kernel_rfl) rfl (by kernel_rfl) (by kernel_rfl) rfl Sup.nil (fun _ h=>nomatch h) rfl trivial
theorem take_hat_0 {w:World} {b1 b2 b3:Bool} (hP:Rows w b1 b2 b3) (a:Nat->Nat) (S:Str) (q x:Nat) (htx:TxOk ⟨S,q,[94,32,x]⟩):TakeCt w a S q (q+1) v_hat (.str v_empty 0) (q+0):=by
  refine ct_start hP htx (by decide) fun A s R zs ta N C U D hR=>?_;refine sg C 4000 o_take_hat_0_1 ?_;intro _;have K_1:=sN s R C trId [((N+16),tupO (strsL [(⟨⟨[58,61]⟩⟩:Str),(⟨⟨[60,61]⟩⟩:Str),(⟨⟨[62,61]⟩⟩:Str),(⟨⟨[46,46]⟩⟩:Str)]))] (ct_tupin [(⟨⟨[58,61]⟩⟩:Str),(⟨⟨[60,61]⟩⟩:Str),(⟨⟨[62,61]⟩⟩:Str),(⟨⟨[46,46]⟩⟩:Str)] (⟨⟨[94,32]⟩⟩:Str) (N+16)) [] [16];refine K_1 ?_;intro _ _ _ _ N_1 _ _ _ C_1 tr_1 _ _ _ _;refine sg C_1 4000 o_take_dn_0_2 ?_;intro _;exact finishC (Pd:=fun _=>True) tr_1 D hR ((N_1+22),(N_1+21)) _ [] [22,21] (by kernel_rfl) (by kernel_rfl) rfl (by kernel_rfl) (by kernel_rfl) rfl Sup.nil (fun _ h=>nomatch h) rfl trivial
theorem take_lb0_0 {w:World} {b1 b2 b3:Bool} (hP:Rows w b1 b2 b3) (a:Nat->Nat) (S:Str) (q x:Nat) (htx:TxOk ⟨S,q,[91,48,x]⟩):TakeCt w a S q (q+1) v_lbr (.str v_empty 0) (q+0):=by
  refine ct_start hP htx (by decide) fun A s R zs ta N C U D hR=>?_;refine sg C 4000 o_take_hat_0_1 ?_;intro _;have K_1:=sN s R C trId [((N+16),tupO (strsL [(⟨⟨[58,61]⟩⟩:Str),(⟨⟨[60,61]⟩⟩:Str),(⟨⟨[62,61]⟩⟩:Str),(⟨⟨[46,46]⟩⟩:Str)]))] (ct_tupin [(⟨⟨[58,61]⟩⟩:Str),(⟨⟨[60,61]⟩⟩:Str),(⟨⟨[62,61]⟩⟩:Str),(⟨⟨[46,46]⟩⟩:Str)] (⟨⟨[91,48]⟩⟩:Str) (N+16)) [] [16];refine K_1 ?_;intro _ _ _ _ N_1 _ _ _ C_1 tr_1 _ _ _ _;refine sg C_1 4000 o_take_dn_0_2 ?_;intro _;exact finishC (Pd:=fun _=>True) tr_1 D hR ((N_1+22),(N_1+21)) _ [] [22,21] (by kernel_rfl) (by kernel_rfl) rfl (by kernel_rfl) (by kernel_rfl) rfl Sup.nil (fun _ h=>nomatch h) rfl trivial
theorem take_lb1_0 {w:World} {b1 b2 b3:Bool} (hP:Rows w b1 b2 b3) (a:Nat->Nat) (S:Str) (q x:Nat) (htx:TxOk ⟨S,q,[91,49,x]⟩):TakeCt w a S q (q+1) v_lbr (.str v_empty 0) (q+0):=by
  refine ct_start hP htx (by decide) fun A s R zs ta N C U D hR=>?_;refine sg C 4000 o_take_hat_0_1 ?_;intro _;have K_1:=sN s R C trId [((N+16),tupO (strsL [(⟨⟨[58,61]⟩⟩:Str),(⟨⟨[60,61]⟩⟩:Str),(⟨⟨[62,61]⟩⟩:Str),(⟨⟨[46,46]⟩⟩:Str)]))] (ct_tupin [(⟨⟨[58,61]⟩⟩:Str),(⟨⟨[60,61]⟩⟩:Str),(⟨⟨[62,61]⟩⟩:Str),(⟨⟨[46,46]⟩⟩:Str)] (⟨⟨[91,49]⟩⟩:Str) (N+16)) [] [16];refine K_1 ?_;intro _ _ _ _ N_1 _ _ _ C_1 tr_1 _ _ _ _;refine sg C_1 4000 o_take_dn_0_2 ?_;intro _;exact finishC (Pd:=fun _=>True) tr_1 D hR ((N_1+22),(N_1+21)) _ [] [22,21] (by kernel_rfl) (by kernel_rfl) rfl (by kernel_rfl) (by kernel_rfl) rfl Sup.nil (fun _ h=>nomatch h) rfl trivial
theorem take_lp_0 {w:World} {b1 b2 b3:Bool} (hP:Rows w b1 b2 b3) (a:Nat->Nat) (S:Str) (q x:Nat) (htx:TxOk ⟨S,q,[40,80,x]⟩):TakeCt w a S q (q+1) v_lpar (.str v_empty 0) (q+0):=by
  refine ct_start hP htx (by decide) fun A s R zs ta N C U D hR=>?_;refine sg C 4000 o_take_lp_0_1 ?_;intro _;have K_1:=sN s R C trId [((N+18),tupO (strsL [(⟨⟨[58,61]⟩⟩:Str),(⟨⟨[60,61]⟩⟩:Str),(⟨⟨[62,61]⟩⟩:Str),(⟨⟨[46,46]⟩⟩:Str)]))] (ct_tupin [(⟨⟨[58,61]⟩⟩:Str),(⟨⟨[60,61]⟩⟩:Str),(⟨⟨[62,61]⟩⟩:Str),(⟨⟨[46,46]⟩⟩:Str)] (⟨⟨[40,80]⟩⟩:Str) (N+18)) [] [18];refine K_1 ?_;intro _ _ _ _ N_1 _ _ _ C_1 tr_1 _ _ _ _;refine sg C_1 4000 o_take_lp_0_2 ?_;intro _;exact finishC (Pd:=fun _=>True) tr_1 D hR ((N_1+24),(N_1+23)) _ [] [24,23] (by kernel_rfl) (by kernel_rfl) rfl (by kernel_rfl) (by kernel_rfl) rfl Sup.nil (fun _ h=>nomatch h) rfl trivial
theorem take_as_0 {w:World} {b1 b2 b3:Bool} (hP:Rows w b1 b2 b3) (a:Nat->Nat) (S:Str) (q x:Nat) (htx:TxOk ⟨S,q,[32,58,61,x]⟩):TakeCt w a S q (q+3) v_assign (.str v_empty 0) (q+1):=by
  refine ct_start hP htx (by decide) fun A s R zs ta N C U D hR=>?_;refine sg C 4000 o_take_as_0_1 ?_;intro _;have K_1:=sN s R C trId [((N+18),tupO (strsL [(⟨⟨[58,61]⟩⟩:Str),(⟨⟨[60,61]⟩⟩:Str),(⟨⟨[62,61]⟩⟩:Str),(⟨⟨[46,46]⟩⟩:Str)]))] (ct_tupin [(⟨⟨[58,61]⟩⟩:Str),(⟨⟨[60,61]⟩⟩:Str),(⟨⟨[62,61]⟩⟩:Str),(⟨⟨[46,46]⟩⟩:Str)] (⟨⟨[58,61]⟩⟩:Str) (N+18)) [] [18];refine K_1 ?_;intro _ _ _ _ N_1 _ _ _ C_1 tr_1 _ _ _ _;refine sg C_1 4000 o_take_as_0_2 ?_;intro _;exact finishC (Pd:=fun _=>True) tr_1 D hR ((N_1+20),(N_1+19)) _ [] [20,19] (by kernel_rfl) (by kernel_rfl) rfl (by kernel_rfl) (by kernel_rfl) rfl Sup.nil (fun _ h=>nomatch h) rfl trivial
theorem take_dn_1 {w:World} {b1 b2 b3:Bool} (hP:Rows w b1 b2 b3) (a:Nat->Nat) (S:Str) (q x:Nat) (htx:TxOk ⟨S,q,[32,46,110,x]⟩):TakeCt w a S q (q+2) v_dot (.str v_empty 0) (q+1):=by
  refine ct_start hP htx (by decide) fun A s R zs ta N C U D hR=>?_;refine sg C 4000 o_take_dn_1_1 ?_;intro _;have K_1:=sN s R C trId [((N+18),tupO (strsL [(⟨⟨[58,61]⟩⟩:Str),(⟨⟨[60,61]⟩⟩:Str),(⟨⟨[62,61]⟩⟩:Str),(⟨⟨[46,46]⟩⟩:Str)]))] (ct_tupin [(⟨⟨[58,61]⟩⟩:Str),(⟨⟨[60,61]⟩⟩:Str),(⟨⟨[62,61]⟩⟩:Str),(⟨⟨[46,46]⟩⟩:Str)] (⟨⟨[46,110]⟩⟩:Str) (N+18)) [] [18];refine K_1 ?_;intro _ _ _ _ N_1 _ _ _ C_1 tr_1 _ _ _ _;refine sg C_1 4000 o_take_dn_1_2 ?_;intro _;exact finishC (Pd:=fun _=>True) tr_1 D hR ((N_1+24),(N_1+23)) _ [] [24,23] (by kernel_rfl) (by kernel_rfl) rfl (by kernel_rfl) (by kernel_rfl) rfl Sup.nil (fun _ h=>nomatch h) rfl trivial
theorem take_dm_1 {w:World} {b1 b2 b3:Bool} (hP:Rows w b1 b2 b3) (a:Nat->Nat) (S:Str) (q x:Nat) (htx:TxOk ⟨S,q,[32,46,109,x]⟩):TakeCt w a S q (q+2) v_dot (.str v_empty 0) (q+1):=by
  refine ct_start hP htx (by decide) fun A s R zs ta N C U D hR=>?_;refine sg C 4000 o_take_dn_1_1 ?_;intro _;have K_1:=sN s R C trId [((N+18),tupO (strsL [(⟨⟨[58,61]⟩⟩:Str),(⟨⟨[60,61]⟩⟩:Str),(⟨⟨[62,61]⟩⟩:Str),(⟨⟨[46,46]⟩⟩:Str)]))] (ct_tupin [(⟨⟨[58,61]⟩⟩:Str),(⟨⟨[60,61]⟩⟩:Str),(⟨⟨[62,61]⟩⟩:Str),(⟨⟨[46,46]⟩⟩:Str)] (⟨⟨[46,109]⟩⟩:Str) (N+18)) [] [18];refine K_1 ?_;intro _ _ _ _ N_1 _ _ _ C_1 tr_1 _ _ _ _;refine sg C_1 4000 o_take_dn_1_2 ?_;intro _;exact finishC (Pd:=fun _=>True) tr_1 D hR ((N_1+24),(N_1+23)) _ [] [24,23] (by kernel_rfl) (by kernel_rfl) rfl (by kernel_rfl) (by kernel_rfl) rfl Sup.nil (fun _ h=>nomatch h) rfl trivial
theorem take_dq_1 {w:World} {b1 b2 b3:Bool} (hP:Rows w b1 b2 b3) (a:Nat->Nat) (S:Str) (q x:Nat) (htx:TxOk ⟨S,q,[32,46,113,x]⟩):TakeCt w a S q (q+2) v_dot (.str v_empty 0) (q+1):=by
  refine ct_start hP htx (by decide) fun A s R zs ta N C U D hR=>?_;refine sg C 4000 o_take_dn_1_1 ?_;intro _;have K_1:=sN s R C trId [((N+18),tupO (strsL [(⟨⟨[58,61]⟩⟩:Str),(⟨⟨[60,61]⟩⟩:Str),(⟨⟨[62,61]⟩⟩:Str),(⟨⟨[46,46]⟩⟩:Str)]))] (ct_tupin [(⟨⟨[58,61]⟩⟩:Str),(⟨⟨[60,61]⟩⟩:Str),(⟨⟨[62,61]⟩⟩:Str),(⟨⟨[46,46]⟩⟩:Str)] (⟨⟨[46,113]⟩⟩:Str) (N+18)) [] [18];refine K_1 ?_;intro _ _ _ _ N_1 _ _ _ C_1 tr_1 _ _ _ _;refine sg C_1 4000 o_take_dn_1_2 ?_;intro _;exact finishC (Pd:=fun _=>True) tr_1 D hR ((N_1+24),(N_1+23)) _ [] [24,23] (by kernel_rfl) (by kernel_rfl) rfl (by kernel_rfl) (by kernel_rfl) rfl Sup.nil (fun _ h=>nomatch h) rfl trivial
theorem take_as_1 {w:World} {b1 b2 b3:Bool} (hP:Rows w b1 b2 b3) (a:Nat->Nat) (S:Str) (q x:Nat) (htx:TxOk ⟨S,q,[32,32,58,61,x]⟩):TakeCt w a S q (q+4) v_assign (.str v_empty 0) (q+2):=by
  refine ct_start hP htx (by decide) fun A s R zs ta N C U D hR=>?_;refine sg C 4000 o_take_as_1_1 ?_;intro _;have K_1:=sN s R C trId [((N+20),tupO (strsL [(⟨⟨[58,61]⟩⟩:Str),(⟨⟨[60,61]⟩⟩:Str),(⟨⟨[62,61]⟩⟩:Str),(⟨⟨[46,46]⟩⟩:Str)]))] (ct_tupin [(⟨⟨[58,61]⟩⟩:Str),(⟨⟨[60,61]⟩⟩:Str),(⟨⟨[62,61]⟩⟩:Str),(⟨⟨[46,46]⟩⟩:Str)] (⟨⟨[58,61]⟩⟩:Str) (N+20)) [] [20];refine K_1 ?_;intro _ _ _ _ N_1 _ _ _ C_1 tr_1 _ _ _ _;refine sg C_1 4000 o_take_as_1_2 ?_;intro _;exact finishC (Pd:=fun _=>True) tr_1 D hR ((N_1+22),(N_1+21)) _ [] [22,21] (by kernel_rfl) (by kernel_rfl) rfl (by kernel_rfl) (by kernel_rfl) rfl Sup.nil (fun _ h=>nomatch h) rfl trivial
theorem take_id_ns {w:World} {b1 b2 b3:Bool} (hP:Rows w b1 b2 b3) (a:Nat->Nat) (S:Str) (q x:Nat) (htx:TxOk ⟨S,q,[110,32,x]⟩):TakeCt w a S q (q+1) v_ident (.str v_n 0) (q+0):=by
  refine ct_start hP htx (by decide) fun A s R zs ta N C U D hR=>?_;refine sg C 4000 o_take_id_ns_1 ?_;intro _;have K_1:=sN s R C trId [((a 3),tupO (strsL [(⟨⟨[65,82,82,65,89]⟩⟩:Str),(⟨⟨[66,69,71,73,78]⟩⟩:Str),(⟨⟨[66,89]⟩⟩:Str),(⟨⟨[67,65,83,69]⟩⟩:Str),(⟨⟨[67,79,78,83,84]⟩⟩:Str),(⟨⟨[68,73,86]⟩⟩:Str),(⟨⟨[68,79]⟩⟩:Str),(⟨⟨[69,76,83,69]⟩⟩:Str),(⟨⟨[69,76,83,73,70]⟩⟩:Str),(⟨⟨[69,78,68]⟩⟩:Str),(⟨⟨[70,79,82]⟩⟩:Str),(⟨⟨[73,70]⟩⟩:Str),(⟨⟨[73,77,80,79,82,84]⟩⟩:Str),(⟨⟨[73,78]⟩⟩:Str),(⟨⟨[73,83]⟩⟩:Str),(⟨⟨[77,79,68]⟩⟩:Str),(⟨⟨[77,79,68,85,76,69]⟩⟩:Str),(⟨⟨[78,73,76]⟩⟩:Str),(⟨⟨[79,70]⟩⟩:Str),(⟨⟨[79,82]⟩⟩:Str),(⟨⟨[80,79,73,78,84,69,82]⟩⟩:Str),(⟨⟨[80,82,79,67,69,68,85,82,69]⟩⟩:Str),(⟨⟨[82,69,67,79,82,68]⟩⟩:Str),(⟨⟨[82,69,80,69,65,84]⟩⟩:Str),(⟨⟨[82,69,84,85,82,78]⟩⟩:Str),(⟨⟨[84,72,69,78]⟩⟩:Str),(⟨⟨[84,79]⟩⟩:Str),(⟨⟨[84,89,80,69]⟩⟩:Str),(⟨⟨[85,78,84,73,76]⟩⟩:Str),(⟨⟨[86,65,82]⟩⟩:Str),(⟨⟨[87,72,73,76,69]⟩⟩:Str)]))] (ct_tupin [(⟨⟨[65,82,82,65,89]⟩⟩:Str),(⟨⟨[66,69,71,73,78]⟩⟩:Str),(⟨⟨[66,89]⟩⟩:Str),(⟨⟨[67,65,83,69]⟩⟩:Str),(⟨⟨[67,79,78,83,84]⟩⟩:Str),(⟨⟨[68,73,86]⟩⟩:Str),(⟨⟨[68,79]⟩⟩:Str),(⟨⟨[69,76,83,69]⟩⟩:Str),(⟨⟨[69,76,83,73,70]⟩⟩:Str),(⟨⟨[69,78,68]⟩⟩:Str),(⟨⟨[70,79,82]⟩⟩:Str),(⟨⟨[73,70]⟩⟩:Str),(⟨⟨[73,77,80,79,82,84]⟩⟩:Str),(⟨⟨[73,78]⟩⟩:Str),(⟨⟨[73,83]⟩⟩:Str),(⟨⟨[77,79,68]⟩⟩:Str),(⟨⟨[77,79,68,85,76,69]⟩⟩:Str),(⟨⟨[78,73,76]⟩⟩:Str),(⟨⟨[79,70]⟩⟩:Str),(⟨⟨[79,82]⟩⟩:Str),(⟨⟨[80,79,73,78,84,69,82]⟩⟩:Str),(⟨⟨[80,82,79,67,69,68,85,82,69]⟩⟩:Str),(⟨⟨[82,69,67,79,82,68]⟩⟩:Str),(⟨⟨[82,69,80,69,65,84]⟩⟩:Str),(⟨⟨[82,69,84,85,82,78]⟩⟩:Str),(⟨⟨[84,72,69,78]⟩⟩:Str),(⟨⟨[84,79]⟩⟩:Str),(⟨⟨[84,89,80,69]⟩⟩:Str),(⟨⟨[85,78,84,73,76]⟩⟩:Str),(⟨⟨[86,65,82]⟩⟩:Str),(⟨⟨[87,72,73,76,69]⟩⟩:Str)] (⟨⟨[110]⟩⟩:Str) (a 3)) [] [2];refine K_1 ?_;intro _ _ _ _ N_1 _ _ _ C_1 tr_1 _ _ _ _;refine sg C_1 4000 o_take_id_ns_2 ?_;intro _;exact finishC (Pd:=fun _=>True) tr_1 D hR ((N_1+19),(N_1+18)) _ [] [19,18] (by kernel_rfl) (by kernel_rfl) rfl (by kernel_rfl) (by kernel_rfl) rfl Sup.nil (fun _ h=>nomatch h) rfl trivial
theorem take_id_ml {w:World} {b1 b2 b3:Bool} (hP:Rows w b1 b2 b3) (a:Nat->Nat) (S:Str) (q x:Nat) (htx:TxOk ⟨S,q,[109,91,x]⟩):TakeCt w a S q (q+1) v_ident (.str v_m 0) (q+0):=by
  refine ct_start hP htx (by decide) fun A s R zs ta N C U D hR=>?_;refine sg C 4000 o_take_id_ml_1 ?_;intro _;have K_1:=sN s R C trId [((a 3),tupO (strsL [(⟨⟨[65,82,82,65,89]⟩⟩:Str),(⟨⟨[66,69,71,73,78]⟩⟩:Str),(⟨⟨[66,89]⟩⟩:Str),(⟨⟨[67,65,83,69]⟩⟩:Str),(⟨⟨[67,79,78,83,84]⟩⟩:Str),(⟨⟨[68,73,86]⟩⟩:Str),(⟨⟨[68,79]⟩⟩:Str),(⟨⟨[69,76,83,69]⟩⟩:Str),(⟨⟨[69,76,83,73,70]⟩⟩:Str),(⟨⟨[69,78,68]⟩⟩:Str),(⟨⟨[70,79,82]⟩⟩:Str),(⟨⟨[73,70]⟩⟩:Str),(⟨⟨[73,77,80,79,82,84]⟩⟩:Str),(⟨⟨[73,78]⟩⟩:Str),(⟨⟨[73,83]⟩⟩:Str),(⟨⟨[77,79,68]⟩⟩:Str),(⟨⟨[77,79,68,85,76,69]⟩⟩:Str),(⟨⟨[78,73,76]⟩⟩:Str),(⟨⟨[79,70]⟩⟩:Str),(⟨⟨[79,82]⟩⟩:Str),(⟨⟨[80,79,73,78,84,69,82]⟩⟩:Str),(⟨⟨[80,82,79,67,69,68,85,82,69]⟩⟩:Str),(⟨⟨[82,69,67,79,82,68]⟩⟩:Str),(⟨⟨[82,69,80,69,65,84]⟩⟩:Str),(⟨⟨[82,69,84,85,82,78]⟩⟩:Str),(⟨⟨[84,72,69,78]⟩⟩:Str),(⟨⟨[84,79]⟩⟩:Str),(⟨⟨[84,89,80,69]⟩⟩:Str),(⟨⟨[85,78,84,73,76]⟩⟩:Str),(⟨⟨[86,65,82]⟩⟩:Str),(⟨⟨[87,72,73,76,69]⟩⟩:Str)]))] (ct_tupin [(⟨⟨[65,82,82,65,89]⟩⟩:Str),(⟨⟨[66,69,71,73,78]⟩⟩:Str),(⟨⟨[66,89]⟩⟩:Str),(⟨⟨[67,65,83,69]⟩⟩:Str),(⟨⟨[67,79,78,83,84]⟩⟩:Str),(⟨⟨[68,73,86]⟩⟩:Str),(⟨⟨[68,79]⟩⟩:Str),(⟨⟨[69,76,83,69]⟩⟩:Str),(⟨⟨[69,76,83,73,70]⟩⟩:Str),(⟨⟨[69,78,68]⟩⟩:Str),(⟨⟨[70,79,82]⟩⟩:Str),(⟨⟨[73,70]⟩⟩:Str),(⟨⟨[73,77,80,79,82,84]⟩⟩:Str),(⟨⟨[73,78]⟩⟩:Str),(⟨⟨[73,83]⟩⟩:Str),(⟨⟨[77,79,68]⟩⟩:Str),(⟨⟨[77,79,68,85,76,69]⟩⟩:Str),(⟨⟨[78,73,76]⟩⟩:Str),(⟨⟨[79,70]⟩⟩:Str),(⟨⟨[79,82]⟩⟩:Str),(⟨⟨[80,79,73,78,84,69,82]⟩⟩:Str),(⟨⟨[80,82,79,67,69,68,85,82,69]⟩⟩:Str),(⟨⟨[82,69,67,79,82,68]⟩⟩:Str),(⟨⟨[82,69,80,69,65,84]⟩⟩:Str),(⟨⟨[82,69,84,85,82,78]⟩⟩:Str),(⟨⟨[84,72,69,78]⟩⟩:Str),(⟨⟨[84,79]⟩⟩:Str),(⟨⟨[84,89,80,69]⟩⟩:Str),(⟨⟨[85,78,84,73,76]⟩⟩:Str),(⟨⟨[86,65,82]⟩⟩:Str),(⟨⟨[87,72,73,76,69]⟩⟩:Str)] (⟨⟨[109]⟩⟩:Str) (a 3)) [] [2];refine K_1 ?_;intro _ _ _ _ N_1 _ _ _ C_1 tr_1 _ _ _ _;refine sg C_1 4000 o_take_id_ns_2 ?_;intro _;exact finishC (Pd:=fun _=>True) tr_1 D hR ((N_1+19),(N_1+18)) _ [] [19,18] (by kernel_rfl) (by kernel_rfl) rfl (by kernel_rfl) (by kernel_rfl) rfl Sup.nil (fun _ h=>nomatch h) rfl trivial
theorem take_id_ms {w:World} {b1 b2 b3:Bool} (hP:Rows w b1 b2 b3) (a:Nat->Nat) (S:Str) (q x:Nat) (htx:TxOk ⟨S,q,[109,32,x]⟩):TakeCt w a S q (q+1) v_ident (.str v_m 0) (q+0):=by
  refine ct_start hP htx (by decide) fun A s R zs ta N C U D hR=>?_;refine sg C 4000 o_take_id_ns_1 ?_;intro _;have K_1:=sN s R C trId [((a 3),tupO (strsL [(⟨⟨[65,82,82,65,89]⟩⟩:Str),(⟨⟨[66,69,71,73,78]⟩⟩:Str),(⟨⟨[66,89]⟩⟩:Str),(⟨⟨[67,65,83,69]⟩⟩:Str),(⟨⟨[67,79,78,83,84]⟩⟩:Str),(⟨⟨[68,73,86]⟩⟩:Str),(⟨⟨[68,79]⟩⟩:Str),(⟨⟨[69,76,83,69]⟩⟩:Str),(⟨⟨[69,76,83,73,70]⟩⟩:Str),(⟨⟨[69,78,68]⟩⟩:Str),(⟨⟨[70,79,82]⟩⟩:Str),(⟨⟨[73,70]⟩⟩:Str),(⟨⟨[73,77,80,79,82,84]⟩⟩:Str),(⟨⟨[73,78]⟩⟩:Str),(⟨⟨[73,83]⟩⟩:Str),(⟨⟨[77,79,68]⟩⟩:Str),(⟨⟨[77,79,68,85,76,69]⟩⟩:Str),(⟨⟨[78,73,76]⟩⟩:Str),(⟨⟨[79,70]⟩⟩:Str),(⟨⟨[79,82]⟩⟩:Str),(⟨⟨[80,79,73,78,84,69,82]⟩⟩:Str),(⟨⟨[80,82,79,67,69,68,85,82,69]⟩⟩:Str),(⟨⟨[82,69,67,79,82,68]⟩⟩:Str),(⟨⟨[82,69,80,69,65,84]⟩⟩:Str),(⟨⟨[82,69,84,85,82,78]⟩⟩:Str),(⟨⟨[84,72,69,78]⟩⟩:Str),(⟨⟨[84,79]⟩⟩:Str),(⟨⟨[84,89,80,69]⟩⟩:Str),(⟨⟨[85,78,84,73,76]⟩⟩:Str),(⟨⟨[86,65,82]⟩⟩:Str),(⟨⟨[87,72,73,76,69]⟩⟩:Str)]))] (ct_tupin [(⟨⟨[65,82,82,65,89]⟩⟩:Str),(⟨⟨[66,69,71,73,78]⟩⟩:Str),(⟨⟨[66,89]⟩⟩:Str),(⟨⟨[67,65,83,69]⟩⟩:Str),(⟨⟨[67,79,78,83,84]⟩⟩:Str),(⟨⟨[68,73,86]⟩⟩:Str),(⟨⟨[68,79]⟩⟩:Str),(⟨⟨[69,76,83,69]⟩⟩:Str),(⟨⟨[69,76,83,73,70]⟩⟩:Str),(⟨⟨[69,78,68]⟩⟩:Str),(⟨⟨[70,79,82]⟩⟩:Str),(⟨⟨[73,70]⟩⟩:Str),(⟨⟨[73,77,80,79,82,84]⟩⟩:Str),(⟨⟨[73,78]⟩⟩:Str),(⟨⟨[73,83]⟩⟩:Str),(⟨⟨[77,79,68]⟩⟩:Str),(⟨⟨[77,79,68,85,76,69]⟩⟩:Str),(⟨⟨[78,73,76]⟩⟩:Str),(⟨⟨[79,70]⟩⟩:Str),(⟨⟨[79,82]⟩⟩:Str),(⟨⟨[80,79,73,78,84,69,82]⟩⟩:Str),(⟨⟨[80,82,79,67,69,68,85,82,69]⟩⟩:Str),(⟨⟨[82,69,67,79,82,68]⟩⟩:Str),(⟨⟨[82,69,80,69,65,84]⟩⟩:Str),(⟨⟨[82,69,84,85,82,78]⟩⟩:Str),(⟨⟨[84,72,69,78]⟩⟩:Str),(⟨⟨[84,79]⟩⟩:Str),(⟨⟨[84,89,80,69]⟩⟩:Str),(⟨⟨[85,78,84,73,76]⟩⟩:Str),(⟨⟨[86,65,82]⟩⟩:Str),(⟨⟨[87,72,73,76,69]⟩⟩:Str)] (⟨⟨[109]⟩⟩:Str) (a 3)) [] [2];refine K_1 ?_;intro _ _ _ _ N_1 _ _ _ C_1 tr_1 _ _ _ _;refine sg C_1 4000 o_take_id_ns_2 ?_;intro _;exact finishC (Pd:=fun _=>True) tr_1 D hR ((N_1+19),(N_1+18)) _ [] [19,18] (by kernel_rfl) (by kernel_rfl) rfl (by kernel_rfl) (by kernel_rfl) rfl Sup.nil (fun _ h=>nomatch h) rfl trivial
theorem take_id_qd {w:World} {b1 b2 b3:Bool} (hP:Rows w b1 b2 b3) (a:Nat->Nat) (S:Str) (q x:Nat) (htx:TxOk ⟨S,q,[113,46,x]⟩):TakeCt w a S q (q+1) v_ident (.str v_q 0) (q+0):=by
  refine ct_start hP htx (by decide) fun A s R zs ta N C U D hR=>?_;refine sg C 4000 o_take_id_ns_1 ?_;intro _;have K_1:=sN s R C trId [((a 3),tupO (strsL [(⟨⟨[65,82,82,65,89]⟩⟩:Str),(⟨⟨[66,69,71,73,78]⟩⟩:Str),(⟨⟨[66,89]⟩⟩:Str),(⟨⟨[67,65,83,69]⟩⟩:Str),(⟨⟨[67,79,78,83,84]⟩⟩:Str),(⟨⟨[68,73,86]⟩⟩:Str),(⟨⟨[68,79]⟩⟩:Str),(⟨⟨[69,76,83,69]⟩⟩:Str),(⟨⟨[69,76,83,73,70]⟩⟩:Str),(⟨⟨[69,78,68]⟩⟩:Str),(⟨⟨[70,79,82]⟩⟩:Str),(⟨⟨[73,70]⟩⟩:Str),(⟨⟨[73,77,80,79,82,84]⟩⟩:Str),(⟨⟨[73,78]⟩⟩:Str),(⟨⟨[73,83]⟩⟩:Str),(⟨⟨[77,79,68]⟩⟩:Str),(⟨⟨[77,79,68,85,76,69]⟩⟩:Str),(⟨⟨[78,73,76]⟩⟩:Str),(⟨⟨[79,70]⟩⟩:Str),(⟨⟨[79,82]⟩⟩:Str),(⟨⟨[80,79,73,78,84,69,82]⟩⟩:Str),(⟨⟨[80,82,79,67,69,68,85,82,69]⟩⟩:Str),(⟨⟨[82,69,67,79,82,68]⟩⟩:Str),(⟨⟨[82,69,80,69,65,84]⟩⟩:Str),(⟨⟨[82,69,84,85,82,78]⟩⟩:Str),(⟨⟨[84,72,69,78]⟩⟩:Str),(⟨⟨[84,79]⟩⟩:Str),(⟨⟨[84,89,80,69]⟩⟩:Str),(⟨⟨[85,78,84,73,76]⟩⟩:Str),(⟨⟨[86,65,82]⟩⟩:Str),(⟨⟨[87,72,73,76,69]⟩⟩:Str)]))] (ct_tupin [(⟨⟨[65,82,82,65,89]⟩⟩:Str),(⟨⟨[66,69,71,73,78]⟩⟩:Str),(⟨⟨[66,89]⟩⟩:Str),(⟨⟨[67,65,83,69]⟩⟩:Str),(⟨⟨[67,79,78,83,84]⟩⟩:Str),(⟨⟨[68,73,86]⟩⟩:Str),(⟨⟨[68,79]⟩⟩:Str),(⟨⟨[69,76,83,69]⟩⟩:Str),(⟨⟨[69,76,83,73,70]⟩⟩:Str),(⟨⟨[69,78,68]⟩⟩:Str),(⟨⟨[70,79,82]⟩⟩:Str),(⟨⟨[73,70]⟩⟩:Str),(⟨⟨[73,77,80,79,82,84]⟩⟩:Str),(⟨⟨[73,78]⟩⟩:Str),(⟨⟨[73,83]⟩⟩:Str),(⟨⟨[77,79,68]⟩⟩:Str),(⟨⟨[77,79,68,85,76,69]⟩⟩:Str),(⟨⟨[78,73,76]⟩⟩:Str),(⟨⟨[79,70]⟩⟩:Str),(⟨⟨[79,82]⟩⟩:Str),(⟨⟨[80,79,73,78,84,69,82]⟩⟩:Str),(⟨⟨[80,82,79,67,69,68,85,82,69]⟩⟩:Str),(⟨⟨[82,69,67,79,82,68]⟩⟩:Str),(⟨⟨[82,69,80,69,65,84]⟩⟩:Str),(⟨⟨[82,69,84,85,82,78]⟩⟩:Str),(⟨⟨[84,72,69,78]⟩⟩:Str),(⟨⟨[84,79]⟩⟩:Str),(⟨⟨[84,89,80,69]⟩⟩:Str),(⟨⟨[85,78,84,73,76]⟩⟩:Str),(⟨⟨[86,65,82]⟩⟩:Str),(⟨⟨[87,72,73,76,69]⟩⟩:Str)] (⟨⟨[113]⟩⟩:Str) (a 3)) [] [2];refine K_1 ?_;intro _ _ _ _ N_1 _ _ _ C_1 tr_1 _ _ _ _;refine sg C_1 4000 o_take_id_ns_2 ?_;intro _;exact finishC (Pd:=fun _=>True) tr_1 D hR ((N_1+19),(N_1+18)) _ [] [19,18] (by kernel_rfl) (by kernel_rfl) rfl (by kernel_rfl) (by kernel_rfl) rfl Sup.nil (fun _ h=>nomatch h) rfl trivial
theorem take_id_qh {w:World} {b1 b2 b3:Bool} (hP:Rows w b1 b2 b3) (a:Nat->Nat) (S:Str) (q x:Nat) (htx:TxOk ⟨S,q,[113,94,x]⟩):TakeCt w a S q (q+1) v_ident (.str v_q 0) (q+0):=by
  refine ct_start hP htx (by decide) fun A s R zs ta N C U D hR=>?_;refine sg C 4000 o_take_id_ml_1 ?_;intro _;have K_1:=sN s R C trId [((a 3),tupO (strsL [(⟨⟨[65,82,82,65,89]⟩⟩:Str),(⟨⟨[66,69,71,73,78]⟩⟩:Str),(⟨⟨[66,89]⟩⟩:Str),(⟨⟨[67,65,83,69]⟩⟩:Str),(⟨⟨[67,79,78,83,84]⟩⟩:Str),(⟨⟨[68,73,86]⟩⟩:Str),(⟨⟨[68,79]⟩⟩:Str),(⟨⟨[69,76,83,69]⟩⟩:Str),(⟨⟨[69,76,83,73,70]⟩⟩:Str),(⟨⟨[69,78,68]⟩⟩:Str),(⟨⟨[70,79,82]⟩⟩:Str),(⟨⟨[73,70]⟩⟩:Str),(⟨⟨[73,77,80,79,82,84]⟩⟩:Str),(⟨⟨[73,78]⟩⟩:Str),(⟨⟨[73,83]⟩⟩:Str),(⟨⟨[77,79,68]⟩⟩:Str),(⟨⟨[77,79,68,85,76,69]⟩⟩:Str),(⟨⟨[78,73,76]⟩⟩:Str),(⟨⟨[79,70]⟩⟩:Str),(⟨⟨[79,82]⟩⟩:Str),(⟨⟨[80,79,73,78,84,69,82]⟩⟩:Str),(⟨⟨[80,82,79,67,69,68,85,82,69]⟩⟩:Str),(⟨⟨[82,69,67,79,82,68]⟩⟩:Str),(⟨⟨[82,69,80,69,65,84]⟩⟩:Str),(⟨⟨[82,69,84,85,82,78]⟩⟩:Str),(⟨⟨[84,72,69,78]⟩⟩:Str),(⟨⟨[84,79]⟩⟩:Str),(⟨⟨[84,89,80,69]⟩⟩:Str),(⟨⟨[85,78,84,73,76]⟩⟩:Str),(⟨⟨[86,65,82]⟩⟩:Str),(⟨⟨[87,72,73,76,69]⟩⟩:Str)]))] (ct_tupin [(⟨⟨[65,82,82,65,89]⟩⟩:Str),(⟨⟨[66,69,71,73,78]⟩⟩:Str),(⟨⟨[66,89]⟩⟩:Str),(⟨⟨[67,65,83,69]⟩⟩:Str),(⟨⟨[67,79,78,83,84]⟩⟩:Str),(⟨⟨[68,73,86]⟩⟩:Str),(⟨⟨[68,79]⟩⟩:Str),(⟨⟨[69,76,83,69]⟩⟩:Str),(⟨⟨[69,76,83,73,70]⟩⟩:Str),(⟨⟨[69,78,68]⟩⟩:Str),(⟨⟨[70,79,82]⟩⟩:Str),(⟨⟨[73,70]⟩⟩:Str),(⟨⟨[73,77,80,79,82,84]⟩⟩:Str),(⟨⟨[73,78]⟩⟩:Str),(⟨⟨[73,83]⟩⟩:Str),(⟨⟨[77,79,68]⟩⟩:Str),(⟨⟨[77,79,68,85,76,69]⟩⟩:Str),(⟨⟨[78,73,76]⟩⟩:Str),(⟨⟨[79,70]⟩⟩:Str),(⟨⟨[79,82]⟩⟩:Str),(⟨⟨[80,79,73,78,84,69,82]⟩⟩:Str),(⟨⟨[80,82,79,67,69,68,85,82,69]⟩⟩:Str),(⟨⟨[82,69,67,79,82,68]⟩⟩:Str),(⟨⟨[82,69,80,69,65,84]⟩⟩:Str),(⟨⟨[82,69,84,85,82,78]⟩⟩:Str),(⟨⟨[84,72,69,78]⟩⟩:Str),(⟨⟨[84,79]⟩⟩:Str),(⟨⟨[84,89,80,69]⟩⟩:Str),(⟨⟨[85,78,84,73,76]⟩⟩:Str),(⟨⟨[86,65,82]⟩⟩:Str),(⟨⟨[87,72,73,76,69]⟩⟩:Str)] (⟨⟨[113]⟩⟩:Str) (a 3)) [] [2];refine K_1 ?_;intro _ _ _ _ N_1 _ _ _ C_1 tr_1 _ _ _ _;refine sg C_1 4000 o_take_id_ns_2 ?_;intro _;exact finishC (Pd:=fun _=>True) tr_1 D hR ((N_1+19),(N_1+18)) _ [] [19,18] (by kernel_rfl) (by kernel_rfl) rfl (by kernel_rfl) (by kernel_rfl) rfl Sup.nil (fun _ h=>nomatch h) rfl trivial
theorem take_id_qp {w:World} {b1 b2 b3:Bool} (hP:Rows w b1 b2 b3) (a:Nat->Nat) (S:Str) (q x:Nat) (htx:TxOk ⟨S,q,[113,40,x]⟩):TakeCt w a S q (q+1) v_ident (.str v_q 0) (q+0):=by
  refine ct_start hP htx (by decide) fun A s R zs ta N C U D hR=>?_;refine sg C 4000 o_take_id_ns_1 ?_;intro _;have K_1:=sN s R C trId [((a 3),tupO (strsL [(⟨⟨[65,82,82,65,89]⟩⟩:Str),(⟨⟨[66,69,71,73,78]⟩⟩:Str),(⟨⟨[66,89]⟩⟩:Str),(⟨⟨[67,65,83,69]⟩⟩:Str),(⟨⟨[67,79,78,83,84]⟩⟩:Str),(⟨⟨[68,73,86]⟩⟩:Str),(⟨⟨[68,79]⟩⟩:Str),(⟨⟨[69,76,83,69]⟩⟩:Str),(⟨⟨[69,76,83,73,70]⟩⟩:Str),(⟨⟨[69,78,68]⟩⟩:Str),(⟨⟨[70,79,82]⟩⟩:Str),(⟨⟨[73,70]⟩⟩:Str),(⟨⟨[73,77,80,79,82,84]⟩⟩:Str),(⟨⟨[73,78]⟩⟩:Str),(⟨⟨[73,83]⟩⟩:Str),(⟨⟨[77,79,68]⟩⟩:Str),(⟨⟨[77,79,68,85,76,69]⟩⟩:Str),(⟨⟨[78,73,76]⟩⟩:Str),(⟨⟨[79,70]⟩⟩:Str),(⟨⟨[79,82]⟩⟩:Str),(⟨⟨[80,79,73,78,84,69,82]⟩⟩:Str),(⟨⟨[80,82,79,67,69,68,85,82,69]⟩⟩:Str),(⟨⟨[82,69,67,79,82,68]⟩⟩:Str),(⟨⟨[82,69,80,69,65,84]⟩⟩:Str),(⟨⟨[82,69,84,85,82,78]⟩⟩:Str),(⟨⟨[84,72,69,78]⟩⟩:Str),(⟨⟨[84,79]⟩⟩:Str),(⟨⟨[84,89,80,69]⟩⟩:Str),(⟨⟨[85,78,84,73,76]⟩⟩:Str),(⟨⟨[86,65,82]⟩⟩:Str),(⟨⟨[87,72,73,76,69]⟩⟩:Str)]))] (ct_tupin [(⟨⟨[65,82,82,65,89]⟩⟩:Str),(⟨⟨[66,69,71,73,78]⟩⟩:Str),(⟨⟨[66,89]⟩⟩:Str),(⟨⟨[67,65,83,69]⟩⟩:Str),(⟨⟨[67,79,78,83,84]⟩⟩:Str),(⟨⟨[68,73,86]⟩⟩:Str),(⟨⟨[68,79]⟩⟩:Str),(⟨⟨[69,76,83,69]⟩⟩:Str),(⟨⟨[69,76,83,73,70]⟩⟩:Str),(⟨⟨[69,78,68]⟩⟩:Str),(⟨⟨[70,79,82]⟩⟩:Str),(⟨⟨[73,70]⟩⟩:Str),(⟨⟨[73,77,80,79,82,84]⟩⟩:Str),(⟨⟨[73,78]⟩⟩:Str),(⟨⟨[73,83]⟩⟩:Str),(⟨⟨[77,79,68]⟩⟩:Str),(⟨⟨[77,79,68,85,76,69]⟩⟩:Str),(⟨⟨[78,73,76]⟩⟩:Str),(⟨⟨[79,70]⟩⟩:Str),(⟨⟨[79,82]⟩⟩:Str),(⟨⟨[80,79,73,78,84,69,82]⟩⟩:Str),(⟨⟨[80,82,79,67,69,68,85,82,69]⟩⟩:Str),(⟨⟨[82,69,67,79,82,68]⟩⟩:Str),(⟨⟨[82,69,80,69,65,84]⟩⟩:Str),(⟨⟨[82,69,84,85,82,78]⟩⟩:Str),(⟨⟨[84,72,69,78]⟩⟩:Str),(⟨⟨[84,79]⟩⟩:Str),(⟨⟨[84,89,80,69]⟩⟩:Str),(⟨⟨[85,78,84,73,76]⟩⟩:Str),(⟨⟨[86,65,82]⟩⟩:Str),(⟨⟨[87,72,73,76,69]⟩⟩:Str)] (⟨⟨[113]⟩⟩:Str) (a 3)) [] [2];refine K_1 ?_;intro _ _ _ _ N_1 _ _ _ C_1 tr_1 _ _ _ _;refine sg C_1 4000 o_take_id_ns_2 ?_;intro _;exact finishC (Pd:=fun _=>True) tr_1 D hR ((N_1+19),(N_1+18)) _ [] [19,18] (by kernel_rfl) (by kernel_rfl) rfl (by kernel_rfl) (by kernel_rfl) rfl Sup.nil (fun _ h=>nomatch h) rfl trivial
theorem take_id_qs {w:World} {b1 b2 b3:Bool} (hP:Rows w b1 b2 b3) (a:Nat->Nat) (S:Str) (q x:Nat) (htx:TxOk ⟨S,q,[113,32,x]⟩):TakeCt w a S q (q+1) v_ident (.str v_q 0) (q+0):=by
  refine ct_start hP htx (by decide) fun A s R zs ta N C U D hR=>?_;refine sg C 4000 o_take_id_ns_1 ?_;intro _;have K_1:=sN s R C trId [((a 3),tupO (strsL [(⟨⟨[65,82,82,65,89]⟩⟩:Str),(⟨⟨[66,69,71,73,78]⟩⟩:Str),(⟨⟨[66,89]⟩⟩:Str),(⟨⟨[67,65,83,69]⟩⟩:Str),(⟨⟨[67,79,78,83,84]⟩⟩:Str),(⟨⟨[68,73,86]⟩⟩:Str),(⟨⟨[68,79]⟩⟩:Str),(⟨⟨[69,76,83,69]⟩⟩:Str),(⟨⟨[69,76,83,73,70]⟩⟩:Str),(⟨⟨[69,78,68]⟩⟩:Str),(⟨⟨[70,79,82]⟩⟩:Str),(⟨⟨[73,70]⟩⟩:Str),(⟨⟨[73,77,80,79,82,84]⟩⟩:Str),(⟨⟨[73,78]⟩⟩:Str),(⟨⟨[73,83]⟩⟩:Str),(⟨⟨[77,79,68]⟩⟩:Str),(⟨⟨[77,79,68,85,76,69]⟩⟩:Str),(⟨⟨[78,73,76]⟩⟩:Str),(⟨⟨[79,70]⟩⟩:Str),(⟨⟨[79,82]⟩⟩:Str),(⟨⟨[80,79,73,78,84,69,82]⟩⟩:Str),(⟨⟨[80,82,79,67,69,68,85,82,69]⟩⟩:Str),(⟨⟨[82,69,67,79,82,68]⟩⟩:Str),(⟨⟨[82,69,80,69,65,84]⟩⟩:Str),(⟨⟨[82,69,84,85,82,78]⟩⟩:Str),(⟨⟨[84,72,69,78]⟩⟩:Str),(⟨⟨[84,79]⟩⟩:Str),(⟨⟨[84,89,80,69]⟩⟩:Str),(⟨⟨[85,78,84,73,76]⟩⟩:Str),(⟨⟨[86,65,82]⟩⟩:Str),(⟨⟨[87,72,73,76,69]⟩⟩:Str)]))] (ct_tupin [(⟨⟨[65,82,82,65,89]⟩⟩:Str),(⟨⟨[66,69,71,73,78]⟩⟩:Str),(⟨⟨[66,89]⟩⟩:Str),(⟨⟨[67,65,83,69]⟩⟩:Str),(⟨⟨[67,79,78,83,84]⟩⟩:Str),(⟨⟨[68,73,86]⟩⟩:Str),(⟨⟨[68,79]⟩⟩:Str),(⟨⟨[69,76,83,69]⟩⟩:Str),(⟨⟨[69,76,83,73,70]⟩⟩:Str),(⟨⟨[69,78,68]⟩⟩:Str),(⟨⟨[70,79,82]⟩⟩:Str),(⟨⟨[73,70]⟩⟩:Str),(⟨⟨[73,77,80,79,82,84]⟩⟩:Str),(⟨⟨[73,78]⟩⟩:Str),(⟨⟨[73,83]⟩⟩:Str),(⟨⟨[77,79,68]⟩⟩:Str),(⟨⟨[77,79,68,85,76,69]⟩⟩:Str),(⟨⟨[78,73,76]⟩⟩:Str),(⟨⟨[79,70]⟩⟩:Str),(⟨⟨[79,82]⟩⟩:Str),(⟨⟨[80,79,73,78,84,69,82]⟩⟩:Str),(⟨⟨[80,82,79,67,69,68,85,82,69]⟩⟩:Str),(⟨⟨[82,69,67,79,82,68]⟩⟩:Str),(⟨⟨[82,69,80,69,65,84]⟩⟩:Str),(⟨⟨[82,69,84,85,82,78]⟩⟩:Str),(⟨⟨[84,72,69,78]⟩⟩:Str),(⟨⟨[84,79]⟩⟩:Str),(⟨⟨[84,89,80,69]⟩⟩:Str),(⟨⟨[85,78,84,73,76]⟩⟩:Str),(⟨⟨[86,65,82]⟩⟩:Str),(⟨⟨[87,72,73,76,69]⟩⟩:Str)] (⟨⟨[113]⟩⟩:Str) (a 3)) [] [2];refine K_1 ?_;intro _ _ _ _ N_1 _ _ _ C_1 tr_1 _ _ _ _;refine sg C_1 4000 o_take_id_ns_2 ?_;intro _;exact finishC (Pd:=fun _=>True) tr_1 D hR ((N_1+19),(N_1+18)) _ [] [19,18] (by kernel_rfl) (by kernel_rfl) rfl (by kernel_rfl) (by kernel_rfl) rfl Sup.nil (fun _ h=>nomatch h) rfl trivial
theorem take_id_P {w:World} {b1 b2 b3:Bool} (hP:Rows w b1 b2 b3) (a:Nat->Nat) (S:Str) (q x:Nat) (htx:TxOk ⟨S,q,[80,41,x]⟩):TakeCt w a S q (q+1) v_ident (.str v_P 0) (q+0):=by
  refine ct_start hP htx (by decide) fun A s R zs ta N C U D hR=>?_;refine sg C 4000 o_take_id_P_1 ?_;intro _;have K_1:=sN s R C trId [((a 3),tupO (strsL [(⟨⟨[65,82,82,65,89]⟩⟩:Str),(⟨⟨[66,69,71,73,78]⟩⟩:Str),(⟨⟨[66,89]⟩⟩:Str),(⟨⟨[67,65,83,69]⟩⟩:Str),(⟨⟨[67,79,78,83,84]⟩⟩:Str),(⟨⟨[68,73,86]⟩⟩:Str),(⟨⟨[68,79]⟩⟩:Str),(⟨⟨[69,76,83,69]⟩⟩:Str),(⟨⟨[69,76,83,73,70]⟩⟩:Str),(⟨⟨[69,78,68]⟩⟩:Str),(⟨⟨[70,79,82]⟩⟩:Str),(⟨⟨[73,70]⟩⟩:Str),(⟨⟨[73,77,80,79,82,84]⟩⟩:Str),(⟨⟨[73,78]⟩⟩:Str),(⟨⟨[73,83]⟩⟩:Str),(⟨⟨[77,79,68]⟩⟩:Str),(⟨⟨[77,79,68,85,76,69]⟩⟩:Str),(⟨⟨[78,73,76]⟩⟩:Str),(⟨⟨[79,70]⟩⟩:Str),(⟨⟨[79,82]⟩⟩:Str),(⟨⟨[80,79,73,78,84,69,82]⟩⟩:Str),(⟨⟨[80,82,79,67,69,68,85,82,69]⟩⟩:Str),(⟨⟨[82,69,67,79,82,68]⟩⟩:Str),(⟨⟨[82,69,80,69,65,84]⟩⟩:Str),(⟨⟨[82,69,84,85,82,78]⟩⟩:Str),(⟨⟨[84,72,69,78]⟩⟩:Str),(⟨⟨[84,79]⟩⟩:Str),(⟨⟨[84,89,80,69]⟩⟩:Str),(⟨⟨[85,78,84,73,76]⟩⟩:Str),(⟨⟨[86,65,82]⟩⟩:Str),(⟨⟨[87,72,73,76,69]⟩⟩:Str)]))] (ct_tupin [(⟨⟨[65,82,82,65,89]⟩⟩:Str),(⟨⟨[66,69,71,73,78]⟩⟩:Str),(⟨⟨[66,89]⟩⟩:Str),(⟨⟨[67,65,83,69]⟩⟩:Str),(⟨⟨[67,79,78,83,84]⟩⟩:Str),(⟨⟨[68,73,86]⟩⟩:Str),(⟨⟨[68,79]⟩⟩:Str),(⟨⟨[69,76,83,69]⟩⟩:Str),(⟨⟨[69,76,83,73,70]⟩⟩:Str),(⟨⟨[69,78,68]⟩⟩:Str),(⟨⟨[70,79,82]⟩⟩:Str),(⟨⟨[73,70]⟩⟩:Str),(⟨⟨[73,77,80,79,82,84]⟩⟩:Str),(⟨⟨[73,78]⟩⟩:Str),(⟨⟨[73,83]⟩⟩:Str),(⟨⟨[77,79,68]⟩⟩:Str),(⟨⟨[77,79,68,85,76,69]⟩⟩:Str),(⟨⟨[78,73,76]⟩⟩:Str),(⟨⟨[79,70]⟩⟩:Str),(⟨⟨[79,82]⟩⟩:Str),(⟨⟨[80,79,73,78,84,69,82]⟩⟩:Str),(⟨⟨[80,82,79,67,69,68,85,82,69]⟩⟩:Str),(⟨⟨[82,69,67,79,82,68]⟩⟩:Str),(⟨⟨[82,69,80,69,65,84]⟩⟩:Str),(⟨⟨[82,69,84,85,82,78]⟩⟩:Str),(⟨⟨[84,72,69,78]⟩⟩:Str),(⟨⟨[84,79]⟩⟩:Str),(⟨⟨[84,89,80,69]⟩⟩:Str),(⟨⟨[85,78,84,73,76]⟩⟩:Str),(⟨⟨[86,65,82]⟩⟩:Str),(⟨⟨[87,72,73,76,69]⟩⟩:Str)] (⟨⟨[80]⟩⟩:Str) (a 3)) [] [2];refine K_1 ?_;intro _ _ _ _ N_1 _ _ _ C_1 tr_1 _ _ _ _;refine sg C_1 4000 o_take_id_ns_2 ?_;intro _;exact finishC (Pd:=fun _=>True) tr_1 D hR ((N_1+19),(N_1+18)) _ [] [19,18] (by kernel_rfl) (by kernel_rfl) rfl (by kernel_rfl) (by kernel_rfl) rfl Sup.nil (fun _ h=>nomatch h) rfl trivial
theorem take_num0r {w:World} {b1 b2 b3:Bool} (hP:Rows w b1 b2 b3) (a:Nat->Nat) (S:Str) (q x:Nat) (htx:TxOk ⟨S,q,[48,93,x]⟩):TakeCt w a S q (q+1) v_int (.int 0 0) (q+0):=by
  refine ct_start hP htx (by decide) fun A s R zs ta N C U D hR=>?_;refine sg C 4000 o_take_num0r_1 ?_;intro _;exact finishC (Pd:=fun _=>True) trId D hR ((N+33),(N+32)) _ [] [33,32] (by kernel_rfl) (by kernel_rfl) rfl (by kernel_rfl) (by kernel_rfl) rfl Sup.nil (fun _ h=>nomatch h) rfl trivial
theorem take_num0c {w:World} {b1 b2 b3:Bool} (hP:Rows w b1 b2 b3) (a:Nat->Nat) (S:Str) (q x:Nat) (htx:TxOk ⟨S,q,[48,44,x]⟩):TakeCt w a S q (q+1) v_int (.int 0 0) (q+0):=by
  refine ct_start hP htx (by decide) fun A s R zs ta N C U D hR=>?_;refine sg C 4000 o_take_num0c_1 ?_;intro _;exact finishC (Pd:=fun _=>True) trId D hR ((N+33),(N+32)) _ [] [33,32] (by kernel_rfl) (by kernel_rfl) rfl (by kernel_rfl) (by kernel_rfl) rfl Sup.nil (fun _ h=>nomatch h) rfl trivial
theorem take_snum0 {w:World} {b1 b2 b3:Bool} (hP:Rows w b1 b2 b3) (a:Nat->Nat) (S:Str) (q x:Nat) (htx:TxOk ⟨S,q,[32,48,93,x]⟩):TakeCt w a S q (q+2) v_int (.int 0 0) (q+1):=by
  refine ct_start hP htx (by decide) fun A s R zs ta N C U D hR=>?_;refine sg C 4000 o_take_snum0_1 ?_;intro _;exact finishC (Pd:=fun _=>True) trId D hR ((N+35),(N+34)) _ [] [35,34] (by kernel_rfl) (by kernel_rfl) rfl (by kernel_rfl) (by kernel_rfl) rfl Sup.nil (fun _ h=>nomatch h) rfl trivial
theorem take_num1r {w:World} {b1 b2 b3:Bool} (hP:Rows w b1 b2 b3) (a:Nat->Nat) (S:Str) (q x:Nat) (htx:TxOk ⟨S,q,[49,93,x]⟩):TakeCt w a S q (q+1) v_int (.int 1 0) (q+0):=by
  refine ct_start hP htx (by decide) fun A s R zs ta N C U D hR=>?_;refine sg C 4000 o_take_num0r_1 ?_;intro _;exact finishC (Pd:=fun _=>True) trId D hR ((N+33),(N+32)) _ [] [33,32] (by kernel_rfl) (by kernel_rfl) rfl (by kernel_rfl) (by kernel_rfl) rfl Sup.nil (fun _ h=>nomatch h) rfl trivial
theorem take_num1c {w:World} {b1 b2 b3:Bool} (hP:Rows w b1 b2 b3) (a:Nat->Nat) (S:Str) (q x:Nat) (htx:TxOk ⟨S,q,[49,44,x]⟩):TakeCt w a S q (q+1) v_int (.int 1 0) (q+0):=by
  refine ct_start hP htx (by decide) fun A s R zs ta N C U D hR=>?_;refine sg C 4000 o_take_num0c_1 ?_;intro _;exact finishC (Pd:=fun _=>True) trId D hR ((N+33),(N+32)) _ [] [33,32] (by kernel_rfl) (by kernel_rfl) rfl (by kernel_rfl) (by kernel_rfl) rfl Sup.nil (fun _ h=>nomatch h) rfl trivial
theorem take_snum1 {w:World} {b1 b2 b3:Bool} (hP:Rows w b1 b2 b3) (a:Nat->Nat) (S:Str) (q x:Nat) (htx:TxOk ⟨S,q,[32,49,93,x]⟩):TakeCt w a S q (q+2) v_int (.int 1 0) (q+1):=by
  refine ct_start hP htx (by decide) fun A s R zs ta N C U D hR=>?_;refine sg C 4000 o_take_snum0_1 ?_;intro _;exact finishC (Pd:=fun _=>True) trId D hR ((N+35),(N+34)) _ [] [35,34] (by kernel_rfl) (by kernel_rfl) rfl (by kernel_rfl) (by kernel_rfl) rfl Sup.nil (fun _ h=>nomatch h) rfl trivial
theorem take_rb_l {w:World} {b1 b2 b3:Bool} (hP:Rows w b1 b2 b3) (a:Nat->Nat) (S:Str) (q x:Nat) (htx:TxOk ⟨S,q,[93,91,x]⟩):TakeCt w a S q (q+1) v_rbr (.str v_empty 0) (q+0):=by
  refine ct_start hP htx (by decide) fun A s R zs ta N C U D hR=>?_;refine sg C 4000 o_take_hat_0_1 ?_;intro _;have K_1:=sN s R C trId [((N+16),tupO (strsL [(⟨⟨[58,61]⟩⟩:Str),(⟨⟨[60,61]⟩⟩:Str),(⟨⟨[62,61]⟩⟩:Str),(⟨⟨[46,46]⟩⟩:Str)]))] (ct_tupin [(⟨⟨[58,61]⟩⟩:Str),(⟨⟨[60,61]⟩⟩:Str),(⟨⟨[62,61]⟩⟩:Str),(⟨⟨[46,46]⟩⟩:Str)] (⟨⟨[93,91]⟩⟩:Str) (N+16)) [] [16];refine K_1 ?_;intro _ _ _ _ N_1 _ _ _ C_1 tr_1 _ _ _ _;refine sg C_1 4000 o_take_dn_0_2 ?_;intro _;exact finishC (Pd:=fun _=>True) tr_1 D hR ((N_1+22),(N_1+21)) _ [] [22,21] (by kernel_rfl) (by kernel_rfl) rfl (by kernel_rfl) (by kernel_rfl) rfl Sup.nil (fun _ h=>nomatch h) rfl trivial
theorem take_rb_s {w:World} {b1 b2 b3:Bool} (hP:Rows w b1 b2 b3) (a:Nat->Nat) (S:Str) (q x:Nat) (htx:TxOk ⟨S,q,[93,32,x]⟩):TakeCt w a S q (q+1) v_rbr (.str v_empty 0) (q+0):=by
  refine ct_start hP htx (by decide) fun A s R zs ta N C U D hR=>?_;refine sg C 4000 o_take_hat_0_1 ?_;intro _;have K_1:=sN s R C trId [((N+16),tupO (strsL [(⟨⟨[58,61]⟩⟩:Str),(⟨⟨[60,61]⟩⟩:Str),(⟨⟨[62,61]⟩⟩:Str),(⟨⟨[46,46]⟩⟩:Str)]))] (ct_tupin [(⟨⟨[58,61]⟩⟩:Str),(⟨⟨[60,61]⟩⟩:Str),(⟨⟨[62,61]⟩⟩:Str),(⟨⟨[46,46]⟩⟩:Str)] (⟨⟨[93,32]⟩⟩:Str) (N+16)) [] [16];refine K_1 ?_;intro _ _ _ _ N_1 _ _ _ C_1 tr_1 _ _ _ _;refine sg C_1 4000 o_take_dn_0_2 ?_;intro _;exact finishC (Pd:=fun _=>True) tr_1 D hR ((N_1+22),(N_1+21)) _ [] [22,21] (by kernel_rfl) (by kernel_rfl) rfl (by kernel_rfl) (by kernel_rfl) rfl Sup.nil (fun _ h=>nomatch h) rfl trivial
theorem take_rp_d {w:World} {b1 b2 b3:Bool} (hP:Rows w b1 b2 b3) (a:Nat->Nat) (S:Str) (q x:Nat) (htx:TxOk ⟨S,q,[41,46,x]⟩):TakeCt w a S q (q+1) v_rpar (.str v_empty 0) (q+0):=by
  refine ct_start hP htx (by decide) fun A s R zs ta N C U D hR=>?_;refine sg C 4000 o_take_dn_0_1 ?_;intro _;have K_1:=sN s R C trId [((N+16),tupO (strsL [(⟨⟨[58,61]⟩⟩:Str),(⟨⟨[60,61]⟩⟩:Str),(⟨⟨[62,61]⟩⟩:Str),(⟨⟨[46,46]⟩⟩:Str)]))] (ct_tupin [(⟨⟨[58,61]⟩⟩:Str),(⟨⟨[60,61]⟩⟩:Str),(⟨⟨[62,61]⟩⟩:Str),(⟨⟨[46,46]⟩⟩:Str)] (⟨⟨[41,46]⟩⟩:Str) (N+16)) [] [16];refine K_1 ?_;intro _ _ _ _ N_1 _ _ _ C_1 tr_1 _ _ _ _;refine sg C_1 4000 o_take_dn_0_2 ?_;intro _;exact finishC (Pd:=fun _=>True) tr_1 D hR ((N_1+22),(N_1+21)) _ [] [22,21] (by kernel_rfl) (by kernel_rfl) rfl (by kernel_rfl) (by kernel_rfl) rfl Sup.nil (fun _ h=>nomatch h) rfl trivial
theorem take_rp_h {w:World} {b1 b2 b3:Bool} (hP:Rows w b1 b2 b3) (a:Nat->Nat) (S:Str) (q x:Nat) (htx:TxOk ⟨S,q,[41,94,x]⟩):TakeCt w a S q (q+1) v_rpar (.str v_empty 0) (q+0):=by
  refine ct_start hP htx (by decide) fun A s R zs ta N C U D hR=>?_;refine sg C 4000 o_take_dn_0_1 ?_;intro _;have K_1:=sN s R C trId [((N+16),tupO (strsL [(⟨⟨[58,61]⟩⟩:Str),(⟨⟨[60,61]⟩⟩:Str),(⟨⟨[62,61]⟩⟩:Str),(⟨⟨[46,46]⟩⟩:Str)]))] (ct_tupin [(⟨⟨[58,61]⟩⟩:Str),(⟨⟨[60,61]⟩⟩:Str),(⟨⟨[62,61]⟩⟩:Str),(⟨⟨[46,46]⟩⟩:Str)] (⟨⟨[41,94]⟩⟩:Str) (N+16)) [] [16];refine K_1 ?_;intro _ _ _ _ N_1 _ _ _ C_1 tr_1 _ _ _ _;refine sg C_1 4000 o_take_dn_0_2 ?_;intro _;exact finishC (Pd:=fun _=>True) tr_1 D hR ((N_1+22),(N_1+21)) _ [] [22,21] (by kernel_rfl) (by kernel_rfl) rfl (by kernel_rfl) (by kernel_rfl) rfl Sup.nil (fun _ h=>nomatch h) rfl trivial
theorem take_rp_p {w:World} {b1 b2 b3:Bool} (hP:Rows w b1 b2 b3) (a:Nat->Nat) (S:Str) (q x:Nat) (htx:TxOk ⟨S,q,[41,40,x]⟩):TakeCt w a S q (q+1) v_rpar (.str v_empty 0) (q+0):=by
  refine ct_start hP htx (by decide) fun A s R zs ta N C U D hR=>?_;refine sg C 4000 o_take_dn_0_1 ?_;intro _;have K_1:=sN s R C trId [((N+16),tupO (strsL [(⟨⟨[58,61]⟩⟩:Str),(⟨⟨[60,61]⟩⟩:Str),(⟨⟨[62,61]⟩⟩:Str),(⟨⟨[46,46]⟩⟩:Str)]))] (ct_tupin [(⟨⟨[58,61]⟩⟩:Str),(⟨⟨[60,61]⟩⟩:Str),(⟨⟨[62,61]⟩⟩:Str),(⟨⟨[46,46]⟩⟩:Str)] (⟨⟨[41,40]⟩⟩:Str) (N+16)) [] [16];refine K_1 ?_;intro _ _ _ _ N_1 _ _ _ C_1 tr_1 _ _ _ _;refine sg C_1 4000 o_take_dn_0_2 ?_;intro _;exact finishC (Pd:=fun _=>True) tr_1 D hR ((N_1+22),(N_1+21)) _ [] [22,21] (by kernel_rfl) (by kernel_rfl) rfl (by kernel_rfl) (by kernel_rfl) rfl Sup.nil (fun _ h=>nomatch h) rfl trivial
theorem take_rp_s {w:World} {b1 b2 b3:Bool} (hP:Rows w b1 b2 b3) (a:Nat->Nat) (S:Str) (q x:Nat) (htx:TxOk ⟨S,q,[41,32,x]⟩):TakeCt w a S q (q+1) v_rpar (.str v_empty 0) (q+0):=by
  refine ct_start hP htx (by decide) fun A s R zs ta N C U D hR=>?_;refine sg C 4000 o_take_dn_0_1 ?_;intro _;have K_1:=sN s R C trId [((N+16),tupO (strsL [(⟨⟨[58,61]⟩⟩:Str),(⟨⟨[60,61]⟩⟩:Str),(⟨⟨[62,61]⟩⟩:Str),(⟨⟨[46,46]⟩⟩:Str)]))] (ct_tupin [(⟨⟨[58,61]⟩⟩:Str),(⟨⟨[60,61]⟩⟩:Str),(⟨⟨[62,61]⟩⟩:Str),(⟨⟨[46,46]⟩⟩:Str)] (⟨⟨[41,32]⟩⟩:Str) (N+16)) [] [16];refine K_1 ?_;intro _ _ _ _ N_1 _ _ _ C_1 tr_1 _ _ _ _;refine sg C_1 4000 o_take_dn_0_2 ?_;intro _;exact finishC (Pd:=fun _=>True) tr_1 D hR ((N_1+22),(N_1+21)) _ [] [22,21] (by kernel_rfl) (by kernel_rfl) rfl (by kernel_rfl) (by kernel_rfl) rfl Sup.nil (fun _ h=>nomatch h) rfl trivial
theorem take_cm {w:World} {b1 b2 b3:Bool} (hP:Rows w b1 b2 b3) (a:Nat->Nat) (S:Str) (q x:Nat) (htx:TxOk ⟨S,q,[44,32,x]⟩):TakeCt w a S q (q+1) v_comma (.str v_empty 0) (q+0):=by
  refine ct_start hP htx (by decide) fun A s R zs ta N C U D hR=>?_;refine sg C 4000 o_take_dn_0_1 ?_;intro _;have K_1:=sN s R C trId [((N+16),tupO (strsL [(⟨⟨[58,61]⟩⟩:Str),(⟨⟨[60,61]⟩⟩:Str),(⟨⟨[62,61]⟩⟩:Str),(⟨⟨[46,46]⟩⟩:Str)]))] (ct_tupin [(⟨⟨[58,61]⟩⟩:Str),(⟨⟨[60,61]⟩⟩:Str),(⟨⟨[62,61]⟩⟩:Str),(⟨⟨[46,46]⟩⟩:Str)] (⟨⟨[44,32]⟩⟩:Str) (N+16)) [] [16];refine K_1 ?_;intro _ _ _ _ N_1 _ _ _ C_1 tr_1 _ _ _ _;refine sg C_1 4000 o_take_dn_0_2 ?_;intro _;exact finishC (Pd:=fun _=>True) tr_1 D hR ((N_1+22),(N_1+21)) _ [] [22,21] (by kernel_rfl) (by kernel_rfl) rfl (by kernel_rfl) (by kernel_rfl) rfl Sup.nil (fun _ h=>nomatch h) rfl trivial
noncomputable def isdLoop (P:Params) (L:Nat):Code:=(callC (go (EE P false false false tx0) 100 [1,0,1,1] (X0 (.call (.ref 50) ⟨[.ref 0],[]⟩) .nil 0 L 0)).t).getD (.builtin "" ⟨[],[]⟩)
noncomputable def IsdC (w:World) (a:Nat->Nat) (L:Nat) (t:NT):Prop:=Ct w 100 60 (isdLoop w.params L) [(L,frameO [(k_node,.ref t.addr)])] (t.flat a) (fun _:Unit=>⟨.next,[frameO [(k_node,.ref t.base)]],[],[]⟩) (fun _=>True)
noncomputable def o_isd_end_var_1:List Nat:=[0,1,2,0,0,0,0,2,0,0,0,2,2,0,3,4,4]
noncomputable def o_isd_end_var_2:List Nat:=[]
noncomputable def o_isd_turn_fld_1:List Nat:=[0,1,2,0,0,0,0,2,0,0,0,2,2,0,3,5,5]
noncomputable def o_isd_turn_fld_2:List Nat:=[1,2,0,0,0,0,2,0,0,0,2,2,0,3,4,4,4,0,4,4,0,1,1]
noncomputable def o_isd_turn_idx_1:List Nat:=[0,1,2,0,0,0,0,2,0,0,0,2,2,0,3,8,8]
noncomputable def o_isd_drf_1:List Nat:=[1,0,3,3]
noncomputable def o_isd_drf_2:List Nat:=[3,1,0,0,0,0,1,0,0,0,1,1,0,2,0,3,1,0,0,0,0,1,0,0,0,1,1,0,2,0]
noncomputable def o_isd_var_2:List Nat:=[3,1,0,0,0,0,1,0,0,0,1,1,0,2,0]
theorem isd_end_var {w:World} {b1 b2 b3:Bool} (hP:Rows w b1 b2 b3) (a:Nat->Nat) (L:Nat) (A D K:Nat) (p:Bool) (vo vod:Nat):IsdC w a L (.var A D K p vo vod):=by
  refine ct_start (tx:=tx0) (ro:=[(A,instO 39 D),(D,nodD v_var 1 (tyA a (match p with | true=>.pt | false=>.rc)) K (.ref vo))]) hP tx0_ok (by decide) fun A' s R zs ta N C U D' hR=>?_
  refine sg C 4000 o_isd_end_var_1 ?_;intro _;have K_1:=sN s R C trId [((N+3),tupO (strsL [(⟨⟨[102,105,101,108,100]⟩⟩:Str),(⟨⟨[105,110,100,101,120]⟩⟩:Str),(⟨⟨[103,117,97,114,100]⟩⟩:Str)]))] (ct_tupin [(⟨⟨[102,105,101,108,100]⟩⟩:Str),(⟨⟨[105,110,100,101,120]⟩⟩:Str),(⟨⟨[103,117,97,114,100]⟩⟩:Str)] (⟨⟨[118,97,114]⟩⟩:Str) (N+3)) [] [3];refine K_1 ?_;intro _ _ _ _ _ _ _ _ C_1 tr_1 _ _ _ _;refine sg C_1 4000 o_isd_end_var_2 ?_;intro _;exact finishC (Pd:=fun _=>True) tr_1 D' hR () [] [] [] (by kernel_rfl) (by kernel_rfl) rfl (by kernel_rfl) rfl rfl Sup.nil (fun _ h=>nomatch h) rfl trivial
theorem isd_end_drf {w:World} {b1 b2 b3:Bool} (hP:Rows w b1 b2 b3) (a:Nat->Nat) (L:Nat) (A D K pl:Nat) (kid:NT):IsdC w a L (.drf A D K pl kid):=by
  refine ct_start (tx:=tx0) (ro:=[(A,instO 39 D),(D,nodD v_deref pl (a 30) K .none)]) hP tx0_ok (by decide) fun A' s R zs ta N C U D' hR=>?_;refine sg C 4000 o_isd_end_var_1 ?_;intro _;have K_1:=sN s R C trId [((N+3),tupO (strsL [(⟨⟨[102,105,101,108,100]⟩⟩:Str),(⟨⟨[105,110,100,101,120]⟩⟩:Str),(⟨⟨[103,117,97,114,100]⟩⟩:Str)]))] (ct_tupin [(⟨⟨[102,105,101,108,100]⟩⟩:Str),(⟨⟨[105,110,100,101,120]⟩⟩:Str),(⟨⟨[103,117,97,114,100]⟩⟩:Str)] (⟨⟨[100,101,114,101,102]⟩⟩:Str) (N+3)) [] [3];refine K_1 ?_;intro _ _ _ _ _ _ _ _ C_1 tr_1 _ _ _ _;refine sg C_1 4000 o_isd_end_var_2 ?_;intro _;exact finishC (Pd:=fun _=>True) tr_1 D' hR () [] [] [] (by kernel_rfl) (by kernel_rfl) rfl (by kernel_rfl) rfl rfl Sup.nil (fun _ h=>nomatch h) rfl trivial
theorem isd_turn_fld {w:World} {b1 b2 b3:Bool} (hP:Rows w b1 b2 b3) (a:Nat->Nat) (L:Nat) (A D K pl:Nat) (f:Fld) (kid:NT) (K':IsdC w a L kid):IsdC w a L (.fld A D K pl f kid):=by
  refine ct_start (tx:=tx0) (ro:=[(A,instO 39 D),(D,nodD v_field pl (tyA a f.ty) K (.ref (fldA a f))),(K,listO [.ref kid.addr])]) (sup:=kid.flat a) hP tx0_ok (by decide) fun A' s R zs ta N C U D' hR=>?_;refine sg C 4000 o_isd_turn_fld_1 ?_;intro _;have K_1:=sN s R C trId [((N+4),tupO (strsL [(⟨⟨[102,105,101,108,100]⟩⟩:Str),(⟨⟨[105,110,100,101,120]⟩⟩:Str),(⟨⟨[103,117,97,114,100]⟩⟩:Str)]))] (ct_tupin [(⟨⟨[102,105,101,108,100]⟩⟩:Str),(⟨⟨[105,110,100,101,120]⟩⟩:Str),(⟨⟨[103,117,97,114,100]⟩⟩:Str)] (⟨⟨[102,105,101,108,100]⟩⟩:Str) (N+4)) [] [4];refine K_1 ?_;intro _ _ _ _ _ _ _ _ C_1 tr_1 su_1 _ _ _;refine sg C_1 4000 o_isd_turn_fld_2 ?_;intro _;exact tailC C_1 (l2:=[]) (l3:=kid.flat a) K' [0] [] (by kernel_rfl) (by kernel_rfl) (by kernel_rfl) rfl (by decide) rfl rfl (su_1 _ U) tr_1 D' hR fun b zu zn h' su fs pd=>⟨(),[],[],[],rfl,by kernel_rfl,rfl,by kernel_rfl,rfl,rfl,Sup.nil,(fun _ h=>nomatch h),rfl,trivial⟩
theorem isd_turn_grd {w:World} {b1 b2 b3:Bool} (hP:Rows w b1 b2 b3) (a:Nat->Nat) (L:Nat) (A D K pl:Nat) (kid:NT) (K':IsdC w a L kid):IsdC w a L (.grd A D K pl kid):=by
  refine ct_start (tx:=tx0) (ro:=[(A,instO 39 D),(D,nodD v_guard pl (a 35) K (.ref (a 35))),(K,listO [.ref kid.addr])]) (sup:=kid.flat a) hP tx0_ok (by decide) fun A' s R zs ta N C U D' hR=>?_;refine sg C 4000 o_isd_turn_fld_1 ?_;intro _;have K_1:=sN s R C trId [((N+4),tupO (strsL [(⟨⟨[102,105,101,108,100]⟩⟩:Str),(⟨⟨[105,110,100,101,120]⟩⟩:Str),(⟨⟨[103,117,97,114,100]⟩⟩:Str)]))] (ct_tupin [(⟨⟨[102,105,101,108,100]⟩⟩:Str),(⟨⟨[105,110,100,101,120]⟩⟩:Str),(⟨⟨[103,117,97,114,100]⟩⟩:Str)] (⟨⟨[103,117,97,114,100]⟩⟩:Str) (N+4)) [] [4];refine K_1 ?_;intro _ _ _ _ _ _ _ _ C_1 tr_1 su_1 _ _ _;refine sg C_1 4000 o_isd_turn_fld_2 ?_;intro _;exact tailC C_1 (l2:=[]) (l3:=kid.flat a) K' [0] [] (by kernel_rfl) (by kernel_rfl) (by kernel_rfl) rfl (by decide) rfl rfl (su_1 _ U) tr_1 D' hR fun b zu zn h' su fs pd=>⟨(),[],[],[],rfl,by kernel_rfl,rfl,by kernel_rfl,rfl,rfl,Sup.nil,(fun _ h=>nomatch h),rfl,trivial⟩
theorem isd_turn_idx {w:World} {b1 b2 b3:Bool} (hP:Rows w b1 b2 b3) (a:Nat->Nat) (L:Nat) (A D K pl:Nat) (two:Bool) (v CA CD CK cpl:Nat) (kid:NT) (K':IsdC w a L kid):IsdC w a L (.idx A D K pl two v CA CD CK cpl kid):=by
  refine ct_start (tx:=tx0) (ro:=[(A,instO 39 D),(D,nodD v_index pl (tyA a (match two with | true=>.pa | false=>.it)) K .none),(K,listO [.ref kid.addr,.ref CA]),(CA,instO 39 CD),(CD,nodD v_const cpl (a 15) CK (.int (Int.ofNat v) 0)),(CK,listO [])]) (sup:=kid.flat a) hP tx0_ok (by decide) fun A' s R zs ta N C U D' hR=>?_
  refine sg C 4000 o_isd_turn_idx_1 ?_;intro _;have K_1:=sN s R C trId [((N+7),tupO (strsL [(⟨⟨[102,105,101,108,100]⟩⟩:Str),(⟨⟨[105,110,100,101,120]⟩⟩:Str),(⟨⟨[103,117,97,114,100]⟩⟩:Str)]))] (ct_tupin [(⟨⟨[102,105,101,108,100]⟩⟩:Str),(⟨⟨[105,110,100,101,120]⟩⟩:Str),(⟨⟨[103,117,97,114,100]⟩⟩:Str)] (⟨⟨[105,110,100,101,120]⟩⟩:Str) (N+7)) [] [7];refine K_1 ?_;intro _ _ _ _ _ _ _ _ C_1 tr_1 su_1 _ _ _;refine sg C_1 4000 o_isd_turn_fld_2 ?_;intro _;exact tailC C_1 (l2:=[]) (l3:=kid.flat a) K' [0] [] (by kernel_rfl) (by kernel_rfl) (by kernel_rfl) rfl (by decide) rfl rfl (su_1 _ U) tr_1 D' hR fun b zu zn h' su fs pd=>⟨(),[],[],[],rfl,by kernel_rfl,rfl,by kernel_rfl,rfl,rfl,Sup.nil,(fun _ h=>nomatch h),rfl,trivial⟩
theorem isd_loop {w:World} {b1 b2 b3:Bool} (hP:Rows w b1 b2 b3) (a:Nat->Nat) (L:Nat):∀ t:NT,IsdC w a L t
  | .var A D K p vo vod=>isd_end_var hP a L A D K p vo vod
  | .fld A D K pl f kid=>isd_turn_fld hP a L A D K pl f kid (isd_loop hP a L kid)
  | .drf A D K pl kid=>isd_end_drf hP a L A D K pl kid
  | .grd A D K pl kid=>isd_turn_grd hP a L A D K pl kid (isd_loop hP a L kid)
  | .idx A D K pl two v CA CD CK cpl kid=>isd_turn_idx hP a L A D K pl two v CA CD CK cpl kid (isd_loop hP a L kid)
noncomputable def IsdF (w:World) (a:Nat->Nat) (t:NT):Prop:=Ct w 120 80 (.call (.ref 50) ⟨[.ref t.addr],[]⟩) [] (t.flat a) (fun _:Unit=>⟨.ret (.bool true),[],[],[]⟩) (fun _=>True)
theorem isd_fun {w:World} {b1 b2 b3:Bool} (hP:Rows w b1 b2 b3) (a:Nat->Nat) (t:NT):IsdF w a t:=by
  obtain ⟨D,b,pl,ty,K,val,r,hp⟩:=t.base_ex a;refine Ct.perm hp.symm ?_;cases b
  · have K':∀ L,Ct w 100 60 (isdLoop w.params L) [(L,frameO [(k_node,.ref t.addr)])] ([(t.base,instO 39 D),(D,nodD v_deref pl ty K .none)]++r) (fun _:Unit=>⟨.next,[frameO [(k_node,.ref t.base)]],[],[]⟩) (fun _=>True):=fun L=>Ct.perm hp (isd_loop hP a L t);refine ct_start (tx:=tx0) hP tx0_ok (by decide) fun A' s R zs ta N C U D' hR=>?_;refine sg C 4000 o_isd_drf_1 ?_;intro _;have K_1:=sK s R C trId [(t.base,instO 39 D),(D,nodD v_deref pl ty K .none)] r (K' (N+2)) [2] [0,1] U;refine K_1 ?_;intro _ _ _ _ _ _ _ _ C_1 tr_1 _ _ _ _;refine sg C_1 4000 o_isd_drf_2 ?_;intro _;exact finishC (Pd:=fun _=>True) tr_1 D' hR () [] [] [] (by kernel_rfl) (by kernel_rfl) rfl (by kernel_rfl) rfl rfl Sup.nil (fun _ h=>nomatch h) rfl trivial
  · have K':∀ L,Ct w 100 60 (isdLoop w.params L) [(L,frameO [(k_node,.ref t.addr)])] ([(t.base,instO 39 D),(D,nodD v_var pl ty K (.ref val))]++r) (fun _:Unit=>⟨.next,[frameO [(k_node,.ref t.base)]],[],[]⟩) (fun _=>True):=fun L=>Ct.perm hp (isd_loop hP a L t);refine ct_start (tx:=tx0) hP tx0_ok (by decide) fun A' s R zs ta N C U D' hR=>?_;refine sg C 4000 o_isd_drf_1 ?_;intro _;have K_1:=sK s R C trId [(t.base,instO 39 D),(D,nodD v_var pl ty K (.ref val))] r (K' (N+2)) [2] [0,1] U;refine K_1 ?_;intro _ _ _ _ _ _ _ _ C_1 tr_1 _ _ _ _;refine sg C_1 4000 o_isd_var_2 ?_;intro _;exact finishC (Pd:=fun _=>True) tr_1 D' hR () [] [] [] (by kernel_rfl) (by kernel_rfl) rfl (by kernel_rfl) rfl rfl Sup.nil (fun _ h=>nomatch h) rfl trivial
noncomputable def k_inner:Str:=⟨⟨[105,110,110,101,114]⟩⟩
theorem root_rc (a:Nat->Nat):∀ t:NT,t.ty = .rc->(∃ D op pl K x r,(t.flat a).Perm ([(t.addr,instO 39 D),(D,nodD op pl (a 30) K (.ref x))]++r))∨(∃ D op pl K r,(t.flat a).Perm ([(t.addr,instO 39 D),(D,nodD op pl (a 30) K .none)]++r))
  | .var A D K false vo vod,_=>.inl ⟨D,_,_,K,vo,_,List.Perm.refl _⟩
  | .var A D K true vo vod,h=>nomatch h
  | .fld A D K pl .n kid,h=>nomatch h
  | .fld A D K pl .m kid,h=>nomatch h
  | .fld A D K pl .q kid,h=>nomatch h
  | .drf A D K pl kid,_=>.inr ⟨D,_,_,K,_,List.Perm.refl _⟩
  | .grd A D K pl kid,h=>nomatch h
  | .idx A D K pl true v CA CD CK cpl kid,h=>nomatch h
  | .idx A D K pl false v CA CD CK cpl kid,h=>nomatch h
theorem root_pt (a:Nat->Nat):∀ t:NT,t.ty = .pt->(∃ D op pl K x r,(t.flat a).Perm ([(t.addr,instO 39 D),(D,nodD op pl (a 35) K (.ref x))]++r))
  | .var A D K false vo vod,h=>nomatch h
  | .var A D K true vo vod,_=>⟨D,_,_,K,vo,_,List.Perm.refl _⟩
  | .fld A D K pl .n kid,h=>nomatch h
  | .fld A D K pl .m kid,h=>nomatch h
  | .fld A D K pl .q kid,_=>⟨D,_,_,K,_,_,List.Perm.refl _⟩
  | .drf A D K pl kid,h=>nomatch h
  | .grd A D K pl kid,_=>⟨D,_,_,K,_,_,List.Perm.refl _⟩
  | .idx A D K pl true v CA CD CK cpl kid,h=>nomatch h
  | .idx A D K pl false v CA CD CK cpl kid,h=>nomatch h
theorem root_th (a:Nat->Nat):∀ t:NT,t.ty = .th->(∃ D op pl K x r,(t.flat a).Perm ([(t.addr,instO 39 D),(D,nodD op pl (a 20) K (.ref x))]++r))
  | .var A D K false vo vod,h=>nomatch h
  | .var A D K true vo vod,h=>nomatch h
  | .fld A D K pl .n kid,h=>nomatch h
  | .fld A D K pl .m kid,_=>⟨D,_,_,K,_,_,List.Perm.refl _⟩
  | .fld A D K pl .q kid,h=>nomatch h
  | .drf A D K pl kid,h=>nomatch h
  | .grd A D K pl kid,h=>nomatch h
  | .idx A D K pl true v CA CD CK cpl kid,h=>nomatch h
  | .idx A D K pl false v CA CD CK cpl kid,h=>nomatch h
theorem root_pa (a:Nat->Nat):∀ t:NT,t.ty = .pa->(∃ D op pl K r,(t.flat a).Perm ([(t.addr,instO 39 D),(D,nodD op pl (a 25) K .none)]++r))
  | .var A D K false vo vod,h=>nomatch h
  | .var A D K true vo vod,h=>nomatch h
  | .fld A D K pl .n kid,h=>nomatch h
  | .fld A D K pl .m kid,h=>nomatch h
  | .fld A D K pl .q kid,h=>nomatch h
  | .drf A D K pl kid,h=>nomatch h
  | .grd A D K pl kid,h=>nomatch h
  | .idx A D K pl true v CA CD CK cpl kid,_=>⟨D,_,_,K,_,List.Perm.refl _⟩
  | .idx A D K pl false v CA CD CK cpl kid,h=>nomatch h
theorem perm_w {α:Type} {f o r:List α} (w:List α) (h:f.Perm (o++r)):((o++w)++r).Perm (w++f):=by
  rw [List.append_assoc];exact ((List.Perm.append_left _ h).trans (NT.perm_mid _ _ _)).symm
theorem isd_own {w:World} {b1 b2 b3:Bool} (hP:Rows w b1 b2 b3) (a:Nat->Nat) (t:NT) {own r:List (Nat×Obj)} (hp:(t.flat a).Perm (own++r)):Ct w 120 80 (.call (.ref 50) ⟨[.ref t.addr],[]⟩) [] (own++r) (fun _:Unit=>⟨.ret (.bool true),[],[],[]⟩) (fun _=>True):=Ct.perm hp (isd_fun hP a t)
noncomputable def n3 (A D K:Nat) (op:Str) (pl ty:Nat) (val:Value) (kids:List Value):List (Nat×Obj):=[(A,instO 39 D),(D,nodD op pl ty K val),(K,listO kids)]
theorem isd_drf_own {w:World} {b1 b2 b3:Bool} (hP:Rows w b1 b2 b3) (a:Nat->Nat) (t:NT) {own r:List (Nat×Obj)} (A D K pl:Nat) (hp:(t.flat a).Perm (own++r)):Ct w 120 80 (.call (.ref 50) ⟨[.ref A],[]⟩) [] ((n3 A D K v_deref pl (a 30) .none [.ref t.addr]++own)++r) (fun _:Unit=>⟨.ret (.bool true),[],[],[]⟩) (fun _=>True):=by
  rw [List.append_assoc];exact Ct.perm (List.Perm.append_left _ hp) (isd_fun hP a (.drf A D K pl t))
noncomputable def o_fo_rc_n_1:List Nat:=[1,0,20,20,20,20,20,20,20,20,20,20,20,1,0,0,0,0,1,0,0,0,1,1,0,2,9,0,0,0,0,9,0,0,0,9,9,0,10,0,0,20,1,0,0,0,0,1,0,0,0,1,1,0,2,9,0,0,0,0,9,0,0,0,9,9,0,10,0,0,0,20,0]
noncomputable def o_fo_rc_n_2:List Nat:=[0,20,1,0,0,0,0,1,0,0,0,1,1,0,2,20,0,1,0,21,21,21,21,0,21,21,9,0,0,0,0,9,0,0,0,9,9,0,10,13,13,0,13,22,0,22,0,22,22,22,13,22,22,21,21,21,14,0,0,0,0,14,0,0,0,14,14,0,15,21,0,21,20,20,20,0,20,20,14,0,0,0,0,14,0,0,0,14,14,0,15,20,20,0,0,0,0,0,0,0,0,0,0,0,0,0,0,0,0,0,0,0,0,0,0,0,0,0,0,0,0,0,0,0,25,0,25,0,0,0,0,1,0,0,26,26,26,26,26,26,26,26,26,26,26,26,26,26,25,0,0,0,0,25,0,25,0,25,0,0,0,25,0,24,24,24,26,26,25,0,0,0,0,25,0,25,0,25,0,0,0,25,0,24,24,24,26,26,25,0,0,0,0,25,0,25,0,25,0,0,0,25,0,24,24,24,26,26,25,0,0,0,0,25,0,25,0,25,0,0,0,25,0,24,24,24,26,26,25,0,0,0,0,25,0,25,0,25,0,0,0,25,0,24,24,24,26,25,0,0,0,0,25,0,25,0,25,0,0,0,25,0,24,24,24]
noncomputable def o_fo_pt_n_1:List Nat:=[1,0,20,20,20,20,20,20,20,20,20,20,20,1,0,0,0,0,1,0,0,0,1,1,0,2,11,0,0,0,0,11,0,0,0,11,11,0,12,0,0,0,20,0]
noncomputable def o_fo_pt_n_2:List Nat:=[0,20,20,1,0,0,0,0,1,0,0,0,1,1,0,2,11,0,0,0,0,11,0,0,0,11,11,0,12,0,20,0,0,0,0,0,0,0,0,0,0,0,0,0,0,0,0,0,0,0,0,0,0,0,0,0,0,0,0,0,0,0,23,0,23,0,0,0,0,1,0,0,24,24,24,24,24,24,24,24,24,24,24,24,24,24,23,0,0,0,0,23,0,23,0,23,0,0,0,23,0,22,22,22,24,24,23,0,0,0,0,23,0,23,0,23,0,0,0,23,0,22,22,22,24,24,23,0,0,0,0,23,0,23,0,23,0,0,0,23,0,22,22,22,24,24,23,0,0,0,0,23,0,23,0,23,0,0,0,23,0,22,22,22,24,24,23,0,0,0,0,23,0,23,0,23,0,0,0,23,0,22,22,22,24,23,0,0,0,0,23,0,23,0,23,0,0,0,23,0,22,22,22,20,20,20,23,0,0,0,0,23,0,0,0,23,23,0,22,9,0,0,0,0,9,0,0,0,9,9,0,10,0,0,0,20,0]
noncomputable def o_fo_pt_n_3:List Nat:=[0,20,23,0,0,0,0,23,0,0,0,23,23,0,22,20,0,1,0,25,25,25,25,0,25,25,9,0,0,0,0,9,0,0,0,9,9,0,10,13,13,0,13,26,0,26,0,26,26,26,13,26,26,25,25,25,14,0,0,0,0,14,0,0,0,14,14,0,15,25,0,25,20,20,20,0,20,20,14,0,0,0,0,14,0,0,0,14,14,0,15,20,20,0,0,0,0,0,0,0,0,0,0,0,0,0,0,0,0,0,0,0,0,0,0,0,0,0,0,0,0,0,0,0,29,0,29,0,0,0,0,1,0,0,30,30,30,30,30,30,30,30,30,30,30,30,30,30,29,0,0,0,0,29,0,29,0,29,0,0,0,29,0,28,28,28,30,30,29,0,0,0,0,29,0,29,0,29,0,0,0,29,0,28,28,28,30,30,29,0,0,0,0,29,0,29,0,29,0,0,0,29,0,28,28,28,30,30,29,0,0,0,0,29,0,29,0,29,0,0,0,29,0,28,28,28,30,30,29,0,0,0,0,29,0,29,0,29,0,0,0,29,0,28,28,28,30,29,0,0,0,0,29,0,29,0,29,0,0,0,29,0,28,28,28]
noncomputable def o_fo_rc_m_2:List Nat:=[0,20,1,0,0,0,0,1,0,0,0,1,1,0,2,20,0,1,0,21,21,21,21,0,21,21,9,0,0,0,0,9,0,0,0,9,9,0,10,13,13,0,13,22,0,22,0,22,22,22,13,22,22,21,21,21,14,0,0,0,0,14,0,0,0,14,14,0,15,21,0,0,22,0,22,22,22,13,22,22,21,21,21,16,0,0,0,0,16,0,0,0,16,16,0,17,21,0,21,20,20,20,0,20,20,16,0,0,0,0,16,0,0,0,16,16,0,17,20,20,0,0,0,0,0,0,0,0,0,0,0,0,0,0,0,0,0,0,0,0,0,0,0,0,0,0,0,0,0,0,0,25,0,25,0,0,0,0,1,0,0,26,26,26,26,26,26,26,26,26,26,26,26,26,26,25,0,0,0,0,25,0,25,0,25,0,0,0,25,0,24,24,24,26,26,25,0,0,0,0,25,0,25,0,25,0,0,0,25,0,24,24,24,26,26,25,0,0,0,0,25,0,25,0,25,0,0,0,25,0,24,24,24,26,26,25,0,0,0,0,25,0,25,0,25,0,0,0,25,0,24,24,24,26,26,25,0,0,0,0,25,0,25,0,25,0,0,0,25,0,24,24,24,26,25,0,0,0,0,25,0,25,0,25,0,0,0,25,0,24,24,24]
noncomputable def o_fo_pt_m_3:List Nat:=[0,20,23,0,0,0,0,23,0,0,0,23,23,0,22,20,0,1,0,25,25,25,25,0,25,25,9,0,0,0,0,9,0,0,0,9,9,0,10,13,13,0,13,26,0,26,0,26,26,26,13,26,26,25,25,25,14,0,0,0,0,14,0,0,0,14,14,0,15,25,0,0,26,0,26,26,26,13,26,26,25,25,25,16,0,0,0,0,16,0,0,0,16,16,0,17,25,0,25,20,20,20,0,20,20,16,0,0,0,0,16,0,0,0,16,16,0,17,20,20,0,0,0,0,0,0,0,0,0,0,0,0,0,0,0,0,0,0,0,0,0,0,0,0,0,0,0,0,0,0,0,29,0,29,0,0,0,0,1,0,0,30,30,30,30,30,30,30,30,30,30,30,30,30,30,29,0,0,0,0,29,0,29,0,29,0,0,0,29,0,28,28,28,30,30,29,0,0,0,0,29,0,29,0,29,0,0,0,29,0,28,28,28,30,30,29,0,0,0,0,29,0,29,0,29,0,0,0,29,0,28,28,28,30,30,29,0,0,0,0,29,0,29,0,29,0,0,0,29,0,28,28,28,30,30,29,0,0,0,0,29,0,29,0,29,0,0,0,29,0,28,28,28,30,29,0,0,0,0,29,0,29,0,29,0,0,0,29,0,28,28,28]
noncomputable def o_fo_rc_q_2:List Nat:=[0,20,1,0,0,0,0,1,0,0,0,1,1,0,2,20,0,1,0,21,21,21,21,0,21,21,9,0,0,0,0,9,0,0,0,9,9,0,10,13,13,0,13,22,0,22,0,22,22,22,13,22,22,21,21,21,14,0,0,0,0,14,0,0,0,14,14,0,15,21,0,0,22,0,22,22,22,13,22,22,21,21,21,16,0,0,0,0,16,0,0,0,16,16,0,17,21,0,0,22,0,22,22,22,13,22,22,21,21,21,18,0,0,0,0,18,0,0,0,18,18,0,19,21,0,21,20,20,20,0,20,20,18,0,0,0,0,18,0,0,0,18,18,0,19,20,20,0,0,0,0,0,0,0,0,0,0,0,0,0,0,0,0,0,0,0,0,0,0,0,0,0,0,0,0,0,0,0,25,0,25,0,0,0,0,1,0,0,26,26,26,26,26,26,26,26,26,26,26,26,26,26,25,0,0,0,0,25,0,25,0,25,0,0,0,25,0,24,24,24,26,26,25,0,0,0,0,25,0,25,0,25,0,0,0,25,0,24,24,24,26,26,25,0,0,0,0,25,0,25,0,25,0,0,0,25,0,24,24,24,26,26,25,0,0,0,0,25,0,25,0,25,0,0,0,25,0,24,24,24,26,26,25,0,0,0,0,25,0,25,0,25,0,0,0,25,0,24,24,24,26,25,0,0,0,0,25,0,25,0,25,0,0,0,25,0,24,24,24]
noncomputable def o_fo_pt_q_3:List Nat:=[0,20,23,0,0,0,0,23,0,0,0,23,23,0,22,20,0,1,0,25,25,25,25,0,25,25,9,0,0,0,0,9,0,0,0,9,9,0,10,13,13,0,13,26,0,26,0,26,26,26,13,26,26,25,25,25,14,0,0,0,0,14,0,0,0,14,14,0,15,25,0,0,26,0,26,26,26,13,26,26,25,25,25,16,0,0,0,0,16,0,0,0,16,16,0,17,25,0,0,26,0,26,26,26,13,26,26,25,25,25,18,0,0,0,0,18,0,0,0,18,18,0,19,25,0,25,20,20,20,0,20,20,18,0,0,0,0,18,0,0,0,18,18,0,19,20,20,0,0,0,0,0,0,0,0,0,0,0,0,0,0,0,0,0,0,0,0,0,0,0,0,0,0,0,0,0,0,0,29,0,29,0,0,0,0,1,0,0,30,30,30,30,30,30,30,30,30,30,30,30,30,30,29,0,0,0,0,29,0,29,0,29,0,0,0,29,0,28,28,28,30,30,29,0,0,0,0,29,0,29,0,29,0,0,0,29,0,28,28,28,30,30,29,0,0,0,0,29,0,29,0,29,0,0,0,29,0,28,28,28,30,30,29,0,0,0,0,29,0,29,0,29,0,0,0,29,0,28,28,28,30,30,29,0,0,0,0,29,0,29,0,29,0,0,0,29,0,28,28,28,30,29,0,0,0,0,29,0,29,0,29,0,0,0,29,0,28,28,28]
noncomputable def o_do_pt_1:List Nat:=[1,0,20,20,20,20,20,20,20,20,20,1,0,0,0,0,1,0,0,0,1,1,0,2,11,0,0,0,0,11,0,0,0,11,11,0,12,0,0,0,20,0]
noncomputable def o_do_pt_2:List Nat:=[0,20,20,1,0,0,0,0,1,0,0,0,1,1,0,2,11,0,0,0,0,11,0,0,0,11,11,0,12,0,20,0,0,0,0,0,0,0,0,0,0,0,0,0,0,0,0,0,0,0,0,0,0,0,0,0,0,0,0,0,0,0,23,0,23,0,0,0,0,1,0,0,24,24,24,24,24,24,24,24,24,24,24,24,24,24,23,0,0,0,0,23,0,23,0,23,0,0,0,23,0,22,22,22,24,24,23,0,0,0,0,23,0,23,0,23,0,0,0,23,0,22,22,22,24,24,23,0,0,0,0,23,0,23,0,23,0,0,0,23,0,22,22,22,24,24,23,0,0,0,0,23,0,23,0,23,0,0,0,23,0,22,22,22,24,24,23,0,0,0,0,23,0,23,0,23,0,0,0,23,0,22,22,22,24,23,0,0,0,0,23,0,23,0,23,0,0,0,23,0,22,22,22]
noncomputable def o_grd_end_1:List Nat:=[0,1,2,0,0,0,0,2,0,0,0,2,2,0,3,0]
noncomputable def o_grd_turn_1:List Nat:=[0,1,2,0,0,0,0,2,0,0,0,2,2,0,3,0,1,2,0,0,0,0,2,0,0,0,2,2,0,3,4,4,4,0,4,4,0,1,1]
noncomputable def o_go_pt_1:List Nat:=[1,0,20,20,20,20,20,20,20,20,20,20,0,20,20,0,1,0,21,21,21,21,21,21,21]
noncomputable def o_go_pt_2:List Nat:=[0,21,0]
noncomputable def o_go_pt_3:List Nat:=[21,1,0,0,0,0,1,0,0,0,1,1,0,2,11,0,0,0,0,11,0,0,0,11,11,0,12,0,0,21,1,0,0,0,0,1,0,0,0,1,1,0,2,11,0,0,0,0,11,0,0,0,11,11,0,12,0,0,0,21,21,1,0,0,0,0,1,0,0,0,1,1,0,2,0,1,0,22,22,22,22,22,11,0,0,0,0,11,0,0,0,11,11,0,12,22,11,0,0,0,0,11,0,0,0,11,11,0,12,0,0,22,0,1,0,23,23,23,11,0,0,0,0,11,0,0,0,11,11,0,12,0,23,11,0,0,0,0,11,0,0,0,11,11,0,12,0,23,11,0,0,0,0,11,0,0,0,11,11,0,12,22,22,0,22,0,1,0,24,24,24,11,0,0,0,0,11,0,0,0,11,11,0,12,0,24,11,0,0,0,0,11,0,0,0,11,11,0,12,0,24,11,0,0,0,0,11,0,0,0,11,11,0,12,22,22,22,0,22,0,22,22,0,1,0,25,25,25,25,25,9,0,0,0,0,9,0,0,0,9,9,0,10,25,9,0,0,0,0,9,0,0,0,9,9,0,10,0,20,20,20,0,0,20,20,20,20,0,0,0,0,0,0,0,0,0,0,0,0,0,0,0,0,0,0,0,0,0,0,0,0,0,0,0,0,0,0,0,28,0,28,0,0,0,0,1,0,0,29,29,29,29,29,29,29,29,29,29,29,29,29,29,28,0,0,0,0,28,0,28,0,28,0,0,0,28,0,27,27,27,29,29,28,0,0,0,0,28,0,28,0,28,0,0,0,28,0,27,27,27,29,29,28,0,0,0,0,28,0,28,0,28,0,0,0,28,0,27,27,27,29,29,28,0,0,0,0,28,0,28,0,28,0,0,0,28,0,27,27,27,29,29,28,0,0,0,0,28,0,28,0,28,0,0,0,28,0,27,27,27,29,28,0,0,0,0,28,0,28,0,28,0,0,0,28,0,27,27,27]
noncomputable def o_io_th_0_1:List Nat:=[1,0,22,22,22,22,22,22,22,22,22,22,22,3,0,0,0,0,3,0,0,0,3,3,0,4,22,22,22,7,0,0,0,0,7,0,0,0,7,7,0,8,0,0,22,0]
noncomputable def o_io_th_0_2:List Nat:=[0,22,1,0,0,0,0,1,0,0,0,1,1,0,2,0,1,0,23,23,23,5,0,0,0,0,5,0,0,0,5,5,0,6,0,22,1,0,0,0,0,1,0,0,0,1,1,0,2,0,22,1,0,0,0,0,1,0,0,0,1,1,0,2,0,22,7,0,0,0,0,7,0,0,0,7,7,0,8,0,22,1,0,0,0,0,1,0,0,0,1,1,0,2,22,7,0,0,0,0,7,0,0,0,7,7,0,8,0,0,22,22,7,0,0,0,0,7,0,0,0,7,7,0,8,22,22,0,0,0,0,0,0,0,0,0,0,0,0,0,0,0,0,0,0,0,0,0,0,0,0,0,0,0,0,0,0,0,26,0,26,0,0,0,0,1,0,0,27,27,27,27,27,27,27,27,27,27,27,27,27,27,26,0,0,0,0,26,0,26,0,26,0,0,0,26,0,25,25,25,27,27,26,0,0,0,0,26,0,26,0,26,0,0,0,26,0,25,25,25,27,27,26,0,0,0,0,26,0,26,0,26,0,0,0,26,0,25,25,25,27,27,26,0,0,0,0,26,0,26,0,26,0,0,0,26,0,25,25,25,27,27,26,0,0,0,0,26,0,26,0,26,0,0,0,26,0,25,25,25,27,26,0,0,0,0,26,0,26,0,26,0,0,0,26,0,25,25,25]
noncomputable def o_io_pa_0_1:List Nat:=[1,0,22,22,22,22,22,22,22,22,22,22,22,3,0,0,0,0,3,0,0,0,3,3,0,4,22,22,22,9,0,0,0,0,9,0,0,0,9,9,0,10,0,0,22,0]
noncomputable def o_io_pa_0_2:List Nat:=[0,22,1,0,0,0,0,1,0,0,0,1,1,0,2,0,1,0,23,23,23,5,0,0,0,0,5,0,0,0,5,5,0,6,0,22,1,0,0,0,0,1,0,0,0,1,1,0,2,0,22,1,0,0,0,0,1,0,0,0,1,1,0,2,0,22,9,0,0,0,0,9,0,0,0,9,9,0,10,0,22,1,0,0,0,0,1,0,0,0,1,1,0,2,22,9,0,0,0,0,9,0,0,0,9,9,0,10,0,0,22,22,9,0,0,0,0,9,0,0,0,9,9,0,10,22,22,0,0,0,0,0,0,0,0,0,0,0,0,0,0,0,0,0,0,0,0,0,0,0,0,0,0,0,0,0,0,0,26,0,26,0,0,0,0,1,0,0,27,27,27,27,27,27,27,27,27,27,27,27,27,27,26,0,0,0,0,26,0,26,0,26,0,0,0,26,0,25,25,25,27,27,26,0,0,0,0,26,0,26,0,26,0,0,0,26,0,25,25,25,27,27,26,0,0,0,0,26,0,26,0,26,0,0,0,26,0,25,25,25,27,27,26,0,0,0,0,26,0,26,0,26,0,0,0,26,0,25,25,25,27,27,26,0,0,0,0,26,0,26,0,26,0,0,0,26,0,25,25,25,27,26,0,0,0,0,26,0,26,0,26,0,0,0,26,0,25,25,25]
theorem fo_rc_n {w:World} {b1 b2 b3:Bool} (hP:Rows w b1 b2 b3) (a:Nat->Nat) (t:NT) (ht:t.ty = .rc) (pl:Nat):Ct w 200 200 (.call (.ref 99) ⟨[.ref (a 6),.ref (a 2),.ref t.addr,.str v_n 0,.int (Int.ofNat pl) 0],[]⟩) [] ((w_ty a++t.flat a)) (fun b:Nat×Nat×Nat=>⟨.ret (.ref b.1),[],n3 b.1 b.2.1 b.2.2 v_field pl (a 15) (.ref (a 40)) [.ref t.addr],[]⟩) (fun _=>True):=by
  rcases root_rc a t ht with ⟨D,op,pl',K,x,r,hp⟩ | ⟨D,op,pl',K,r,hp⟩
  · refine Ct.perm (perm_w (w_ty a) hp) ?_;refine ct_start (tx:=tx0) (ro:=([(t.addr,instO 39 D),(D,nodD op pl' (a 30) K (.ref x))]++w_ty a)) (sup:=r) hP tx0_ok (by decide) fun A' s R zs ta N C U D' hR=>?_;refine sg C 4000 o_fo_rc_n_1 ?_;intro _;have K_1:=sK s R C trId [(t.addr,instO 39 D),(D,nodD op pl' (a 30) K (.ref x))] r (isd_own hP a t hp) [] [0,1] U;refine K_1 ?_;intro _ _ _ _ N_1 _ _ _ C_1 tr_1 su_1 _ _ _;have U_1:=su_1 _ U;refine sg C_1 4000 o_fo_rc_n_2 ?_;intro _;exact finishC (Pd:=fun _=>True) tr_1 D' hR ((N_1+24),(N_1+23),(N_1+22)) _ [] [24,23,22] (by kernel_rfl) (by kernel_rfl) rfl (by kernel_rfl) (by kernel_rfl) rfl Sup.nil (fun _ h=>nomatch h) rfl trivial
  · refine Ct.perm (perm_w (w_ty a) hp) ?_;refine ct_start (tx:=tx0) (ro:=([(t.addr,instO 39 D),(D,nodD op pl' (a 30) K .none)]++w_ty a)) (sup:=r) hP tx0_ok (by decide) fun A' s R zs ta N C U D' hR=>?_;refine sg C 4000 o_fo_rc_n_1 ?_;intro _;have K_1:=sK s R C trId [(t.addr,instO 39 D),(D,nodD op pl' (a 30) K .none)] r (isd_own hP a t hp) [] [0,1] U;refine K_1 ?_;intro _ _ _ _ N_1 _ _ _ C_1 tr_1 su_1 _ _ _;have U_1:=su_1 _ U;refine sg C_1 4000 o_fo_rc_n_2 ?_;intro _;exact finishC (Pd:=fun _=>True) tr_1 D' hR ((N_1+24),(N_1+23),(N_1+22)) _ [] [24,23,22] (by kernel_rfl) (by kernel_rfl) rfl (by kernel_rfl) (by kernel_rfl) rfl Sup.nil (fun _ h=>nomatch h) rfl trivial
theorem fo_pt_n {w:World} {b1 b2 b3:Bool} (hP:Rows w b1 b2 b3) (a:Nat->Nat) (t:NT) (ht:t.ty = .pt) (pl:Nat):Ct w 200 200 (.call (.ref 99) ⟨[.ref (a 6),.ref (a 2),.ref t.addr,.str v_n 0,.int (Int.ofNat pl) 0],[]⟩) [] ((w_ty a++t.flat a)) (fun b:Nat×Nat×Nat×Nat×Nat×Nat=>⟨.ret (.ref b.1),[],n3 b.1 b.2.1 b.2.2.1 v_field pl (a 15) (.ref (a 40)) [.ref b.2.2.2.1]++n3 b.2.2.2.1 b.2.2.2.2.1 b.2.2.2.2.2 v_deref pl (a 30) .none [.ref t.addr],[]⟩) (fun _=>True):=by
  obtain ⟨D,op,pl',K,x,r,hp⟩:=root_pt a t ht
  · refine Ct.perm (perm_w (w_ty a) hp) ?_;refine ct_start (tx:=tx0) (ro:=([(t.addr,instO 39 D),(D,nodD op pl' (a 35) K (.ref x))]++w_ty a)) (sup:=r) hP tx0_ok (by decide) fun A' s R zs ta N C U D' hR=>?_;refine sg C 4000 o_fo_pt_n_1 ?_;intro _;have K_1:=sK s R C trId [(t.addr,instO 39 D),(D,nodD op pl' (a 35) K (.ref x))] r (isd_own hP a t hp) [] [0,1] U;refine K_1 ?_;intro _ _ _ _ N_1 _ _ _ C_1 tr_1 su_1 _ _ _;have U_1:=su_1 _ U;refine sg C_1 4000 o_fo_pt_n_2 ?_;intro _;have K_2:=sK s R C_1 tr_1 (n3 (N_1+22) (N_1+21) (N_1+20) v_deref pl (a 30) .none [.ref t.addr]++[(t.addr,instO 39 D),(D,nodD op pl' (a 35) K (.ref x))]) r (isd_drf_own hP a t (N_1+22) (N_1+21) (N_1+20) pl hp) [] [22,21,20,0,1] U_1;refine K_2 ?_;intro _ _ _ _ N_2 _ _ _ C_2 tr_2 su_2 _ _ _;have U_2:=su_2 _ U_1;refine sg C_2 4000 o_fo_pt_n_3 ?_;intro _;exact finishC (Pd:=fun _=>True) tr_2 D' hR ((N_2+28),(N_2+27),(N_2+26),(N_1+22),(N_1+21),(N_1+20)) _ [] [28,27,26,22,21,20] (by kernel_rfl) (by kernel_rfl) rfl (by kernel_rfl) (by kernel_rfl) rfl Sup.nil (fun _ h=>nomatch h) rfl trivial
theorem fo_rc_m {w:World} {b1 b2 b3:Bool} (hP:Rows w b1 b2 b3) (a:Nat->Nat) (t:NT) (ht:t.ty = .rc) (pl:Nat):Ct w 200 200 (.call (.ref 99) ⟨[.ref (a 6),.ref (a 2),.ref t.addr,.str v_m 0,.int (Int.ofNat pl) 0],[]⟩) [] ((w_ty a++t.flat a)) (fun b:Nat×Nat×Nat=>⟨.ret (.ref b.1),[],n3 b.1 b.2.1 b.2.2 v_field pl (a 20) (.ref (a 42)) [.ref t.addr],[]⟩) (fun _=>True):=by
  rcases root_rc a t ht with ⟨D,op,pl',K,x,r,hp⟩ | ⟨D,op,pl',K,r,hp⟩
  · refine Ct.perm (perm_w (w_ty a) hp) ?_;refine ct_start (tx:=tx0) (ro:=([(t.addr,instO 39 D),(D,nodD op pl' (a 30) K (.ref x))]++w_ty a)) (sup:=r) hP tx0_ok (by decide) fun A' s R zs ta N C U D' hR=>?_;refine sg C 4000 o_fo_rc_n_1 ?_;intro _;have K_1:=sK s R C trId [(t.addr,instO 39 D),(D,nodD op pl' (a 30) K (.ref x))] r (isd_own hP a t hp) [] [0,1] U;refine K_1 ?_;intro _ _ _ _ N_1 _ _ _ C_1 tr_1 su_1 _ _ _;have U_1:=su_1 _ U;refine sg C_1 4000 o_fo_rc_m_2 ?_;intro _;exact finishC (Pd:=fun _=>True) tr_1 D' hR ((N_1+24),(N_1+23),(N_1+22)) _ [] [24,23,22] (by kernel_rfl) (by kernel_rfl) rfl (by kernel_rfl) (by kernel_rfl) rfl Sup.nil (fun _ h=>nomatch h) rfl trivial
  · refine Ct.perm (perm_w (w_ty a) hp) ?_;refine ct_start (tx:=tx0) (ro:=([(t.addr,instO 39 D),(D,nodD op pl' (a 30) K .none)]++w_ty a)) (sup:=r) hP tx0_ok (by decide) fun A' s R zs ta N C U D' hR=>?_;refine sg C 4000 o_fo_rc_n_1 ?_;intro _;have K_1:=sK s R C trId [(t.addr,instO 39 D),(D,nodD op pl' (a 30) K .none)] r (isd_own hP a t hp) [] [0,1] U;refine K_1 ?_;intro _ _ _ _ N_1 _ _ _ C_1 tr_1 su_1 _ _ _;have U_1:=su_1 _ U;refine sg C_1 4000 o_fo_rc_m_2 ?_;intro _;exact finishC (Pd:=fun _=>True) tr_1 D' hR ((N_1+24),(N_1+23),(N_1+22)) _ [] [24,23,22] (by kernel_rfl) (by kernel_rfl) rfl (by kernel_rfl) (by kernel_rfl) rfl Sup.nil (fun _ h=>nomatch h) rfl trivial
theorem fo_pt_m {w:World} {b1 b2 b3:Bool} (hP:Rows w b1 b2 b3) (a:Nat->Nat) (t:NT) (ht:t.ty = .pt) (pl:Nat):Ct w 200 200 (.call (.ref 99) ⟨[.ref (a 6),.ref (a 2),.ref t.addr,.str v_m 0,.int (Int.ofNat pl) 0],[]⟩) [] ((w_ty a++t.flat a)) (fun b:Nat×Nat×Nat×Nat×Nat×Nat=>⟨.ret (.ref b.1),[],n3 b.1 b.2.1 b.2.2.1 v_field pl (a 20) (.ref (a 42)) [.ref b.2.2.2.1]++n3 b.2.2.2.1 b.2.2.2.2.1 b.2.2.2.2.2 v_deref pl (a 30) .none [.ref t.addr],[]⟩) (fun _=>True):=by
  obtain ⟨D,op,pl',K,x,r,hp⟩:=root_pt a t ht
  · refine Ct.perm (perm_w (w_ty a) hp) ?_;refine ct_start (tx:=tx0) (ro:=([(t.addr,instO 39 D),(D,nodD op pl' (a 35) K (.ref x))]++w_ty a)) (sup:=r) hP tx0_ok (by decide) fun A' s R zs ta N C U D' hR=>?_;refine sg C 4000 o_fo_pt_n_1 ?_;intro _;have K_1:=sK s R C trId [(t.addr,instO 39 D),(D,nodD op pl' (a 35) K (.ref x))] r (isd_own hP a t hp) [] [0,1] U;refine K_1 ?_;intro _ _ _ _ N_1 _ _ _ C_1 tr_1 su_1 _ _ _;have U_1:=su_1 _ U;refine sg C_1 4000 o_fo_pt_n_2 ?_;intro _;have K_2:=sK s R C_1 tr_1 (n3 (N_1+22) (N_1+21) (N_1+20) v_deref pl (a 30) .none [.ref t.addr]++[(t.addr,instO 39 D),(D,nodD op pl' (a 35) K (.ref x))]) r (isd_drf_own hP a t (N_1+22) (N_1+21) (N_1+20) pl hp) [] [22,21,20,0,1] U_1;refine K_2 ?_;intro _ _ _ _ N_2 _ _ _ C_2 tr_2 su_2 _ _ _;have U_2:=su_2 _ U_1;refine sg C_2 4000 o_fo_pt_m_3 ?_;intro _;exact finishC (Pd:=fun _=>True) tr_2 D' hR ((N_2+28),(N_2+27),(N_2+26),(N_1+22),(N_1+21),(N_1+20)) _ [] [28,27,26,22,21,20] (by kernel_rfl) (by kernel_rfl) rfl (by kernel_rfl) (by kernel_rfl) rfl Sup.nil (fun _ h=>nomatch h) rfl trivial
theorem fo_rc_q {w:World} {b1 b2 b3:Bool} (hP:Rows w b1 b2 b3) (a:Nat->Nat) (t:NT) (ht:t.ty = .rc) (pl:Nat):Ct w 200 200 (.call (.ref 99) ⟨[.ref (a 6),.ref (a 2),.ref t.addr,.str v_q 0,.int (Int.ofNat pl) 0],[]⟩) [] ((w_ty a++t.flat a)) (fun b:Nat×Nat×Nat=>⟨.ret (.ref b.1),[],n3 b.1 b.2.1 b.2.2 v_field pl (a 35) (.ref (a 44)) [.ref t.addr],[]⟩) (fun _=>True):=by
  rcases root_rc a t ht with ⟨D,op,pl',K,x,r,hp⟩ | ⟨D,op,pl',K,r,hp⟩
  · refine Ct.perm (perm_w (w_ty a) hp) ?_;refine ct_start (tx:=tx0) (ro:=([(t.addr,instO 39 D),(D,nodD op pl' (a 30) K (.ref x))]++w_ty a)) (sup:=r) hP tx0_ok (by decide) fun A' s R zs ta N C U D' hR=>?_;refine sg C 4000 o_fo_rc_n_1 ?_;intro _;have K_1:=sK s R C trId [(t.addr,instO 39 D),(D,nodD op pl' (a 30) K (.ref x))] r (isd_own hP a t hp) [] [0,1] U;refine K_1 ?_;intro _ _ _ _ N_1 _ _ _ C_1 tr_1 su_1 _ _ _;have U_1:=su_1 _ U;refine sg C_1 4000 o_fo_rc_q_2 ?_;intro _;exact finishC (Pd:=fun _=>True) tr_1 D' hR ((N_1+24),(N_1+23),(N_1+22)) _ [] [24,23,22] (by kernel_rfl) (by kernel_rfl) rfl (by kernel_rfl) (by kernel_rfl) rfl Sup.nil (fun _ h=>nomatch h) rfl trivial
  · refine Ct.perm (perm_w (w_ty a) hp) ?_;refine ct_start (tx:=tx0) (ro:=([(t.addr,instO 39 D),(D,nodD op pl' (a 30) K .none)]++w_ty a)) (sup:=r) hP tx0_ok (by decide) fun A' s R zs ta N C U D' hR=>?_;refine sg C 4000 o_fo_rc_n_1 ?_;intro _;have K_1:=sK s R C trId [(t.addr,instO 39 D),(D,nodD op pl' (a 30) K .none)] r (isd_own hP a t hp) [] [0,1] U;refine K_1 ?_;intro _ _ _ _ N_1 _ _ _ C_1 tr_1 su_1 _ _ _;have U_1:=su_1 _ U;refine sg C_1 4000 o_fo_rc_q_2 ?_;intro _;exact finishC (Pd:=fun _=>True) tr_1 D' hR ((N_1+24),(N_1+23),(N_1+22)) _ [] [24,23,22] (by kernel_rfl) (by kernel_rfl) rfl (by kernel_rfl) (by kernel_rfl) rfl Sup.nil (fun _ h=>nomatch h) rfl trivial
theorem fo_pt_q {w:World} {b1 b2 b3:Bool} (hP:Rows w b1 b2 b3) (a:Nat->Nat) (t:NT) (ht:t.ty = .pt) (pl:Nat):Ct w 200 200 (.call (.ref 99) ⟨[.ref (a 6),.ref (a 2),.ref t.addr,.str v_q 0,.int (Int.ofNat pl) 0],[]⟩) [] ((w_ty a++t.flat a)) (fun b:Nat×Nat×Nat×Nat×Nat×Nat=>⟨.ret (.ref b.1),[],n3 b.1 b.2.1 b.2.2.1 v_field pl (a 35) (.ref (a 44)) [.ref b.2.2.2.1]++n3 b.2.2.2.1 b.2.2.2.2.1 b.2.2.2.2.2 v_deref pl (a 30) .none [.ref t.addr],[]⟩) (fun _=>True):=by
  obtain ⟨D,op,pl',K,x,r,hp⟩:=root_pt a t ht
  · refine Ct.perm (perm_w (w_ty a) hp) ?_;refine ct_start (tx:=tx0) (ro:=([(t.addr,instO 39 D),(D,nodD op pl' (a 35) K (.ref x))]++w_ty a)) (sup:=r) hP tx0_ok (by decide) fun A' s R zs ta N C U D' hR=>?_;refine sg C 4000 o_fo_pt_n_1 ?_;intro _;have K_1:=sK s R C trId [(t.addr,instO 39 D),(D,nodD op pl' (a 35) K (.ref x))] r (isd_own hP a t hp) [] [0,1] U;refine K_1 ?_;intro _ _ _ _ N_1 _ _ _ C_1 tr_1 su_1 _ _ _;have U_1:=su_1 _ U;refine sg C_1 4000 o_fo_pt_n_2 ?_;intro _;have K_2:=sK s R C_1 tr_1 (n3 (N_1+22) (N_1+21) (N_1+20) v_deref pl (a 30) .none [.ref t.addr]++[(t.addr,instO 39 D),(D,nodD op pl' (a 35) K (.ref x))]) r (isd_drf_own hP a t (N_1+22) (N_1+21) (N_1+20) pl hp) [] [22,21,20,0,1] U_1;refine K_2 ?_;intro _ _ _ _ N_2 _ _ _ C_2 tr_2 su_2 _ _ _;have U_2:=su_2 _ U_1;refine sg C_2 4000 o_fo_pt_q_3 ?_;intro _;exact finishC (Pd:=fun _=>True) tr_2 D' hR ((N_2+28),(N_2+27),(N_2+26),(N_1+22),(N_1+21),(N_1+20)) _ [] [28,27,26,22,21,20] (by kernel_rfl) (by kernel_rfl) rfl (by kernel_rfl) (by kernel_rfl) rfl Sup.nil (fun _ h=>nomatch h) rfl trivial
theorem do_pt {w:World} {b1 b2 b3:Bool} (hP:Rows w b1 b2 b3) (a:Nat->Nat) (t:NT) (ht:t.ty = .pt) (pl:Nat):Ct w 200 200 (.call (.ref 106) ⟨[.ref (a 6),.ref (a 2),.ref t.addr,.int (Int.ofNat pl) 0],[]⟩) [] ((w_ty a++t.flat a)) (fun b:Nat×Nat×Nat=>⟨.ret (.ref b.1),[],n3 b.1 b.2.1 b.2.2 v_deref pl (a 30) .none [.ref t.addr],[]⟩) (fun _=>True):=by
  obtain ⟨D,op,pl',K,x,r,hp⟩:=root_pt a t ht
  · refine Ct.perm (perm_w (w_ty a) hp) ?_;refine ct_start (tx:=tx0) (ro:=([(t.addr,instO 39 D),(D,nodD op pl' (a 35) K (.ref x))]++w_ty a)) (sup:=r) hP tx0_ok (by decide) fun A' s R zs ta N C U D' hR=>?_;refine sg C 4000 o_do_pt_1 ?_;intro _;have K_1:=sK s R C trId [(t.addr,instO 39 D),(D,nodD op pl' (a 35) K (.ref x))] r (isd_own hP a t hp) [] [0,1] U;refine K_1 ?_;intro _ _ _ _ N_1 _ _ _ C_1 tr_1 su_1 _ _ _;have U_1:=su_1 _ U;refine sg C_1 4000 o_do_pt_2 ?_;intro _;exact finishC (Pd:=fun _=>True) tr_1 D' hR ((N_1+22),(N_1+21),(N_1+20)) _ [] [22,21,20] (by kernel_rfl) (by kernel_rfl) rfl (by kernel_rfl) (by kernel_rfl) rfl Sup.nil (fun _ h=>nomatch h) rfl trivial
noncomputable def grdLoop (P:Params) (L:Nat):Code:=(callC (go (EE P false false false tx0) 100 [1,0,1,1,1,1,1,1,1] (X0 (.call (.ref 113) ⟨[.ref 0,.ref 0],[]⟩) .nil 0 L 0)).t).getD (.builtin "" ⟨[],[]⟩)
noncomputable def GrdC (w:World) (a:Nat->Nat) (L X:Nat) (t:NT):Prop:=Ct w 100 60 (grdLoop w.params L) [(L,frameO [(k_node,.ref X),(k_t,.ref (a 35)),(k_inner,.ref t.addr)])] (t.flat a) (fun _:Unit=>⟨.next,[frameO [(k_node,.ref X),(k_t,.ref (a 35)),(k_inner,.ref t.under)]],[],[]⟩) (fun _=>True)
theorem grd_end_var {w:World} {b1 b2 b3:Bool} (hP:Rows w b1 b2 b3) (a:Nat->Nat) (L X:Nat) (A D K:Nat) (p:Bool) (vo vod:Nat):GrdC w a L X (.var A D K p vo vod):=by
  refine ct_start (tx:=tx0) (ro:=[(A,instO 39 D),(D,nodD v_var 1 (tyA a (match p with | true=>.pt | false=>.rc)) K (.ref vo))]) hP tx0_ok (by decide) fun A' s R zs ta N C U D' hR=>?_
  refine sg C 4000 o_grd_end_1 ?_;intro _;exact finishC (Pd:=fun _=>True) trId D' hR () [] [] [] (by kernel_rfl) (by kernel_rfl) rfl (by kernel_rfl) rfl rfl Sup.nil (fun _ h=>nomatch h) rfl trivial
theorem grd_end_fld {w:World} {b1 b2 b3:Bool} (hP:Rows w b1 b2 b3) (a:Nat->Nat) (L X:Nat) (A D K pl:Nat) (f:Fld) (kid:NT):GrdC w a L X (.fld A D K pl f kid):=by
  refine ct_start (tx:=tx0) (ro:=[(A,instO 39 D),(D,nodD v_field pl (tyA a f.ty) K (.ref (fldA a f)))]) hP tx0_ok (by decide) fun A' s R zs ta N C U D' hR=>?_;refine sg C 4000 o_grd_end_1 ?_;intro _;exact finishC (Pd:=fun _=>True) trId D' hR () [] [] [] (by kernel_rfl) (by kernel_rfl) rfl (by kernel_rfl) rfl rfl Sup.nil (fun _ h=>nomatch h) rfl trivial
theorem grd_end_drf {w:World} {b1 b2 b3:Bool} (hP:Rows w b1 b2 b3) (a:Nat->Nat) (L X:Nat) (A D K pl:Nat) (kid:NT):GrdC w a L X (.drf A D K pl kid):=by
  refine ct_start (tx:=tx0) (ro:=[(A,instO 39 D),(D,nodD v_deref pl (a 30) K .none)]) hP tx0_ok (by decide) fun A' s R zs ta N C U D' hR=>?_;refine sg C 4000 o_grd_end_1 ?_;intro _;exact finishC (Pd:=fun _=>True) trId D' hR () [] [] [] (by kernel_rfl) (by kernel_rfl) rfl (by kernel_rfl) rfl rfl Sup.nil (fun _ h=>nomatch h) rfl trivial
theorem grd_end_idx {w:World} {b1 b2 b3:Bool} (hP:Rows w b1 b2 b3) (a:Nat->Nat) (L X:Nat) (A D K pl:Nat) (two:Bool) (v CA CD CK cpl:Nat) (kid:NT):GrdC w a L X (.idx A D K pl two v CA CD CK cpl kid):=by
  refine ct_start (tx:=tx0) (ro:=[(A,instO 39 D),(D,nodD v_index pl (tyA a (match two with | true=>.pa | false=>.it)) K .none)]) hP tx0_ok (by decide) fun A' s R zs ta N C U D' hR=>?_
  refine sg C 4000 o_grd_end_1 ?_;intro _;exact finishC (Pd:=fun _=>True) trId D' hR () [] [] [] (by kernel_rfl) (by kernel_rfl) rfl (by kernel_rfl) rfl rfl Sup.nil (fun _ h=>nomatch h) rfl trivial
theorem grd_turn {w:World} {b1 b2 b3:Bool} (hP:Rows w b1 b2 b3) (a:Nat->Nat) (L X:Nat) (A D K pl:Nat) (kid:NT) (K':GrdC w a L X kid):GrdC w a L X (.grd A D K pl kid):=by
  refine ct_start (tx:=tx0) (ro:=[(A,instO 39 D),(D,nodD v_guard pl (a 35) K (.ref (a 35))),(K,listO [.ref kid.addr])]) (sup:=kid.flat a) hP tx0_ok (by decide) fun A' s R zs ta N C U D' hR=>?_;refine sg C 4000 o_grd_turn_1 ?_;intro _;exact tailC C (l2:=[]) (l3:=kid.flat a) K' [0] [] (by kernel_rfl) (by kernel_rfl) (by kernel_rfl) rfl (by decide) rfl rfl U trId D' hR fun b zu zn h' su fs pd=>⟨(),[],[],[],rfl,by kernel_rfl,rfl,by kernel_rfl,rfl,rfl,Sup.nil,(fun _ h=>nomatch h),rfl,trivial⟩
theorem grd_loop {w:World} {b1 b2 b3:Bool} (hP:Rows w b1 b2 b3) (a:Nat->Nat) (L X:Nat):∀ t:NT,GrdC w a L X t
  | .var A D K p vo vod=>grd_end_var hP a L X A D K p vo vod
  | .fld A D K pl f kid=>grd_end_fld hP a L X A D K pl f kid
  | .drf A D K pl kid=>grd_end_drf hP a L X A D K pl kid
  | .grd A D K pl kid=>grd_turn hP a L X A D K pl kid (grd_loop hP a L X kid)
  | .idx A D K pl two v CA CD CK cpl kid=>grd_end_idx hP a L X A D K pl two v CA CD CK cpl kid
theorem go_pt {w:World} {b1 b2 b3:Bool} (hP:Rows w b1 b2 b3) (a:Nat->Nat) (t:NT) (ht:t.ty = .pt) (pl:Nat):Ct w 200 200 (.call (.ref 120) ⟨[.ref (a 6),.ref (a 2),.ref t.addr,.ref (a 35),.int (Int.ofNat pl) 0],[]⟩) [] ((w_ty a++t.flat a)) (fun b:Nat×Nat×Nat=>⟨.ret (.ref b.1),[],n3 b.1 b.2.1 b.2.2 v_guard pl (a 35) (.ref (a 35)) [.ref t.addr],[]⟩) (fun _=>True):=by
  obtain ⟨D,op,pl',K,x,r,hp⟩:=root_pt a t ht
  · refine Ct.perm (perm_w (w_ty a) hp) ?_;refine ct_start (tx:=tx0) (ro:=([(t.addr,instO 39 D),(D,nodD op pl' (a 35) K (.ref x))]++w_ty a)) (sup:=r) hP tx0_ok (by decide) fun A' s R zs ta N C U D' hR=>?_;refine sg C 4000 o_go_pt_1 ?_;intro _;have K_1:=sK s R C trId [(t.addr,instO 39 D),(D,nodD op pl' (a 35) K (.ref x))] r (Ct.perm hp (grd_loop hP a (N+20) t.addr t)) [20] [0,1] U;refine K_1 ?_;intro _ _ _ _ _ _ _ _ C_1 tr_1 su_1 _ _ _;have U_1:=su_1 _ U;refine sg C_1 4000 o_go_pt_2 ?_;intro _;have K_2:=sK s R C_1 tr_1 [(t.addr,instO 39 D),(D,nodD op pl' (a 35) K (.ref x))] r (isd_own hP a t hp) [] [0,1] U_1;refine K_2 ?_;intro _ _ _ _ N_2 _ _ _ C_2 tr_2 su_2 _ _ _;have U_2:=su_2 _ U_1;refine sg C_2 4000 o_go_pt_3 ?_;intro _;exact finishC (Pd:=fun _=>True) tr_2 D' hR ((N_2+27),(N_2+26),(N_2+25)) _ [] [27,26,25] (by kernel_rfl) (by kernel_rfl) rfl (by kernel_rfl) (by kernel_rfl) rfl Sup.nil (fun _ h=>nomatch h) rfl trivial
theorem io_th_0 {w:World} {b1 b2 b3:Bool} (hP:Rows w b1 b2 b3) (a:Nat->Nat) (t:NT) (ht:t.ty = .th) (pl:Nat) (CA CD CK cpl:Nat):Ct w 200 200 (.call (.ref 85) ⟨[.ref (a 6),.ref (a 2),.ref t.addr,.ref CA,.int (Int.ofNat pl) 0],[]⟩) [] ([(CA,instO 39 CD),(CD,nodD v_const cpl (a 15) CK (.int 0 0))]++(w_ty a++t.flat a)) (fun b:Nat×Nat×Nat=>⟨.ret (.ref b.1),[],n3 b.1 b.2.1 b.2.2 v_index pl (a 25) .none [.ref t.addr,.ref CA],[]⟩) (fun _=>True):=by
  obtain ⟨D,op,pl',K,x,r,hp⟩:=root_th a t ht
  · refine Ct.perm (List.Perm.append_left _ (perm_w (w_ty a) hp)) (Ct.cast (List.append_assoc _ _ _) ?_);refine ct_start (tx:=tx0) (ro:=([(CA,instO 39 CD),(CD,nodD v_const cpl (a 15) CK (.int 0 0))]++([(t.addr,instO 39 D),(D,nodD op pl' (a 20) K (.ref x))]++w_ty a))) (sup:=r) hP tx0_ok (by decide) fun A' s R zs ta N C U D' hR=>?_;refine sg C 4000 o_io_th_0_1 ?_;intro _;have K_1:=sK s R C trId [(t.addr,instO 39 D),(D,nodD op pl' (a 20) K (.ref x))] r (isd_own hP a t hp) [] [2,3] U;refine K_1 ?_;intro _ _ _ _ N_1 _ _ _ C_1 tr_1 su_1 _ _ _;have U_1:=su_1 _ U;refine sg C_1 4000 o_io_th_0_2 ?_;intro _;exact finishC (Pd:=fun _=>True) tr_1 D' hR ((N_1+25),(N_1+24),(N_1+23)) _ [] [25,24,23] (by kernel_rfl) (by kernel_rfl) rfl (by kernel_rfl) (by kernel_rfl) rfl Sup.nil (fun _ h=>nomatch h) rfl trivial
theorem io_th_1 {w:World} {b1 b2 b3:Bool} (hP:Rows w b1 b2 b3) (a:Nat->Nat) (t:NT) (ht:t.ty = .th) (pl:Nat) (CA CD CK cpl:Nat):Ct w 200 200 (.call (.ref 85) ⟨[.ref (a 6),.ref (a 2),.ref t.addr,.ref CA,.int (Int.ofNat pl) 0],[]⟩) [] ([(CA,instO 39 CD),(CD,nodD v_const cpl (a 15) CK (.int 1 0))]++(w_ty a++t.flat a)) (fun b:Nat×Nat×Nat=>⟨.ret (.ref b.1),[],n3 b.1 b.2.1 b.2.2 v_index pl (a 25) .none [.ref t.addr,.ref CA],[]⟩) (fun _=>True):=by
  obtain ⟨D,op,pl',K,x,r,hp⟩:=root_th a t ht
  · refine Ct.perm (List.Perm.append_left _ (perm_w (w_ty a) hp)) (Ct.cast (List.append_assoc _ _ _) ?_);refine ct_start (tx:=tx0) (ro:=([(CA,instO 39 CD),(CD,nodD v_const cpl (a 15) CK (.int 1 0))]++([(t.addr,instO 39 D),(D,nodD op pl' (a 20) K (.ref x))]++w_ty a))) (sup:=r) hP tx0_ok (by decide) fun A' s R zs ta N C U D' hR=>?_;refine sg C 4000 o_io_th_0_1 ?_;intro _;have K_1:=sK s R C trId [(t.addr,instO 39 D),(D,nodD op pl' (a 20) K (.ref x))] r (isd_own hP a t hp) [] [2,3] U;refine K_1 ?_;intro _ _ _ _ N_1 _ _ _ C_1 tr_1 su_1 _ _ _;have U_1:=su_1 _ U;refine sg C_1 4000 o_io_th_0_2 ?_;intro _;exact finishC (Pd:=fun _=>True) tr_1 D' hR ((N_1+25),(N_1+24),(N_1+23)) _ [] [25,24,23] (by kernel_rfl) (by kernel_rfl) rfl (by kernel_rfl) (by kernel_rfl) rfl Sup.nil (fun _ h=>nomatch h) rfl trivial
theorem io_pa_0 {w:World} {b1 b2 b3:Bool} (hP:Rows w b1 b2 b3) (a:Nat->Nat) (t:NT) (ht:t.ty = .pa) (pl:Nat) (CA CD CK cpl:Nat):Ct w 200 200 (.call (.ref 85) ⟨[.ref (a 6),.ref (a 2),.ref t.addr,.ref CA,.int (Int.ofNat pl) 0],[]⟩) [] ([(CA,instO 39 CD),(CD,nodD v_const cpl (a 15) CK (.int 0 0))]++(w_ty a++t.flat a)) (fun b:Nat×Nat×Nat=>⟨.ret (.ref b.1),[],n3 b.1 b.2.1 b.2.2 v_index pl (a 15) .none [.ref t.addr,.ref CA],[]⟩) (fun _=>True):=by
  obtain ⟨D,op,pl',K,r,hp⟩:=root_pa a t ht
  · refine Ct.perm (List.Perm.append_left _ (perm_w (w_ty a) hp)) (Ct.cast (List.append_assoc _ _ _) ?_);refine ct_start (tx:=tx0) (ro:=([(CA,instO 39 CD),(CD,nodD v_const cpl (a 15) CK (.int 0 0))]++([(t.addr,instO 39 D),(D,nodD op pl' (a 25) K .none)]++w_ty a))) (sup:=r) hP tx0_ok (by decide) fun A' s R zs ta N C U D' hR=>?_;refine sg C 4000 o_io_pa_0_1 ?_;intro _;have K_1:=sK s R C trId [(t.addr,instO 39 D),(D,nodD op pl' (a 25) K .none)] r (isd_own hP a t hp) [] [2,3] U;refine K_1 ?_;intro _ _ _ _ N_1 _ _ _ C_1 tr_1 su_1 _ _ _;have U_1:=su_1 _ U;refine sg C_1 4000 o_io_pa_0_2 ?_;intro _;exact finishC (Pd:=fun _=>True) tr_1 D' hR ((N_1+25),(N_1+24),(N_1+23)) _ [] [25,24,23] (by kernel_rfl) (by kernel_rfl) rfl (by kernel_rfl) (by kernel_rfl) rfl Sup.nil (fun _ h=>nomatch h) rfl trivial
theorem io_pa_1 {w:World} {b1 b2 b3:Bool} (hP:Rows w b1 b2 b3) (a:Nat->Nat) (t:NT) (ht:t.ty = .pa) (pl:Nat) (CA CD CK cpl:Nat):Ct w 200 200 (.call (.ref 85) ⟨[.ref (a 6),.ref (a 2),.ref t.addr,.ref CA,.int (Int.ofNat pl) 0],[]⟩) [] ([(CA,instO 39 CD),(CD,nodD v_const cpl (a 15) CK (.int 1 0))]++(w_ty a++t.flat a)) (fun b:Nat×Nat×Nat=>⟨.ret (.ref b.1),[],n3 b.1 b.2.1 b.2.2 v_index pl (a 15) .none [.ref t.addr,.ref CA],[]⟩) (fun _=>True):=by
  obtain ⟨D,op,pl',K,r,hp⟩:=root_pa a t ht
  · refine Ct.perm (List.Perm.append_left _ (perm_w (w_ty a) hp)) (Ct.cast (List.append_assoc _ _ _) ?_);refine ct_start (tx:=tx0) (ro:=([(CA,instO 39 CD),(CD,nodD v_const cpl (a 15) CK (.int 1 0))]++([(t.addr,instO 39 D),(D,nodD op pl' (a 25) K .none)]++w_ty a))) (sup:=r) hP tx0_ok (by decide) fun A' s R zs ta N C U D' hR=>?_;refine sg C 4000 o_io_pa_0_1 ?_;intro _;have K_1:=sK s R C trId [(t.addr,instO 39 D),(D,nodD op pl' (a 25) K .none)] r (isd_own hP a t hp) [] [2,3] U;refine K_1 ?_;intro _ _ _ _ N_1 _ _ _ C_1 tr_1 su_1 _ _ _;have U_1:=su_1 _ U;refine sg C_1 4000 o_io_pa_0_2 ?_;intro _;exact finishC (Pd:=fun _=>True) tr_1 D' hR ((N_1+25),(N_1+24),(N_1+23)) _ [] [25,24,23] (by kernel_rfl) (by kernel_rfl) rfl (by kernel_rfl) (by kernel_rfl) rfl Sup.nil (fun _ h=>nomatch h) rfl trivial
inductive Sl
  | f (x:Fld) | h | g | i (v:Bool) | ij (u v:Bool)
noncomputable def dig:Bool->Nat
  | false=>48
  | true=>49
noncomputable def bn:Bool->Nat
  | false=>0
  | true=>1
noncomputable def Fld.ch:Fld->Nat
  | .n=>110
  | .m=>109
  | .q=>113
noncomputable def Sl.txt:Sl->List Nat
  | .f x=>[46,x.ch]
  | .h=>[94,32]
  | .g=>[40,80,41]
  | .i v=>[91,dig v,93]
  | .ij u v=>[91,dig u,44,32,dig v,93]
noncomputable def txts:List Sl->List Nat
  | []=>[]
  | s::l=>s.txt++txts l
noncomputable def tailT:List Nat:=[32,58,61,32,55]
noncomputable def stepTy:Ty->Sl->Option Ty
  | .rc,.f x=>some x.ty
  | .pt,.f x=>some x.ty
  | .pt,.h=>some .rc
  | .pt,.g=>some .pt
  | .th,.i _=>some .pa
  | .th,.ij _ _=>some .it
  | .pa,.i _=>some .it
  | _,_=>none
noncomputable def fits:Ty->List Sl->Bool
  | _,[]=>true
  | t,s::l=>match stepTy t s with
    | some t'=>fits t' l
    | none=>false
noncomputable def kindOf:List Sl->Str
  | []=>v_assign
  | .f _::_=>v_dot
  | .h::_=>v_hat
  | .g::_=>v_lpar
  | .i _::_=>v_lbr
  | .ij _ _::_=>v_lbr
noncomputable def adv:List Sl->Nat
  | []=>3
  | _=>1
noncomputable def off:List Sl->Nat
  | []=>1
  | _=>0
inductive Sh
  | var (p:Bool)
  | fld (pl:Nat) (f:Fld) (kid:Sh)
  | drf (pl:Nat) (kid:Sh)
  | grd (pl:Nat) (kid:Sh)
  | idx (pl:Nat) (two:Bool) (v cpl:Nat) (kid:Sh)
noncomputable def Sh.ty:Sh->Ty
  | .var p=>match p with
    | true=>.pt
    | false=>.rc
  | .fld _ f _=>f.ty
  | .drf ..=>.rc
  | .grd ..=>.pt
  | .idx _ two ..=>match two with
    | true=>.pa
    | false=>.it
noncomputable def NT.sh:NT->Sh
  | .var _ _ _ p _ _=>.var p
  | .fld _ _ _ pl f kid=>.fld pl f kid.sh
  | .drf _ _ _ pl kid=>.drf pl kid.sh
  | .grd _ _ _ pl kid=>.grd pl kid.sh
  | .idx _ _ _ pl two v _ _ _ cpl kid=>.idx pl two v cpl kid.sh
theorem NT.sh_ty:∀ t:NT,t.sh.ty=t.ty
  | .var ..=>rfl
  | .fld ..=>rfl
  | .drf ..=>rfl
  | .grd ..=>rfl
  | .idx ..=>rfl
noncomputable def isPt:Ty->Bool
  | .pt=>true
  | _=>false
noncomputable def isTh:Ty->Bool
  | .th=>true
  | _=>false
noncomputable def growS (t:Sh) (s:Sl) (P:Nat):Sh:=match s with
  | .f x=>match isPt t.ty with
    | true=>.fld P x (.drf P t)
    | false=>.fld P x t
  | .h=>.drf P t
  | .g=>.grd P t
  | .i v=>.idx P (isTh t.ty) (bn v) (P+1) t
  | .ij u v=>.idx P false (bn v) (P+4) (.idx P true (bn u) (P+1) t)
noncomputable def grow:Sh->List Sl->Nat->Sh
  | t,[],_=>t
  | t,s::l,P=>grow (growS t s P) l (P+s.txt.length)
noncomputable def kk:List Sl->Nat->Nat
  | [],k=>k
  | .g::l,k=>kk l k
  | .f _::l,k=>kk l (k+1)
  | .h::l,k=>kk l (k+1)
  | .i _::l,k=>kk l (k+1)
  | .ij _ _::l,k=>kk l (k+1)
noncomputable def endP:List Sl->Nat->Nat
  | [],P=>P
  | s::l,P=>endP l (P+s.txt.length)
inductive Fr
  | f0 | f1 (p:Nat) | f2 (p nm:Nat)
noncomputable def selFr (a:Nat->Nat):Fr->Nat->Obj
  | .f0,n=>frameO [(k_rd,.ref (a 4)),(k_node,.ref n),(k_expression,.ref 648)]
  | .f1 p,n=>frameO [(k_rd,.ref (a 4)),(k_node,.ref n),(k_expression,.ref 648),(k_place,.int (Int.ofNat p) 0)]
  | .f2 p nm,n=>frameO [(k_rd,.ref (a 4)),(k_node,.ref n),(k_expression,.ref 648),(k_place,.int (Int.ofNat p) 0),(k_name,.ref nm)]
noncomputable def selLoop (P:Params) (L:Nat):Code:=(callC (go (EE P false false false tx0) 100 [1,0,1,1,1,1,1,1] (X0 (.call (.ref 134) ⟨[.ref 0,.ref 0,.ref 0],[]⟩) .nil 0 L 0)).t).getD (.builtin "" ⟨[],[]⟩)
structure SB where
  t:NT
  fr:Fr
  ta:Nat
  td:Nat
  all:List (Nat×Obj)
noncomputable def tokO (ta td:Nat) (kind:Str) (p:Nat):List (Nat×Obj):=[(ta,instO 200 td),(td,tokD kind (.str v_empty 0) p)]
noncomputable def TokFin (ss:List Sl) (P ta td tab tdb:Nat) (allb ns junk:List (Nat×Obj)):Prop:=match ss with
  | []=>tab=ta∧tdb=td∧ns=[]
  | _::_=>allb.Perm ((tokO tab tdb v_assign (endP ss P+1)++ns)++junk)
noncomputable def SelC (w:World) (a:Nat->Nat) (S:Str) (L:Nat) (fr:Fr) (k:Nat) (ss:List Sl) (P ta td:Nat) (t:NT):Prop:=
  Ct w 400 400 (selLoop w.params L) [(L,selFr a fr t.addr),(a 5,rdD a k ta),(a 1,scD S (a 2) (a 3) (P+adv ss))]
    ((w_sc a++tokO ta td (kindOf ss) (P+off ss)++w_rd a)++(w_ty a++t.flat a))
    (fun b:SB=>⟨.ret (.ref b.t.addr),[selFr a b.fr b.t.addr,rdD a (kk ss k) b.ta,scD S (a 2) (a 3) (endP ss P+3)],[],b.all⟩)
    (fun b=>b.t.sh=grow t.sh ss P∧∃ ns junk,(b.t.flat a).Perm (ns++t.flat a)∧TokFin ss P ta td b.ta b.td b.all ns junk)
noncomputable def At (S:Str) (P:Nat) (l:List Nat):Prop:=∃ pre,S.cps.toList=pre++l∧pre.length=P
theorem At.drop {S:Str} {P:Nat} {x y:List Nat} (h:At S P (x++y)):At S (P+x.length) y:=by
  obtain ⟨pre,e,n⟩:=h;exact ⟨pre++x,by rw [e,List.append_assoc],by rw [List.length_append,n]⟩
theorem At.tx {S:Str} {P:Nat} {win rest:List Nat} (h:At S P (win++rest)) (hl:win.length<=100):TxOk ⟨S,P,win⟩:=by
  obtain ⟨pre,e,n⟩:=h;exact ⟨⟨pre,rest,e,n⟩,Nat.le_trans hl (by decide)⟩
theorem rest_cons (ss:List Sl):∃ c r,txts ss++tailT=c::r:=by
  cases ss with
  | nil=>exact ⟨_,_,rfl⟩
  | cons s l=>cases s <;> exact ⟨_,_,rfl⟩
section
variable {w:World} {b1 b2 b3:Bool} (hP:Rows w b1 b2 b3) (a:Nat->Nat) (S:Str)
include hP
theorem next_take0 {ss:List Sl} {P:Nat} (h:At S P (txts ss++tailT)):TakeCt w a S P (P+adv ss) (kindOf ss) (.str v_empty 0) (P+off ss):=by
  cases ss with
  | nil=>exact take_as_0 hP a S P 32 (h.tx (win:=[32,58,61,32]) (rest:=[55]) (Nat.le_of_ble_eq_true rfl))
  | cons s l =>
    obtain ⟨c,r,e⟩:=rest_cons l;have h':At S P (s.txt++(c::r)):=by
      rw [<- e,<- List.append_assoc]; exact h
    cases s with
    | f x =>
      cases x
      · exact take_dn_0 hP a S P c (h'.tx (win:=[46,110,c]) (rest:=r) (Nat.le_of_ble_eq_true rfl))
      · exact take_dm_0 hP a S P c (h'.tx (win:=[46,109,c]) (rest:=r) (Nat.le_of_ble_eq_true rfl))
      · exact take_dq_0 hP a S P c (h'.tx (win:=[46,113,c]) (rest:=r) (Nat.le_of_ble_eq_true rfl))
    | h=>exact take_hat_0 hP a S P c (h'.tx (win:=[94,32,c]) (rest:=r) (Nat.le_of_ble_eq_true rfl))
    | g=>exact take_lp_0 hP a S P 41 (h'.tx (win:=[40,80,41]) (rest:=c::r) (Nat.le_of_ble_eq_true rfl))
    | i v =>
      cases v
      · exact take_lb0_0 hP a S P 93 (h'.tx (win:=[91,48,93]) (rest:=c::r) (Nat.le_of_ble_eq_true rfl))
      · exact take_lb1_0 hP a S P 93 (h'.tx (win:=[91,49,93]) (rest:=c::r) (Nat.le_of_ble_eq_true rfl))
    | ij u v =>
      cases u
      · exact take_lb0_0 hP a S P 44 (h'.tx (win:=[91,48,44]) (rest:=32::dig v::93::c::r) (Nat.le_of_ble_eq_true rfl))
      · exact take_lb1_0 hP a S P 44 (h'.tx (win:=[91,49,44]) (rest:=32::dig v::93::c::r) (Nat.le_of_ble_eq_true rfl))
theorem next_take1 {ss:List Sl} {p:Nat} (hf:fits .rc ss=true) (h:At S p (32::(txts ss++tailT))):TakeCt w a S p (p+1+adv ss) (kindOf ss) (.str v_empty 0) (p+1+off ss):=by
  cases ss with
  | nil=>exact take_as_1 hP a S p 32 (h.tx (win:=[32,32,58,61,32]) (rest:=[55]) (Nat.le_of_ble_eq_true rfl))
  | cons s l =>
    obtain ⟨c,r,e⟩:=rest_cons l;have h':At S p (32::(s.txt++(c::r))):=by
      rw [<- e,<- List.append_assoc]; exact h
    cases s with
    | f x =>
      cases x
      · exact take_dn_1 hP a S p c (h'.tx (win:=[32,46,110,c]) (rest:=r) (Nat.le_of_ble_eq_true rfl))
      · exact take_dm_1 hP a S p c (h'.tx (win:=[32,46,109,c]) (rest:=r) (Nat.le_of_ble_eq_true rfl))
      · exact take_dq_1 hP a S p c (h'.tx (win:=[32,46,113,c]) (rest:=r) (Nat.le_of_ble_eq_true rfl))
    | _=>cases hf
theorem id_take {ss:List Sl} {q:Nat} (x:Fld) (hf:fits x.ty ss=true) (h:At S q (x.ch::(txts ss++tailT))):TakeCt w a S q (q+1) v_ident (.str x.name 0) (q+0):=by
  cases ss with
  | nil =>
    cases x
    · exact take_id_ns hP a S q 58 (h.tx (win:=[110,32,58]) (rest:=[61,32,55]) (Nat.le_of_ble_eq_true rfl))
    · exact take_id_ms hP a S q 58 (h.tx (win:=[109,32,58]) (rest:=[61,32,55]) (Nat.le_of_ble_eq_true rfl))
    · exact take_id_qs hP a S q 58 (h.tx (win:=[113,32,58]) (rest:=[61,32,55]) (Nat.le_of_ble_eq_true rfl))
  | cons s l =>
    have h':At S q (x.ch::(s.txt++(txts l++tailT))):=by
      rw [<- List.append_assoc]; exact h
    cases x with
    | n=>cases s <;> cases hf
    | m =>
      cases s with
      | i v=>exact take_id_ml hP a S q (dig v) (h'.tx (win:=[109,91,dig v]) (rest:=93::(txts l++tailT)) (Nat.le_of_ble_eq_true rfl))
      | ij u v=>exact take_id_ml hP a S q (dig u) (h'.tx (win:=[109,91,dig u]) (rest:=44::32::dig v::93::(txts l++tailT)) (Nat.le_of_ble_eq_true rfl))
      | _=>cases hf
    | q =>
      cases s with
      | f y=>exact take_id_qd hP a S q y.ch (h'.tx (win:=[113,46,y.ch]) (rest:=txts l++tailT) (Nat.le_of_ble_eq_true rfl))
      | h=>exact take_id_qh hP a S q 32 (h'.tx (win:=[113,94,32]) (rest:=txts l++tailT) (Nat.le_of_ble_eq_true rfl))
      | g=>exact take_id_qp hP a S q 80 (h'.tx (win:=[113,40,80]) (rest:=41::(txts l++tailT)) (Nat.le_of_ble_eq_true rfl))
      | _=>cases hf
theorem rb_take {ss:List Sl} {q:Nat} {T:Ty} (hT:T = .pa∨T = .it) (hf:fits T ss=true) (h:At S q (93::(txts ss++tailT))):TakeCt w a S q (q+1) v_rbr (.str v_empty 0) (q+0):=by
  cases ss with
  | nil=>exact take_rb_s hP a S q 58 (h.tx (win:=[93,32,58]) (rest:=[61,32,55]) (Nat.le_of_ble_eq_true rfl))
  | cons s l =>
    have h':At S q (93::(s.txt++(txts l++tailT))):=by
      rw [<- List.append_assoc]; exact h
    rcases hT with rfl | rfl
    · cases s with
      | i v=>exact take_rb_l hP a S q (dig v) (h'.tx (win:=[93,91,dig v]) (rest:=93::(txts l++tailT)) (Nat.le_of_ble_eq_true rfl))
      | _=>cases hf
    · cases s <;> cases hf
theorem rp_take {ss:List Sl} {q:Nat} (hf:fits .pt ss=true) (h:At S q (41::(txts ss++tailT))):TakeCt w a S q (q+1) v_rpar (.str v_empty 0) (q+0):=by
  cases ss with
  | nil=>exact take_rp_s hP a S q 58 (h.tx (win:=[41,32,58]) (rest:=[61,32,55]) (Nat.le_of_ble_eq_true rfl))
  | cons s l =>
    have h':At S q (41::(s.txt++(txts l++tailT))):=by
      rw [<- List.append_assoc]; exact h
    cases s with
    | f y=>exact take_rp_d hP a S q y.ch (h'.tx (win:=[41,46,y.ch]) (rest:=txts l++tailT) (Nat.le_of_ble_eq_true rfl))
    | h=>exact take_rp_h hP a S q 32 (h'.tx (win:=[41,94,32]) (rest:=txts l++tailT) (Nat.le_of_ble_eq_true rfl))
    | g=>exact take_rp_p hP a S q 80 (h'.tx (win:=[41,40,80]) (rest:=41::(txts l++tailT)) (Nat.le_of_ble_eq_true rfl))
    | _=>cases hf
theorem numr_take {r:List Nat} {q:Nat} (v:Bool) (h:At S q (dig v::93::r)) {c:Nat} {r':List Nat} (e:r=c::r'):TakeCt w a S q (q+1) v_int (.int (Int.ofNat (bn v)) 0) (q+0):=by
  subst e;cases v
  · exact take_num0r hP a S q c (h.tx (win:=[48,93,c]) (rest:=r') (Nat.le_of_ble_eq_true rfl))
  · exact take_num1r hP a S q c (h.tx (win:=[49,93,c]) (rest:=r') (Nat.le_of_ble_eq_true rfl))
theorem numc_take {r:List Nat} {q:Nat} (v:Bool) (h:At S q (dig v::44::32::r)):TakeCt w a S q (q+1) v_int (.int (Int.ofNat (bn v)) 0) (q+0):=by
  cases v
  · exact take_num0c hP a S q 32 (h.tx (win:=[48,44,32]) (rest:=r) (Nat.le_of_ble_eq_true rfl))
  · exact take_num1c hP a S q 32 (h.tx (win:=[49,44,32]) (rest:=r) (Nat.le_of_ble_eq_true rfl))
theorem snum_take {r:List Nat} {q:Nat} (v:Bool) (h:At S q (32::dig v::93::r)) {c:Nat} {r':List Nat} (e:r=c::r'):TakeCt w a S q (q+2) v_int (.int (Int.ofNat (bn v)) 0) (q+1):=by
  subst e;cases v
  · exact take_snum0 hP a S q c (h.tx (win:=[32,48,93,c]) (rest:=r') (Nat.le_of_ble_eq_true rfl))
  · exact take_snum1 hP a S q c (h.tx (win:=[32,49,93,c]) (rest:=r') (Nat.le_of_ble_eq_true rfl))
theorem cm_take {r:List Nat} {q:Nat} {c:Nat} (h:At S q (44::32::c::r)):TakeCt w a S q (q+1) v_comma (.str v_empty 0) (q+0):=take_cm hP a S q c (h.tx (win:=[44,32,c]) (rest:=r) (Nat.le_of_ble_eq_true rfl))
theorem idP_take {r:List Nat} {q:Nat} {c:Nat} (h:At S q (80::41::c::r)):TakeCt w a S q (q+1) v_ident (.str v_P 0) (q+0):=take_id_P hP a S q c (h.tx (win:=[80,41,c]) (rest:=r) (Nat.le_of_ble_eq_true rfl))
end
theorem perm_t {α:Type} {A B n o r f:List α} (h:f.Perm (o++r)):(A++(B++(n++f))).Perm ((A++(B++(n++o)))++r):=by
  rw [List.append_assoc,List.append_assoc,List.append_assoc];exact List.Perm.append_left _ (List.Perm.append_left _ (List.Perm.append_left _ h))
theorem finD {s:Shared} {pre ro:List (Nat×Obj)} {zs:Nat->Nz} {β:Type} {out:β->Pst} {Pd:β->Prop} {fr:Nat->Prop} {h₀:Heap} {T:LT} {r:Flow} (b:β) (ln l3:List (Nat×Obj)) (jn:List Nat) (h1:r=(out b).r) (h2:lookA T (upto 0 pre.length)=someA (zipU pre (out b).upd)) (h3:(out b).upd.length=pre.length)
    (h4:lookO T (upto pre.length ro.length)=lookO (mkT zs 0 .nil (pre++ro)) (upto pre.length ro.length)) (h5:lookA T jn=someA ln) (h6:jnOk (pre++ro).length jn=true) (h7:Sup fr h₀ l3) (h8:∀ a ∈ keys l3,s.heap.objs.size<=a) (h9:(out b).news++(out b).more=ln++l3) (h10:Pd b) :
    FinD s pre ro zs out Pd fr h₀ T r:=⟨b,ln,l3,jn,h1,h2,h3,h4,h5,h6,h7,h8,h9,h10⟩
theorem fo_rc_all {w:World} {b1 b2 b3:Bool} (hP:Rows w b1 b2 b3) (a:Nat->Nat) (t:NT) (ht:t.ty = .rc) (pl:Nat) (x:Fld):Ct w 200 200 (.call (.ref 99) ⟨[.ref (a 6),.ref (a 2),.ref t.addr,.str x.name 0,.int (Int.ofNat pl) 0],[]⟩) [] (w_ty a++t.flat a) (fun b:Nat×Nat×Nat=>⟨.ret (.ref b.1),[],n3 b.1 b.2.1 b.2.2 v_field pl (tyA a x.ty) (.ref (fldA a x)) [.ref t.addr],[]⟩) (fun _=>True):=by
  cases x
  · exact fo_rc_n hP a t ht pl
  · exact fo_rc_m hP a t ht pl
  · exact fo_rc_q hP a t ht pl
theorem fo_pt_all {w:World} {b1 b2 b3:Bool} (hP:Rows w b1 b2 b3) (a:Nat->Nat) (t:NT) (ht:t.ty = .pt) (pl:Nat) (x:Fld):Ct w 200 200 (.call (.ref 99) ⟨[.ref (a 6),.ref (a 2),.ref t.addr,.str x.name 0,.int (Int.ofNat pl) 0],[]⟩) [] (w_ty a++t.flat a) (fun b:Nat×Nat×Nat×Nat×Nat×Nat=>⟨.ret (.ref b.1),[],n3 b.1 b.2.1 b.2.2.1 v_field pl (tyA a x.ty) (.ref (fldA a x)) [.ref b.2.2.2.1]++n3 b.2.2.2.1 b.2.2.2.2.1 b.2.2.2.2.2 v_deref pl (a 30) .none [.ref t.addr],[]⟩) (fun _=>True):=by
  cases x
  · exact fo_pt_n hP a t ht pl
  · exact fo_pt_m hP a t ht pl
  · exact fo_pt_q hP a t ht pl
noncomputable def o_part_1:List Nat:=[1,0,3,3,3,2,0,0,0,0,2,0,0,0,2,2,0,1,0,2,0,0,0,0,2,0,2,0,2,0,0,0,2,0,1,1,1,3,2,0,0,0,0,2,0,0,0,2,2,0,1,0,0]
noncomputable def o_sel_f_rc_0_1:List Nat:=[0,1,8,0,0,0,0,8,0,0,0,8,8,0,2,6,0,0,0,0,6,0,0,0,6,6,0,7,0,1,1,1,8,0,0,0,0,8,0,0,0,8,8,0,2,6,0,0,0,0,6,0,0,0,6,6,0,7,0,38,38]
noncomputable def o_sel_f_rc_0_2:List Nat:=[1,8,0,0,0,8,0,0,0,8,0,0,0,0,8,2,0]
noncomputable def o_sel_f_rc_0_3:List Nat:=[1,8,0,0,0,8,0,0,0,8,0,0,0,0,8,2,0,1,0,39,39,39,39,39,8,0,0,0,0,8,0,0,0,8,8,0,2,6,0,0,0,0,6,0,0,0,6,6,0,7,0,39,0,39,8,0,0,0,8,0,0,0,8,0,0,0,0,8,2,0,1,0,40,40,40,8,0,0,0,0,8,0,0,0,8,8,0,2,40,40,40,8,0,0,0,0,8,0,0,0,8,8,0,2,4,0,0,0,4,0,0,0,4,0,0,0,0,4,3,0]
noncomputable def o_sel_f_rc_0_4:List Nat:=[40,8,0,0,0,0,8,0,8,0,8,0,0,0,8,0,2,2,2,40,0,1,8,0,0,0,8,0,0,0,8,0,0,0,0,8,2,0,1,0,43,43,43,8,0,0,0,8,0,0,0,8,0,0,0,0,8,2,0,1,0,44,44,44,44,44,8,0,0,0,0,8,0,0,0,8,8,0,2,41,0,0,0,0,41,0,0,0,41,41,0,42,0,44,0,43,8,0,0,0,8,0,0,0,8,0,0,0,0,8,2,0,1,0,45,45,45,8,0,0,0,0,8,0,0,0,8,8,0,2,45,45,45,8,0,0,0,0,8,0,0,0,8,8,0,2,4,0,0,0,4,0,0,0,4,0,0,0,0,4,3,0]
noncomputable def o_sel_f_rc_0_5:List Nat:=[45,8,0,0,0,0,8,0,8,0,8,0,0,0,8,0,2,2,2,45,1,1,1,0,1,8,0,0,0,0,8,0,0,0,8,8,0,2,1,8,0,0,0,0,8,0,0,0,8,8,0,2,1,1,41,0,0,0,0,41,0,0,0,41,41,0,42,1,0]
noncomputable def o_sel_f_rc_0_6:List Nat:=[1,1]
noncomputable def o_sel_h_0_3:List Nat:=[1,8,0,0,0,8,0,0,0,8,0,0,0,0,8,2,0,1,0,39,39,39,39,39,8,0,0,0,0,8,0,0,0,8,8,0,2,6,0,0,0,0,6,0,0,0,6,6,0,7,0,39,0,1,8,0,0,0,8,0,0,0,8,0,0,0,0,8,2,0,1,0,40,40,40,40,40,8,0,0,0,0,8,0,0,0,8,8,0,2,6,0,0,0,0,6,0,0,0,6,6,0,7,0,40,0,1,8,0,0,0,8,0,0,0,8,0,0,0,0,8,2,0,1,0,41,41,41,41,41,8,0,0,0,0,8,0,0,0,8,8,0,2,6,0,0,0,0,6,0,0,0,6,6,0,7,0,41,0,41,8,0,0,0,8,0,0,0,8,0,0,0,0,8,2,0,1,0,42,42,42,8,0,0,0,0,8,0,0,0,8,8,0,2,42,42,42,8,0,0,0,0,8,0,0,0,8,8,0,2,4,0,0,0,4,0,0,0,4,0,0,0,0,4,3,0]
noncomputable def o_sel_h_0_4:List Nat:=[42,8,0,0,0,0,8,0,8,0,8,0,0,0,8,0,2,2,2,42,0,0,1,8,0,0,0,0,8,0,0,0,8,8,0,2,1,8,0,0,0,0,8,0,0,0,8,8,0,2,1,1,0]
theorem sel_fin {a:Nat->Nat} {tb t' t:NT} {s:Sl} {ss:List Sl} {P P1 ta0 td0 ta1 td1 tab tdb:Nat} {n allb ns junk:List (Nat×Obj)} (e:t'.flat a=n++t.flat a) (hsh:t'.sh=growS t.sh s P) (hP1:P+s.txt.length=P1) (pd1:tb.sh=grow t'.sh ss P1) (pd2:(tb.flat a).Perm (ns++t'.flat a))
    (pd3:TokFin ss P1 ta1 td1 tab tdb allb ns junk) :
    tb.sh=grow t.sh (s::ss) P∧∃ ns junk,(tb.flat a).Perm (ns++t.flat a)∧TokFin (s::ss) P ta0 td0 tab tdb ((n++tokO ta1 td1 (kindOf ss) (P1+off ss))++allb) ns junk:=by
  subst hP1;have pd4:(tb.flat a).Perm ((ns++n)++t.flat a):=by rw [e] at pd2; rw [List.append_assoc]; exact pd2
  refine ⟨by rw [pd1,hsh]; rfl,ns++n,?_⟩;cases ss with
  | nil =>
    obtain ⟨rfl,rfl,rfl⟩:=pd3;exact ⟨allb,pd4,List.Perm.append_right _ List.perm_append_comm⟩
  | cons x l =>
    refine ⟨tokO ta1 td1 (kindOf (x::l)) (P+s.txt.length+off (x::l))++junk,pd4,?_⟩;refine (List.Perm.append_left _ pd3).trans ?_;simp only [List.append_assoc];refine (List.Perm.append_left _ (NT.perm_mid _ _ _)).trans ?_;refine (NT.perm_mid _ _ _).trans ?_;refine List.Perm.append_left _ ?_;refine (List.Perm.append_left _ (NT.perm_mid _ _ _)).trans ?_;exact NT.perm_mid _ _ _
theorem ct_part {w:World} {b1 b2 b3:Bool} (hP:Rows w b1 b2 b3) (a:Nat->Nat) (ta k:Nat) (hk:k < 7):Ct w 100 60 (.call (.ref 620) ⟨[.ref (a 4)],[]⟩) [(a 5,rdD a k ta)] [(a 4,instO 630 (a 5))] (fun _:Unit=>⟨.ret .none,[rdD a (k+1) ta],[],[]⟩) (fun _=>True):=by
  match k,hk with
  | 0,_ | 1,_ | 2,_ | 3,_ | 4,_ | 5,_ | 6,_ =>
    refine ct_start (tx:=tx0) (ro:=[(a 4,instO 630 (a 5))]) (sup:=[]) hP tx0_ok (by decide) fun A' s R zs ta N C U D' hR=>?_;refine sg C 4000 o_part_1 ?_;intro _;exact finishC (Pd:=fun _=>True) trId D' hR () [] [] [] (by kernel_rfl) (by kernel_rfl) rfl (by kernel_rfl) rfl rfl Sup.nil (fun _ h=>nomatch h) rfl trivial
theorem sel_f_rc_0 {w:World} {b1 b2 b3:Bool} (hP:Rows w b1 b2 b3) (a:Nat->Nat) (S:Str) (L:Nat) (kp:Nat) (hk:kp < 7) (x:Fld) (ss:List Sl) (P ta td:Nat) (t:NT) (ht:t.ty = .rc) (T1:TakeCt w a S (P+1) (P+1+1) v_ident (.str x.name 0) (P+1+0)) (T2:TakeCt w a S (P+2) (P+2+adv ss) (kindOf ss) (.str v_empty 0) (P+2+off ss))
    (IH:∀ fr ta td (t':NT),t'.sh=growS t.sh (.f x) P->SelC w a S L fr (kp+1) ss (P+2) ta td t'):SelC w a S L .f0 kp ((.f x)::ss) P ta td t:=by
  rcases root_rc a t ht with ⟨D,op,pl',K,x',r,hp⟩ | ⟨D,op,pl',K,r,hp⟩
  · refine Ct.perm (List.Perm.append_left _ (perm_w (w_ty a) hp)) (Ct.cast (List.append_assoc _ _ _) ?_);refine ct_start (tx:=tx0) (pre:=[(L,selFr a .f0 t.addr),(a 5,rdD a kp ta),(a 1,scD S (a 2) (a 3) (P+adv ((.f x)::ss)))]) (ro:=((w_sc a++tokO ta td (kindOf ((.f x)::ss)) (P+off ((.f x)::ss))++w_rd a)++([(t.addr,instO 39 D),(D,nodD op pl' (a 30) K (.ref x'))]++w_ty a))) (sup:=r) hP tx0_ok (by decide) fun A' s R zs ta' N C U D' hR=>?_;refine sg C 4000 o_sel_f_rc_0_1 ?_;intro _;have K_1:=sN s R C trId [((N+37),tupO (strsL [(⟨⟨[46]⟩⟩:Str),(⟨⟨[91]⟩⟩:Str),(⟨⟨[94]⟩⟩:Str)]))] (ct_tupin [(⟨⟨[46]⟩⟩:Str),(⟨⟨[91]⟩⟩:Str),(⟨⟨[94]⟩⟩:Str)] (⟨⟨[46]⟩⟩:Str) (N+37)) [] [37];refine K_1 ?_;intro _ _ _ _ _ _ _ _ C_1 tr_1 su_1 _ _ _;have U_1:=su_1 _ U;refine sg C_1 4000 o_sel_f_rc_0_2 ?_;intro _;have K_2:=sN s R C_1 tr_1 [(a 4,instO 630 (a 5))] (ct_part hP a ta kp hk) [1] [7];refine K_2 ?_;intro _ _ _ _ _ _ _ _ C_2 tr_2 su_2 _ _ _;have U_2:=su_2 _ U_1;refine sg C_2 4000 o_sel_f_rc_0_3 ?_;intro _;have K_3:=sN s R C_2 tr_2 (w_sc a) (T1) [2] [3,4];refine K_3 ?_;intro b_3 _ _ _ _ _ _ _ C_3 tr_3 su_3 _ _ _;have U_3:=su_3 _ U_2;refine sg C_3 4000 o_sel_f_rc_0_4 ?_;intro _;have K_4:=sN s R C_3 tr_3 (w_sc a) (T2) [2] [3,4];refine K_4 ?_;intro b_4 _ _ _ _ _ _ _ C_4 tr_4 su_4 _ _ _;have U_4:=su_4 _ U_3;refine sg C_4 4000 o_sel_f_rc_0_5 ?_;intro _;have K_5:=sK s R C_4 tr_4 ([(t.addr,instO 39 D),(D,nodD op pl' (a 30) K (.ref x'))]++w_ty a) r (Ct.perm (perm_w (w_ty a) hp).symm (fo_rc_all hP a t ht P x)) [] [18,19,20,21,22,23,24,25,26,27,28,29,30,31,32,33,34,35,36] U_4;refine K_5 ?_;intro b_5 _ _ _ _ _ _ _ C_5 tr_5 su_5 _ _ _;have U_5:=su_5 _ U_4;refine sg C_5 4000 o_sel_f_rc_0_6 ?_;intro _;have K_t:=tK C_5 ((w_sc a++tokO b_4.1 b_4.2 (kindOf ss) ((P+2)+off ss)++w_rd a)++(w_ty a++((n3 b_5.1 b_5.2.1 b_5.2.2 v_field P (tyA a x.ty) (.ref (fldA a x)) [.ref t.addr])++[(t.addr,instO 39 D),(D,nodD op pl' (a 30) K (.ref x'))]))) r (Ct.perm (perm_t (n:=(n3 b_5.1 b_5.2.1 b_5.2.2 v_field P (tyA a x.ty) (.ref (fldA a x)) [.ref t.addr])) (f:=t.flat a) hp) (IH (.f2 P b_3.1) b_4.1 b_4.2 (.fld b_5.1 b_5.2.1 b_5.2.2 P x t) (by show Sh.fld P x t.sh=_; rw [growS,NT.sh_ty,ht]; rfl))) [0,1,2] [3,4,45,46,7,8,9,10,11,12,13,14,15,16,17,20,21,22,23,24,25,26,27,28,29,30,31,32,33,34,35,36,47,48,49,18,19] U_5 tr_5 D' hR;refine K_t ?_;rintro ⟨tb,frb,tab,tdb,allb⟩ zu zn h' su fs ⟨pd1,ns,junk,pd2,pd3⟩;have F:=sel_fin (ta0:=ta) (td0:=td) (t':=(.fld b_5.1 b_5.2.1 b_5.2.2 P x t)) (t:=t) (s:=(.f x)) (P:=P) (n:=(n3 b_5.1 b_5.2.1 b_5.2.2 v_field P (tyA a x.ty) (.ref (fldA a x)) [.ref t.addr])) rfl (by show Sh.fld P x t.sh=_; rw [growS,NT.sh_ty,ht]; rfl) rfl pd1 pd2 pd3;cases frb with
    | f0=>(refine finD ⟨tb,.f0,tab,tdb,((n3 b_5.1 b_5.2.1 b_5.2.2 v_field P (tyA a x.ty) (.ref (fldA a x)) [.ref t.addr])++tokO b_4.1 b_4.2 (kindOf ss) ((P+2)+off ss))++allb⟩ ((n3 b_5.1 b_5.2.1 b_5.2.2 v_field P (tyA a x.ty) (.ref (fldA a x)) [.ref t.addr])++tokO b_4.1 b_4.2 (kindOf ss) ((P+2)+off ss)) allb [47,48,49,45,46] rfl ?_ rfl ?_ ?_ ?_ (su [] Sup.nil).left fs rfl F; all_goals kernel_rfl)
    | f1 q1=>(refine finD ⟨tb,.f1 q1,tab,tdb,((n3 b_5.1 b_5.2.1 b_5.2.2 v_field P (tyA a x.ty) (.ref (fldA a x)) [.ref t.addr])++tokO b_4.1 b_4.2 (kindOf ss) ((P+2)+off ss))++allb⟩ ((n3 b_5.1 b_5.2.1 b_5.2.2 v_field P (tyA a x.ty) (.ref (fldA a x)) [.ref t.addr])++tokO b_4.1 b_4.2 (kindOf ss) ((P+2)+off ss)) allb [47,48,49,45,46] rfl ?_ rfl ?_ ?_ ?_ (su [] Sup.nil).left fs rfl F; all_goals kernel_rfl)
    | f2 q1 q2=>(refine finD ⟨tb,.f2 q1 q2,tab,tdb,((n3 b_5.1 b_5.2.1 b_5.2.2 v_field P (tyA a x.ty) (.ref (fldA a x)) [.ref t.addr])++tokO b_4.1 b_4.2 (kindOf ss) ((P+2)+off ss))++allb⟩ ((n3 b_5.1 b_5.2.1 b_5.2.2 v_field P (tyA a x.ty) (.ref (fldA a x)) [.ref t.addr])++tokO b_4.1 b_4.2 (kindOf ss) ((P+2)+off ss)) allb [47,48,49,45,46] rfl ?_ rfl ?_ ?_ ?_ (su [] Sup.nil).left fs rfl F; all_goals kernel_rfl)
  · refine Ct.perm (List.Perm.append_left _ (perm_w (w_ty a) hp)) (Ct.cast (List.append_assoc _ _ _) ?_);refine ct_start (tx:=tx0) (pre:=[(L,selFr a .f0 t.addr),(a 5,rdD a kp ta),(a 1,scD S (a 2) (a 3) (P+adv ((.f x)::ss)))]) (ro:=((w_sc a++tokO ta td (kindOf ((.f x)::ss)) (P+off ((.f x)::ss))++w_rd a)++([(t.addr,instO 39 D),(D,nodD op pl' (a 30) K .none)]++w_ty a))) (sup:=r) hP tx0_ok (by decide) fun A' s R zs ta' N C U D' hR=>?_;refine sg C 4000 o_sel_f_rc_0_1 ?_;intro _;have K_1:=sN s R C trId [((N+37),tupO (strsL [(⟨⟨[46]⟩⟩:Str),(⟨⟨[91]⟩⟩:Str),(⟨⟨[94]⟩⟩:Str)]))] (ct_tupin [(⟨⟨[46]⟩⟩:Str),(⟨⟨[91]⟩⟩:Str),(⟨⟨[94]⟩⟩:Str)] (⟨⟨[46]⟩⟩:Str) (N+37)) [] [37];refine K_1 ?_;intro _ _ _ _ _ _ _ _ C_1 tr_1 su_1 _ _ _;have U_1:=su_1 _ U;refine sg C_1 4000 o_sel_f_rc_0_2 ?_;intro _;have K_2:=sN s R C_1 tr_1 [(a 4,instO 630 (a 5))] (ct_part hP a ta kp hk) [1] [7];refine K_2 ?_;intro _ _ _ _ _ _ _ _ C_2 tr_2 su_2 _ _ _;have U_2:=su_2 _ U_1;refine sg C_2 4000 o_sel_f_rc_0_3 ?_;intro _;have K_3:=sN s R C_2 tr_2 (w_sc a) (T1) [2] [3,4];refine K_3 ?_;intro b_3 _ _ _ _ _ _ _ C_3 tr_3 su_3 _ _ _;have U_3:=su_3 _ U_2;refine sg C_3 4000 o_sel_f_rc_0_4 ?_;intro _;have K_4:=sN s R C_3 tr_3 (w_sc a) (T2) [2] [3,4];refine K_4 ?_;intro b_4 _ _ _ _ _ _ _ C_4 tr_4 su_4 _ _ _;have U_4:=su_4 _ U_3;refine sg C_4 4000 o_sel_f_rc_0_5 ?_;intro _;have K_5:=sK s R C_4 tr_4 ([(t.addr,instO 39 D),(D,nodD op pl' (a 30) K .none)]++w_ty a) r (Ct.perm (perm_w (w_ty a) hp).symm (fo_rc_all hP a t ht P x)) [] [18,19,20,21,22,23,24,25,26,27,28,29,30,31,32,33,34,35,36] U_4;refine K_5 ?_;intro b_5 _ _ _ _ _ _ _ C_5 tr_5 su_5 _ _ _;have U_5:=su_5 _ U_4;refine sg C_5 4000 o_sel_f_rc_0_6 ?_;intro _;have K_t:=tK C_5 ((w_sc a++tokO b_4.1 b_4.2 (kindOf ss) ((P+2)+off ss)++w_rd a)++(w_ty a++((n3 b_5.1 b_5.2.1 b_5.2.2 v_field P (tyA a x.ty) (.ref (fldA a x)) [.ref t.addr])++[(t.addr,instO 39 D),(D,nodD op pl' (a 30) K .none)]))) r (Ct.perm (perm_t (n:=(n3 b_5.1 b_5.2.1 b_5.2.2 v_field P (tyA a x.ty) (.ref (fldA a x)) [.ref t.addr])) (f:=t.flat a) hp) (IH (.f2 P b_3.1) b_4.1 b_4.2 (.fld b_5.1 b_5.2.1 b_5.2.2 P x t) (by show Sh.fld P x t.sh=_; rw [growS,NT.sh_ty,ht]; rfl))) [0,1,2] [3,4,45,46,7,8,9,10,11,12,13,14,15,16,17,20,21,22,23,24,25,26,27,28,29,30,31,32,33,34,35,36,47,48,49,18,19] U_5 tr_5 D' hR;refine K_t ?_;rintro ⟨tb,frb,tab,tdb,allb⟩ zu zn h' su fs ⟨pd1,ns,junk,pd2,pd3⟩;have F:=sel_fin (ta0:=ta) (td0:=td) (t':=(.fld b_5.1 b_5.2.1 b_5.2.2 P x t)) (t:=t) (s:=(.f x)) (P:=P) (n:=(n3 b_5.1 b_5.2.1 b_5.2.2 v_field P (tyA a x.ty) (.ref (fldA a x)) [.ref t.addr])) rfl (by show Sh.fld P x t.sh=_; rw [growS,NT.sh_ty,ht]; rfl) rfl pd1 pd2 pd3;cases frb with
    | f0=>(refine finD ⟨tb,.f0,tab,tdb,((n3 b_5.1 b_5.2.1 b_5.2.2 v_field P (tyA a x.ty) (.ref (fldA a x)) [.ref t.addr])++tokO b_4.1 b_4.2 (kindOf ss) ((P+2)+off ss))++allb⟩ ((n3 b_5.1 b_5.2.1 b_5.2.2 v_field P (tyA a x.ty) (.ref (fldA a x)) [.ref t.addr])++tokO b_4.1 b_4.2 (kindOf ss) ((P+2)+off ss)) allb [47,48,49,45,46] rfl ?_ rfl ?_ ?_ ?_ (su [] Sup.nil).left fs rfl F; all_goals kernel_rfl)
    | f1 q1=>(refine finD ⟨tb,.f1 q1,tab,tdb,((n3 b_5.1 b_5.2.1 b_5.2.2 v_field P (tyA a x.ty) (.ref (fldA a x)) [.ref t.addr])++tokO b_4.1 b_4.2 (kindOf ss) ((P+2)+off ss))++allb⟩ ((n3 b_5.1 b_5.2.1 b_5.2.2 v_field P (tyA a x.ty) (.ref (fldA a x)) [.ref t.addr])++tokO b_4.1 b_4.2 (kindOf ss) ((P+2)+off ss)) allb [47,48,49,45,46] rfl ?_ rfl ?_ ?_ ?_ (su [] Sup.nil).left fs rfl F; all_goals kernel_rfl)
    | f2 q1 q2=>(refine finD ⟨tb,.f2 q1 q2,tab,tdb,((n3 b_5.1 b_5.2.1 b_5.2.2 v_field P (tyA a x.ty) (.ref (fldA a x)) [.ref t.addr])++tokO b_4.1 b_4.2 (kindOf ss) ((P+2)+off ss))++allb⟩ ((n3 b_5.1 b_5.2.1 b_5.2.2 v_field P (tyA a x.ty) (.ref (fldA a x)) [.ref t.addr])++tokO b_4.1 b_4.2 (kindOf ss) ((P+2)+off ss)) allb [47,48,49,45,46] rfl ?_ rfl ?_ ?_ ?_ (su [] Sup.nil).left fs rfl F; all_goals kernel_rfl)
theorem sel_f_pt_0 {w:World} {b1 b2 b3:Bool} (hP:Rows w b1 b2 b3) (a:Nat->Nat) (S:Str) (L:Nat) (kp:Nat) (hk:kp < 7) (x:Fld) (ss:List Sl) (P ta td:Nat) (t:NT) (ht:t.ty = .pt) (T1:TakeCt w a S (P+1) (P+1+1) v_ident (.str x.name 0) (P+1+0)) (T2:TakeCt w a S (P+2) (P+2+adv ss) (kindOf ss) (.str v_empty 0) (P+2+off ss))
    (IH:∀ fr ta td (t':NT),t'.sh=growS t.sh (.f x) P->SelC w a S L fr (kp+1) ss (P+2) ta td t'):SelC w a S L .f0 kp ((.f x)::ss) P ta td t:=by
  obtain ⟨D,op,pl',K,x',r,hp⟩:=root_pt a t ht
  · refine Ct.perm (List.Perm.append_left _ (perm_w (w_ty a) hp)) (Ct.cast (List.append_assoc _ _ _) ?_);refine ct_start (tx:=tx0) (pre:=[(L,selFr a .f0 t.addr),(a 5,rdD a kp ta),(a 1,scD S (a 2) (a 3) (P+adv ((.f x)::ss)))]) (ro:=((w_sc a++tokO ta td (kindOf ((.f x)::ss)) (P+off ((.f x)::ss))++w_rd a)++([(t.addr,instO 39 D),(D,nodD op pl' (a 35) K (.ref x'))]++w_ty a))) (sup:=r) hP tx0_ok (by decide) fun A' s R zs ta' N C U D' hR=>?_;refine sg C 4000 o_sel_f_rc_0_1 ?_;intro _;have K_1:=sN s R C trId [((N+37),tupO (strsL [(⟨⟨[46]⟩⟩:Str),(⟨⟨[91]⟩⟩:Str),(⟨⟨[94]⟩⟩:Str)]))] (ct_tupin [(⟨⟨[46]⟩⟩:Str),(⟨⟨[91]⟩⟩:Str),(⟨⟨[94]⟩⟩:Str)] (⟨⟨[46]⟩⟩:Str) (N+37)) [] [37];refine K_1 ?_;intro _ _ _ _ _ _ _ _ C_1 tr_1 su_1 _ _ _;have U_1:=su_1 _ U;refine sg C_1 4000 o_sel_f_rc_0_2 ?_;intro _;have K_2:=sN s R C_1 tr_1 [(a 4,instO 630 (a 5))] (ct_part hP a ta kp hk) [1] [7];refine K_2 ?_;intro _ _ _ _ _ _ _ _ C_2 tr_2 su_2 _ _ _;have U_2:=su_2 _ U_1;refine sg C_2 4000 o_sel_f_rc_0_3 ?_;intro _;have K_3:=sN s R C_2 tr_2 (w_sc a) (T1) [2] [3,4];refine K_3 ?_;intro b_3 _ _ _ _ _ _ _ C_3 tr_3 su_3 _ _ _;have U_3:=su_3 _ U_2;refine sg C_3 4000 o_sel_f_rc_0_4 ?_;intro _;have K_4:=sN s R C_3 tr_3 (w_sc a) (T2) [2] [3,4];refine K_4 ?_;intro b_4 _ _ _ _ _ _ _ C_4 tr_4 su_4 _ _ _;have U_4:=su_4 _ U_3;refine sg C_4 4000 o_sel_f_rc_0_5 ?_;intro _;have K_5:=sK s R C_4 tr_4 ([(t.addr,instO 39 D),(D,nodD op pl' (a 35) K (.ref x'))]++w_ty a) r (Ct.perm (perm_w (w_ty a) hp).symm (fo_pt_all hP a t ht P x)) [] [18,19,20,21,22,23,24,25,26,27,28,29,30,31,32,33,34,35,36] U_4;refine K_5 ?_;intro b_5 _ _ _ _ _ _ _ C_5 tr_5 su_5 _ _ _;have U_5:=su_5 _ U_4;refine sg C_5 4000 o_sel_f_rc_0_6 ?_;intro _;have K_t:=tK C_5 ((w_sc a++tokO b_4.1 b_4.2 (kindOf ss) ((P+2)+off ss)++w_rd a)++(w_ty a++((n3 b_5.1 b_5.2.1 b_5.2.2.1 v_field P (tyA a x.ty) (.ref (fldA a x)) [.ref b_5.2.2.2.1]++n3 b_5.2.2.2.1 b_5.2.2.2.2.1 b_5.2.2.2.2.2 v_deref P (a 30) .none [.ref t.addr])++[(t.addr,instO 39 D),(D,nodD op pl' (a 35) K (.ref x'))]))) r (Ct.perm (perm_t (n:=(n3 b_5.1 b_5.2.1 b_5.2.2.1 v_field P (tyA a x.ty) (.ref (fldA a x)) [.ref b_5.2.2.2.1]++n3 b_5.2.2.2.1 b_5.2.2.2.2.1 b_5.2.2.2.2.2 v_deref P (a 30) .none [.ref t.addr])) (f:=t.flat a) hp) (IH (.f2 P b_3.1) b_4.1 b_4.2 (.fld b_5.1 b_5.2.1 b_5.2.2.1 P x (.drf b_5.2.2.2.1 b_5.2.2.2.2.1 b_5.2.2.2.2.2 P t)) (by show Sh.fld P x (Sh.drf P t.sh)=_; rw [growS,NT.sh_ty,ht]; rfl))) [0,1,2] [3,4,45,46,7,8,9,10,11,12,13,14,15,16,17,20,21,22,23,24,25,26,27,28,29,30,31,32,33,34,35,36,47,48,49,50,51,52,18,19] U_5 tr_5 D' hR;refine K_t ?_;rintro ⟨tb,frb,tab,tdb,allb⟩ zu zn h' su fs ⟨pd1,ns,junk,pd2,pd3⟩;have F:=sel_fin (ta0:=ta) (td0:=td) (t':=(.fld b_5.1 b_5.2.1 b_5.2.2.1 P x (.drf b_5.2.2.2.1 b_5.2.2.2.2.1 b_5.2.2.2.2.2 P t))) (t:=t) (s:=(.f x)) (P:=P) (n:=(n3 b_5.1 b_5.2.1 b_5.2.2.1 v_field P (tyA a x.ty) (.ref (fldA a x)) [.ref b_5.2.2.2.1]++n3 b_5.2.2.2.1 b_5.2.2.2.2.1 b_5.2.2.2.2.2 v_deref P (a 30) .none [.ref t.addr])) rfl (by show Sh.fld P x (Sh.drf P t.sh)=_; rw [growS,NT.sh_ty,ht]; rfl) rfl pd1 pd2 pd3;cases frb with
    | f0=>(refine finD ⟨tb,.f0,tab,tdb,((n3 b_5.1 b_5.2.1 b_5.2.2.1 v_field P (tyA a x.ty) (.ref (fldA a x)) [.ref b_5.2.2.2.1]++n3 b_5.2.2.2.1 b_5.2.2.2.2.1 b_5.2.2.2.2.2 v_deref P (a 30) .none [.ref t.addr])++tokO b_4.1 b_4.2 (kindOf ss) ((P+2)+off ss))++allb⟩ ((n3 b_5.1 b_5.2.1 b_5.2.2.1 v_field P (tyA a x.ty) (.ref (fldA a x)) [.ref b_5.2.2.2.1]++n3 b_5.2.2.2.1 b_5.2.2.2.2.1 b_5.2.2.2.2.2 v_deref P (a 30) .none [.ref t.addr])++tokO b_4.1 b_4.2 (kindOf ss) ((P+2)+off ss)) allb [47,48,49,50,51,52,45,46] rfl ?_ rfl ?_ ?_ ?_ (su [] Sup.nil).left fs rfl F; all_goals kernel_rfl)
    | f1 q1=>(refine finD ⟨tb,.f1 q1,tab,tdb,((n3 b_5.1 b_5.2.1 b_5.2.2.1 v_field P (tyA a x.ty) (.ref (fldA a x)) [.ref b_5.2.2.2.1]++n3 b_5.2.2.2.1 b_5.2.2.2.2.1 b_5.2.2.2.2.2 v_deref P (a 30) .none [.ref t.addr])++tokO b_4.1 b_4.2 (kindOf ss) ((P+2)+off ss))++allb⟩ ((n3 b_5.1 b_5.2.1 b_5.2.2.1 v_field P (tyA a x.ty) (.ref (fldA a x)) [.ref b_5.2.2.2.1]++n3 b_5.2.2.2.1 b_5.2.2.2.2.1 b_5.2.2.2.2.2 v_deref P (a 30) .none [.ref t.addr])++tokO b_4.1 b_4.2 (kindOf ss) ((P+2)+off ss)) allb [47,48,49,50,51,52,45,46] rfl ?_ rfl ?_ ?_ ?_ (su [] Sup.nil).left fs rfl F; all_goals kernel_rfl)
    | f2 q1 q2=>(refine finD ⟨tb,.f2 q1 q2,tab,tdb,((n3 b_5.1 b_5.2.1 b_5.2.2.1 v_field P (tyA a x.ty) (.ref (fldA a x)) [.ref b_5.2.2.2.1]++n3 b_5.2.2.2.1 b_5.2.2.2.2.1 b_5.2.2.2.2.2 v_deref P (a 30) .none [.ref t.addr])++tokO b_4.1 b_4.2 (kindOf ss) ((P+2)+off ss))++allb⟩ ((n3 b_5.1 b_5.2.1 b_5.2.2.1 v_field P (tyA a x.ty) (.ref (fldA a x)) [.ref b_5.2.2.2.1]++n3 b_5.2.2.2.1 b_5.2.2.2.2.1 b_5.2.2.2.2.2 v_deref P (a 30) .none [.ref t.addr])++tokO b_4.1 b_4.2 (kindOf ss) ((P+2)+off ss)) allb [47,48,49,50,51,52,45,46] rfl ?_ rfl ?_ ?_ ?_ (su [] Sup.nil).left fs rfl F; all_goals kernel_rfl)
theorem sel_h_0 {w:World} {b1 b2 b3:Bool} (hP:Rows w b1 b2 b3) (a:Nat->Nat) (S:Str) (L:Nat) (kp:Nat) (hk:kp < 7) (ss:List Sl) (P ta td:Nat) (t:NT) (ht:t.ty = .pt) (T1:TakeCt w a S (P+1) (P+1+1+adv ss) (kindOf ss) (.str v_empty 0) (P+1+1+off ss))
    (IH:∀ fr ta td (t':NT),t'.sh=growS t.sh .h P->SelC w a S L fr (kp+1) ss (P+2) ta td t'):SelC w a S L .f0 kp (.h::ss) P ta td t:=by
  obtain ⟨D,op,pl',K,x',r,hp⟩:=root_pt a t ht
  · refine Ct.perm (List.Perm.append_left _ (perm_w (w_ty a) hp)) (Ct.cast (List.append_assoc _ _ _) ?_);refine ct_start (tx:=tx0) (pre:=[(L,selFr a .f0 t.addr),(a 5,rdD a kp ta),(a 1,scD S (a 2) (a 3) (P+adv (.h::ss)))]) (ro:=((w_sc a++tokO ta td (kindOf (.h::ss)) (P+off (.h::ss))++w_rd a)++([(t.addr,instO 39 D),(D,nodD op pl' (a 35) K (.ref x'))]++w_ty a))) (sup:=r) hP tx0_ok (by decide) fun A' s R zs ta' N C U D' hR=>?_;refine sg C 4000 o_sel_f_rc_0_1 ?_;intro _;have K_1:=sN s R C trId [((N+37),tupO (strsL [(⟨⟨[46]⟩⟩:Str),(⟨⟨[91]⟩⟩:Str),(⟨⟨[94]⟩⟩:Str)]))] (ct_tupin [(⟨⟨[46]⟩⟩:Str),(⟨⟨[91]⟩⟩:Str),(⟨⟨[94]⟩⟩:Str)] (⟨⟨[94]⟩⟩:Str) (N+37)) [] [37];refine K_1 ?_;intro _ _ _ _ _ _ _ _ C_1 tr_1 su_1 _ _ _;have U_1:=su_1 _ U;refine sg C_1 4000 o_sel_f_rc_0_2 ?_;intro _;have K_2:=sN s R C_1 tr_1 [(a 4,instO 630 (a 5))] (ct_part hP a ta kp hk) [1] [7];refine K_2 ?_;intro _ _ _ _ _ _ _ _ C_2 tr_2 su_2 _ _ _;have U_2:=su_2 _ U_1;refine sg C_2 4000 o_sel_h_0_3 ?_;intro _;have K_3:=sN s R C_2 tr_2 (w_sc a) (T1) [2] [3,4];refine K_3 ?_;intro b_3 _ _ _ _ _ _ _ C_3 tr_3 su_3 _ _ _;have U_3:=su_3 _ U_2;refine sg C_3 4000 o_sel_h_0_4 ?_;intro _;have K_4:=sK s R C_3 tr_3 ([(t.addr,instO 39 D),(D,nodD op pl' (a 35) K (.ref x'))]++w_ty a) r (Ct.perm (perm_w (w_ty a) hp).symm (do_pt hP a t ht P)) [] [18,19,20,21,22,23,24,25,26,27,28,29,30,31,32,33,34,35,36] U_3;refine K_4 ?_;intro b_4 _ _ _ _ _ _ _ C_4 tr_4 su_4 _ _ _;have U_4:=su_4 _ U_3;refine sg C_4 4000 o_sel_f_rc_0_6 ?_;intro _;have K_t:=tK C_4 ((w_sc a++tokO b_3.1 b_3.2 (kindOf ss) ((P+2)+off ss)++w_rd a)++(w_ty a++((n3 b_4.1 b_4.2.1 b_4.2.2 v_deref P (a 30) .none [.ref t.addr])++[(t.addr,instO 39 D),(D,nodD op pl' (a 35) K (.ref x'))]))) r (Ct.perm (perm_t (n:=(n3 b_4.1 b_4.2.1 b_4.2.2 v_deref P (a 30) .none [.ref t.addr])) (f:=t.flat a) hp) (IH (.f1 P) b_3.1 b_3.2 (.drf b_4.1 b_4.2.1 b_4.2.2 P t) rfl)) [0,1,2] [3,4,42,43,7,8,9,10,11,12,13,14,15,16,17,20,21,22,23,24,25,26,27,28,29,30,31,32,33,34,35,36,44,45,46,18,19] U_4 tr_4 D' hR;refine K_t ?_;rintro ⟨tb,frb,tab,tdb,allb⟩ zu zn h' su fs ⟨pd1,ns,junk,pd2,pd3⟩;have F:=sel_fin (ta0:=ta) (td0:=td) (t':=(.drf b_4.1 b_4.2.1 b_4.2.2 P t)) (t:=t) (s:=.h) (P:=P) (n:=(n3 b_4.1 b_4.2.1 b_4.2.2 v_deref P (a 30) .none [.ref t.addr])) rfl rfl rfl pd1 pd2 pd3;cases frb with
    | f0=>(refine finD ⟨tb,.f0,tab,tdb,((n3 b_4.1 b_4.2.1 b_4.2.2 v_deref P (a 30) .none [.ref t.addr])++tokO b_3.1 b_3.2 (kindOf ss) ((P+2)+off ss))++allb⟩ ((n3 b_4.1 b_4.2.1 b_4.2.2 v_deref P (a 30) .none [.ref t.addr])++tokO b_3.1 b_3.2 (kindOf ss) ((P+2)+off ss)) allb [44,45,46,42,43] rfl ?_ rfl ?_ ?_ ?_ (su [] Sup.nil).left fs rfl F; all_goals kernel_rfl)
    | f1 q1=>(refine finD ⟨tb,.f1 q1,tab,tdb,((n3 b_4.1 b_4.2.1 b_4.2.2 v_deref P (a 30) .none [.ref t.addr])++tokO b_3.1 b_3.2 (kindOf ss) ((P+2)+off ss))++allb⟩ ((n3 b_4.1 b_4.2.1 b_4.2.2 v_deref P (a 30) .none [.ref t.addr])++tokO b_3.1 b_3.2 (kindOf ss) ((P+2)+off ss)) allb [44,45,46,42,43] rfl ?_ rfl ?_ ?_ ?_ (su [] Sup.nil).left fs rfl F; all_goals kernel_rfl)
    | f2 q1 q2=>(refine finD ⟨tb,.f2 q1 q2,tab,tdb,((n3 b_4.1 b_4.2.1 b_4.2.2 v_deref P (a 30) .none [.ref t.addr])++tokO b_3.1 b_3.2 (kindOf ss) ((P+2)+off ss))++allb⟩ ((n3 b_4.1 b_4.2.1 b_4.2.2 v_deref P (a 30) .none [.ref t.addr])++tokO b_3.1 b_3.2 (kindOf ss) ((P+2)+off ss)) allb [44,45,46,42,43] rfl ?_ rfl ?_ ?_ ?_ (su [] Sup.nil).left fs rfl F; all_goals kernel_rfl)
theorem sel_f_rc_1 {w:World} {b1 b2 b3:Bool} (hP:Rows w b1 b2 b3) (a:Nat->Nat) (S:Str) (L:Nat) (p0:Nat) (kp:Nat) (hk:kp < 7) (x:Fld) (ss:List Sl) (P ta td:Nat) (t:NT) (ht:t.ty = .rc) (T1:TakeCt w a S (P+1) (P+1+1) v_ident (.str x.name 0) (P+1+0)) (T2:TakeCt w a S (P+2) (P+2+adv ss) (kindOf ss) (.str v_empty 0) (P+2+off ss))
    (IH:∀ fr ta td (t':NT),t'.sh=growS t.sh (.f x) P->SelC w a S L fr (kp+1) ss (P+2) ta td t'):SelC w a S L (.f1 p0) kp ((.f x)::ss) P ta td t:=by
  rcases root_rc a t ht with ⟨D,op,pl',K,x',r,hp⟩ | ⟨D,op,pl',K,r,hp⟩
  · refine Ct.perm (List.Perm.append_left _ (perm_w (w_ty a) hp)) (Ct.cast (List.append_assoc _ _ _) ?_);refine ct_start (tx:=tx0) (pre:=[(L,selFr a (.f1 p0) t.addr),(a 5,rdD a kp ta),(a 1,scD S (a 2) (a 3) (P+adv ((.f x)::ss)))]) (ro:=((w_sc a++tokO ta td (kindOf ((.f x)::ss)) (P+off ((.f x)::ss))++w_rd a)++([(t.addr,instO 39 D),(D,nodD op pl' (a 30) K (.ref x'))]++w_ty a))) (sup:=r) hP tx0_ok (by decide) fun A' s R zs ta' N C U D' hR=>?_;refine sg C 4000 o_sel_f_rc_0_1 ?_;intro _;have K_1:=sN s R C trId [((N+37),tupO (strsL [(⟨⟨[46]⟩⟩:Str),(⟨⟨[91]⟩⟩:Str),(⟨⟨[94]⟩⟩:Str)]))] (ct_tupin [(⟨⟨[46]⟩⟩:Str),(⟨⟨[91]⟩⟩:Str),(⟨⟨[94]⟩⟩:Str)] (⟨⟨[46]⟩⟩:Str) (N+37)) [] [37];refine K_1 ?_;intro _ _ _ _ _ _ _ _ C_1 tr_1 su_1 _ _ _;have U_1:=su_1 _ U;refine sg C_1 4000 o_sel_f_rc_0_2 ?_;intro _;have K_2:=sN s R C_1 tr_1 [(a 4,instO 630 (a 5))] (ct_part hP a ta kp hk) [1] [7];refine K_2 ?_;intro _ _ _ _ _ _ _ _ C_2 tr_2 su_2 _ _ _;have U_2:=su_2 _ U_1;refine sg C_2 4000 o_sel_f_rc_0_3 ?_;intro _;have K_3:=sN s R C_2 tr_2 (w_sc a) (T1) [2] [3,4];refine K_3 ?_;intro b_3 _ _ _ _ _ _ _ C_3 tr_3 su_3 _ _ _;have U_3:=su_3 _ U_2;refine sg C_3 4000 o_sel_f_rc_0_4 ?_;intro _;have K_4:=sN s R C_3 tr_3 (w_sc a) (T2) [2] [3,4];refine K_4 ?_;intro b_4 _ _ _ _ _ _ _ C_4 tr_4 su_4 _ _ _;have U_4:=su_4 _ U_3;refine sg C_4 4000 o_sel_f_rc_0_5 ?_;intro _;have K_5:=sK s R C_4 tr_4 ([(t.addr,instO 39 D),(D,nodD op pl' (a 30) K (.ref x'))]++w_ty a) r (Ct.perm (perm_w (w_ty a) hp).symm (fo_rc_all hP a t ht P x)) [] [18,19,20,21,22,23,24,25,26,27,28,29,30,31,32,33,34,35,36] U_4;refine K_5 ?_;intro b_5 _ _ _ _ _ _ _ C_5 tr_5 su_5 _ _ _;have U_5:=su_5 _ U_4;refine sg C_5 4000 o_sel_f_rc_0_6 ?_;intro _;have K_t:=tK C_5 ((w_sc a++tokO b_4.1 b_4.2 (kindOf ss) ((P+2)+off ss)++w_rd a)++(w_ty a++((n3 b_5.1 b_5.2.1 b_5.2.2 v_field P (tyA a x.ty) (.ref (fldA a x)) [.ref t.addr])++[(t.addr,instO 39 D),(D,nodD op pl' (a 30) K (.ref x'))]))) r (Ct.perm (perm_t (n:=(n3 b_5.1 b_5.2.1 b_5.2.2 v_field P (tyA a x.ty) (.ref (fldA a x)) [.ref t.addr])) (f:=t.flat a) hp) (IH (.f2 P b_3.1) b_4.1 b_4.2 (.fld b_5.1 b_5.2.1 b_5.2.2 P x t) (by show Sh.fld P x t.sh=_; rw [growS,NT.sh_ty,ht]; rfl))) [0,1,2] [3,4,45,46,7,8,9,10,11,12,13,14,15,16,17,20,21,22,23,24,25,26,27,28,29,30,31,32,33,34,35,36,47,48,49,18,19] U_5 tr_5 D' hR;refine K_t ?_;rintro ⟨tb,frb,tab,tdb,allb⟩ zu zn h' su fs ⟨pd1,ns,junk,pd2,pd3⟩;have F:=sel_fin (ta0:=ta) (td0:=td) (t':=(.fld b_5.1 b_5.2.1 b_5.2.2 P x t)) (t:=t) (s:=(.f x)) (P:=P) (n:=(n3 b_5.1 b_5.2.1 b_5.2.2 v_field P (tyA a x.ty) (.ref (fldA a x)) [.ref t.addr])) rfl (by show Sh.fld P x t.sh=_; rw [growS,NT.sh_ty,ht]; rfl) rfl pd1 pd2 pd3;cases frb with
    | f0=>(refine finD ⟨tb,.f0,tab,tdb,((n3 b_5.1 b_5.2.1 b_5.2.2 v_field P (tyA a x.ty) (.ref (fldA a x)) [.ref t.addr])++tokO b_4.1 b_4.2 (kindOf ss) ((P+2)+off ss))++allb⟩ ((n3 b_5.1 b_5.2.1 b_5.2.2 v_field P (tyA a x.ty) (.ref (fldA a x)) [.ref t.addr])++tokO b_4.1 b_4.2 (kindOf ss) ((P+2)+off ss)) allb [47,48,49,45,46] rfl ?_ rfl ?_ ?_ ?_ (su [] Sup.nil).left fs rfl F; all_goals kernel_rfl)
    | f1 q1=>(refine finD ⟨tb,.f1 q1,tab,tdb,((n3 b_5.1 b_5.2.1 b_5.2.2 v_field P (tyA a x.ty) (.ref (fldA a x)) [.ref t.addr])++tokO b_4.1 b_4.2 (kindOf ss) ((P+2)+off ss))++allb⟩ ((n3 b_5.1 b_5.2.1 b_5.2.2 v_field P (tyA a x.ty) (.ref (fldA a x)) [.ref t.addr])++tokO b_4.1 b_4.2 (kindOf ss) ((P+2)+off ss)) allb [47,48,49,45,46] rfl ?_ rfl ?_ ?_ ?_ (su [] Sup.nil).left fs rfl F; all_goals kernel_rfl)
    | f2 q1 q2=>(refine finD ⟨tb,.f2 q1 q2,tab,tdb,((n3 b_5.1 b_5.2.1 b_5.2.2 v_field P (tyA a x.ty) (.ref (fldA a x)) [.ref t.addr])++tokO b_4.1 b_4.2 (kindOf ss) ((P+2)+off ss))++allb⟩ ((n3 b_5.1 b_5.2.1 b_5.2.2 v_field P (tyA a x.ty) (.ref (fldA a x)) [.ref t.addr])++tokO b_4.1 b_4.2 (kindOf ss) ((P+2)+off ss)) allb [47,48,49,45,46] rfl ?_ rfl ?_ ?_ ?_ (su [] Sup.nil).left fs rfl F; all_goals kernel_rfl)
  · refine Ct.perm (List.Perm.append_left _ (perm_w (w_ty a) hp)) (Ct.cast (List.append_assoc _ _ _) ?_);refine ct_start (tx:=tx0) (pre:=[(L,selFr a (.f1 p0) t.addr),(a 5,rdD a kp ta),(a 1,scD S (a 2) (a 3) (P+adv ((.f x)::ss)))]) (ro:=((w_sc a++tokO ta td (kindOf ((.f x)::ss)) (P+off ((.f x)::ss))++w_rd a)++([(t.addr,instO 39 D),(D,nodD op pl' (a 30) K .none)]++w_ty a))) (sup:=r) hP tx0_ok (by decide) fun A' s R zs ta' N C U D' hR=>?_;refine sg C 4000 o_sel_f_rc_0_1 ?_;intro _;have K_1:=sN s R C trId [((N+37),tupO (strsL [(⟨⟨[46]⟩⟩:Str),(⟨⟨[91]⟩⟩:Str),(⟨⟨[94]⟩⟩:Str)]))] (ct_tupin [(⟨⟨[46]⟩⟩:Str),(⟨⟨[91]⟩⟩:Str),(⟨⟨[94]⟩⟩:Str)] (⟨⟨[46]⟩⟩:Str) (N+37)) [] [37];refine K_1 ?_;intro _ _ _ _ _ _ _ _ C_1 tr_1 su_1 _ _ _;have U_1:=su_1 _ U;refine sg C_1 4000 o_sel_f_rc_0_2 ?_;intro _;have K_2:=sN s R C_1 tr_1 [(a 4,instO 630 (a 5))] (ct_part hP a ta kp hk) [1] [7];refine K_2 ?_;intro _ _ _ _ _ _ _ _ C_2 tr_2 su_2 _ _ _;have U_2:=su_2 _ U_1;refine sg C_2 4000 o_sel_f_rc_0_3 ?_;intro _;have K_3:=sN s R C_2 tr_2 (w_sc a) (T1) [2] [3,4];refine K_3 ?_;intro b_3 _ _ _ _ _ _ _ C_3 tr_3 su_3 _ _ _;have U_3:=su_3 _ U_2;refine sg C_3 4000 o_sel_f_rc_0_4 ?_;intro _;have K_4:=sN s R C_3 tr_3 (w_sc a) (T2) [2] [3,4];refine K_4 ?_;intro b_4 _ _ _ _ _ _ _ C_4 tr_4 su_4 _ _ _;have U_4:=su_4 _ U_3;refine sg C_4 4000 o_sel_f_rc_0_5 ?_;intro _;have K_5:=sK s R C_4 tr_4 ([(t.addr,instO 39 D),(D,nodD op pl' (a 30) K .none)]++w_ty a) r (Ct.perm (perm_w (w_ty a) hp).symm (fo_rc_all hP a t ht P x)) [] [18,19,20,21,22,23,24,25,26,27,28,29,30,31,32,33,34,35,36] U_4;refine K_5 ?_;intro b_5 _ _ _ _ _ _ _ C_5 tr_5 su_5 _ _ _;have U_5:=su_5 _ U_4;refine sg C_5 4000 o_sel_f_rc_0_6 ?_;intro _;have K_t:=tK C_5 ((w_sc a++tokO b_4.1 b_4.2 (kindOf ss) ((P+2)+off ss)++w_rd a)++(w_ty a++((n3 b_5.1 b_5.2.1 b_5.2.2 v_field P (tyA a x.ty) (.ref (fldA a x)) [.ref t.addr])++[(t.addr,instO 39 D),(D,nodD op pl' (a 30) K .none)]))) r (Ct.perm (perm_t (n:=(n3 b_5.1 b_5.2.1 b_5.2.2 v_field P (tyA a x.ty) (.ref (fldA a x)) [.ref t.addr])) (f:=t.flat a) hp) (IH (.f2 P b_3.1) b_4.1 b_4.2 (.fld b_5.1 b_5.2.1 b_5.2.2 P x t) (by show Sh.fld P x t.sh=_; rw [growS,NT.sh_ty,ht]; rfl))) [0,1,2] [3,4,45,46,7,8,9,10,11,12,13,14,15,16,17,20,21,22,23,24,25,26,27,28,29,30,31,32,33,34,35,36,47,48,49,18,19] U_5 tr_5 D' hR;refine K_t ?_;rintro ⟨tb,frb,tab,tdb,allb⟩ zu zn h' su fs ⟨pd1,ns,junk,pd2,pd3⟩;have F:=sel_fin (ta0:=ta) (td0:=td) (t':=(.fld b_5.1 b_5.2.1 b_5.2.2 P x t)) (t:=t) (s:=(.f x)) (P:=P) (n:=(n3 b_5.1 b_5.2.1 b_5.2.2 v_field P (tyA a x.ty) (.ref (fldA a x)) [.ref t.addr])) rfl (by show Sh.fld P x t.sh=_; rw [growS,NT.sh_ty,ht]; rfl) rfl pd1 pd2 pd3;cases frb with
    | f0=>(refine finD ⟨tb,.f0,tab,tdb,((n3 b_5.1 b_5.2.1 b_5.2.2 v_field P (tyA a x.ty) (.ref (fldA a x)) [.ref t.addr])++tokO b_4.1 b_4.2 (kindOf ss) ((P+2)+off ss))++allb⟩ ((n3 b_5.1 b_5.2.1 b_5.2.2 v_field P (tyA a x.ty) (.ref (fldA a x)) [.ref t.addr])++tokO b_4.1 b_4.2 (kindOf ss) ((P+2)+off ss)) allb [47,48,49,45,46] rfl ?_ rfl ?_ ?_ ?_ (su [] Sup.nil).left fs rfl F; all_goals kernel_rfl)
    | f1 q1=>(refine finD ⟨tb,.f1 q1,tab,tdb,((n3 b_5.1 b_5.2.1 b_5.2.2 v_field P (tyA a x.ty) (.ref (fldA a x)) [.ref t.addr])++tokO b_4.1 b_4.2 (kindOf ss) ((P+2)+off ss))++allb⟩ ((n3 b_5.1 b_5.2.1 b_5.2.2 v_field P (tyA a x.ty) (.ref (fldA a x)) [.ref t.addr])++tokO b_4.1 b_4.2 (kindOf ss) ((P+2)+off ss)) allb [47,48,49,45,46] rfl ?_ rfl ?_ ?_ ?_ (su [] Sup.nil).left fs rfl F; all_goals kernel_rfl)
    | f2 q1 q2=>(refine finD ⟨tb,.f2 q1 q2,tab,tdb,((n3 b_5.1 b_5.2.1 b_5.2.2 v_field P (tyA a x.ty) (.ref (fldA a x)) [.ref t.addr])++tokO b_4.1 b_4.2 (kindOf ss) ((P+2)+off ss))++allb⟩ ((n3 b_5.1 b_5.2.1 b_5.2.2 v_field P (tyA a x.ty) (.ref (fldA a x)) [.ref t.addr])++tokO b_4.1 b_4.2 (kindOf ss) ((P+2)+off ss)) allb [47,48,49,45,46] rfl ?_ rfl ?_ ?_ ?_ (su [] Sup.nil).left fs rfl F; all_goals kernel_rfl)
theorem sel_f_pt_1 {w:World} {b1 b2 b3:Bool} (hP:Rows w b1 b2 b3) (a:Nat->Nat) (S:Str) (L:Nat) (p0:Nat) (kp:Nat) (hk:kp < 7) (x:Fld) (ss:List Sl) (P ta td:Nat) (t:NT) (ht:t.ty = .pt) (T1:TakeCt w a S (P+1) (P+1+1) v_ident (.str x.name 0) (P+1+0)) (T2:TakeCt w a S (P+2) (P+2+adv ss) (kindOf ss) (.str v_empty 0) (P+2+off ss))
    (IH:∀ fr ta td (t':NT),t'.sh=growS t.sh (.f x) P->SelC w a S L fr (kp+1) ss (P+2) ta td t'):SelC w a S L (.f1 p0) kp ((.f x)::ss) P ta td t:=by
  obtain ⟨D,op,pl',K,x',r,hp⟩:=root_pt a t ht
  · refine Ct.perm (List.Perm.append_left _ (perm_w (w_ty a) hp)) (Ct.cast (List.append_assoc _ _ _) ?_);refine ct_start (tx:=tx0) (pre:=[(L,selFr a (.f1 p0) t.addr),(a 5,rdD a kp ta),(a 1,scD S (a 2) (a 3) (P+adv ((.f x)::ss)))]) (ro:=((w_sc a++tokO ta td (kindOf ((.f x)::ss)) (P+off ((.f x)::ss))++w_rd a)++([(t.addr,instO 39 D),(D,nodD op pl' (a 35) K (.ref x'))]++w_ty a))) (sup:=r) hP tx0_ok (by decide) fun A' s R zs ta' N C U D' hR=>?_;refine sg C 4000 o_sel_f_rc_0_1 ?_;intro _;have K_1:=sN s R C trId [((N+37),tupO (strsL [(⟨⟨[46]⟩⟩:Str),(⟨⟨[91]⟩⟩:Str),(⟨⟨[94]⟩⟩:Str)]))] (ct_tupin [(⟨⟨[46]⟩⟩:Str),(⟨⟨[91]⟩⟩:Str),(⟨⟨[94]⟩⟩:Str)] (⟨⟨[46]⟩⟩:Str) (N+37)) [] [37];refine K_1 ?_;intro _ _ _ _ _ _ _ _ C_1 tr_1 su_1 _ _ _;have U_1:=su_1 _ U;refine sg C_1 4000 o_sel_f_rc_0_2 ?_;intro _;have K_2:=sN s R C_1 tr_1 [(a 4,instO 630 (a 5))] (ct_part hP a ta kp hk) [1] [7];refine K_2 ?_;intro _ _ _ _ _ _ _ _ C_2 tr_2 su_2 _ _ _;have U_2:=su_2 _ U_1;refine sg C_2 4000 o_sel_f_rc_0_3 ?_;intro _;have K_3:=sN s R C_2 tr_2 (w_sc a) (T1) [2] [3,4];refine K_3 ?_;intro b_3 _ _ _ _ _ _ _ C_3 tr_3 su_3 _ _ _;have U_3:=su_3 _ U_2;refine sg C_3 4000 o_sel_f_rc_0_4 ?_;intro _;have K_4:=sN s R C_3 tr_3 (w_sc a) (T2) [2] [3,4];refine K_4 ?_;intro b_4 _ _ _ _ _ _ _ C_4 tr_4 su_4 _ _ _;have U_4:=su_4 _ U_3;refine sg C_4 4000 o_sel_f_rc_0_5 ?_;intro _;have K_5:=sK s R C_4 tr_4 ([(t.addr,instO 39 D),(D,nodD op pl' (a 35) K (.ref x'))]++w_ty a) r (Ct.perm (perm_w (w_ty a) hp).symm (fo_pt_all hP a t ht P x)) [] [18,19,20,21,22,23,24,25,26,27,28,29,30,31,32,33,34,35,36] U_4;refine K_5 ?_;intro b_5 _ _ _ _ _ _ _ C_5 tr_5 su_5 _ _ _;have U_5:=su_5 _ U_4;refine sg C_5 4000 o_sel_f_rc_0_6 ?_;intro _;have K_t:=tK C_5 ((w_sc a++tokO b_4.1 b_4.2 (kindOf ss) ((P+2)+off ss)++w_rd a)++(w_ty a++((n3 b_5.1 b_5.2.1 b_5.2.2.1 v_field P (tyA a x.ty) (.ref (fldA a x)) [.ref b_5.2.2.2.1]++n3 b_5.2.2.2.1 b_5.2.2.2.2.1 b_5.2.2.2.2.2 v_deref P (a 30) .none [.ref t.addr])++[(t.addr,instO 39 D),(D,nodD op pl' (a 35) K (.ref x'))]))) r (Ct.perm (perm_t (n:=(n3 b_5.1 b_5.2.1 b_5.2.2.1 v_field P (tyA a x.ty) (.ref (fldA a x)) [.ref b_5.2.2.2.1]++n3 b_5.2.2.2.1 b_5.2.2.2.2.1 b_5.2.2.2.2.2 v_deref P (a 30) .none [.ref t.addr])) (f:=t.flat a) hp) (IH (.f2 P b_3.1) b_4.1 b_4.2 (.fld b_5.1 b_5.2.1 b_5.2.2.1 P x (.drf b_5.2.2.2.1 b_5.2.2.2.2.1 b_5.2.2.2.2.2 P t)) (by show Sh.fld P x (Sh.drf P t.sh)=_; rw [growS,NT.sh_ty,ht]; rfl))) [0,1,2] [3,4,45,46,7,8,9,10,11,12,13,14,15,16,17,20,21,22,23,24,25,26,27,28,29,30,31,32,33,34,35,36,47,48,49,50,51,52,18,19] U_5 tr_5 D' hR;refine K_t ?_;rintro ⟨tb,frb,tab,tdb,allb⟩ zu zn h' su fs ⟨pd1,ns,junk,pd2,pd3⟩;have F:=sel_fin (ta0:=ta) (td0:=td) (t':=(.fld b_5.1 b_5.2.1 b_5.2.2.1 P x (.drf b_5.2.2.2.1 b_5.2.2.2.2.1 b_5.2.2.2.2.2 P t))) (t:=t) (s:=(.f x)) (P:=P) (n:=(n3 b_5.1 b_5.2.1 b_5.2.2.1 v_field P (tyA a x.ty) (.ref (fldA a x)) [.ref b_5.2.2.2.1]++n3 b_5.2.2.2.1 b_5.2.2.2.2.1 b_5.2.2.2.2.2 v_deref P (a 30) .none [.ref t.addr])) rfl (by show Sh.fld P x (Sh.drf P t.sh)=_; rw [growS,NT.sh_ty,ht]; rfl) rfl pd1 pd2 pd3;cases frb with
    | f0=>(refine finD ⟨tb,.f0,tab,tdb,((n3 b_5.1 b_5.2.1 b_5.2.2.1 v_field P (tyA a x.ty) (.ref (fldA a x)) [.ref b_5.2.2.2.1]++n3 b_5.2.2.2.1 b_5.2.2.2.2.1 b_5.2.2.2.2.2 v_deref P (a 30) .none [.ref t.addr])++tokO b_4.1 b_4.2 (kindOf ss) ((P+2)+off ss))++allb⟩ ((n3 b_5.1 b_5.2.1 b_5.2.2.1 v_field P (tyA a x.ty) (.ref (fldA a x)) [.ref b_5.2.2.2.1]++n3 b_5.2.2.2.1 b_5.2.2.2.2.1 b_5.2.2.2.2.2 v_deref P (a 30) .none [.ref t.addr])++tokO b_4.1 b_4.2 (kindOf ss) ((P+2)+off ss)) allb [47,48,49,50,51,52,45,46] rfl ?_ rfl ?_ ?_ ?_ (su [] Sup.nil).left fs rfl F; all_goals kernel_rfl)
    | f1 q1=>(refine finD ⟨tb,.f1 q1,tab,tdb,((n3 b_5.1 b_5.2.1 b_5.2.2.1 v_field P (tyA a x.ty) (.ref (fldA a x)) [.ref b_5.2.2.2.1]++n3 b_5.2.2.2.1 b_5.2.2.2.2.1 b_5.2.2.2.2.2 v_deref P (a 30) .none [.ref t.addr])++tokO b_4.1 b_4.2 (kindOf ss) ((P+2)+off ss))++allb⟩ ((n3 b_5.1 b_5.2.1 b_5.2.2.1 v_field P (tyA a x.ty) (.ref (fldA a x)) [.ref b_5.2.2.2.1]++n3 b_5.2.2.2.1 b_5.2.2.2.2.1 b_5.2.2.2.2.2 v_deref P (a 30) .none [.ref t.addr])++tokO b_4.1 b_4.2 (kindOf ss) ((P+2)+off ss)) allb [47,48,49,50,51,52,45,46] rfl ?_ rfl ?_ ?_ ?_ (su [] Sup.nil).left fs rfl F; all_goals kernel_rfl)
    | f2 q1 q2=>(refine finD ⟨tb,.f2 q1 q2,tab,tdb,((n3 b_5.1 b_5.2.1 b_5.2.2.1 v_field P (tyA a x.ty) (.ref (fldA a x)) [.ref b_5.2.2.2.1]++n3 b_5.2.2.2.1 b_5.2.2.2.2.1 b_5.2.2.2.2.2 v_deref P (a 30) .none [.ref t.addr])++tokO b_4.1 b_4.2 (kindOf ss) ((P+2)+off ss))++allb⟩ ((n3 b_5.1 b_5.2.1 b_5.2.2.1 v_field P (tyA a x.ty) (.ref (fldA a x)) [.ref b_5.2.2.2.1]++n3 b_5.2.2.2.1 b_5.2.2.2.2.1 b_5.2.2.2.2.2 v_deref P (a 30) .none [.ref t.addr])++tokO b_4.1 b_4.2 (kindOf ss) ((P+2)+off ss)) allb [47,48,49,50,51,52,45,46] rfl ?_ rfl ?_ ?_ ?_ (su [] Sup.nil).left fs rfl F; all_goals kernel_rfl)
theorem sel_h_1 {w:World} {b1 b2 b3:Bool} (hP:Rows w b1 b2 b3) (a:Nat->Nat) (S:Str) (L:Nat) (p0:Nat) (kp:Nat) (hk:kp < 7) (ss:List Sl) (P ta td:Nat) (t:NT) (ht:t.ty = .pt) (T1:TakeCt w a S (P+1) (P+1+1+adv ss) (kindOf ss) (.str v_empty 0) (P+1+1+off ss))
    (IH:∀ fr ta td (t':NT),t'.sh=growS t.sh .h P->SelC w a S L fr (kp+1) ss (P+2) ta td t'):SelC w a S L (.f1 p0) kp (.h::ss) P ta td t:=by
  obtain ⟨D,op,pl',K,x',r,hp⟩:=root_pt a t ht
  · refine Ct.perm (List.Perm.append_left _ (perm_w (w_ty a) hp)) (Ct.cast (List.append_assoc _ _ _) ?_);refine ct_start (tx:=tx0) (pre:=[(L,selFr a (.f1 p0) t.addr),(a 5,rdD a kp ta),(a 1,scD S (a 2) (a 3) (P+adv (.h::ss)))]) (ro:=((w_sc a++tokO ta td (kindOf (.h::ss)) (P+off (.h::ss))++w_rd a)++([(t.addr,instO 39 D),(D,nodD op pl' (a 35) K (.ref x'))]++w_ty a))) (sup:=r) hP tx0_ok (by decide) fun A' s R zs ta' N C U D' hR=>?_;refine sg C 4000 o_sel_f_rc_0_1 ?_;intro _;have K_1:=sN s R C trId [((N+37),tupO (strsL [(⟨⟨[46]⟩⟩:Str),(⟨⟨[91]⟩⟩:Str),(⟨⟨[94]⟩⟩:Str)]))] (ct_tupin [(⟨⟨[46]⟩⟩:Str),(⟨⟨[91]⟩⟩:Str),(⟨⟨[94]⟩⟩:Str)] (⟨⟨[94]⟩⟩:Str) (N+37)) [] [37];refine K_1 ?_;intro _ _ _ _ _ _ _ _ C_1 tr_1 su_1 _ _ _;have U_1:=su_1 _ U;refine sg C_1 4000 o_sel_f_rc_0_2 ?_;intro _;have K_2:=sN s R C_1 tr_1 [(a 4,instO 630 (a 5))] (ct_part hP a ta kp hk) [1] [7];refine K_2 ?_;intro _ _ _ _ _ _ _ _ C_2 tr_2 su_2 _ _ _;have U_2:=su_2 _ U_1;refine sg C_2 4000 o_sel_h_0_3 ?_;intro _;have K_3:=sN s R C_2 tr_2 (w_sc a) (T1) [2] [3,4];refine K_3 ?_;intro b_3 _ _ _ _ _ _ _ C_3 tr_3 su_3 _ _ _;have U_3:=su_3 _ U_2;refine sg C_3 4000 o_sel_h_0_4 ?_;intro _;have K_4:=sK s R C_3 tr_3 ([(t.addr,instO 39 D),(D,nodD op pl' (a 35) K (.ref x'))]++w_ty a) r (Ct.perm (perm_w (w_ty a) hp).symm (do_pt hP a t ht P)) [] [18,19,20,21,22,23,24,25,26,27,28,29,30,31,32,33,34,35,36] U_3;refine K_4 ?_;intro b_4 _ _ _ _ _ _ _ C_4 tr_4 su_4 _ _ _;have U_4:=su_4 _ U_3;refine sg C_4 4000 o_sel_f_rc_0_6 ?_;intro _;have K_t:=tK C_4 ((w_sc a++tokO b_3.1 b_3.2 (kindOf ss) ((P+2)+off ss)++w_rd a)++(w_ty a++((n3 b_4.1 b_4.2.1 b_4.2.2 v_deref P (a 30) .none [.ref t.addr])++[(t.addr,instO 39 D),(D,nodD op pl' (a 35) K (.ref x'))]))) r (Ct.perm (perm_t (n:=(n3 b_4.1 b_4.2.1 b_4.2.2 v_deref P (a 30) .none [.ref t.addr])) (f:=t.flat a) hp) (IH (.f1 P) b_3.1 b_3.2 (.drf b_4.1 b_4.2.1 b_4.2.2 P t) rfl)) [0,1,2] [3,4,42,43,7,8,9,10,11,12,13,14,15,16,17,20,21,22,23,24,25,26,27,28,29,30,31,32,33,34,35,36,44,45,46,18,19] U_4 tr_4 D' hR;refine K_t ?_;rintro ⟨tb,frb,tab,tdb,allb⟩ zu zn h' su fs ⟨pd1,ns,junk,pd2,pd3⟩;have F:=sel_fin (ta0:=ta) (td0:=td) (t':=(.drf b_4.1 b_4.2.1 b_4.2.2 P t)) (t:=t) (s:=.h) (P:=P) (n:=(n3 b_4.1 b_4.2.1 b_4.2.2 v_deref P (a 30) .none [.ref t.addr])) rfl rfl rfl pd1 pd2 pd3;cases frb with
    | f0=>(refine finD ⟨tb,.f0,tab,tdb,((n3 b_4.1 b_4.2.1 b_4.2.2 v_deref P (a 30) .none [.ref t.addr])++tokO b_3.1 b_3.2 (kindOf ss) ((P+2)+off ss))++allb⟩ ((n3 b_4.1 b_4.2.1 b_4.2.2 v_deref P (a 30) .none [.ref t.addr])++tokO b_3.1 b_3.2 (kindOf ss) ((P+2)+off ss)) allb [44,45,46,42,43] rfl ?_ rfl ?_ ?_ ?_ (su [] Sup.nil).left fs rfl F; all_goals kernel_rfl)
    | f1 q1=>(refine finD ⟨tb,.f1 q1,tab,tdb,((n3 b_4.1 b_4.2.1 b_4.2.2 v_deref P (a 30) .none [.ref t.addr])++tokO b_3.1 b_3.2 (kindOf ss) ((P+2)+off ss))++allb⟩ ((n3 b_4.1 b_4.2.1 b_4.2.2 v_deref P (a 30) .none [.ref t.addr])++tokO b_3.1 b_3.2 (kindOf ss) ((P+2)+off ss)) allb [44,45,46,42,43] rfl ?_ rfl ?_ ?_ ?_ (su [] Sup.nil).left fs rfl F; all_goals kernel_rfl)
    | f2 q1 q2=>(refine finD ⟨tb,.f2 q1 q2,tab,tdb,((n3 b_4.1 b_4.2.1 b_4.2.2 v_deref P (a 30) .none [.ref t.addr])++tokO b_3.1 b_3.2 (kindOf ss) ((P+2)+off ss))++allb⟩ ((n3 b_4.1 b_4.2.1 b_4.2.2 v_deref P (a 30) .none [.ref t.addr])++tokO b_3.1 b_3.2 (kindOf ss) ((P+2)+off ss)) allb [44,45,46,42,43] rfl ?_ rfl ?_ ?_ ?_ (su [] Sup.nil).left fs rfl F; all_goals kernel_rfl)
theorem sel_f_rc_2 {w:World} {b1 b2 b3:Bool} (hP:Rows w b1 b2 b3) (a:Nat->Nat) (S:Str) (L:Nat) (p0 nm0:Nat) (kp:Nat) (hk:kp < 7) (x:Fld) (ss:List Sl) (P ta td:Nat) (t:NT) (ht:t.ty = .rc) (T1:TakeCt w a S (P+1) (P+1+1) v_ident (.str x.name 0) (P+1+0)) (T2:TakeCt w a S (P+2) (P+2+adv ss) (kindOf ss) (.str v_empty 0) (P+2+off ss))
    (IH:∀ fr ta td (t':NT),t'.sh=growS t.sh (.f x) P->SelC w a S L fr (kp+1) ss (P+2) ta td t'):SelC w a S L (.f2 p0 nm0) kp ((.f x)::ss) P ta td t:=by
  rcases root_rc a t ht with ⟨D,op,pl',K,x',r,hp⟩ | ⟨D,op,pl',K,r,hp⟩
  · refine Ct.perm (List.Perm.append_left _ (perm_w (w_ty a) hp)) (Ct.cast (List.append_assoc _ _ _) ?_);refine ct_start (tx:=tx0) (pre:=[(L,selFr a (.f2 p0 nm0) t.addr),(a 5,rdD a kp ta),(a 1,scD S (a 2) (a 3) (P+adv ((.f x)::ss)))]) (ro:=((w_sc a++tokO ta td (kindOf ((.f x)::ss)) (P+off ((.f x)::ss))++w_rd a)++([(t.addr,instO 39 D),(D,nodD op pl' (a 30) K (.ref x'))]++w_ty a))) (sup:=r) hP tx0_ok (by decide) fun A' s R zs ta' N C U D' hR=>?_;refine sg C 4000 o_sel_f_rc_0_1 ?_;intro _;have K_1:=sN s R C trId [((N+37),tupO (strsL [(⟨⟨[46]⟩⟩:Str),(⟨⟨[91]⟩⟩:Str),(⟨⟨[94]⟩⟩:Str)]))] (ct_tupin [(⟨⟨[46]⟩⟩:Str),(⟨⟨[91]⟩⟩:Str),(⟨⟨[94]⟩⟩:Str)] (⟨⟨[46]⟩⟩:Str) (N+37)) [] [37];refine K_1 ?_;intro _ _ _ _ _ _ _ _ C_1 tr_1 su_1 _ _ _;have U_1:=su_1 _ U;refine sg C_1 4000 o_sel_f_rc_0_2 ?_;intro _;have K_2:=sN s R C_1 tr_1 [(a 4,instO 630 (a 5))] (ct_part hP a ta kp hk) [1] [7];refine K_2 ?_;intro _ _ _ _ _ _ _ _ C_2 tr_2 su_2 _ _ _;have U_2:=su_2 _ U_1;refine sg C_2 4000 o_sel_f_rc_0_3 ?_;intro _;have K_3:=sN s R C_2 tr_2 (w_sc a) (T1) [2] [3,4];refine K_3 ?_;intro b_3 _ _ _ _ _ _ _ C_3 tr_3 su_3 _ _ _;have U_3:=su_3 _ U_2;refine sg C_3 4000 o_sel_f_rc_0_4 ?_;intro _;have K_4:=sN s R C_3 tr_3 (w_sc a) (T2) [2] [3,4];refine K_4 ?_;intro b_4 _ _ _ _ _ _ _ C_4 tr_4 su_4 _ _ _;have U_4:=su_4 _ U_3;refine sg C_4 4000 o_sel_f_rc_0_5 ?_;intro _;have K_5:=sK s R C_4 tr_4 ([(t.addr,instO 39 D),(D,nodD op pl' (a 30) K (.ref x'))]++w_ty a) r (Ct.perm (perm_w (w_ty a) hp).symm (fo_rc_all hP a t ht P x)) [] [18,19,20,21,22,23,24,25,26,27,28,29,30,31,32,33,34,35,36] U_4;refine K_5 ?_;intro b_5 _ _ _ _ _ _ _ C_5 tr_5 su_5 _ _ _;have U_5:=su_5 _ U_4;refine sg C_5 4000 o_sel_f_rc_0_6 ?_;intro _;have K_t:=tK C_5 ((w_sc a++tokO b_4.1 b_4.2 (kindOf ss) ((P+2)+off ss)++w_rd a)++(w_ty a++((n3 b_5.1 b_5.2.1 b_5.2.2 v_field P (tyA a x.ty) (.ref (fldA a x)) [.ref t.addr])++[(t.addr,instO 39 D),(D,nodD op pl' (a 30) K (.ref x'))]))) r (Ct.perm (perm_t (n:=(n3 b_5.1 b_5.2.1 b_5.2.2 v_field P (tyA a x.ty) (.ref (fldA a x)) [.ref t.addr])) (f:=t.flat a) hp) (IH (.f2 P b_3.1) b_4.1 b_4.2 (.fld b_5.1 b_5.2.1 b_5.2.2 P x t) (by show Sh.fld P x t.sh=_; rw [growS,NT.sh_ty,ht]; rfl))) [0,1,2] [3,4,45,46,7,8,9,10,11,12,13,14,15,16,17,20,21,22,23,24,25,26,27,28,29,30,31,32,33,34,35,36,47,48,49,18,19] U_5 tr_5 D' hR;refine K_t ?_;rintro ⟨tb,frb,tab,tdb,allb⟩ zu zn h' su fs ⟨pd1,ns,junk,pd2,pd3⟩;have F:=sel_fin (ta0:=ta) (td0:=td) (t':=(.fld b_5.1 b_5.2.1 b_5.2.2 P x t)) (t:=t) (s:=(.f x)) (P:=P) (n:=(n3 b_5.1 b_5.2.1 b_5.2.2 v_field P (tyA a x.ty) (.ref (fldA a x)) [.ref t.addr])) rfl (by show Sh.fld P x t.sh=_; rw [growS,NT.sh_ty,ht]; rfl) rfl pd1 pd2 pd3;cases frb with
    | f0=>(refine finD ⟨tb,.f0,tab,tdb,((n3 b_5.1 b_5.2.1 b_5.2.2 v_field P (tyA a x.ty) (.ref (fldA a x)) [.ref t.addr])++tokO b_4.1 b_4.2 (kindOf ss) ((P+2)+off ss))++allb⟩ ((n3 b_5.1 b_5.2.1 b_5.2.2 v_field P (tyA a x.ty) (.ref (fldA a x)) [.ref t.addr])++tokO b_4.1 b_4.2 (kindOf ss) ((P+2)+off ss)) allb [47,48,49,45,46] rfl ?_ rfl ?_ ?_ ?_ (su [] Sup.nil).left fs rfl F; all_goals kernel_rfl)
    | f1 q1=>(refine finD ⟨tb,.f1 q1,tab,tdb,((n3 b_5.1 b_5.2.1 b_5.2.2 v_field P (tyA a x.ty) (.ref (fldA a x)) [.ref t.addr])++tokO b_4.1 b_4.2 (kindOf ss) ((P+2)+off ss))++allb⟩ ((n3 b_5.1 b_5.2.1 b_5.2.2 v_field P (tyA a x.ty) (.ref (fldA a x)) [.ref t.addr])++tokO b_4.1 b_4.2 (kindOf ss) ((P+2)+off ss)) allb [47,48,49,45,46] rfl ?_ rfl ?_ ?_ ?_ (su [] Sup.nil).left fs rfl F; all_goals kernel_rfl)
    | f2 q1 q2=>(refine finD ⟨tb,.f2 q1 q2,tab,tdb,((n3 b_5.1 b_5.2.1 b_5.2.2 v_field P (tyA a x.ty) (.ref (fldA a x)) [.ref t.addr])++tokO b_4.1 b_4.2 (kindOf ss) ((P+2)+off ss))++allb⟩ ((n3 b_5.1 b_5.2.1 b_5.2.2 v_field P (tyA a x.ty) (.ref (fldA a x)) [.ref t.addr])++tokO b_4.1 b_4.2 (kindOf ss) ((P+2)+off ss)) allb [47,48,49,45,46] rfl ?_ rfl ?_ ?_ ?_ (su [] Sup.nil).left fs rfl F; all_goals kernel_rfl)
  · refine Ct.perm (List.Perm.append_left _ (perm_w (w_ty a) hp)) (Ct.cast (List.append_assoc _ _ _) ?_);refine ct_start (tx:=tx0) (pre:=[(L,selFr a (.f2 p0 nm0) t.addr),(a 5,rdD a kp ta),(a 1,scD S (a 2) (a 3) (P+adv ((.f x)::ss)))]) (ro:=((w_sc a++tokO ta td (kindOf ((.f x)::ss)) (P+off ((.f x)::ss))++w_rd a)++([(t.addr,instO 39 D),(D,nodD op pl' (a 30) K .none)]++w_ty a))) (sup:=r) hP tx0_ok (by decide) fun A' s R zs ta' N C U D' hR=>?_;refine sg C 4000 o_sel_f_rc_0_1 ?_;intro _;have K_1:=sN s R C trId [((N+37),tupO (strsL [(⟨⟨[46]⟩⟩:Str),(⟨⟨[91]⟩⟩:Str),(⟨⟨[94]⟩⟩:Str)]))] (ct_tupin [(⟨⟨[46]⟩⟩:Str),(⟨⟨[91]⟩⟩:Str),(⟨⟨[94]⟩⟩:Str)] (⟨⟨[46]⟩⟩:Str) (N+37)) [] [37];refine K_1 ?_;intro _ _ _ _ _ _ _ _ C_1 tr_1 su_1 _ _ _;have U_1:=su_1 _ U;refine sg C_1 4000 o_sel_f_rc_0_2 ?_;intro _;have K_2:=sN s R C_1 tr_1 [(a 4,instO 630 (a 5))] (ct_part hP a ta kp hk) [1] [7];refine K_2 ?_;intro _ _ _ _ _ _ _ _ C_2 tr_2 su_2 _ _ _;have U_2:=su_2 _ U_1;refine sg C_2 4000 o_sel_f_rc_0_3 ?_;intro _;have K_3:=sN s R C_2 tr_2 (w_sc a) (T1) [2] [3,4];refine K_3 ?_;intro b_3 _ _ _ _ _ _ _ C_3 tr_3 su_3 _ _ _;have U_3:=su_3 _ U_2;refine sg C_3 4000 o_sel_f_rc_0_4 ?_;intro _;have K_4:=sN s R C_3 tr_3 (w_sc a) (T2) [2] [3,4];refine K_4 ?_;intro b_4 _ _ _ _ _ _ _ C_4 tr_4 su_4 _ _ _;have U_4:=su_4 _ U_3;refine sg C_4 4000 o_sel_f_rc_0_5 ?_;intro _;have K_5:=sK s R C_4 tr_4 ([(t.addr,instO 39 D),(D,nodD op pl' (a 30) K .none)]++w_ty a) r (Ct.perm (perm_w (w_ty a) hp).symm (fo_rc_all hP a t ht P x)) [] [18,19,20,21,22,23,24,25,26,27,28,29,30,31,32,33,34,35,36] U_4;refine K_5 ?_;intro b_5 _ _ _ _ _ _ _ C_5 tr_5 su_5 _ _ _;have U_5:=su_5 _ U_4;refine sg C_5 4000 o_sel_f_rc_0_6 ?_;intro _;have K_t:=tK C_5 ((w_sc a++tokO b_4.1 b_4.2 (kindOf ss) ((P+2)+off ss)++w_rd a)++(w_ty a++((n3 b_5.1 b_5.2.1 b_5.2.2 v_field P (tyA a x.ty) (.ref (fldA a x)) [.ref t.addr])++[(t.addr,instO 39 D),(D,nodD op pl' (a 30) K .none)]))) r (Ct.perm (perm_t (n:=(n3 b_5.1 b_5.2.1 b_5.2.2 v_field P (tyA a x.ty) (.ref (fldA a x)) [.ref t.addr])) (f:=t.flat a) hp) (IH (.f2 P b_3.1) b_4.1 b_4.2 (.fld b_5.1 b_5.2.1 b_5.2.2 P x t) (by show Sh.fld P x t.sh=_; rw [growS,NT.sh_ty,ht]; rfl))) [0,1,2] [3,4,45,46,7,8,9,10,11,12,13,14,15,16,17,20,21,22,23,24,25,26,27,28,29,30,31,32,33,34,35,36,47,48,49,18,19] U_5 tr_5 D' hR;refine K_t ?_;rintro ⟨tb,frb,tab,tdb,allb⟩ zu zn h' su fs ⟨pd1,ns,junk,pd2,pd3⟩;have F:=sel_fin (ta0:=ta) (td0:=td) (t':=(.fld b_5.1 b_5.2.1 b_5.2.2 P x t)) (t:=t) (s:=(.f x)) (P:=P) (n:=(n3 b_5.1 b_5.2.1 b_5.2.2 v_field P (tyA a x.ty) (.ref (fldA a x)) [.ref t.addr])) rfl (by show Sh.fld P x t.sh=_; rw [growS,NT.sh_ty,ht]; rfl) rfl pd1 pd2 pd3;cases frb with
    | f0=>(refine finD ⟨tb,.f0,tab,tdb,((n3 b_5.1 b_5.2.1 b_5.2.2 v_field P (tyA a x.ty) (.ref (fldA a x)) [.ref t.addr])++tokO b_4.1 b_4.2 (kindOf ss) ((P+2)+off ss))++allb⟩ ((n3 b_5.1 b_5.2.1 b_5.2.2 v_field P (tyA a x.ty) (.ref (fldA a x)) [.ref t.addr])++tokO b_4.1 b_4.2 (kindOf ss) ((P+2)+off ss)) allb [47,48,49,45,46] rfl ?_ rfl ?_ ?_ ?_ (su [] Sup.nil).left fs rfl F; all_goals kernel_rfl)
    | f1 q1=>(refine finD ⟨tb,.f1 q1,tab,tdb,((n3 b_5.1 b_5.2.1 b_5.2.2 v_field P (tyA a x.ty) (.ref (fldA a x)) [.ref t.addr])++tokO b_4.1 b_4.2 (kindOf ss) ((P+2)+off ss))++allb⟩ ((n3 b_5.1 b_5.2.1 b_5.2.2 v_field P (tyA a x.ty) (.ref (fldA a x)) [.ref t.addr])++tokO b_4.1 b_4.2 (kindOf ss) ((P+2)+off ss)) allb [47,48,49,45,46] rfl ?_ rfl ?_ ?_ ?_ (su [] Sup.nil).left fs rfl F; all_goals kernel_rfl)
    | f2 q1 q2=>(refine finD ⟨tb,.f2 q1 q2,tab,tdb,((n3 b_5.1 b_5.2.1 b_5.2.2 v_field P (tyA a x.ty) (.ref (fldA a x)) [.ref t.addr])++tokO b_4.1 b_4.2 (kindOf ss) ((P+2)+off ss))++allb⟩ ((n3 b_5.1 b_5.2.1 b_5.2.2 v_field P (tyA a x.ty) (.ref (fldA a x)) [.ref t.addr])++tokO b_4.1 b_4.2 (kindOf ss) ((P+2)+off ss)) allb [47,48,49,45,46] rfl ?_ rfl ?_ ?_ ?_ (su [] Sup.nil).left fs rfl F; all_goals kernel_rfl)
theorem sel_f_pt_2 {w:World} {b1 b2 b3:Bool} (hP:Rows w b1 b2 b3) (a:Nat->Nat) (S:Str) (L:Nat) (p0 nm0:Nat) (kp:Nat) (hk:kp < 7) (x:Fld) (ss:List Sl) (P ta td:Nat) (t:NT) (ht:t.ty = .pt) (T1:TakeCt w a S (P+1) (P+1+1) v_ident (.str x.name 0) (P+1+0)) (T2:TakeCt w a S (P+2) (P+2+adv ss) (kindOf ss) (.str v_empty 0) (P+2+off ss))
    (IH:∀ fr ta td (t':NT),t'.sh=growS t.sh (.f x) P->SelC w a S L fr (kp+1) ss (P+2) ta td t'):SelC w a S L (.f2 p0 nm0) kp ((.f x)::ss) P ta td t:=by
  obtain ⟨D,op,pl',K,x',r,hp⟩:=root_pt a t ht
  · refine Ct.perm (List.Perm.append_left _ (perm_w (w_ty a) hp)) (Ct.cast (List.append_assoc _ _ _) ?_);refine ct_start (tx:=tx0) (pre:=[(L,selFr a (.f2 p0 nm0) t.addr),(a 5,rdD a kp ta),(a 1,scD S (a 2) (a 3) (P+adv ((.f x)::ss)))]) (ro:=((w_sc a++tokO ta td (kindOf ((.f x)::ss)) (P+off ((.f x)::ss))++w_rd a)++([(t.addr,instO 39 D),(D,nodD op pl' (a 35) K (.ref x'))]++w_ty a))) (sup:=r) hP tx0_ok (by decide) fun A' s R zs ta' N C U D' hR=>?_;refine sg C 4000 o_sel_f_rc_0_1 ?_;intro _;have K_1:=sN s R C trId [((N+37),tupO (strsL [(⟨⟨[46]⟩⟩:Str),(⟨⟨[91]⟩⟩:Str),(⟨⟨[94]⟩⟩:Str)]))] (ct_tupin [(⟨⟨[46]⟩⟩:Str),(⟨⟨[91]⟩⟩:Str),(⟨⟨[94]⟩⟩:Str)] (⟨⟨[46]⟩⟩:Str) (N+37)) [] [37];refine K_1 ?_;intro _ _ _ _ _ _ _ _ C_1 tr_1 su_1 _ _ _;have U_1:=su_1 _ U;refine sg C_1 4000 o_sel_f_rc_0_2 ?_;intro _;have K_2:=sN s R C_1 tr_1 [(a 4,instO 630 (a 5))] (ct_part hP a ta kp hk) [1] [7];refine K_2 ?_;intro _ _ _ _ _ _ _ _ C_2 tr_2 su_2 _ _ _;have U_2:=su_2 _ U_1;refine sg C_2 4000 o_sel_f_rc_0_3 ?_;intro _;have K_3:=sN s R C_2 tr_2 (w_sc a) (T1) [2] [3,4];refine K_3 ?_;intro b_3 _ _ _ _ _ _ _ C_3 tr_3 su_3 _ _ _;have U_3:=su_3 _ U_2;refine sg C_3 4000 o_sel_f_rc_0_4 ?_;intro _;have K_4:=sN s R C_3 tr_3 (w_sc a) (T2) [2] [3,4];refine K_4 ?_;intro b_4 _ _ _ _ _ _ _ C_4 tr_4 su_4 _ _ _;have U_4:=su_4 _ U_3;refine sg C_4 4000 o_sel_f_rc_0_5 ?_;intro _;have K_5:=sK s R C_4 tr_4 ([(t.addr,instO 39 D),(D,nodD op pl' (a 35) K (.ref x'))]++w_ty a) r (Ct.perm (perm_w (w_ty a) hp).symm (fo_pt_all hP a t ht P x)) [] [18,19,20,21,22,23,24,25,26,27,28,29,30,31,32,33,34,35,36] U_4;refine K_5 ?_;intro b_5 _ _ _ _ _ _ _ C_5 tr_5 su_5 _ _ _;have U_5:=su_5 _ U_4;refine sg C_5 4000 o_sel_f_rc_0_6 ?_;intro _;have K_t:=tK C_5 ((w_sc a++tokO b_4.1 b_4.2 (kindOf ss) ((P+2)+off ss)++w_rd a)++(w_ty a++((n3 b_5.1 b_5.2.1 b_5.2.2.1 v_field P (tyA a x.ty) (.ref (fldA a x)) [.ref b_5.2.2.2.1]++n3 b_5.2.2.2.1 b_5.2.2.2.2.1 b_5.2.2.2.2.2 v_deref P (a 30) .none [.ref t.addr])++[(t.addr,instO 39 D),(D,nodD op pl' (a 35) K (.ref x'))]))) r (Ct.perm (perm_t (n:=(n3 b_5.1 b_5.2.1 b_5.2.2.1 v_field P (tyA a x.ty) (.ref (fldA a x)) [.ref b_5.2.2.2.1]++n3 b_5.2.2.2.1 b_5.2.2.2.2.1 b_5.2.2.2.2.2 v_deref P (a 30) .none [.ref t.addr])) (f:=t.flat a) hp) (IH (.f2 P b_3.1) b_4.1 b_4.2 (.fld b_5.1 b_5.2.1 b_5.2.2.1 P x (.drf b_5.2.2.2.1 b_5.2.2.2.2.1 b_5.2.2.2.2.2 P t)) (by show Sh.fld P x (Sh.drf P t.sh)=_; rw [growS,NT.sh_ty,ht]; rfl))) [0,1,2] [3,4,45,46,7,8,9,10,11,12,13,14,15,16,17,20,21,22,23,24,25,26,27,28,29,30,31,32,33,34,35,36,47,48,49,50,51,52,18,19] U_5 tr_5 D' hR;refine K_t ?_;rintro ⟨tb,frb,tab,tdb,allb⟩ zu zn h' su fs ⟨pd1,ns,junk,pd2,pd3⟩;have F:=sel_fin (ta0:=ta) (td0:=td) (t':=(.fld b_5.1 b_5.2.1 b_5.2.2.1 P x (.drf b_5.2.2.2.1 b_5.2.2.2.2.1 b_5.2.2.2.2.2 P t))) (t:=t) (s:=(.f x)) (P:=P) (n:=(n3 b_5.1 b_5.2.1 b_5.2.2.1 v_field P (tyA a x.ty) (.ref (fldA a x)) [.ref b_5.2.2.2.1]++n3 b_5.2.2.2.1 b_5.2.2.2.2.1 b_5.2.2.2.2.2 v_deref P (a 30) .none [.ref t.addr])) rfl (by show Sh.fld P x (Sh.drf P t.sh)=_; rw [growS,NT.sh_ty,ht]; rfl) rfl pd1 pd2 pd3;cases frb with
    | f0=>(refine finD ⟨tb,.f0,tab,tdb,((n3 b_5.1 b_5.2.1 b_5.2.2.1 v_field P (tyA a x.ty) (.ref (fldA a x)) [.ref b_5.2.2.2.1]++n3 b_5.2.2.2.1 b_5.2.2.2.2.1 b_5.2.2.2.2.2 v_deref P (a 30) .none [.ref t.addr])++tokO b_4.1 b_4.2 (kindOf ss) ((P+2)+off ss))++allb⟩ ((n3 b_5.1 b_5.2.1 b_5.2.2.1 v_field P (tyA a x.ty) (.ref (fldA a x)) [.ref b_5.2.2.2.1]++n3 b_5.2.2.2.1 b_5.2.2.2.2.1 b_5.2.2.2.2.2 v_deref P (a 30) .none [.ref t.addr])++tokO b_4.1 b_4.2 (kindOf ss) ((P+2)+off ss)) allb [47,48,49,50,51,52,45,46] rfl ?_ rfl ?_ ?_ ?_ (su [] Sup.nil).left fs rfl F; all_goals kernel_rfl)
    | f1 q1=>(refine finD ⟨tb,.f1 q1,tab,tdb,((n3 b_5.1 b_5.2.1 b_5.2.2.1 v_field P (tyA a x.ty) (.ref (fldA a x)) [.ref b_5.2.2.2.1]++n3 b_5.2.2.2.1 b_5.2.2.2.2.1 b_5.2.2.2.2.2 v_deref P (a 30) .none [.ref t.addr])++tokO b_4.1 b_4.2 (kindOf ss) ((P+2)+off ss))++allb⟩ ((n3 b_5.1 b_5.2.1 b_5.2.2.1 v_field P (tyA a x.ty) (.ref (fldA a x)) [.ref b_5.2.2.2.1]++n3 b_5.2.2.2.1 b_5.2.2.2.2.1 b_5.2.2.2.2.2 v_deref P (a 30) .none [.ref t.addr])++tokO b_4.1 b_4.2 (kindOf ss) ((P+2)+off ss)) allb [47,48,49,50,51,52,45,46] rfl ?_ rfl ?_ ?_ ?_ (su [] Sup.nil).left fs rfl F; all_goals kernel_rfl)
    | f2 q1 q2=>(refine finD ⟨tb,.f2 q1 q2,tab,tdb,((n3 b_5.1 b_5.2.1 b_5.2.2.1 v_field P (tyA a x.ty) (.ref (fldA a x)) [.ref b_5.2.2.2.1]++n3 b_5.2.2.2.1 b_5.2.2.2.2.1 b_5.2.2.2.2.2 v_deref P (a 30) .none [.ref t.addr])++tokO b_4.1 b_4.2 (kindOf ss) ((P+2)+off ss))++allb⟩ ((n3 b_5.1 b_5.2.1 b_5.2.2.1 v_field P (tyA a x.ty) (.ref (fldA a x)) [.ref b_5.2.2.2.1]++n3 b_5.2.2.2.1 b_5.2.2.2.2.1 b_5.2.2.2.2.2 v_deref P (a 30) .none [.ref t.addr])++tokO b_4.1 b_4.2 (kindOf ss) ((P+2)+off ss)) allb [47,48,49,50,51,52,45,46] rfl ?_ rfl ?_ ?_ ?_ (su [] Sup.nil).left fs rfl F; all_goals kernel_rfl)
theorem sel_h_2 {w:World} {b1 b2 b3:Bool} (hP:Rows w b1 b2 b3) (a:Nat->Nat) (S:Str) (L:Nat) (p0 nm0:Nat) (kp:Nat) (hk:kp < 7) (ss:List Sl) (P ta td:Nat) (t:NT) (ht:t.ty = .pt) (T1:TakeCt w a S (P+1) (P+1+1+adv ss) (kindOf ss) (.str v_empty 0) (P+1+1+off ss))
    (IH:∀ fr ta td (t':NT),t'.sh=growS t.sh .h P->SelC w a S L fr (kp+1) ss (P+2) ta td t'):SelC w a S L (.f2 p0 nm0) kp (.h::ss) P ta td t:=by
  obtain ⟨D,op,pl',K,x',r,hp⟩:=root_pt a t ht
  · refine Ct.perm (List.Perm.append_left _ (perm_w (w_ty a) hp)) (Ct.cast (List.append_assoc _ _ _) ?_);refine ct_start (tx:=tx0) (pre:=[(L,selFr a (.f2 p0 nm0) t.addr),(a 5,rdD a kp ta),(a 1,scD S (a 2) (a 3) (P+adv (.h::ss)))]) (ro:=((w_sc a++tokO ta td (kindOf (.h::ss)) (P+off (.h::ss))++w_rd a)++([(t.addr,instO 39 D),(D,nodD op pl' (a 35) K (.ref x'))]++w_ty a))) (sup:=r) hP tx0_ok (by decide) fun A' s R zs ta' N C U D' hR=>?_;refine sg C 4000 o_sel_f_rc_0_1 ?_;intro _;have K_1:=sN s R C trId [((N+37),tupO (strsL [(⟨⟨[46]⟩⟩:Str),(⟨⟨[91]⟩⟩:Str),(⟨⟨[94]⟩⟩:Str)]))] (ct_tupin [(⟨⟨[46]⟩⟩:Str),(⟨⟨[91]⟩⟩:Str),(⟨⟨[94]⟩⟩:Str)] (⟨⟨[94]⟩⟩:Str) (N+37)) [] [37];refine K_1 ?_;intro _ _ _ _ _ _ _ _ C_1 tr_1 su_1 _ _ _;have U_1:=su_1 _ U;refine sg C_1 4000 o_sel_f_rc_0_2 ?_;intro _;have K_2:=sN s R C_1 tr_1 [(a 4,instO 630 (a 5))] (ct_part hP a ta kp hk) [1] [7];refine K_2 ?_;intro _ _ _ _ _ _ _ _ C_2 tr_2 su_2 _ _ _;have U_2:=su_2 _ U_1;refine sg C_2 4000 o_sel_h_0_3 ?_;intro _;have K_3:=sN s R C_2 tr_2 (w_sc a) (T1) [2] [3,4];refine K_3 ?_;intro b_3 _ _ _ _ _ _ _ C_3 tr_3 su_3 _ _ _;have U_3:=su_3 _ U_2;refine sg C_3 4000 o_sel_h_0_4 ?_;intro _;have K_4:=sK s R C_3 tr_3 ([(t.addr,instO 39 D),(D,nodD op pl' (a 35) K (.ref x'))]++w_ty a) r (Ct.perm (perm_w (w_ty a) hp).symm (do_pt hP a t ht P)) [] [18,19,20,21,22,23,24,25,26,27,28,29,30,31,32,33,34,35,36] U_3;refine K_4 ?_;intro b_4 _ _ _ _ _ _ _ C_4 tr_4 su_4 _ _ _;have U_4:=su_4 _ U_3;refine sg C_4 4000 o_sel_f_rc_0_6 ?_;intro _;have K_t:=tK C_4 ((w_sc a++tokO b_3.1 b_3.2 (kindOf ss) ((P+2)+off ss)++w_rd a)++(w_ty a++((n3 b_4.1 b_4.2.1 b_4.2.2 v_deref P (a 30) .none [.ref t.addr])++[(t.addr,instO 39 D),(D,nodD op pl' (a 35) K (.ref x'))]))) r (Ct.perm (perm_t (n:=(n3 b_4.1 b_4.2.1 b_4.2.2 v_deref P (a 30) .none [.ref t.addr])) (f:=t.flat a) hp) (IH (.f2 P nm0) b_3.1 b_3.2 (.drf b_4.1 b_4.2.1 b_4.2.2 P t) rfl)) [0,1,2] [3,4,42,43,7,8,9,10,11,12,13,14,15,16,17,20,21,22,23,24,25,26,27,28,29,30,31,32,33,34,35,36,44,45,46,18,19] U_4 tr_4 D' hR;refine K_t ?_;rintro ⟨tb,frb,tab,tdb,allb⟩ zu zn h' su fs ⟨pd1,ns,junk,pd2,pd3⟩;have F:=sel_fin (ta0:=ta) (td0:=td) (t':=(.drf b_4.1 b_4.2.1 b_4.2.2 P t)) (t:=t) (s:=.h) (P:=P) (n:=(n3 b_4.1 b_4.2.1 b_4.2.2 v_deref P (a 30) .none [.ref t.addr])) rfl rfl rfl pd1 pd2 pd3;cases frb with
    | f0=>(refine finD ⟨tb,.f0,tab,tdb,((n3 b_4.1 b_4.2.1 b_4.2.2 v_deref P (a 30) .none [.ref t.addr])++tokO b_3.1 b_3.2 (kindOf ss) ((P+2)+off ss))++allb⟩ ((n3 b_4.1 b_4.2.1 b_4.2.2 v_deref P (a 30) .none [.ref t.addr])++tokO b_3.1 b_3.2 (kindOf ss) ((P+2)+off ss)) allb [44,45,46,42,43] rfl ?_ rfl ?_ ?_ ?_ (su [] Sup.nil).left fs rfl F; all_goals kernel_rfl)
    | f1 q1=>(refine finD ⟨tb,.f1 q1,tab,tdb,((n3 b_4.1 b_4.2.1 b_4.2.2 v_deref P (a 30) .none [.ref t.addr])++tokO b_3.1 b_3.2 (kindOf ss) ((P+2)+off ss))++allb⟩ ((n3 b_4.1 b_4.2.1 b_4.2.2 v_deref P (a 30) .none [.ref t.addr])++tokO b_3.1 b_3.2 (kindOf ss) ((P+2)+off ss)) allb [44,45,46,42,43] rfl ?_ rfl ?_ ?_ ?_ (su [] Sup.nil).left fs rfl F; all_goals kernel_rfl)
    | f2 q1 q2=>(refine finD ⟨tb,.f2 q1 q2,tab,tdb,((n3 b_4.1 b_4.2.1 b_4.2.2 v_deref P (a 30) .none [.ref t.addr])++tokO b_3.1 b_3.2 (kindOf ss) ((P+2)+off ss))++allb⟩ ((n3 b_4.1 b_4.2.1 b_4.2.2 v_deref P (a 30) .none [.ref t.addr])++tokO b_3.1 b_3.2 (kindOf ss) ((P+2)+off ss)) allb [44,45,46,42,43] rfl ?_ rfl ?_ ?_ ?_ (su [] Sup.nil).left fs rfl F; all_goals kernel_rfl)
theorem root_pt2 (a:Nat->Nat):∀ t:NT,t.ty = .pt->(∃ D op pl K x r,(t.flat a).Perm ([(t.addr,instO 39 D),(D,nodD op pl (a 35) K (.ref x))]++r)∧(op.cps.toList == v_const.cps.toList)=false)
  | .var A D K false vo vod,h=>nomatch h
  | .var A D K true vo vod,_=>⟨D,_,_,K,vo,_,List.Perm.refl _,rfl⟩
  | .fld A D K pl .n kid,h=>nomatch h
  | .fld A D K pl .m kid,h=>nomatch h
  | .fld A D K pl .q kid,_=>⟨D,_,_,K,_,_,List.Perm.refl _,rfl⟩
  | .drf A D K pl kid,h=>nomatch h
  | .grd A D K pl kid,_=>⟨D,_,_,K,_,_,List.Perm.refl _,rfl⟩
  | .idx A D K pl true v CA CD CK cpl kid,h=>nomatch h
  | .idx A D K pl false v CA CD CK cpl kid,h=>nomatch h
theorem ct_ne {w:World} {x y:Str} (h:(x.cps.toList == y.cps.toList)=false) :
    Ct w 0 0 (.call (.builtin "str.__ne__") ⟨[.str x 0,.str y 0],[]⟩) [] [] (β:=Unit) (fun _=>⟨.ret (.bool true),[],[],[]⟩) (fun _=>True):=by
  intro A s R c hb hc hp hn hR;obtain ⟨f,e⟩:=un_code c;rw [hc] at e;subst e;show codeAny (model pz w) A (.call (.builtin "str.__ne__") ⟨[.str x (f 0),.str y (f 1)],[]⟩) R s;refine codeAny_call_builtin F.slot_str_ne.plain F.entry_str_ne (F.slot_str_ne.check _ _ _ _ _ _ _ _ (typeIs_str s x _) (F.args_str_ne_2 _ _) ?_);refine gives_str_ne x y _ _ pz w A R s ?_;show R (.ok (.ret (.bool (!(x.cps.toList == y.cps.toList))))) s;rw [h];exact hR () _ s rfl ⟨rfl,rfl,rfl,Nat.le_refl _,fun _ _ h _=>h⟩ trivial rfl trivial List.nodup_nil (fun _ h=>nomatch h) trivial
theorem io_th_all {w:World} {b1 b2 b3:Bool} (hP:Rows w b1 b2 b3) (a:Nat->Nat) (t:NT) (ht:t.ty = .th) (pl:Nat) (CA CD CK cpl:Nat) (v:Bool):Ct w 200 200 (.call (.ref 85) ⟨[.ref (a 6),.ref (a 2),.ref t.addr,.ref CA,.int (Int.ofNat pl) 0],[]⟩) [] ([(CA,instO 39 CD),(CD,nodD v_const cpl (a 15) CK (.int (Int.ofNat (bn v)) 0))]++(w_ty a++t.flat a)) (fun b:Nat×Nat×Nat=>⟨.ret (.ref b.1),[],n3 b.1 b.2.1 b.2.2 v_index pl (a 25) .none [.ref t.addr,.ref CA],[]⟩) (fun _=>True):=by
  cases v
  · exact io_th_0 hP a t ht pl CA CD CK cpl
  · exact io_th_1 hP a t ht pl CA CD CK cpl
theorem io_pa_all {w:World} {b1 b2 b3:Bool} (hP:Rows w b1 b2 b3) (a:Nat->Nat) (t:NT) (ht:t.ty = .pa) (pl:Nat) (CA CD CK cpl:Nat) (v:Bool):Ct w 200 200 (.call (.ref 85) ⟨[.ref (a 6),.ref (a 2),.ref t.addr,.ref CA,.int (Int.ofNat pl) 0],[]⟩) [] ([(CA,instO 39 CD),(CD,nodD v_const cpl (a 15) CK (.int (Int.ofNat (bn v)) 0))]++(w_ty a++t.flat a)) (fun b:Nat×Nat×Nat=>⟨.ret (.ref b.1),[],n3 b.1 b.2.1 b.2.2 v_index pl (a 15) .none [.ref t.addr,.ref CA],[]⟩) (fun _=>True):=by
  cases v
  · exact io_pa_0 hP a t ht pl CA CD CK cpl
  · exact io_pa_1 hP a t ht pl CA CD CK cpl
noncomputable def n6 (a:Nat->Nat) (A D K:Nat) (pl ty v CA CD CK cpl kid:Nat):List (Nat×Obj):=[(A,instO 39 D),(D,nodD v_index pl ty K .none),(K,listO [.ref kid,.ref CA]),(CA,instO 39 CD),(CD,nodD v_const cpl (a 15) CK (.int (Int.ofNat v) 0)),(CK,listO [])]
noncomputable def o_sel_g_0_1:List Nat:=[0,1,8,0,0,0,0,8,0,0,0,8,8,0,2,6,0,0,0,0,6,0,0,0,6,6,0,7,0,1,1,1,8,0,0,0,0,8,0,0,0,8,8,0,2,6,0,0,0,0,6,0,0,0,6,6,0,7,0,38,38]
noncomputable def o_sel_g_0_2:List Nat:=[1,8,0,0,0,8,0,0,0,8,0,0,0,0,8,2,0,1,0,39,39,39,39,39,8,0,0,0,0,8,0,0,0,8,8,0,2,6,0,0,0,0,6,0,0,0,6,6,0,7,0,39,0,1,8,0,0,0,8,0,0,0,8,0,0,0,0,8,2,0,1,0,40,40,40,40,40,8,0,0,0,0,8,0,0,0,8,8,0,2,6,0,0,0,0,6,0,0,0,6,6,0,7,0,40,0,1,8,0,0,0,8,0,0,0,8,0,0,0,0,8,2,0,1,0,41,41,41,41,41,8,0,0,0,0,8,0,0,0,8,8,0,2,6,0,0,0,0,6,0,0,0,6,6,0,7,0,41,0,1,8,0,0,0,8,0,0,0,8,0,0,0,0,8,2,0,1,0,42,42,42,42,42,8,0,0,0,0,8,0,0,0,8,8,0,2,6,0,0,0,0,6,0,0,0,6,6,0,7,0,42,0,1,19,0,0,0,0,19,0,0,0,19,19,0,20]
noncomputable def o_sel_g_0_3:List Nat:=[1,19,0,0,0,0,19,0,0,0,19,19,0,20,29,0,0,0,0,29,0,0,0,29,29,0,30,0,43,43]
noncomputable def o_sel_g_0_4:List Nat:=[0,1,1,1,0,1,0,44,44,44,44,44,44,44,8,0,0,0,8,0,0,0,8,0,0,0,0,8,2,0,1,0,45,45,45,45,45,8,0,0,0,8,0,0,0,8,0,0,0,0,8,2,45,0,1,0,46,46,46,46,46,8,0,0,0,0,8,0,0,0,8,8,0,2,6,0,0,0,0,6,0,0,0,6,6,0,7,0,46,0,46,8,0,0,0,8,0,0,0,8,0,0,0,0,8,2,0,1,0,47,47,47,8,0,0,0,0,8,0,0,0,8,8,0,2,47,47,47,8,0,0,0,0,8,0,0,0,8,8,0,2,4,0,0,0,4,0,0,0,4,0,0,0,0,4,3,0]
noncomputable def o_sel_g_0_5:List Nat:=[47,8,0,0,0,0,8,0,8,0,8,0,0,0,8,0,2,2,2,47,0,44,8,0,0,0,0,8,0,0,0,8,8,0,2,48,0,0,0,0,48,0,0,0,48,48,0,49,0,44,44,0,44,0,1,0,50,50,50,8,0,0,0,8,0,0,0,8,0,0,0,0,8,2,0,1,0,51,51,51,8,0,0,0,8,0,0,0,8,0,0,0,0,8,2,0,1,0,52,52,52,52,52,8,0,0,0,0,8,0,0,0,8,8,0,2,48,0,0,0,0,48,0,0,0,48,48,0,49,0,52,0,51,8,0,0,0,8,0,0,0,8,0,0,0,0,8,2,0,1,0,53,53,53,8,0,0,0,0,8,0,0,0,8,8,0,2,53,53,53,8,0,0,0,0,8,0,0,0,8,8,0,2,4,0,0,0,4,0,0,0,4,0,0,0,0,4,3,0]
noncomputable def o_sel_g_0_6:List Nat:=[53,8,0,0,0,0,8,0,8,0,8,0,0,0,8,0,2,2,2,53,50,50,50,50,8,0,0,0,0,8,0,0,0,8,8,0,2,11,0,0,0,11,0,0,0,11,0,0,0,0,11,12,50,48,0,0,0,0,48,0,0,0,48,48,0,49,0,1,0,56,56,56,56,0,0,56,11,0,0,0,0,11,0,0,0,11,11,0,12,0,0,13,0,13,13,57,57,57,0,57,57,0,57,0,57,57,57,13,57,57,56,56,56,56,14,0,0,0,0,14,0,0,0,14,14,0,15,16,16]
noncomputable def o_sel_g_0_7:List Nat:=[56,14,0,0,0,0,14,0,0,0,14,14,0,15,56,16,16,16]
noncomputable def o_sel_g_0_8:List Nat:=[0,50,50,50,50,17,0,0,0,0,17,0,0,0,17,17,0,18,0,50,44,44,44,44,17,0,0,0,0,17,0,0,0,17,17,0,18,0,0,44,8,0,0,0,0,8,0,0,0,8,8,0,2,44,8,0,0,0,0,8,0,0,0,8,8,0,2,44,44,17,0,0,0,0,17,0,0,0,17,17,0,18,44,0]
noncomputable def o_sel_g_0_9:List Nat:=[44,44,44,8,0,0,0,8,0,0,0,8,0,0,0,0,8,2,0,1,0,61,61,61,61,61,8,0,0,0,8,0,0,0,8,0,0,0,0,8,2,61,0,1,0,62,62,62,62,62,8,0,0,0,0,8,0,0,0,8,8,0,2,54,0,0,0,0,54,0,0,0,54,54,0,55,0,62,0,62,8,0,0,0,8,0,0,0,8,0,0,0,0,8,2,0,1,0,63,63,63,8,0,0,0,0,8,0,0,0,8,8,0,2,63,63,63,8,0,0,0,0,8,0,0,0,8,8,0,2,4,0,0,0,4,0,0,0,4,0,0,0,0,4,3,0]
noncomputable def o_sel_g_0_10:List Nat:=[63,8,0,0,0,0,8,0,8,0,8,0,0,0,8,0,2,2,2,63,0,44,1,1]
theorem sel_g_0 {w:World} {b1 b2 b3:Bool} (hP:Rows w b1 b2 b3) (a:Nat->Nat) (S:Str) (L:Nat) (kp:Nat) (hk:kp < 7) (ss:List Sl) (P ta td:Nat) (t:NT) (ht:t.ty = .pt) (T1:TakeCt w a S (P+1) (P+1+1) v_ident (.str v_P 0) (P+1+0)) (T2:TakeCt w a S (P+2) (P+2+1) v_rpar (.str v_empty 0) (P+2+0)) (T3:TakeCt w a S (P+3) (P+3+adv ss) (kindOf ss) (.str v_empty 0) (P+3+off ss))
    (IH:∀ fr ta td (t':NT),t'.sh=growS t.sh .g P->SelC w a S L fr kp ss (P+3) ta td t'):SelC w a S L .f0 kp (.g::ss) P ta td t:=by
  obtain ⟨D,op,pl',K,x',r,hp,hne⟩:=root_pt2 a t ht
  · refine Ct.perm (List.Perm.append_left _ (perm_w (w_ty a) hp)) (Ct.cast (List.append_assoc _ _ _) ?_);refine ct_start (tx:=tx0) (pre:=[(L,selFr a .f0 t.addr),(a 5,rdD a kp ta),(a 1,scD S (a 2) (a 3) (P+adv (.g::ss)))]) (ro:=((w_sc a++tokO ta td (kindOf (.g::ss)) (P+off (.g::ss))++w_rd a)++([(t.addr,instO 39 D),(D,nodD op pl' (a 35) K (.ref x'))]++w_ty a))) (sup:=r) hP tx0_ok (by decide) fun A' s R zs ta' N C U D' hR=>?_;refine sg C 4000 o_sel_g_0_1 ?_;intro _;have K_1:=sN s R C trId [((N+37),tupO (strsL [(⟨⟨[46]⟩⟩:Str),(⟨⟨[91]⟩⟩:Str),(⟨⟨[94]⟩⟩:Str)]))] (ct_tupin [(⟨⟨[46]⟩⟩:Str),(⟨⟨[91]⟩⟩:Str),(⟨⟨[94]⟩⟩:Str)] (⟨⟨[40]⟩⟩:Str) (N+37)) [] [37];refine K_1 ?_;intro _ _ _ _ _ _ _ _ C_1 tr_1 su_1 _ _ _;have U_1:=su_1 _ U;refine sg C_1 4000 o_sel_g_0_2 ?_;intro _;have K_2:=sN s R C_1 tr_1 [] (ct_ne hne) [] [];refine K_2 ?_;intro _ _ _ _ N_2 _ _ _ C_2 tr_2 su_2 _ _ _;have U_2:=su_2 _ U_1;refine sg C_2 4000 o_sel_g_0_3 ?_;intro _;have K_3:=sN s R C_2 tr_2 [((N_2+42),tupO (strsL [(⟨⟨[114,101,99,111,114,100]⟩⟩:Str),(⟨⟨[112,111,105,110,116,101,114]⟩⟩:Str)]))] (ct_tupin [(⟨⟨[114,101,99,111,114,100]⟩⟩:Str),(⟨⟨[112,111,105,110,116,101,114]⟩⟩:Str)] (⟨⟨[112,111,105,110,116,101,114]⟩⟩:Str) (N_2+42)) [] [42];refine K_3 ?_;intro _ _ _ _ _ _ _ _ C_3 tr_3 su_3 _ _ _;have U_3:=su_3 _ U_2;refine sg C_3 4000 o_sel_g_0_4 ?_;intro _;have K_4:=sN s R C_3 tr_3 (w_sc a) (T1) [2] [3,4];refine K_4 ?_;intro b_4 _ _ _ _ _ _ _ C_4 tr_4 su_4 _ _ _;have U_4:=su_4 _ U_3;refine sg C_4 4000 o_sel_g_0_5 ?_;intro _;have K_5:=sN s R C_4 tr_4 (w_sc a) (T2) [2] [3,4];refine K_5 ?_;intro b_5 _ _ _ _ _ _ _ C_5 tr_5 su_5 _ _ _;have U_5:=su_5 _ U_4;refine sg C_5 4000 o_sel_g_0_6 ?_;intro _;have K_6:=sN s R C_5 tr_5 [(a 52,dictO [(v_P,.ref (a 54))])] (ct_dictin [(v_P,.ref (a 54))] v_P (.ref (a 54)) (a 52) rfl) [] [15];refine K_6 ?_;intro _ _ _ _ _ _ _ _ C_6 tr_6 su_6 _ _ _;have U_6:=su_6 _ U_5;refine sg C_6 4000 o_sel_g_0_7 ?_;intro _;have K_7:=sN s R C_6 tr_6 [(a 52,dictO [(v_P,.ref (a 54))])] (ct_dictget [(v_P,.ref (a 54))] v_P (.ref (a 54)) (a 52) rfl rfl) [] [15];refine K_7 ?_;intro _ _ _ _ _ _ _ _ C_7 tr_7 su_7 _ _ _;have U_7:=su_7 _ U_6;refine sg C_7 4000 o_sel_g_0_8 ?_;intro _;have K_8:=sK s R C_7 tr_7 ([(t.addr,instO 39 D),(D,nodD op pl' (a 35) K (.ref x'))]++w_ty a) r (Ct.perm (perm_w (w_ty a) hp).symm (go_pt hP a t ht P)) [] [18,19,20,21,22,23,24,25,26,27,28,29,30,31,32,33,34,35,36] U_7;refine K_8 ?_;intro b_8 _ _ _ _ _ _ _ C_8 tr_8 su_8 _ _ _;have U_8:=su_8 _ U_7;refine sg C_8 4000 o_sel_g_0_9 ?_;intro _;have K_9:=sN s R C_8 tr_8 (w_sc a) (T3) [2] [3,4];refine K_9 ?_;intro b_9 _ _ _ _ _ _ _ C_9 tr_9 su_9 _ _ _;have U_9:=su_9 _ U_8;refine sg C_9 4000 o_sel_g_0_10 ?_;intro _;have K_t:=tK C_9 ((w_sc a++tokO b_9.1 b_9.2 (kindOf ss) ((P+3)+off ss)++w_rd a)++(w_ty a++((n3 b_8.1 b_8.2.1 b_8.2.2 v_guard P (a 35) (.ref (a 35)) [.ref t.addr])++[(t.addr,instO 39 D),(D,nodD op pl' (a 35) K (.ref x'))]))) r (Ct.perm (perm_t (n:=(n3 b_8.1 b_8.2.1 b_8.2.2 v_guard P (a 35) (.ref (a 35)) [.ref t.addr])) (f:=t.flat a) hp) (IH (.f1 P) b_9.1 b_9.2 (.grd b_8.1 b_8.2.1 b_8.2.2 P t) rfl)) [0,1,2] [3,4,63,64,7,8,9,10,11,12,13,14,15,16,17,20,21,22,23,24,25,26,27,28,29,30,31,32,33,34,35,36,57,58,59,18,19] U_9 tr_9 D' hR;refine K_t ?_;rintro ⟨tb,frb,tab,tdb,allb⟩ zu zn h' su fs ⟨pd1,ns,junk,pd2,pd3⟩;have F:=sel_fin (ta0:=ta) (td0:=td) (t':=(.grd b_8.1 b_8.2.1 b_8.2.2 P t)) (t:=t) (s:=.g) (P:=P) (n:=(n3 b_8.1 b_8.2.1 b_8.2.2 v_guard P (a 35) (.ref (a 35)) [.ref t.addr])) rfl rfl rfl pd1 pd2 pd3;cases frb with
    | f0=>(refine finD ⟨tb,.f0,tab,tdb,((n3 b_8.1 b_8.2.1 b_8.2.2 v_guard P (a 35) (.ref (a 35)) [.ref t.addr])++tokO b_9.1 b_9.2 (kindOf ss) ((P+3)+off ss))++allb⟩ ((n3 b_8.1 b_8.2.1 b_8.2.2 v_guard P (a 35) (.ref (a 35)) [.ref t.addr])++tokO b_9.1 b_9.2 (kindOf ss) ((P+3)+off ss)) allb [57,58,59,63,64] rfl ?_ rfl ?_ ?_ ?_ (su [] Sup.nil).left fs rfl F; all_goals kernel_rfl)
    | f1 q1=>(refine finD ⟨tb,.f1 q1,tab,tdb,((n3 b_8.1 b_8.2.1 b_8.2.2 v_guard P (a 35) (.ref (a 35)) [.ref t.addr])++tokO b_9.1 b_9.2 (kindOf ss) ((P+3)+off ss))++allb⟩ ((n3 b_8.1 b_8.2.1 b_8.2.2 v_guard P (a 35) (.ref (a 35)) [.ref t.addr])++tokO b_9.1 b_9.2 (kindOf ss) ((P+3)+off ss)) allb [57,58,59,63,64] rfl ?_ rfl ?_ ?_ ?_ (su [] Sup.nil).left fs rfl F; all_goals kernel_rfl)
    | f2 q1 q2=>(refine finD ⟨tb,.f2 q1 q2,tab,tdb,((n3 b_8.1 b_8.2.1 b_8.2.2 v_guard P (a 35) (.ref (a 35)) [.ref t.addr])++tokO b_9.1 b_9.2 (kindOf ss) ((P+3)+off ss))++allb⟩ ((n3 b_8.1 b_8.2.1 b_8.2.2 v_guard P (a 35) (.ref (a 35)) [.ref t.addr])++tokO b_9.1 b_9.2 (kindOf ss) ((P+3)+off ss)) allb [57,58,59,63,64] rfl ?_ rfl ?_ ?_ ?_ (su [] Sup.nil).left fs rfl F; all_goals kernel_rfl)
theorem sel_g_1 {w:World} {b1 b2 b3:Bool} (hP:Rows w b1 b2 b3) (a:Nat->Nat) (S:Str) (L:Nat) (p0:Nat) (kp:Nat) (hk:kp < 7) (ss:List Sl) (P ta td:Nat) (t:NT) (ht:t.ty = .pt) (T1:TakeCt w a S (P+1) (P+1+1) v_ident (.str v_P 0) (P+1+0)) (T2:TakeCt w a S (P+2) (P+2+1) v_rpar (.str v_empty 0) (P+2+0)) (T3:TakeCt w a S (P+3) (P+3+adv ss) (kindOf ss) (.str v_empty 0) (P+3+off ss))
    (IH:∀ fr ta td (t':NT),t'.sh=growS t.sh .g P->SelC w a S L fr kp ss (P+3) ta td t'):SelC w a S L (.f1 p0) kp (.g::ss) P ta td t:=by
  obtain ⟨D,op,pl',K,x',r,hp,hne⟩:=root_pt2 a t ht
  · refine Ct.perm (List.Perm.append_left _ (perm_w (w_ty a) hp)) (Ct.cast (List.append_assoc _ _ _) ?_);refine ct_start (tx:=tx0) (pre:=[(L,selFr a (.f1 p0) t.addr),(a 5,rdD a kp ta),(a 1,scD S (a 2) (a 3) (P+adv (.g::ss)))]) (ro:=((w_sc a++tokO ta td (kindOf (.g::ss)) (P+off (.g::ss))++w_rd a)++([(t.addr,instO 39 D),(D,nodD op pl' (a 35) K (.ref x'))]++w_ty a))) (sup:=r) hP tx0_ok (by decide) fun A' s R zs ta' N C U D' hR=>?_;refine sg C 4000 o_sel_g_0_1 ?_;intro _;have K_1:=sN s R C trId [((N+37),tupO (strsL [(⟨⟨[46]⟩⟩:Str),(⟨⟨[91]⟩⟩:Str),(⟨⟨[94]⟩⟩:Str)]))] (ct_tupin [(⟨⟨[46]⟩⟩:Str),(⟨⟨[91]⟩⟩:Str),(⟨⟨[94]⟩⟩:Str)] (⟨⟨[40]⟩⟩:Str) (N+37)) [] [37];refine K_1 ?_;intro _ _ _ _ _ _ _ _ C_1 tr_1 su_1 _ _ _;have U_1:=su_1 _ U;refine sg C_1 4000 o_sel_g_0_2 ?_;intro _;have K_2:=sN s R C_1 tr_1 [] (ct_ne hne) [] [];refine K_2 ?_;intro _ _ _ _ N_2 _ _ _ C_2 tr_2 su_2 _ _ _;have U_2:=su_2 _ U_1;refine sg C_2 4000 o_sel_g_0_3 ?_;intro _;have K_3:=sN s R C_2 tr_2 [((N_2+42),tupO (strsL [(⟨⟨[114,101,99,111,114,100]⟩⟩:Str),(⟨⟨[112,111,105,110,116,101,114]⟩⟩:Str)]))] (ct_tupin [(⟨⟨[114,101,99,111,114,100]⟩⟩:Str),(⟨⟨[112,111,105,110,116,101,114]⟩⟩:Str)] (⟨⟨[112,111,105,110,116,101,114]⟩⟩:Str) (N_2+42)) [] [42];refine K_3 ?_;intro _ _ _ _ _ _ _ _ C_3 tr_3 su_3 _ _ _;have U_3:=su_3 _ U_2;refine sg C_3 4000 o_sel_g_0_4 ?_;intro _;have K_4:=sN s R C_3 tr_3 (w_sc a) (T1) [2] [3,4];refine K_4 ?_;intro b_4 _ _ _ _ _ _ _ C_4 tr_4 su_4 _ _ _;have U_4:=su_4 _ U_3;refine sg C_4 4000 o_sel_g_0_5 ?_;intro _;have K_5:=sN s R C_4 tr_4 (w_sc a) (T2) [2] [3,4];refine K_5 ?_;intro b_5 _ _ _ _ _ _ _ C_5 tr_5 su_5 _ _ _;have U_5:=su_5 _ U_4;refine sg C_5 4000 o_sel_g_0_6 ?_;intro _;have K_6:=sN s R C_5 tr_5 [(a 52,dictO [(v_P,.ref (a 54))])] (ct_dictin [(v_P,.ref (a 54))] v_P (.ref (a 54)) (a 52) rfl) [] [15];refine K_6 ?_;intro _ _ _ _ _ _ _ _ C_6 tr_6 su_6 _ _ _;have U_6:=su_6 _ U_5;refine sg C_6 4000 o_sel_g_0_7 ?_;intro _;have K_7:=sN s R C_6 tr_6 [(a 52,dictO [(v_P,.ref (a 54))])] (ct_dictget [(v_P,.ref (a 54))] v_P (.ref (a 54)) (a 52) rfl rfl) [] [15];refine K_7 ?_;intro _ _ _ _ _ _ _ _ C_7 tr_7 su_7 _ _ _;have U_7:=su_7 _ U_6;refine sg C_7 4000 o_sel_g_0_8 ?_;intro _;have K_8:=sK s R C_7 tr_7 ([(t.addr,instO 39 D),(D,nodD op pl' (a 35) K (.ref x'))]++w_ty a) r (Ct.perm (perm_w (w_ty a) hp).symm (go_pt hP a t ht P)) [] [18,19,20,21,22,23,24,25,26,27,28,29,30,31,32,33,34,35,36] U_7;refine K_8 ?_;intro b_8 _ _ _ _ _ _ _ C_8 tr_8 su_8 _ _ _;have U_8:=su_8 _ U_7;refine sg C_8 4000 o_sel_g_0_9 ?_;intro _;have K_9:=sN s R C_8 tr_8 (w_sc a) (T3) [2] [3,4];refine K_9 ?_;intro b_9 _ _ _ _ _ _ _ C_9 tr_9 su_9 _ _ _;have U_9:=su_9 _ U_8;refine sg C_9 4000 o_sel_g_0_10 ?_;intro _;have K_t:=tK C_9 ((w_sc a++tokO b_9.1 b_9.2 (kindOf ss) ((P+3)+off ss)++w_rd a)++(w_ty a++((n3 b_8.1 b_8.2.1 b_8.2.2 v_guard P (a 35) (.ref (a 35)) [.ref t.addr])++[(t.addr,instO 39 D),(D,nodD op pl' (a 35) K (.ref x'))]))) r (Ct.perm (perm_t (n:=(n3 b_8.1 b_8.2.1 b_8.2.2 v_guard P (a 35) (.ref (a 35)) [.ref t.addr])) (f:=t.flat a) hp) (IH (.f1 P) b_9.1 b_9.2 (.grd b_8.1 b_8.2.1 b_8.2.2 P t) rfl)) [0,1,2] [3,4,63,64,7,8,9,10,11,12,13,14,15,16,17,20,21,22,23,24,25,26,27,28,29,30,31,32,33,34,35,36,57,58,59,18,19] U_9 tr_9 D' hR;refine K_t ?_;rintro ⟨tb,frb,tab,tdb,allb⟩ zu zn h' su fs ⟨pd1,ns,junk,pd2,pd3⟩;have F:=sel_fin (ta0:=ta) (td0:=td) (t':=(.grd b_8.1 b_8.2.1 b_8.2.2 P t)) (t:=t) (s:=.g) (P:=P) (n:=(n3 b_8.1 b_8.2.1 b_8.2.2 v_guard P (a 35) (.ref (a 35)) [.ref t.addr])) rfl rfl rfl pd1 pd2 pd3;cases frb with
    | f0=>(refine finD ⟨tb,.f0,tab,tdb,((n3 b_8.1 b_8.2.1 b_8.2.2 v_guard P (a 35) (.ref (a 35)) [.ref t.addr])++tokO b_9.1 b_9.2 (kindOf ss) ((P+3)+off ss))++allb⟩ ((n3 b_8.1 b_8.2.1 b_8.2.2 v_guard P (a 35) (.ref (a 35)) [.ref t.addr])++tokO b_9.1 b_9.2 (kindOf ss) ((P+3)+off ss)) allb [57,58,59,63,64] rfl ?_ rfl ?_ ?_ ?_ (su [] Sup.nil).left fs rfl F; all_goals kernel_rfl)
    | f1 q1=>(refine finD ⟨tb,.f1 q1,tab,tdb,((n3 b_8.1 b_8.2.1 b_8.2.2 v_guard P (a 35) (.ref (a 35)) [.ref t.addr])++tokO b_9.1 b_9.2 (kindOf ss) ((P+3)+off ss))++allb⟩ ((n3 b_8.1 b_8.2.1 b_8.2.2 v_guard P (a 35) (.ref (a 35)) [.ref t.addr])++tokO b_9.1 b_9.2 (kindOf ss) ((P+3)+off ss)) allb [57,58,59,63,64] rfl ?_ rfl ?_ ?_ ?_ (su [] Sup.nil).left fs rfl F; all_goals kernel_rfl)
    | f2 q1 q2=>(refine finD ⟨tb,.f2 q1 q2,tab,tdb,((n3 b_8.1 b_8.2.1 b_8.2.2 v_guard P (a 35) (.ref (a 35)) [.ref t.addr])++tokO b_9.1 b_9.2 (kindOf ss) ((P+3)+off ss))++allb⟩ ((n3 b_8.1 b_8.2.1 b_8.2.2 v_guard P (a 35) (.ref (a 35)) [.ref t.addr])++tokO b_9.1 b_9.2 (kindOf ss) ((P+3)+off ss)) allb [57,58,59,63,64] rfl ?_ rfl ?_ ?_ ?_ (su [] Sup.nil).left fs rfl F; all_goals kernel_rfl)
theorem sel_g_2 {w:World} {b1 b2 b3:Bool} (hP:Rows w b1 b2 b3) (a:Nat->Nat) (S:Str) (L:Nat) (p0 nm0:Nat) (kp:Nat) (hk:kp < 7) (ss:List Sl) (P ta td:Nat) (t:NT) (ht:t.ty = .pt) (T1:TakeCt w a S (P+1) (P+1+1) v_ident (.str v_P 0) (P+1+0)) (T2:TakeCt w a S (P+2) (P+2+1) v_rpar (.str v_empty 0) (P+2+0)) (T3:TakeCt w a S (P+3) (P+3+adv ss) (kindOf ss) (.str v_empty 0) (P+3+off ss))
    (IH:∀ fr ta td (t':NT),t'.sh=growS t.sh .g P->SelC w a S L fr kp ss (P+3) ta td t'):SelC w a S L (.f2 p0 nm0) kp (.g::ss) P ta td t:=by
  obtain ⟨D,op,pl',K,x',r,hp,hne⟩:=root_pt2 a t ht
  · refine Ct.perm (List.Perm.append_left _ (perm_w (w_ty a) hp)) (Ct.cast (List.append_assoc _ _ _) ?_);refine ct_start (tx:=tx0) (pre:=[(L,selFr a (.f2 p0 nm0) t.addr),(a 5,rdD a kp ta),(a 1,scD S (a 2) (a 3) (P+adv (.g::ss)))]) (ro:=((w_sc a++tokO ta td (kindOf (.g::ss)) (P+off (.g::ss))++w_rd a)++([(t.addr,instO 39 D),(D,nodD op pl' (a 35) K (.ref x'))]++w_ty a))) (sup:=r) hP tx0_ok (by decide) fun A' s R zs ta' N C U D' hR=>?_;refine sg C 4000 o_sel_g_0_1 ?_;intro _;have K_1:=sN s R C trId [((N+37),tupO (strsL [(⟨⟨[46]⟩⟩:Str),(⟨⟨[91]⟩⟩:Str),(⟨⟨[94]⟩⟩:Str)]))] (ct_tupin [(⟨⟨[46]⟩⟩:Str),(⟨⟨[91]⟩⟩:Str),(⟨⟨[94]⟩⟩:Str)] (⟨⟨[40]⟩⟩:Str) (N+37)) [] [37];refine K_1 ?_;intro _ _ _ _ _ _ _ _ C_1 tr_1 su_1 _ _ _;have U_1:=su_1 _ U;refine sg C_1 4000 o_sel_g_0_2 ?_;intro _;have K_2:=sN s R C_1 tr_1 [] (ct_ne hne) [] [];refine K_2 ?_;intro _ _ _ _ N_2 _ _ _ C_2 tr_2 su_2 _ _ _;have U_2:=su_2 _ U_1;refine sg C_2 4000 o_sel_g_0_3 ?_;intro _;have K_3:=sN s R C_2 tr_2 [((N_2+42),tupO (strsL [(⟨⟨[114,101,99,111,114,100]⟩⟩:Str),(⟨⟨[112,111,105,110,116,101,114]⟩⟩:Str)]))] (ct_tupin [(⟨⟨[114,101,99,111,114,100]⟩⟩:Str),(⟨⟨[112,111,105,110,116,101,114]⟩⟩:Str)] (⟨⟨[112,111,105,110,116,101,114]⟩⟩:Str) (N_2+42)) [] [42];refine K_3 ?_;intro _ _ _ _ _ _ _ _ C_3 tr_3 su_3 _ _ _;have U_3:=su_3 _ U_2;refine sg C_3 4000 o_sel_g_0_4 ?_;intro _;have K_4:=sN s R C_3 tr_3 (w_sc a) (T1) [2] [3,4];refine K_4 ?_;intro b_4 _ _ _ _ _ _ _ C_4 tr_4 su_4 _ _ _;have U_4:=su_4 _ U_3;refine sg C_4 4000 o_sel_g_0_5 ?_;intro _;have K_5:=sN s R C_4 tr_4 (w_sc a) (T2) [2] [3,4];refine K_5 ?_;intro b_5 _ _ _ _ _ _ _ C_5 tr_5 su_5 _ _ _;have U_5:=su_5 _ U_4;refine sg C_5 4000 o_sel_g_0_6 ?_;intro _;have K_6:=sN s R C_5 tr_5 [(a 52,dictO [(v_P,.ref (a 54))])] (ct_dictin [(v_P,.ref (a 54))] v_P (.ref (a 54)) (a 52) rfl) [] [15];refine K_6 ?_;intro _ _ _ _ _ _ _ _ C_6 tr_6 su_6 _ _ _;have U_6:=su_6 _ U_5;refine sg C_6 4000 o_sel_g_0_7 ?_;intro _;have K_7:=sN s R C_6 tr_6 [(a 52,dictO [(v_P,.ref (a 54))])] (ct_dictget [(v_P,.ref (a 54))] v_P (.ref (a 54)) (a 52) rfl rfl) [] [15];refine K_7 ?_;intro _ _ _ _ _ _ _ _ C_7 tr_7 su_7 _ _ _;have U_7:=su_7 _ U_6;refine sg C_7 4000 o_sel_g_0_8 ?_;intro _;have K_8:=sK s R C_7 tr_7 ([(t.addr,instO 39 D),(D,nodD op pl' (a 35) K (.ref x'))]++w_ty a) r (Ct.perm (perm_w (w_ty a) hp).symm (go_pt hP a t ht P)) [] [18,19,20,21,22,23,24,25,26,27,28,29,30,31,32,33,34,35,36] U_7;refine K_8 ?_;intro b_8 _ _ _ _ _ _ _ C_8 tr_8 su_8 _ _ _;have U_8:=su_8 _ U_7;refine sg C_8 4000 o_sel_g_0_9 ?_;intro _;have K_9:=sN s R C_8 tr_8 (w_sc a) (T3) [2] [3,4];refine K_9 ?_;intro b_9 _ _ _ _ _ _ _ C_9 tr_9 su_9 _ _ _;have U_9:=su_9 _ U_8;refine sg C_9 4000 o_sel_g_0_10 ?_;intro _;have K_t:=tK C_9 ((w_sc a++tokO b_9.1 b_9.2 (kindOf ss) ((P+3)+off ss)++w_rd a)++(w_ty a++((n3 b_8.1 b_8.2.1 b_8.2.2 v_guard P (a 35) (.ref (a 35)) [.ref t.addr])++[(t.addr,instO 39 D),(D,nodD op pl' (a 35) K (.ref x'))]))) r (Ct.perm (perm_t (n:=(n3 b_8.1 b_8.2.1 b_8.2.2 v_guard P (a 35) (.ref (a 35)) [.ref t.addr])) (f:=t.flat a) hp) (IH (.f2 P nm0) b_9.1 b_9.2 (.grd b_8.1 b_8.2.1 b_8.2.2 P t) rfl)) [0,1,2] [3,4,63,64,7,8,9,10,11,12,13,14,15,16,17,20,21,22,23,24,25,26,27,28,29,30,31,32,33,34,35,36,57,58,59,18,19] U_9 tr_9 D' hR;refine K_t ?_;rintro ⟨tb,frb,tab,tdb,allb⟩ zu zn h' su fs ⟨pd1,ns,junk,pd2,pd3⟩;have F:=sel_fin (ta0:=ta) (td0:=td) (t':=(.grd b_8.1 b_8.2.1 b_8.2.2 P t)) (t:=t) (s:=.g) (P:=P) (n:=(n3 b_8.1 b_8.2.1 b_8.2.2 v_guard P (a 35) (.ref (a 35)) [.ref t.addr])) rfl rfl rfl pd1 pd2 pd3;cases frb with
    | f0=>(refine finD ⟨tb,.f0,tab,tdb,((n3 b_8.1 b_8.2.1 b_8.2.2 v_guard P (a 35) (.ref (a 35)) [.ref t.addr])++tokO b_9.1 b_9.2 (kindOf ss) ((P+3)+off ss))++allb⟩ ((n3 b_8.1 b_8.2.1 b_8.2.2 v_guard P (a 35) (.ref (a 35)) [.ref t.addr])++tokO b_9.1 b_9.2 (kindOf ss) ((P+3)+off ss)) allb [57,58,59,63,64] rfl ?_ rfl ?_ ?_ ?_ (su [] Sup.nil).left fs rfl F; all_goals kernel_rfl)
    | f1 q1=>(refine finD ⟨tb,.f1 q1,tab,tdb,((n3 b_8.1 b_8.2.1 b_8.2.2 v_guard P (a 35) (.ref (a 35)) [.ref t.addr])++tokO b_9.1 b_9.2 (kindOf ss) ((P+3)+off ss))++allb⟩ ((n3 b_8.1 b_8.2.1 b_8.2.2 v_guard P (a 35) (.ref (a 35)) [.ref t.addr])++tokO b_9.1 b_9.2 (kindOf ss) ((P+3)+off ss)) allb [57,58,59,63,64] rfl ?_ rfl ?_ ?_ ?_ (su [] Sup.nil).left fs rfl F; all_goals kernel_rfl)
    | f2 q1 q2=>(refine finD ⟨tb,.f2 q1 q2,tab,tdb,((n3 b_8.1 b_8.2.1 b_8.2.2 v_guard P (a 35) (.ref (a 35)) [.ref t.addr])++tokO b_9.1 b_9.2 (kindOf ss) ((P+3)+off ss))++allb⟩ ((n3 b_8.1 b_8.2.1 b_8.2.2 v_guard P (a 35) (.ref (a 35)) [.ref t.addr])++tokO b_9.1 b_9.2 (kindOf ss) ((P+3)+off ss)) allb [57,58,59,63,64] rfl ?_ rfl ?_ ?_ ?_ (su [] Sup.nil).left fs rfl F; all_goals kernel_rfl)
noncomputable def o_sel_i_th_0_1:List Nat:=[0,1,8,0,0,0,0,8,0,0,0,8,8,0,2,6,0,0,0,0,6,0,0,0,6,6,0,7,0,1,1,1,8,0,0,0,0,8,0,0,0,8,8,0,2,6,0,0,0,0,6,0,0,0,6,6,0,7,0,38,38]
noncomputable def o_sel_i_th_0_2:List Nat:=[1,8,0,0,0,8,0,0,0,8,0,0,0,0,8,2,0]
noncomputable def o_sel_i_th_0_3:List Nat:=[1,8,0,0,0,8,0,0,0,8,0,0,0,0,8,2,0,1,0,39,39,39,39,39,8,0,0,0,0,8,0,0,0,8,8,0,2,6,0,0,0,0,6,0,0,0,6,6,0,7,0,39,0,1,8,0,0,0,8,0,0,0,8,0,0,0,0,8,2,0,1,0,40,40,40,40,40,8,0,0,0,0,8,0,0,0,8,8,0,2,6,0,0,0,0,6,0,0,0,6,6,0,7,0,40,0,40,8,0,0,0,8,0,0,0,8,0,0,0,0,8,2,0,1,0,41,41,41,8,0,0,0,0,8,0,0,0,8,8,0,2,41,41,41,8,0,0,0,0,8,0,0,0,8,8,0,2,4,0,0,0,4,0,0,0,4,0,0,0,0,4,3,0]
noncomputable def o_sel_i_th_0_4:List Nat:=[41,8,0,0,0,0,8,0,8,0,8,0,0,0,8,0,2,2,2,41,0,0,1,8,0,0,0,0,8,0,0,0,8,8,0,2,1,8,0,0,0,0,8,0,0,0,8,8,0,2,1,1,1,0,1,0,44,44,44,8,0,0,0,8,0,0,0,8,0,0,0,0,8,2,0,1,0,45,45,45,8,0,0,0,0,8,0,0,0,8,8,0,2,45,45,45,8,0,0,0,0,8,0,0,0,8,8,0,2,4,0,0,0,4,0,0,0,4,0,0,0,0,4,3,0]
noncomputable def o_sel_i_th_0_5:List Nat:=[45,8,0,0,0,0,8,0,8,0,8,0,0,0,8,0,2,2,2,45,44,44,0,44,42,0,0,0,0,42,0,0,0,42,42,0,43,44,8,0,0,0,0,8,0,0,0,8,8,0,2,9,0,0,0,0,9,0,0,0,9,9,0,10,0,44,42,0,0,0,0,42,0,0,0,42,42,0,43,0,0,0,0,0,0,0,0,0,0,0,0,0,0,0,0,0,0,0,0,0,0,0,0,0,0,0,0,0,0,0,50,0,50,0,0,0,0,1,0,0,51,51,51,51,51,51,51,51,51,51,51,51,51,51,50,0,0,0,0,50,0,50,0,50,0,0,0,50,0,49,49,49,51,51,50,0,0,0,0,50,0,50,0,50,0,0,0,50,0,49,49,49,51,51,50,0,0,0,0,50,0,50,0,50,0,0,0,50,0,49,49,49,51,51,50,0,0,0,0,50,0,50,0,50,0,0,0,50,0,49,49,49,51,51,50,0,0,0,0,50,0,50,0,50,0,0,0,50,0,49,49,49,51,50,0,0,0,0,50,0,50,0,50,0,0,0,50,0,49,49,49,1,0]
noncomputable def o_sel_i_th_0_6:List Nat:=[1,1,0,1,8,0,0,0,8,0,0,0,8,0,0,0,0,8,2,0,1,0,55,55,55,55,55,8,0,0,0,0,8,0,0,0,8,8,0,2,46,0,0,0,0,46,0,0,0,46,46,0,47,0,55,0,1,8,0,0,0,8,0,0,0,8,0,0,0,0,8,2,0,1,0,56,56,56,56,56,8,0,0,0,8,0,0,0,8,0,0,0,0,8,2,56,0,1,0,57,57,57,57,57,8,0,0,0,0,8,0,0,0,8,8,0,2,46,0,0,0,0,46,0,0,0,46,46,0,47,0,57,0,57,8,0,0,0,8,0,0,0,8,0,0,0,0,8,2,0,1,0,58,58,58,8,0,0,0,0,8,0,0,0,8,8,0,2,58,58,58,8,0,0,0,0,8,0,0,0,8,8,0,2,4,0,0,0,4,0,0,0,4,0,0,0,0,4,3,0]
noncomputable def o_sel_i_th_0_7:List Nat:=[58,8,0,0,0,0,8,0,8,0,8,0,0,0,8,0,2,2,2,58,0]
theorem sel_i_th_0 {w:World} {b1 b2 b3:Bool} (hP:Rows w b1 b2 b3) (a:Nat->Nat) (S:Str) (L:Nat) (kp:Nat) (hk:kp < 7) (v:Bool) (ss:List Sl) (P ta td:Nat) (t:NT) (ht:t.ty = .th) (T1:TakeCt w a S (P+1) (P+1+1) v_int (.int (Int.ofNat (bn v)) 0) (P+1+0)) (T2:TakeCt w a S (P+2) (P+2+1) v_rbr (.str v_empty 0) (P+2+0)) (T3:TakeCt w a S (P+3) (P+3+adv ss) (kindOf ss) (.str v_empty 0) (P+3+off ss))
    (IH:∀ fr ta td (t':NT),t'.sh=growS t.sh (.i v) P->SelC w a S L fr (kp+1) ss (P+3) ta td t'):SelC w a S L .f0 kp ((.i v)::ss) P ta td t:=by
  obtain ⟨D,op,pl',K,x',r,hp⟩:=root_th a t ht
  · refine Ct.perm (List.Perm.append_left _ (perm_w (w_ty a) hp)) (Ct.cast (List.append_assoc _ _ _) ?_);refine ct_start (tx:=tx0) (pre:=[(L,selFr a .f0 t.addr),(a 5,rdD a kp ta),(a 1,scD S (a 2) (a 3) (P+adv ((.i v)::ss)))]) (ro:=((w_sc a++tokO ta td (kindOf ((.i v)::ss)) (P+off ((.i v)::ss))++w_rd a)++([(t.addr,instO 39 D),(D,nodD op pl' (a 20) K (.ref x'))]++w_ty a))) (sup:=r) hP tx0_ok (by decide) fun A' s R zs ta' N C U D' hR=>?_;refine sg C 4000 o_sel_i_th_0_1 ?_;intro _;have K_1:=sN s R C trId [((N+37),tupO (strsL [(⟨⟨[46]⟩⟩:Str),(⟨⟨[91]⟩⟩:Str),(⟨⟨[94]⟩⟩:Str)]))] (ct_tupin [(⟨⟨[46]⟩⟩:Str),(⟨⟨[91]⟩⟩:Str),(⟨⟨[94]⟩⟩:Str)] (⟨⟨[91]⟩⟩:Str) (N+37)) [] [37];refine K_1 ?_;intro _ _ _ _ _ _ _ _ C_1 tr_1 su_1 _ _ _;have U_1:=su_1 _ U;refine sg C_1 4000 o_sel_i_th_0_2 ?_;intro _;have K_2:=sN s R C_1 tr_1 [(a 4,instO 630 (a 5))] (ct_part hP a ta kp hk) [1] [7];refine K_2 ?_;intro _ _ _ _ _ _ _ _ C_2 tr_2 su_2 _ _ _;have U_2:=su_2 _ U_1;refine sg C_2 4000 o_sel_i_th_0_3 ?_;intro _;have K_3:=sN s R C_2 tr_2 (w_sc a) (T1) [2] [3,4];refine K_3 ?_;intro b_3 _ _ _ _ _ _ _ C_3 tr_3 su_3 _ _ _;have U_3:=su_3 _ U_2;refine sg C_3 4000 o_sel_i_th_0_4 ?_;intro _;have K_4:=sN s R C_3 tr_3 (w_sc a) (T2) [2] [3,4];refine K_4 ?_;intro b_4 _ _ _ N_4 _ _ _ C_4 tr_4 su_4 _ _ _;have U_4:=su_4 _ U_3;refine sg C_4 4000 o_sel_i_th_0_5 ?_;intro _;have K_5:=sK s R C_4 tr_4 ([((N_4+49),instO 39 (N_4+48)),((N_4+48),nodD v_const (P+1) (a 15) (N_4+47) (.int (Int.ofNat (bn v)) 0))]++(w_ty a++([]++[(t.addr,instO 39 D),(D,nodD op pl' (a 20) K (.ref x'))]))) r (Ct.perm (perm_t (n:=[]) (f:=t.flat a) hp) (io_th_all hP a t ht P (N_4+49) (N_4+48) (N_4+47) (P+1) v)) [] [49,48,20,21,22,23,24,25,26,27,28,29,30,31,32,33,34,35,36,18,19] U_4;refine K_5 ?_;intro b_5 _ _ _ _ _ _ _ C_5 tr_5 su_5 _ _ _;have U_5:=su_5 _ U_4;refine sg C_5 4000 o_sel_i_th_0_6 ?_;intro _;have K_6:=sN s R C_5 tr_5 (w_sc a) (T3) [2] [3,4];refine K_6 ?_;intro b_6 _ _ _ _ _ _ _ C_6 tr_6 su_6 _ _ _;have U_6:=su_6 _ U_5;refine sg C_6 4000 o_sel_i_th_0_7 ?_;intro _;have K_t:=tK C_6 ((w_sc a++tokO b_6.1 b_6.2 (kindOf ss) ((P+3)+off ss)++w_rd a)++(w_ty a++((n6 a b_5.1 b_5.2.1 b_5.2.2 P (a 25) (bn v) (N_4+49) (N_4+48) (N_4+47) (P+1) t.addr)++[(t.addr,instO 39 D),(D,nodD op pl' (a 20) K (.ref x'))]))) r (Ct.perm (perm_t (n:=(n6 a b_5.1 b_5.2.1 b_5.2.2 P (a 25) (bn v) (N_4+49) (N_4+48) (N_4+47) (P+1) t.addr)) (f:=t.flat a) hp) (IH (.f1 P) b_6.1 b_6.2 (.idx b_5.1 b_5.2.1 b_5.2.2 P true (bn v) (N_4+49) (N_4+48) (N_4+47) (P+1) t) (by show Sh.idx P true (bn v) (P+1) t.sh=_; rw [growS,NT.sh_ty,ht]; rfl))) [0,1,2] [3,4,58,59,7,8,9,10,11,12,13,14,15,16,17,20,21,22,23,24,25,26,27,28,29,30,31,32,33,34,35,36,51,52,53,49,48,47,18,19] U_6 tr_6 D' hR;refine K_t ?_;rintro ⟨tb,frb,tab,tdb,allb⟩ zu zn h' su fs ⟨pd1,ns,junk,pd2,pd3⟩;have F:=sel_fin (ta0:=ta) (td0:=td) (t':=(.idx b_5.1 b_5.2.1 b_5.2.2 P true (bn v) (N_4+49) (N_4+48) (N_4+47) (P+1) t)) (t:=t) (s:=(.i v)) (P:=P) (n:=(n6 a b_5.1 b_5.2.1 b_5.2.2 P (a 25) (bn v) (N_4+49) (N_4+48) (N_4+47) (P+1) t.addr)) rfl (by show Sh.idx P true (bn v) (P+1) t.sh=_; rw [growS,NT.sh_ty,ht]; rfl) rfl pd1 pd2 pd3;cases frb with
    | f0=>(refine finD ⟨tb,.f0,tab,tdb,((n6 a b_5.1 b_5.2.1 b_5.2.2 P (a 25) (bn v) (N_4+49) (N_4+48) (N_4+47) (P+1) t.addr)++tokO b_6.1 b_6.2 (kindOf ss) ((P+3)+off ss))++allb⟩ ((n6 a b_5.1 b_5.2.1 b_5.2.2 P (a 25) (bn v) (N_4+49) (N_4+48) (N_4+47) (P+1) t.addr)++tokO b_6.1 b_6.2 (kindOf ss) ((P+3)+off ss)) allb [51,52,53,49,48,47,58,59] rfl ?_ rfl ?_ ?_ ?_ (su [] Sup.nil).left fs rfl F; all_goals kernel_rfl)
    | f1 q1=>(refine finD ⟨tb,.f1 q1,tab,tdb,((n6 a b_5.1 b_5.2.1 b_5.2.2 P (a 25) (bn v) (N_4+49) (N_4+48) (N_4+47) (P+1) t.addr)++tokO b_6.1 b_6.2 (kindOf ss) ((P+3)+off ss))++allb⟩ ((n6 a b_5.1 b_5.2.1 b_5.2.2 P (a 25) (bn v) (N_4+49) (N_4+48) (N_4+47) (P+1) t.addr)++tokO b_6.1 b_6.2 (kindOf ss) ((P+3)+off ss)) allb [51,52,53,49,48,47,58,59] rfl ?_ rfl ?_ ?_ ?_ (su [] Sup.nil).left fs rfl F; all_goals kernel_rfl)
    | f2 q1 q2=>(refine finD ⟨tb,.f2 q1 q2,tab,tdb,((n6 a b_5.1 b_5.2.1 b_5.2.2 P (a 25) (bn v) (N_4+49) (N_4+48) (N_4+47) (P+1) t.addr)++tokO b_6.1 b_6.2 (kindOf ss) ((P+3)+off ss))++allb⟩ ((n6 a b_5.1 b_5.2.1 b_5.2.2 P (a 25) (bn v) (N_4+49) (N_4+48) (N_4+47) (P+1) t.addr)++tokO b_6.1 b_6.2 (kindOf ss) ((P+3)+off ss)) allb [51,52,53,49,48,47,58,59] rfl ?_ rfl ?_ ?_ ?_ (su [] Sup.nil).left fs rfl F; all_goals kernel_rfl)
theorem sel_i_pa_0 {w:World} {b1 b2 b3:Bool} (hP:Rows w b1 b2 b3) (a:Nat->Nat) (S:Str) (L:Nat) (kp:Nat) (hk:kp < 7) (v:Bool) (ss:List Sl) (P ta td:Nat) (t:NT) (ht:t.ty = .pa) (T1:TakeCt w a S (P+1) (P+1+1) v_int (.int (Int.ofNat (bn v)) 0) (P+1+0)) (T2:TakeCt w a S (P+2) (P+2+1) v_rbr (.str v_empty 0) (P+2+0)) (T3:TakeCt w a S (P+3) (P+3+adv ss) (kindOf ss) (.str v_empty 0) (P+3+off ss))
    (IH:∀ fr ta td (t':NT),t'.sh=growS t.sh (.i v) P->SelC w a S L fr (kp+1) ss (P+3) ta td t'):SelC w a S L .f0 kp ((.i v)::ss) P ta td t:=by
  obtain ⟨D,op,pl',K,r,hp⟩:=root_pa a t ht
  · refine Ct.perm (List.Perm.append_left _ (perm_w (w_ty a) hp)) (Ct.cast (List.append_assoc _ _ _) ?_);refine ct_start (tx:=tx0) (pre:=[(L,selFr a .f0 t.addr),(a 5,rdD a kp ta),(a 1,scD S (a 2) (a 3) (P+adv ((.i v)::ss)))]) (ro:=((w_sc a++tokO ta td (kindOf ((.i v)::ss)) (P+off ((.i v)::ss))++w_rd a)++([(t.addr,instO 39 D),(D,nodD op pl' (a 25) K .none)]++w_ty a))) (sup:=r) hP tx0_ok (by decide) fun A' s R zs ta' N C U D' hR=>?_;refine sg C 4000 o_sel_i_th_0_1 ?_;intro _;have K_1:=sN s R C trId [((N+37),tupO (strsL [(⟨⟨[46]⟩⟩:Str),(⟨⟨[91]⟩⟩:Str),(⟨⟨[94]⟩⟩:Str)]))] (ct_tupin [(⟨⟨[46]⟩⟩:Str),(⟨⟨[91]⟩⟩:Str),(⟨⟨[94]⟩⟩:Str)] (⟨⟨[91]⟩⟩:Str) (N+37)) [] [37];refine K_1 ?_;intro _ _ _ _ _ _ _ _ C_1 tr_1 su_1 _ _ _;have U_1:=su_1 _ U;refine sg C_1 4000 o_sel_i_th_0_2 ?_;intro _;have K_2:=sN s R C_1 tr_1 [(a 4,instO 630 (a 5))] (ct_part hP a ta kp hk) [1] [7];refine K_2 ?_;intro _ _ _ _ _ _ _ _ C_2 tr_2 su_2 _ _ _;have U_2:=su_2 _ U_1;refine sg C_2 4000 o_sel_i_th_0_3 ?_;intro _;have K_3:=sN s R C_2 tr_2 (w_sc a) (T1) [2] [3,4];refine K_3 ?_;intro b_3 _ _ _ _ _ _ _ C_3 tr_3 su_3 _ _ _;have U_3:=su_3 _ U_2;refine sg C_3 4000 o_sel_i_th_0_4 ?_;intro _;have K_4:=sN s R C_3 tr_3 (w_sc a) (T2) [2] [3,4];refine K_4 ?_;intro b_4 _ _ _ N_4 _ _ _ C_4 tr_4 su_4 _ _ _;have U_4:=su_4 _ U_3;refine sg C_4 4000 o_sel_i_th_0_5 ?_;intro _;have K_5:=sK s R C_4 tr_4 ([((N_4+49),instO 39 (N_4+48)),((N_4+48),nodD v_const (P+1) (a 15) (N_4+47) (.int (Int.ofNat (bn v)) 0))]++(w_ty a++([]++[(t.addr,instO 39 D),(D,nodD op pl' (a 25) K .none)]))) r (Ct.perm (perm_t (n:=[]) (f:=t.flat a) hp) (io_pa_all hP a t ht P (N_4+49) (N_4+48) (N_4+47) (P+1) v)) [] [49,48,20,21,22,23,24,25,26,27,28,29,30,31,32,33,34,35,36,18,19] U_4;refine K_5 ?_;intro b_5 _ _ _ _ _ _ _ C_5 tr_5 su_5 _ _ _;have U_5:=su_5 _ U_4;refine sg C_5 4000 o_sel_i_th_0_6 ?_;intro _;have K_6:=sN s R C_5 tr_5 (w_sc a) (T3) [2] [3,4];refine K_6 ?_;intro b_6 _ _ _ _ _ _ _ C_6 tr_6 su_6 _ _ _;have U_6:=su_6 _ U_5;refine sg C_6 4000 o_sel_i_th_0_7 ?_;intro _;have K_t:=tK C_6 ((w_sc a++tokO b_6.1 b_6.2 (kindOf ss) ((P+3)+off ss)++w_rd a)++(w_ty a++((n6 a b_5.1 b_5.2.1 b_5.2.2 P (a 15) (bn v) (N_4+49) (N_4+48) (N_4+47) (P+1) t.addr)++[(t.addr,instO 39 D),(D,nodD op pl' (a 25) K .none)]))) r (Ct.perm (perm_t (n:=(n6 a b_5.1 b_5.2.1 b_5.2.2 P (a 15) (bn v) (N_4+49) (N_4+48) (N_4+47) (P+1) t.addr)) (f:=t.flat a) hp) (IH (.f1 P) b_6.1 b_6.2 (.idx b_5.1 b_5.2.1 b_5.2.2 P false (bn v) (N_4+49) (N_4+48) (N_4+47) (P+1) t) (by show Sh.idx P false (bn v) (P+1) t.sh=_; rw [growS,NT.sh_ty,ht]; rfl))) [0,1,2] [3,4,58,59,7,8,9,10,11,12,13,14,15,16,17,20,21,22,23,24,25,26,27,28,29,30,31,32,33,34,35,36,51,52,53,49,48,47,18,19] U_6 tr_6 D' hR;refine K_t ?_;rintro ⟨tb,frb,tab,tdb,allb⟩ zu zn h' su fs ⟨pd1,ns,junk,pd2,pd3⟩;have F:=sel_fin (ta0:=ta) (td0:=td) (t':=(.idx b_5.1 b_5.2.1 b_5.2.2 P false (bn v) (N_4+49) (N_4+48) (N_4+47) (P+1) t)) (t:=t) (s:=(.i v)) (P:=P) (n:=(n6 a b_5.1 b_5.2.1 b_5.2.2 P (a 15) (bn v) (N_4+49) (N_4+48) (N_4+47) (P+1) t.addr)) rfl (by show Sh.idx P false (bn v) (P+1) t.sh=_; rw [growS,NT.sh_ty,ht]; rfl) rfl pd1 pd2 pd3;cases frb with
    | f0=>(refine finD ⟨tb,.f0,tab,tdb,((n6 a b_5.1 b_5.2.1 b_5.2.2 P (a 15) (bn v) (N_4+49) (N_4+48) (N_4+47) (P+1) t.addr)++tokO b_6.1 b_6.2 (kindOf ss) ((P+3)+off ss))++allb⟩ ((n6 a b_5.1 b_5.2.1 b_5.2.2 P (a 15) (bn v) (N_4+49) (N_4+48) (N_4+47) (P+1) t.addr)++tokO b_6.1 b_6.2 (kindOf ss) ((P+3)+off ss)) allb [51,52,53,49,48,47,58,59] rfl ?_ rfl ?_ ?_ ?_ (su [] Sup.nil).left fs rfl F; all_goals kernel_rfl)
    | f1 q1=>(refine finD ⟨tb,.f1 q1,tab,tdb,((n6 a b_5.1 b_5.2.1 b_5.2.2 P (a 15) (bn v) (N_4+49) (N_4+48) (N_4+47) (P+1) t.addr)++tokO b_6.1 b_6.2 (kindOf ss) ((P+3)+off ss))++allb⟩ ((n6 a b_5.1 b_5.2.1 b_5.2.2 P (a 15) (bn v) (N_4+49) (N_4+48) (N_4+47) (P+1) t.addr)++tokO b_6.1 b_6.2 (kindOf ss) ((P+3)+off ss)) allb [51,52,53,49,48,47,58,59] rfl ?_ rfl ?_ ?_ ?_ (su [] Sup.nil).left fs rfl F; all_goals kernel_rfl)
    | f2 q1 q2=>(refine finD ⟨tb,.f2 q1 q2,tab,tdb,((n6 a b_5.1 b_5.2.1 b_5.2.2 P (a 15) (bn v) (N_4+49) (N_4+48) (N_4+47) (P+1) t.addr)++tokO b_6.1 b_6.2 (kindOf ss) ((P+3)+off ss))++allb⟩ ((n6 a b_5.1 b_5.2.1 b_5.2.2 P (a 15) (bn v) (N_4+49) (N_4+48) (N_4+47) (P+1) t.addr)++tokO b_6.1 b_6.2 (kindOf ss) ((P+3)+off ss)) allb [51,52,53,49,48,47,58,59] rfl ?_ rfl ?_ ?_ ?_ (su [] Sup.nil).left fs rfl F; all_goals kernel_rfl)
theorem sel_i_th_1 {w:World} {b1 b2 b3:Bool} (hP:Rows w b1 b2 b3) (a:Nat->Nat) (S:Str) (L:Nat) (p0:Nat) (kp:Nat) (hk:kp < 7) (v:Bool) (ss:List Sl) (P ta td:Nat) (t:NT) (ht:t.ty = .th) (T1:TakeCt w a S (P+1) (P+1+1) v_int (.int (Int.ofNat (bn v)) 0) (P+1+0)) (T2:TakeCt w a S (P+2) (P+2+1) v_rbr (.str v_empty 0) (P+2+0)) (T3:TakeCt w a S (P+3) (P+3+adv ss) (kindOf ss) (.str v_empty 0) (P+3+off ss))
    (IH:∀ fr ta td (t':NT),t'.sh=growS t.sh (.i v) P->SelC w a S L fr (kp+1) ss (P+3) ta td t'):SelC w a S L (.f1 p0) kp ((.i v)::ss) P ta td t:=by
  obtain ⟨D,op,pl',K,x',r,hp⟩:=root_th a t ht
  · refine Ct.perm (List.Perm.append_left _ (perm_w (w_ty a) hp)) (Ct.cast (List.append_assoc _ _ _) ?_);refine ct_start (tx:=tx0) (pre:=[(L,selFr a (.f1 p0) t.addr),(a 5,rdD a kp ta),(a 1,scD S (a 2) (a 3) (P+adv ((.i v)::ss)))]) (ro:=((w_sc a++tokO ta td (kindOf ((.i v)::ss)) (P+off ((.i v)::ss))++w_rd a)++([(t.addr,instO 39 D),(D,nodD op pl' (a 20) K (.ref x'))]++w_ty a))) (sup:=r) hP tx0_ok (by decide) fun A' s R zs ta' N C U D' hR=>?_;refine sg C 4000 o_sel_i_th_0_1 ?_;intro _;have K_1:=sN s R C trId [((N+37),tupO (strsL [(⟨⟨[46]⟩⟩:Str),(⟨⟨[91]⟩⟩:Str),(⟨⟨[94]⟩⟩:Str)]))] (ct_tupin [(⟨⟨[46]⟩⟩:Str),(⟨⟨[91]⟩⟩:Str),(⟨⟨[94]⟩⟩:Str)] (⟨⟨[91]⟩⟩:Str) (N+37)) [] [37];refine K_1 ?_;intro _ _ _ _ _ _ _ _ C_1 tr_1 su_1 _ _ _;have U_1:=su_1 _ U;refine sg C_1 4000 o_sel_i_th_0_2 ?_;intro _;have K_2:=sN s R C_1 tr_1 [(a 4,instO 630 (a 5))] (ct_part hP a ta kp hk) [1] [7];refine K_2 ?_;intro _ _ _ _ _ _ _ _ C_2 tr_2 su_2 _ _ _;have U_2:=su_2 _ U_1;refine sg C_2 4000 o_sel_i_th_0_3 ?_;intro _;have K_3:=sN s R C_2 tr_2 (w_sc a) (T1) [2] [3,4];refine K_3 ?_;intro b_3 _ _ _ _ _ _ _ C_3 tr_3 su_3 _ _ _;have U_3:=su_3 _ U_2;refine sg C_3 4000 o_sel_i_th_0_4 ?_;intro _;have K_4:=sN s R C_3 tr_3 (w_sc a) (T2) [2] [3,4];refine K_4 ?_;intro b_4 _ _ _ N_4 _ _ _ C_4 tr_4 su_4 _ _ _;have U_4:=su_4 _ U_3;refine sg C_4 4000 o_sel_i_th_0_5 ?_;intro _;have K_5:=sK s R C_4 tr_4 ([((N_4+49),instO 39 (N_4+48)),((N_4+48),nodD v_const (P+1) (a 15) (N_4+47) (.int (Int.ofNat (bn v)) 0))]++(w_ty a++([]++[(t.addr,instO 39 D),(D,nodD op pl' (a 20) K (.ref x'))]))) r (Ct.perm (perm_t (n:=[]) (f:=t.flat a) hp) (io_th_all hP a t ht P (N_4+49) (N_4+48) (N_4+47) (P+1) v)) [] [49,48,20,21,22,23,24,25,26,27,28,29,30,31,32,33,34,35,36,18,19] U_4;refine K_5 ?_;intro b_5 _ _ _ _ _ _ _ C_5 tr_5 su_5 _ _ _;have U_5:=su_5 _ U_4;refine sg C_5 4000 o_sel_i_th_0_6 ?_;intro _;have K_6:=sN s R C_5 tr_5 (w_sc a) (T3) [2] [3,4];refine K_6 ?_;intro b_6 _ _ _ _ _ _ _ C_6 tr_6 su_6 _ _ _;have U_6:=su_6 _ U_5;refine sg C_6 4000 o_sel_i_th_0_7 ?_;intro _;have K_t:=tK C_6 ((w_sc a++tokO b_6.1 b_6.2 (kindOf ss) ((P+3)+off ss)++w_rd a)++(w_ty a++((n6 a b_5.1 b_5.2.1 b_5.2.2 P (a 25) (bn v) (N_4+49) (N_4+48) (N_4+47) (P+1) t.addr)++[(t.addr,instO 39 D),(D,nodD op pl' (a 20) K (.ref x'))]))) r (Ct.perm (perm_t (n:=(n6 a b_5.1 b_5.2.1 b_5.2.2 P (a 25) (bn v) (N_4+49) (N_4+48) (N_4+47) (P+1) t.addr)) (f:=t.flat a) hp) (IH (.f1 P) b_6.1 b_6.2 (.idx b_5.1 b_5.2.1 b_5.2.2 P true (bn v) (N_4+49) (N_4+48) (N_4+47) (P+1) t) (by show Sh.idx P true (bn v) (P+1) t.sh=_; rw [growS,NT.sh_ty,ht]; rfl))) [0,1,2] [3,4,58,59,7,8,9,10,11,12,13,14,15,16,17,20,21,22,23,24,25,26,27,28,29,30,31,32,33,34,35,36,51,52,53,49,48,47,18,19] U_6 tr_6 D' hR;refine K_t ?_;rintro ⟨tb,frb,tab,tdb,allb⟩ zu zn h' su fs ⟨pd1,ns,junk,pd2,pd3⟩;have F:=sel_fin (ta0:=ta) (td0:=td) (t':=(.idx b_5.1 b_5.2.1 b_5.2.2 P true (bn v) (N_4+49) (N_4+48) (N_4+47) (P+1) t)) (t:=t) (s:=(.i v)) (P:=P) (n:=(n6 a b_5.1 b_5.2.1 b_5.2.2 P (a 25) (bn v) (N_4+49) (N_4+48) (N_4+47) (P+1) t.addr)) rfl (by show Sh.idx P true (bn v) (P+1) t.sh=_; rw [growS,NT.sh_ty,ht]; rfl) rfl pd1 pd2 pd3;cases frb with
    | f0=>(refine finD ⟨tb,.f0,tab,tdb,((n6 a b_5.1 b_5.2.1 b_5.2.2 P (a 25) (bn v) (N_4+49) (N_4+48) (N_4+47) (P+1) t.addr)++tokO b_6.1 b_6.2 (kindOf ss) ((P+3)+off ss))++allb⟩ ((n6 a b_5.1 b_5.2.1 b_5.2.2 P (a 25) (bn v) (N_4+49) (N_4+48) (N_4+47) (P+1) t.addr)++tokO b_6.1 b_6.2 (kindOf ss) ((P+3)+off ss)) allb [51,52,53,49,48,47,58,59] rfl ?_ rfl ?_ ?_ ?_ (su [] Sup.nil).left fs rfl F; all_goals kernel_rfl)
    | f1 q1=>(refine finD ⟨tb,.f1 q1,tab,tdb,((n6 a b_5.1 b_5.2.1 b_5.2.2 P (a 25) (bn v) (N_4+49) (N_4+48) (N_4+47) (P+1) t.addr)++tokO b_6.1 b_6.2 (kindOf ss) ((P+3)+off ss))++allb⟩ ((n6 a b_5.1 b_5.2.1 b_5.2.2 P (a 25) (bn v) (N_4+49) (N_4+48) (N_4+47) (P+1) t.addr)++tokO b_6.1 b_6.2 (kindOf ss) ((P+3)+off ss)) allb [51,52,53,49,48,47,58,59] rfl ?_ rfl ?_ ?_ ?_ (su [] Sup.nil).left fs rfl F; all_goals kernel_rfl)
    | f2 q1 q2=>(refine finD ⟨tb,.f2 q1 q2,tab,tdb,((n6 a b_5.1 b_5.2.1 b_5.2.2 P (a 25) (bn v) (N_4+49) (N_4+48) (N_4+47) (P+1) t.addr)++tokO b_6.1 b_6.2 (kindOf ss) ((P+3)+off ss))++allb⟩ ((n6 a b_5.1 b_5.2.1 b_5.2.2 P (a 25) (bn v) (N_4+49) (N_4+48) (N_4+47) (P+1) t.addr)++tokO b_6.1 b_6.2 (kindOf ss) ((P+3)+off ss)) allb [51,52,53,49,48,47,58,59] rfl ?_ rfl ?_ ?_ ?_ (su [] Sup.nil).left fs rfl F; all_goals kernel_rfl)
theorem sel_i_pa_1 {w:World} {b1 b2 b3:Bool} (hP:Rows w b1 b2 b3) (a:Nat->Nat) (S:Str) (L:Nat) (p0:Nat) (kp:Nat) (hk:kp < 7) (v:Bool) (ss:List Sl) (P ta td:Nat) (t:NT) (ht:t.ty = .pa) (T1:TakeCt w a S (P+1) (P+1+1) v_int (.int (Int.ofNat (bn v)) 0) (P+1+0)) (T2:TakeCt w a S (P+2) (P+2+1) v_rbr (.str v_empty 0) (P+2+0)) (T3:TakeCt w a S (P+3) (P+3+adv ss) (kindOf ss) (.str v_empty 0) (P+3+off ss))
    (IH:∀ fr ta td (t':NT),t'.sh=growS t.sh (.i v) P->SelC w a S L fr (kp+1) ss (P+3) ta td t'):SelC w a S L (.f1 p0) kp ((.i v)::ss) P ta td t:=by
  obtain ⟨D,op,pl',K,r,hp⟩:=root_pa a t ht
  · refine Ct.perm (List.Perm.append_left _ (perm_w (w_ty a) hp)) (Ct.cast (List.append_assoc _ _ _) ?_);refine ct_start (tx:=tx0) (pre:=[(L,selFr a (.f1 p0) t.addr),(a 5,rdD a kp ta),(a 1,scD S (a 2) (a 3) (P+adv ((.i v)::ss)))]) (ro:=((w_sc a++tokO ta td (kindOf ((.i v)::ss)) (P+off ((.i v)::ss))++w_rd a)++([(t.addr,instO 39 D),(D,nodD op pl' (a 25) K .none)]++w_ty a))) (sup:=r) hP tx0_ok (by decide) fun A' s R zs ta' N C U D' hR=>?_;refine sg C 4000 o_sel_i_th_0_1 ?_;intro _;have K_1:=sN s R C trId [((N+37),tupO (strsL [(⟨⟨[46]⟩⟩:Str),(⟨⟨[91]⟩⟩:Str),(⟨⟨[94]⟩⟩:Str)]))] (ct_tupin [(⟨⟨[46]⟩⟩:Str),(⟨⟨[91]⟩⟩:Str),(⟨⟨[94]⟩⟩:Str)] (⟨⟨[91]⟩⟩:Str) (N+37)) [] [37];refine K_1 ?_;intro _ _ _ _ _ _ _ _ C_1 tr_1 su_1 _ _ _;have U_1:=su_1 _ U;refine sg C_1 4000 o_sel_i_th_0_2 ?_;intro _;have K_2:=sN s R C_1 tr_1 [(a 4,instO 630 (a 5))] (ct_part hP a ta kp hk) [1] [7];refine K_2 ?_;intro _ _ _ _ _ _ _ _ C_2 tr_2 su_2 _ _ _;have U_2:=su_2 _ U_1;refine sg C_2 4000 o_sel_i_th_0_3 ?_;intro _;have K_3:=sN s R C_2 tr_2 (w_sc a) (T1) [2] [3,4];refine K_3 ?_;intro b_3 _ _ _ _ _ _ _ C_3 tr_3 su_3 _ _ _;have U_3:=su_3 _ U_2;refine sg C_3 4000 o_sel_i_th_0_4 ?_;intro _;have K_4:=sN s R C_3 tr_3 (w_sc a) (T2) [2] [3,4];refine K_4 ?_;intro b_4 _ _ _ N_4 _ _ _ C_4 tr_4 su_4 _ _ _;have U_4:=su_4 _ U_3;refine sg C_4 4000 o_sel_i_th_0_5 ?_;intro _;have K_5:=sK s R C_4 tr_4 ([((N_4+49),instO 39 (N_4+48)),((N_4+48),nodD v_const (P+1) (a 15) (N_4+47) (.int (Int.ofNat (bn v)) 0))]++(w_ty a++([]++[(t.addr,instO 39 D),(D,nodD op pl' (a 25) K .none)]))) r (Ct.perm (perm_t (n:=[]) (f:=t.flat a) hp) (io_pa_all hP a t ht P (N_4+49) (N_4+48) (N_4+47) (P+1) v)) [] [49,48,20,21,22,23,24,25,26,27,28,29,30,31,32,33,34,35,36,18,19] U_4;refine K_5 ?_;intro b_5 _ _ _ _ _ _ _ C_5 tr_5 su_5 _ _ _;have U_5:=su_5 _ U_4;refine sg C_5 4000 o_sel_i_th_0_6 ?_;intro _;have K_6:=sN s R C_5 tr_5 (w_sc a) (T3) [2] [3,4];refine K_6 ?_;intro b_6 _ _ _ _ _ _ _ C_6 tr_6 su_6 _ _ _;have U_6:=su_6 _ U_5;refine sg C_6 4000 o_sel_i_th_0_7 ?_;intro _;have K_t:=tK C_6 ((w_sc a++tokO b_6.1 b_6.2 (kindOf ss) ((P+3)+off ss)++w_rd a)++(w_ty a++((n6 a b_5.1 b_5.2.1 b_5.2.2 P (a 15) (bn v) (N_4+49) (N_4+48) (N_4+47) (P+1) t.addr)++[(t.addr,instO 39 D),(D,nodD op pl' (a 25) K .none)]))) r (Ct.perm (perm_t (n:=(n6 a b_5.1 b_5.2.1 b_5.2.2 P (a 15) (bn v) (N_4+49) (N_4+48) (N_4+47) (P+1) t.addr)) (f:=t.flat a) hp) (IH (.f1 P) b_6.1 b_6.2 (.idx b_5.1 b_5.2.1 b_5.2.2 P false (bn v) (N_4+49) (N_4+48) (N_4+47) (P+1) t) (by show Sh.idx P false (bn v) (P+1) t.sh=_; rw [growS,NT.sh_ty,ht]; rfl))) [0,1,2] [3,4,58,59,7,8,9,10,11,12,13,14,15,16,17,20,21,22,23,24,25,26,27,28,29,30,31,32,33,34,35,36,51,52,53,49,48,47,18,19] U_6 tr_6 D' hR;refine K_t ?_;rintro ⟨tb,frb,tab,tdb,allb⟩ zu zn h' su fs ⟨pd1,ns,junk,pd2,pd3⟩;have F:=sel_fin (ta0:=ta) (td0:=td) (t':=(.idx b_5.1 b_5.2.1 b_5.2.2 P false (bn v) (N_4+49) (N_4+48) (N_4+47) (P+1) t)) (t:=t) (s:=(.i v)) (P:=P) (n:=(n6 a b_5.1 b_5.2.1 b_5.2.2 P (a 15) (bn v) (N_4+49) (N_4+48) (N_4+47) (P+1) t.addr)) rfl (by show Sh.idx P false (bn v) (P+1) t.sh=_; rw [growS,NT.sh_ty,ht]; rfl) rfl pd1 pd2 pd3;cases frb with
    | f0=>(refine finD ⟨tb,.f0,tab,tdb,((n6 a b_5.1 b_5.2.1 b_5.2.2 P (a 15) (bn v) (N_4+49) (N_4+48) (N_4+47) (P+1) t.addr)++tokO b_6.1 b_6.2 (kindOf ss) ((P+3)+off ss))++allb⟩ ((n6 a b_5.1 b_5.2.1 b_5.2.2 P (a 15) (bn v) (N_4+49) (N_4+48) (N_4+47) (P+1) t.addr)++tokO b_6.1 b_6.2 (kindOf ss) ((P+3)+off ss)) allb [51,52,53,49,48,47,58,59] rfl ?_ rfl ?_ ?_ ?_ (su [] Sup.nil).left fs rfl F; all_goals kernel_rfl)
    | f1 q1=>(refine finD ⟨tb,.f1 q1,tab,tdb,((n6 a b_5.1 b_5.2.1 b_5.2.2 P (a 15) (bn v) (N_4+49) (N_4+48) (N_4+47) (P+1) t.addr)++tokO b_6.1 b_6.2 (kindOf ss) ((P+3)+off ss))++allb⟩ ((n6 a b_5.1 b_5.2.1 b_5.2.2 P (a 15) (bn v) (N_4+49) (N_4+48) (N_4+47) (P+1) t.addr)++tokO b_6.1 b_6.2 (kindOf ss) ((P+3)+off ss)) allb [51,52,53,49,48,47,58,59] rfl ?_ rfl ?_ ?_ ?_ (su [] Sup.nil).left fs rfl F; all_goals kernel_rfl)
    | f2 q1 q2=>(refine finD ⟨tb,.f2 q1 q2,tab,tdb,((n6 a b_5.1 b_5.2.1 b_5.2.2 P (a 15) (bn v) (N_4+49) (N_4+48) (N_4+47) (P+1) t.addr)++tokO b_6.1 b_6.2 (kindOf ss) ((P+3)+off ss))++allb⟩ ((n6 a b_5.1 b_5.2.1 b_5.2.2 P (a 15) (bn v) (N_4+49) (N_4+48) (N_4+47) (P+1) t.addr)++tokO b_6.1 b_6.2 (kindOf ss) ((P+3)+off ss)) allb [51,52,53,49,48,47,58,59] rfl ?_ rfl ?_ ?_ ?_ (su [] Sup.nil).left fs rfl F; all_goals kernel_rfl)
theorem sel_i_th_2 {w:World} {b1 b2 b3:Bool} (hP:Rows w b1 b2 b3) (a:Nat->Nat) (S:Str) (L:Nat) (p0 nm0:Nat) (kp:Nat) (hk:kp < 7) (v:Bool) (ss:List Sl) (P ta td:Nat) (t:NT) (ht:t.ty = .th) (T1:TakeCt w a S (P+1) (P+1+1) v_int (.int (Int.ofNat (bn v)) 0) (P+1+0)) (T2:TakeCt w a S (P+2) (P+2+1) v_rbr (.str v_empty 0) (P+2+0)) (T3:TakeCt w a S (P+3) (P+3+adv ss) (kindOf ss) (.str v_empty 0) (P+3+off ss))
    (IH:∀ fr ta td (t':NT),t'.sh=growS t.sh (.i v) P->SelC w a S L fr (kp+1) ss (P+3) ta td t'):SelC w a S L (.f2 p0 nm0) kp ((.i v)::ss) P ta td t:=by
  obtain ⟨D,op,pl',K,x',r,hp⟩:=root_th a t ht
  · refine Ct.perm (List.Perm.append_left _ (perm_w (w_ty a) hp)) (Ct.cast (List.append_assoc _ _ _) ?_);refine ct_start (tx:=tx0) (pre:=[(L,selFr a (.f2 p0 nm0) t.addr),(a 5,rdD a kp ta),(a 1,scD S (a 2) (a 3) (P+adv ((.i v)::ss)))]) (ro:=((w_sc a++tokO ta td (kindOf ((.i v)::ss)) (P+off ((.i v)::ss))++w_rd a)++([(t.addr,instO 39 D),(D,nodD op pl' (a 20) K (.ref x'))]++w_ty a))) (sup:=r) hP tx0_ok (by decide) fun A' s R zs ta' N C U D' hR=>?_;refine sg C 4000 o_sel_i_th_0_1 ?_;intro _;have K_1:=sN s R C trId [((N+37),tupO (strsL [(⟨⟨[46]⟩⟩:Str),(⟨⟨[91]⟩⟩:Str),(⟨⟨[94]⟩⟩:Str)]))] (ct_tupin [(⟨⟨[46]⟩⟩:Str),(⟨⟨[91]⟩⟩:Str),(⟨⟨[94]⟩⟩:Str)] (⟨⟨[91]⟩⟩:Str) (N+37)) [] [37];refine K_1 ?_;intro _ _ _ _ _ _ _ _ C_1 tr_1 su_1 _ _ _;have U_1:=su_1 _ U;refine sg C_1 4000 o_sel_i_th_0_2 ?_;intro _;have K_2:=sN s R C_1 tr_1 [(a 4,instO 630 (a 5))] (ct_part hP a ta kp hk) [1] [7];refine K_2 ?_;intro _ _ _ _ _ _ _ _ C_2 tr_2 su_2 _ _ _;have U_2:=su_2 _ U_1;refine sg C_2 4000 o_sel_i_th_0_3 ?_;intro _;have K_3:=sN s R C_2 tr_2 (w_sc a) (T1) [2] [3,4];refine K_3 ?_;intro b_3 _ _ _ _ _ _ _ C_3 tr_3 su_3 _ _ _;have U_3:=su_3 _ U_2;refine sg C_3 4000 o_sel_i_th_0_4 ?_;intro _;have K_4:=sN s R C_3 tr_3 (w_sc a) (T2) [2] [3,4];refine K_4 ?_;intro b_4 _ _ _ N_4 _ _ _ C_4 tr_4 su_4 _ _ _;have U_4:=su_4 _ U_3;refine sg C_4 4000 o_sel_i_th_0_5 ?_;intro _;have K_5:=sK s R C_4 tr_4 ([((N_4+49),instO 39 (N_4+48)),((N_4+48),nodD v_const (P+1) (a 15) (N_4+47) (.int (Int.ofNat (bn v)) 0))]++(w_ty a++([]++[(t.addr,instO 39 D),(D,nodD op pl' (a 20) K (.ref x'))]))) r (Ct.perm (perm_t (n:=[]) (f:=t.flat a) hp) (io_th_all hP a t ht P (N_4+49) (N_4+48) (N_4+47) (P+1) v)) [] [49,48,20,21,22,23,24,25,26,27,28,29,30,31,32,33,34,35,36,18,19] U_4;refine K_5 ?_;intro b_5 _ _ _ _ _ _ _ C_5 tr_5 su_5 _ _ _;have U_5:=su_5 _ U_4;refine sg C_5 4000 o_sel_i_th_0_6 ?_;intro _;have K_6:=sN s R C_5 tr_5 (w_sc a) (T3) [2] [3,4];refine K_6 ?_;intro b_6 _ _ _ _ _ _ _ C_6 tr_6 su_6 _ _ _;have U_6:=su_6 _ U_5;refine sg C_6 4000 o_sel_i_th_0_7 ?_;intro _;have K_t:=tK C_6 ((w_sc a++tokO b_6.1 b_6.2 (kindOf ss) ((P+3)+off ss)++w_rd a)++(w_ty a++((n6 a b_5.1 b_5.2.1 b_5.2.2 P (a 25) (bn v) (N_4+49) (N_4+48) (N_4+47) (P+1) t.addr)++[(t.addr,instO 39 D),(D,nodD op pl' (a 20) K (.ref x'))]))) r (Ct.perm (perm_t (n:=(n6 a b_5.1 b_5.2.1 b_5.2.2 P (a 25) (bn v) (N_4+49) (N_4+48) (N_4+47) (P+1) t.addr)) (f:=t.flat a) hp) (IH (.f2 P nm0) b_6.1 b_6.2 (.idx b_5.1 b_5.2.1 b_5.2.2 P true (bn v) (N_4+49) (N_4+48) (N_4+47) (P+1) t) (by show Sh.idx P true (bn v) (P+1) t.sh=_; rw [growS,NT.sh_ty,ht]; rfl))) [0,1,2] [3,4,58,59,7,8,9,10,11,12,13,14,15,16,17,20,21,22,23,24,25,26,27,28,29,30,31,32,33,34,35,36,51,52,53,49,48,47,18,19] U_6 tr_6 D' hR;refine K_t ?_;rintro ⟨tb,frb,tab,tdb,allb⟩ zu zn h' su fs ⟨pd1,ns,junk,pd2,pd3⟩;have F:=sel_fin (ta0:=ta) (td0:=td) (t':=(.idx b_5.1 b_5.2.1 b_5.2.2 P true (bn v) (N_4+49) (N_4+48) (N_4+47) (P+1) t)) (t:=t) (s:=(.i v)) (P:=P) (n:=(n6 a b_5.1 b_5.2.1 b_5.2.2 P (a 25) (bn v) (N_4+49) (N_4+48) (N_4+47) (P+1) t.addr)) rfl (by show Sh.idx P true (bn v) (P+1) t.sh=_; rw [growS,NT.sh_ty,ht]; rfl) rfl pd1 pd2 pd3;cases frb with
    | f0=>(refine finD ⟨tb,.f0,tab,tdb,((n6 a b_5.1 b_5.2.1 b_5.2.2 P (a 25) (bn v) (N_4+49) (N_4+48) (N_4+47) (P+1) t.addr)++tokO b_6.1 b_6.2 (kindOf ss) ((P+3)+off ss))++allb⟩ ((n6 a b_5.1 b_5.2.1 b_5.2.2 P (a 25) (bn v) (N_4+49) (N_4+48) (N_4+47) (P+1) t.addr)++tokO b_6.1 b_6.2 (kindOf ss) ((P+3)+off ss)) allb [51,52,53,49,48,47,58,59] rfl ?_ rfl ?_ ?_ ?_ (su [] Sup.nil).left fs rfl F; all_goals kernel_rfl)
    | f1 q1=>(refine finD ⟨tb,.f1 q1,tab,tdb,((n6 a b_5.1 b_5.2.1 b_5.2.2 P (a 25) (bn v) (N_4+49) (N_4+48) (N_4+47) (P+1) t.addr)++tokO b_6.1 b_6.2 (kindOf ss) ((P+3)+off ss))++allb⟩ ((n6 a b_5.1 b_5.2.1 b_5.2.2 P (a 25) (bn v) (N_4+49) (N_4+48) (N_4+47) (P+1) t.addr)++tokO b_6.1 b_6.2 (kindOf ss) ((P+3)+off ss)) allb [51,52,53,49,48,47,58,59] rfl ?_ rfl ?_ ?_ ?_ (su [] Sup.nil).left fs rfl F; all_goals kernel_rfl)
    | f2 q1 q2=>(refine finD ⟨tb,.f2 q1 q2,tab,tdb,((n6 a b_5.1 b_5.2.1 b_5.2.2 P (a 25) (bn v) (N_4+49) (N_4+48) (N_4+47) (P+1) t.addr)++tokO b_6.1 b_6.2 (kindOf ss) ((P+3)+off ss))++allb⟩ ((n6 a b_5.1 b_5.2.1 b_5.2.2 P (a 25) (bn v) (N_4+49) (N_4+48) (N_4+47) (P+1) t.addr)++tokO b_6.1 b_6.2 (kindOf ss) ((P+3)+off ss)) allb [51,52,53,49,48,47,58,59] rfl ?_ rfl ?_ ?_ ?_ (su [] Sup.nil).left fs rfl F; all_goals kernel_rfl)
theorem sel_i_pa_2 {w:World} {b1 b2 b3:Bool} (hP:Rows w b1 b2 b3) (a:Nat->Nat) (S:Str) (L:Nat) (p0 nm0:Nat) (kp:Nat) (hk:kp < 7) (v:Bool) (ss:List Sl) (P ta td:Nat) (t:NT) (ht:t.ty = .pa) (T1:TakeCt w a S (P+1) (P+1+1) v_int (.int (Int.ofNat (bn v)) 0) (P+1+0)) (T2:TakeCt w a S (P+2) (P+2+1) v_rbr (.str v_empty 0) (P+2+0)) (T3:TakeCt w a S (P+3) (P+3+adv ss) (kindOf ss) (.str v_empty 0) (P+3+off ss))
    (IH:∀ fr ta td (t':NT),t'.sh=growS t.sh (.i v) P->SelC w a S L fr (kp+1) ss (P+3) ta td t'):SelC w a S L (.f2 p0 nm0) kp ((.i v)::ss) P ta td t:=by
  obtain ⟨D,op,pl',K,r,hp⟩:=root_pa a t ht
  · refine Ct.perm (List.Perm.append_left _ (perm_w (w_ty a) hp)) (Ct.cast (List.append_assoc _ _ _) ?_);refine ct_start (tx:=tx0) (pre:=[(L,selFr a (.f2 p0 nm0) t.addr),(a 5,rdD a kp ta),(a 1,scD S (a 2) (a 3) (P+adv ((.i v)::ss)))]) (ro:=((w_sc a++tokO ta td (kindOf ((.i v)::ss)) (P+off ((.i v)::ss))++w_rd a)++([(t.addr,instO 39 D),(D,nodD op pl' (a 25) K .none)]++w_ty a))) (sup:=r) hP tx0_ok (by decide) fun A' s R zs ta' N C U D' hR=>?_;refine sg C 4000 o_sel_i_th_0_1 ?_;intro _;have K_1:=sN s R C trId [((N+37),tupO (strsL [(⟨⟨[46]⟩⟩:Str),(⟨⟨[91]⟩⟩:Str),(⟨⟨[94]⟩⟩:Str)]))] (ct_tupin [(⟨⟨[46]⟩⟩:Str),(⟨⟨[91]⟩⟩:Str),(⟨⟨[94]⟩⟩:Str)] (⟨⟨[91]⟩⟩:Str) (N+37)) [] [37];refine K_1 ?_;intro _ _ _ _ _ _ _ _ C_1 tr_1 su_1 _ _ _;have U_1:=su_1 _ U;refine sg C_1 4000 o_sel_i_th_0_2 ?_;intro _;have K_2:=sN s R C_1 tr_1 [(a 4,instO 630 (a 5))] (ct_part hP a ta kp hk) [1] [7];refine K_2 ?_;intro _ _ _ _ _ _ _ _ C_2 tr_2 su_2 _ _ _;have U_2:=su_2 _ U_1;refine sg C_2 4000 o_sel_i_th_0_3 ?_;intro _;have K_3:=sN s R C_2 tr_2 (w_sc a) (T1) [2] [3,4];refine K_3 ?_;intro b_3 _ _ _ _ _ _ _ C_3 tr_3 su_3 _ _ _;have U_3:=su_3 _ U_2;refine sg C_3 4000 o_sel_i_th_0_4 ?_;intro _;have K_4:=sN s R C_3 tr_3 (w_sc a) (T2) [2] [3,4];refine K_4 ?_;intro b_4 _ _ _ N_4 _ _ _ C_4 tr_4 su_4 _ _ _;have U_4:=su_4 _ U_3;refine sg C_4 4000 o_sel_i_th_0_5 ?_;intro _;have K_5:=sK s R C_4 tr_4 ([((N_4+49),instO 39 (N_4+48)),((N_4+48),nodD v_const (P+1) (a 15) (N_4+47) (.int (Int.ofNat (bn v)) 0))]++(w_ty a++([]++[(t.addr,instO 39 D),(D,nodD op pl' (a 25) K .none)]))) r (Ct.perm (perm_t (n:=[]) (f:=t.flat a) hp) (io_pa_all hP a t ht P (N_4+49) (N_4+48) (N_4+47) (P+1) v)) [] [49,48,20,21,22,23,24,25,26,27,28,29,30,31,32,33,34,35,36,18,19] U_4;refine K_5 ?_;intro b_5 _ _ _ _ _ _ _ C_5 tr_5 su_5 _ _ _;have U_5:=su_5 _ U_4;refine sg C_5 4000 o_sel_i_th_0_6 ?_;intro _;have K_6:=sN s R C_5 tr_5 (w_sc a) (T3) [2] [3,4];refine K_6 ?_;intro b_6 _ _ _ _ _ _ _ C_6 tr_6 su_6 _ _ _;have U_6:=su_6 _ U_5;refine sg C_6 4000 o_sel_i_th_0_7 ?_;intro _;have K_t:=tK C_6 ((w_sc a++tokO b_6.1 b_6.2 (kindOf ss) ((P+3)+off ss)++w_rd a)++(w_ty a++((n6 a b_5.1 b_5.2.1 b_5.2.2 P (a 15) (bn v) (N_4+49) (N_4+48) (N_4+47) (P+1) t.addr)++[(t.addr,instO 39 D),(D,nodD op pl' (a 25) K .none)]))) r (Ct.perm (perm_t (n:=(n6 a b_5.1 b_5.2.1 b_5.2.2 P (a 15) (bn v) (N_4+49) (N_4+48) (N_4+47) (P+1) t.addr)) (f:=t.flat a) hp) (IH (.f2 P nm0) b_6.1 b_6.2 (.idx b_5.1 b_5.2.1 b_5.2.2 P false (bn v) (N_4+49) (N_4+48) (N_4+47) (P+1) t) (by show Sh.idx P false (bn v) (P+1) t.sh=_; rw [growS,NT.sh_ty,ht]; rfl))) [0,1,2] [3,4,58,59,7,8,9,10,11,12,13,14,15,16,17,20,21,22,23,24,25,26,27,28,29,30,31,32,33,34,35,36,51,52,53,49,48,47,18,19] U_6 tr_6 D' hR;refine K_t ?_;rintro ⟨tb,frb,tab,tdb,allb⟩ zu zn h' su fs ⟨pd1,ns,junk,pd2,pd3⟩;have F:=sel_fin (ta0:=ta) (td0:=td) (t':=(.idx b_5.1 b_5.2.1 b_5.2.2 P false (bn v) (N_4+49) (N_4+48) (N_4+47) (P+1) t)) (t:=t) (s:=(.i v)) (P:=P) (n:=(n6 a b_5.1 b_5.2.1 b_5.2.2 P (a 15) (bn v) (N_4+49) (N_4+48) (N_4+47) (P+1) t.addr)) rfl (by show Sh.idx P false (bn v) (P+1) t.sh=_; rw [growS,NT.sh_ty,ht]; rfl) rfl pd1 pd2 pd3;cases frb with
    | f0=>(refine finD ⟨tb,.f0,tab,tdb,((n6 a b_5.1 b_5.2.1 b_5.2.2 P (a 15) (bn v) (N_4+49) (N_4+48) (N_4+47) (P+1) t.addr)++tokO b_6.1 b_6.2 (kindOf ss) ((P+3)+off ss))++allb⟩ ((n6 a b_5.1 b_5.2.1 b_5.2.2 P (a 15) (bn v) (N_4+49) (N_4+48) (N_4+47) (P+1) t.addr)++tokO b_6.1 b_6.2 (kindOf ss) ((P+3)+off ss)) allb [51,52,53,49,48,47,58,59] rfl ?_ rfl ?_ ?_ ?_ (su [] Sup.nil).left fs rfl F; all_goals kernel_rfl)
    | f1 q1=>(refine finD ⟨tb,.f1 q1,tab,tdb,((n6 a b_5.1 b_5.2.1 b_5.2.2 P (a 15) (bn v) (N_4+49) (N_4+48) (N_4+47) (P+1) t.addr)++tokO b_6.1 b_6.2 (kindOf ss) ((P+3)+off ss))++allb⟩ ((n6 a b_5.1 b_5.2.1 b_5.2.2 P (a 15) (bn v) (N_4+49) (N_4+48) (N_4+47) (P+1) t.addr)++tokO b_6.1 b_6.2 (kindOf ss) ((P+3)+off ss)) allb [51,52,53,49,48,47,58,59] rfl ?_ rfl ?_ ?_ ?_ (su [] Sup.nil).left fs rfl F; all_goals kernel_rfl)
    | f2 q1 q2=>(refine finD ⟨tb,.f2 q1 q2,tab,tdb,((n6 a b_5.1 b_5.2.1 b_5.2.2 P (a 15) (bn v) (N_4+49) (N_4+48) (N_4+47) (P+1) t.addr)++tokO b_6.1 b_6.2 (kindOf ss) ((P+3)+off ss))++allb⟩ ((n6 a b_5.1 b_5.2.1 b_5.2.2 P (a 15) (bn v) (N_4+49) (N_4+48) (N_4+47) (P+1) t.addr)++tokO b_6.1 b_6.2 (kindOf ss) ((P+3)+off ss)) allb [51,52,53,49,48,47,58,59] rfl ?_ rfl ?_ ?_ ?_ (su [] Sup.nil).left fs rfl F; all_goals kernel_rfl)
noncomputable def o_sel_ij_0_1:List Nat:=[0,1,8,0,0,0,0,8,0,0,0,8,8,0,2,6,0,0,0,0,6,0,0,0,6,6,0,7,0,1,1,1,8,0,0,0,0,8,0,0,0,8,8,0,2,6,0,0,0,0,6,0,0,0,6,6,0,7,0,38,38]
noncomputable def o_sel_ij_0_2:List Nat:=[1,8,0,0,0,8,0,0,0,8,0,0,0,0,8,2,0]
noncomputable def o_sel_ij_0_3:List Nat:=[1,8,0,0,0,8,0,0,0,8,0,0,0,0,8,2,0,1,0,39,39,39,39,39,8,0,0,0,0,8,0,0,0,8,8,0,2,6,0,0,0,0,6,0,0,0,6,6,0,7,0,39,0,1,8,0,0,0,8,0,0,0,8,0,0,0,0,8,2,0,1,0,40,40,40,40,40,8,0,0,0,0,8,0,0,0,8,8,0,2,6,0,0,0,0,6,0,0,0,6,6,0,7,0,40,0,40,8,0,0,0,8,0,0,0,8,0,0,0,0,8,2,0,1,0,41,41,41,8,0,0,0,0,8,0,0,0,8,8,0,2,41,41,41,8,0,0,0,0,8,0,0,0,8,8,0,2,4,0,0,0,4,0,0,0,4,0,0,0,0,4,3,0]
noncomputable def o_sel_ij_0_4:List Nat:=[41,8,0,0,0,0,8,0,8,0,8,0,0,0,8,0,2,2,2,41,0,0,1,8,0,0,0,0,8,0,0,0,8,8,0,2,1,8,0,0,0,0,8,0,0,0,8,8,0,2,1,1,1,0,1,0,44,44,44,8,0,0,0,8,0,0,0,8,0,0,0,0,8,2,0,1,0,45,45,45,8,0,0,0,0,8,0,0,0,8,8,0,2,45,45,45,8,0,0,0,0,8,0,0,0,8,8,0,2,4,0,0,0,4,0,0,0,4,0,0,0,0,4,3,0]
noncomputable def o_sel_ij_0_5:List Nat:=[45,8,0,0,0,0,8,0,8,0,8,0,0,0,8,0,2,2,2,45,44,44,0,44,42,0,0,0,0,42,0,0,0,42,42,0,43,44,8,0,0,0,0,8,0,0,0,8,8,0,2,9,0,0,0,0,9,0,0,0,9,9,0,10,0,44,42,0,0,0,0,42,0,0,0,42,42,0,43,0,0,0,0,0,0,0,0,0,0,0,0,0,0,0,0,0,0,0,0,0,0,0,0,0,0,0,0,0,0,0,50,0,50,0,0,0,0,1,0,0,51,51,51,51,51,51,51,51,51,51,51,51,51,51,50,0,0,0,0,50,0,50,0,50,0,0,0,50,0,49,49,49,51,51,50,0,0,0,0,50,0,50,0,50,0,0,0,50,0,49,49,49,51,51,50,0,0,0,0,50,0,50,0,50,0,0,0,50,0,49,49,49,51,51,50,0,0,0,0,50,0,50,0,50,0,0,0,50,0,49,49,49,51,51,50,0,0,0,0,50,0,50,0,50,0,0,0,50,0,49,49,49,51,50,0,0,0,0,50,0,50,0,50,0,0,0,50,0,49,49,49,1,0]
noncomputable def o_sel_ij_0_6:List Nat:=[1,1,0,1,8,0,0,0,8,0,0,0,8,0,0,0,0,8,2,0,1,0,55,55,55,55,55,8,0,0,0,0,8,0,0,0,8,8,0,2,46,0,0,0,0,46,0,0,0,46,46,0,47,0,55,0,55,8,0,0,0,8,0,0,0,8,0,0,0,0,8,2,0,1,0,56,56,56,8,0,0,0,0,8,0,0,0,8,8,0,2,56,56,56,8,0,0,0,0,8,0,0,0,8,8,0,2,4,0,0,0,4,0,0,0,4,0,0,0,0,4,3,0]
noncomputable def o_sel_ij_0_7:List Nat:=[56,8,0,0,0,0,8,0,8,0,8,0,0,0,8,0,2,2,2,56,0,0,1,8,0,0,0,0,8,0,0,0,8,8,0,2,1,8,0,0,0,0,8,0,0,0,8,8,0,2,1,1,1,0,1,0,59,59,59,8,0,0,0,8,0,0,0,8,0,0,0,0,8,2,0,1,0,60,60,60,8,0,0,0,0,8,0,0,0,8,8,0,2,60,60,60,8,0,0,0,0,8,0,0,0,8,8,0,2,4,0,0,0,4,0,0,0,4,0,0,0,0,4,3,0]
noncomputable def o_sel_ij_0_8:List Nat:=[60,8,0,0,0,0,8,0,8,0,8,0,0,0,8,0,2,2,2,60,59,59,0,59,57,0,0,0,0,57,0,0,0,57,57,0,58,59,8,0,0,0,0,8,0,0,0,8,8,0,2,9,0,0,0,0,9,0,0,0,9,9,0,10,0,59,57,0,0,0,0,57,0,0,0,57,57,0,58,0,0,0,0,0,0,0,0,0,0,0,0,0,0,0,0,0,0,0,0,0,0,0,0,0,0,0,0,0,0,0,65,0,65,0,0,0,0,1,0,0,66,66,66,66,66,66,66,66,66,66,66,66,66,66,65,0,0,0,0,65,0,65,0,65,0,0,0,65,0,64,64,64,66,66,65,0,0,0,0,65,0,65,0,65,0,0,0,65,0,64,64,64,66,66,65,0,0,0,0,65,0,65,0,65,0,0,0,65,0,64,64,64,66,66,65,0,0,0,0,65,0,65,0,65,0,0,0,65,0,64,64,64,66,66,65,0,0,0,0,65,0,65,0,65,0,0,0,65,0,64,64,64,66,65,0,0,0,0,65,0,65,0,65,0,0,0,65,0,64,64,64,1,0]
noncomputable def o_sel_ij_0_9:List Nat:=[1,1,0,1,8,0,0,0,8,0,0,0,8,0,0,0,0,8,2,0,1,0,70,70,70,70,70,8,0,0,0,0,8,0,0,0,8,8,0,2,61,0,0,0,0,61,0,0,0,61,61,0,62,0,70,0,1,8,0,0,0,8,0,0,0,8,0,0,0,0,8,2,0,1,0,71,71,71,71,71,8,0,0,0,8,0,0,0,8,0,0,0,0,8,2,71,0,1,0,72,72,72,72,72,8,0,0,0,0,8,0,0,0,8,8,0,2,61,0,0,0,0,61,0,0,0,61,61,0,62,0,72,0,72,8,0,0,0,8,0,0,0,8,0,0,0,0,8,2,0,1,0,73,73,73,8,0,0,0,0,8,0,0,0,8,8,0,2,73,73,73,8,0,0,0,0,8,0,0,0,8,8,0,2,4,0,0,0,4,0,0,0,4,0,0,0,0,4,3,0]
noncomputable def o_sel_ij_0_10:List Nat:=[73,8,0,0,0,0,8,0,8,0,8,0,0,0,8,0,2,2,2,73,0]
theorem sel_ij_0 {w:World} {b1 b2 b3:Bool} (hP:Rows w b1 b2 b3) (a:Nat->Nat) (S:Str) (L:Nat) (kp:Nat) (hk:kp < 7) (u v:Bool) (ss:List Sl) (P ta td:Nat) (t:NT) (ht:t.ty = .th) (T1:TakeCt w a S (P+1) (P+1+1) v_int (.int (Int.ofNat (bn u)) 0) (P+1+0)) (T2:TakeCt w a S (P+2) (P+2+1) v_comma (.str v_empty 0) (P+2+0)) (T3:TakeCt w a S (P+3) (P+3+2) v_int (.int (Int.ofNat (bn v)) 0) (P+3+1)) (T4:TakeCt w a S (P+5) (P+5+1) v_rbr (.str v_empty 0) (P+5+0)) (T5:TakeCt w a S (P+6) (P+6+adv ss) (kindOf ss) (.str v_empty 0) (P+6+off ss))
    (IH:∀ fr ta td (t':NT),t'.sh=growS t.sh (.ij u v) P->SelC w a S L fr (kp+1) ss (P+6) ta td t'):SelC w a S L .f0 kp ((.ij u v)::ss) P ta td t:=by
  obtain ⟨D,op,pl',K,x',r,hp⟩:=root_th a t ht
  · refine Ct.perm (List.Perm.append_left _ (perm_w (w_ty a) hp)) (Ct.cast (List.append_assoc _ _ _) ?_);refine ct_start (tx:=tx0) (pre:=[(L,selFr a .f0 t.addr),(a 5,rdD a kp ta),(a 1,scD S (a 2) (a 3) (P+adv ((.ij u v)::ss)))]) (ro:=((w_sc a++tokO ta td (kindOf ((.ij u v)::ss)) (P+off ((.ij u v)::ss))++w_rd a)++([(t.addr,instO 39 D),(D,nodD op pl' (a 20) K (.ref x'))]++w_ty a))) (sup:=r) hP tx0_ok (by decide) fun A' s R zs ta' N C U D' hR=>?_;refine sg C 4000 o_sel_ij_0_1 ?_;intro _;have K_1:=sN s R C trId [((N+37),tupO (strsL [(⟨⟨[46]⟩⟩:Str),(⟨⟨[91]⟩⟩:Str),(⟨⟨[94]⟩⟩:Str)]))] (ct_tupin [(⟨⟨[46]⟩⟩:Str),(⟨⟨[91]⟩⟩:Str),(⟨⟨[94]⟩⟩:Str)] (⟨⟨[91]⟩⟩:Str) (N+37)) [] [37];refine K_1 ?_;intro _ _ _ _ _ _ _ _ C_1 tr_1 su_1 _ _ _;have U_1:=su_1 _ U;refine sg C_1 4000 o_sel_ij_0_2 ?_;intro _;have K_2:=sN s R C_1 tr_1 [(a 4,instO 630 (a 5))] (ct_part hP a ta kp hk) [1] [7];refine K_2 ?_;intro _ _ _ _ _ _ _ _ C_2 tr_2 su_2 _ _ _;have U_2:=su_2 _ U_1;refine sg C_2 4000 o_sel_ij_0_3 ?_;intro _;have K_3:=sN s R C_2 tr_2 (w_sc a) (T1) [2] [3,4];refine K_3 ?_;intro b_3 _ _ _ _ _ _ _ C_3 tr_3 su_3 _ _ _;have U_3:=su_3 _ U_2;refine sg C_3 4000 o_sel_ij_0_4 ?_;intro _;have K_4:=sN s R C_3 tr_3 (w_sc a) (T2) [2] [3,4];refine K_4 ?_;intro b_4 _ _ _ N_4 _ _ _ C_4 tr_4 su_4 _ _ _;have U_4:=su_4 _ U_3;refine sg C_4 4000 o_sel_ij_0_5 ?_;intro _;have K_5:=sK s R C_4 tr_4 ([((N_4+49),instO 39 (N_4+48)),((N_4+48),nodD v_const (P+1) (a 15) (N_4+47) (.int (Int.ofNat (bn u)) 0))]++(w_ty a++([]++[(t.addr,instO 39 D),(D,nodD op pl' (a 20) K (.ref x'))]))) r (Ct.perm (perm_t (n:=[]) (f:=t.flat a) hp) (io_th_all hP a t ht P (N_4+49) (N_4+48) (N_4+47) (P+1) u)) [] [49,48,20,21,22,23,24,25,26,27,28,29,30,31,32,33,34,35,36,18,19] U_4;refine K_5 ?_;intro b_5 _ _ _ _ _ _ _ C_5 tr_5 su_5 _ _ _;have U_5:=su_5 _ U_4;refine sg C_5 4000 o_sel_ij_0_6 ?_;intro _;have K_6:=sN s R C_5 tr_5 (w_sc a) (T3) [2] [3,4];refine K_6 ?_;intro b_6 _ _ _ _ _ _ _ C_6 tr_6 su_6 _ _ _;have U_6:=su_6 _ U_5;refine sg C_6 4000 o_sel_ij_0_7 ?_;intro _;have K_7:=sN s R C_6 tr_6 (w_sc a) (T4) [2] [3,4];refine K_7 ?_;intro b_7 _ _ _ N_7 _ _ _ C_7 tr_7 su_7 _ _ _;have U_7:=su_7 _ U_6;refine sg C_7 4000 o_sel_ij_0_8 ?_;intro _;have K_8:=sK s R C_7 tr_7 ([((N_7+64),instO 39 (N_7+63)),((N_7+63),nodD v_const (P+4) (a 15) (N_7+62) (.int (Int.ofNat (bn v)) 0))]++(w_ty a++((n6 a b_5.1 b_5.2.1 b_5.2.2 P (a 25) (bn u) (N_4+49) (N_4+48) (N_4+47) (P+1) t.addr)++[(t.addr,instO 39 D),(D,nodD op pl' (a 20) K (.ref x'))]))) r (Ct.perm (perm_t (n:=(n6 a b_5.1 b_5.2.1 b_5.2.2 P (a 25) (bn u) (N_4+49) (N_4+48) (N_4+47) (P+1) t.addr)) (f:=t.flat a) hp) (io_pa_all hP a (.idx b_5.1 b_5.2.1 b_5.2.2 P true (bn u) (N_4+49) (N_4+48) (N_4+47) (P+1) t) rfl P (N_7+64) (N_7+63) (N_7+62) (P+4) v)) [] [64,63,20,21,22,23,24,25,26,27,28,29,30,31,32,33,34,35,36,51,52,53,49,48,47,18,19] U_7;refine K_8 ?_;intro b_8 _ _ _ _ _ _ _ C_8 tr_8 su_8 _ _ _;have U_8:=su_8 _ U_7;refine sg C_8 4000 o_sel_ij_0_9 ?_;intro _;have K_9:=sN s R C_8 tr_8 (w_sc a) (T5) [2] [3,4];refine K_9 ?_;intro b_9 _ _ _ _ _ _ _ C_9 tr_9 su_9 _ _ _;have U_9:=su_9 _ U_8;refine sg C_9 4000 o_sel_ij_0_10 ?_;intro _;have K_t:=tK C_9 ((w_sc a++tokO b_9.1 b_9.2 (kindOf ss) ((P+6)+off ss)++w_rd a)++(w_ty a++((n6 a b_8.1 b_8.2.1 b_8.2.2 P (a 15) (bn v) (N_7+64) (N_7+63) (N_7+62) (P+4) b_5.1++(n6 a b_5.1 b_5.2.1 b_5.2.2 P (a 25) (bn u) (N_4+49) (N_4+48) (N_4+47) (P+1) t.addr))++[(t.addr,instO 39 D),(D,nodD op pl' (a 20) K (.ref x'))]))) r (Ct.perm (perm_t (n:=(n6 a b_8.1 b_8.2.1 b_8.2.2 P (a 15) (bn v) (N_7+64) (N_7+63) (N_7+62) (P+4) b_5.1++(n6 a b_5.1 b_5.2.1 b_5.2.2 P (a 25) (bn u) (N_4+49) (N_4+48) (N_4+47) (P+1) t.addr))) (f:=t.flat a) hp) (IH (.f1 P) b_9.1 b_9.2 (.idx b_8.1 b_8.2.1 b_8.2.2 P false (bn v) (N_7+64) (N_7+63) (N_7+62) (P+4) (.idx b_5.1 b_5.2.1 b_5.2.2 P true (bn u) (N_4+49) (N_4+48) (N_4+47) (P+1) t)) rfl)) [0,1,2] [3,4,73,74,7,8,9,10,11,12,13,14,15,16,17,20,21,22,23,24,25,26,27,28,29,30,31,32,33,34,35,36,66,67,68,64,63,62,51,52,53,49,48,47,18,19] U_9 tr_9 D' hR;refine K_t ?_;rintro ⟨tb,frb,tab,tdb,allb⟩ zu zn h' su fs ⟨pd1,ns,junk,pd2,pd3⟩;have F:=sel_fin (ta0:=ta) (td0:=td) (t':=(.idx b_8.1 b_8.2.1 b_8.2.2 P false (bn v) (N_7+64) (N_7+63) (N_7+62) (P+4) (.idx b_5.1 b_5.2.1 b_5.2.2 P true (bn u) (N_4+49) (N_4+48) (N_4+47) (P+1) t))) (t:=t) (s:=(.ij u v)) (P:=P) (n:=(n6 a b_8.1 b_8.2.1 b_8.2.2 P (a 15) (bn v) (N_7+64) (N_7+63) (N_7+62) (P+4) b_5.1++(n6 a b_5.1 b_5.2.1 b_5.2.2 P (a 25) (bn u) (N_4+49) (N_4+48) (N_4+47) (P+1) t.addr))) rfl rfl rfl pd1 pd2 pd3;cases frb with
    | f0=>(refine finD ⟨tb,.f0,tab,tdb,((n6 a b_8.1 b_8.2.1 b_8.2.2 P (a 15) (bn v) (N_7+64) (N_7+63) (N_7+62) (P+4) b_5.1++(n6 a b_5.1 b_5.2.1 b_5.2.2 P (a 25) (bn u) (N_4+49) (N_4+48) (N_4+47) (P+1) t.addr))++tokO b_9.1 b_9.2 (kindOf ss) ((P+6)+off ss))++allb⟩ ((n6 a b_8.1 b_8.2.1 b_8.2.2 P (a 15) (bn v) (N_7+64) (N_7+63) (N_7+62) (P+4) b_5.1++(n6 a b_5.1 b_5.2.1 b_5.2.2 P (a 25) (bn u) (N_4+49) (N_4+48) (N_4+47) (P+1) t.addr))++tokO b_9.1 b_9.2 (kindOf ss) ((P+6)+off ss)) allb [66,67,68,64,63,62,51,52,53,49,48,47,73,74] rfl ?_ rfl ?_ ?_ ?_ (su [] Sup.nil).left fs rfl F; all_goals kernel_rfl)
    | f1 q1=>(refine finD ⟨tb,.f1 q1,tab,tdb,((n6 a b_8.1 b_8.2.1 b_8.2.2 P (a 15) (bn v) (N_7+64) (N_7+63) (N_7+62) (P+4) b_5.1++(n6 a b_5.1 b_5.2.1 b_5.2.2 P (a 25) (bn u) (N_4+49) (N_4+48) (N_4+47) (P+1) t.addr))++tokO b_9.1 b_9.2 (kindOf ss) ((P+6)+off ss))++allb⟩ ((n6 a b_8.1 b_8.2.1 b_8.2.2 P (a 15) (bn v) (N_7+64) (N_7+63) (N_7+62) (P+4) b_5.1++(n6 a b_5.1 b_5.2.1 b_5.2.2 P (a 25) (bn u) (N_4+49) (N_4+48) (N_4+47) (P+1) t.addr))++tokO b_9.1 b_9.2 (kindOf ss) ((P+6)+off ss)) allb [66,67,68,64,63,62,51,52,53,49,48,47,73,74] rfl ?_ rfl ?_ ?_ ?_ (su [] Sup.nil).left fs rfl F; all_goals kernel_rfl)
    | f2 q1 q2=>(refine finD ⟨tb,.f2 q1 q2,tab,tdb,((n6 a b_8.1 b_8.2.1 b_8.2.2 P (a 15) (bn v) (N_7+64) (N_7+63) (N_7+62) (P+4) b_5.1++(n6 a b_5.1 b_5.2.1 b_5.2.2 P (a 25) (bn u) (N_4+49) (N_4+48) (N_4+47) (P+1) t.addr))++tokO b_9.1 b_9.2 (kindOf ss) ((P+6)+off ss))++allb⟩ ((n6 a b_8.1 b_8.2.1 b_8.2.2 P (a 15) (bn v) (N_7+64) (N_7+63) (N_7+62) (P+4) b_5.1++(n6 a b_5.1 b_5.2.1 b_5.2.2 P (a 25) (bn u) (N_4+49) (N_4+48) (N_4+47) (P+1) t.addr))++tokO b_9.1 b_9.2 (kindOf ss) ((P+6)+off ss)) allb [66,67,68,64,63,62,51,52,53,49,48,47,73,74] rfl ?_ rfl ?_ ?_ ?_ (su [] Sup.nil).left fs rfl F; all_goals kernel_rfl)
theorem sel_ij_1 {w:World} {b1 b2 b3:Bool} (hP:Rows w b1 b2 b3) (a:Nat->Nat) (S:Str) (L:Nat) (p0:Nat) (kp:Nat) (hk:kp < 7) (u v:Bool) (ss:List Sl) (P ta td:Nat) (t:NT) (ht:t.ty = .th) (T1:TakeCt w a S (P+1) (P+1+1) v_int (.int (Int.ofNat (bn u)) 0) (P+1+0)) (T2:TakeCt w a S (P+2) (P+2+1) v_comma (.str v_empty 0) (P+2+0)) (T3:TakeCt w a S (P+3) (P+3+2) v_int (.int (Int.ofNat (bn v)) 0) (P+3+1)) (T4:TakeCt w a S (P+5) (P+5+1) v_rbr (.str v_empty 0) (P+5+0)) (T5:TakeCt w a S (P+6) (P+6+adv ss) (kindOf ss) (.str v_empty 0) (P+6+off ss))
    (IH:∀ fr ta td (t':NT),t'.sh=growS t.sh (.ij u v) P->SelC w a S L fr (kp+1) ss (P+6) ta td t'):SelC w a S L (.f1 p0) kp ((.ij u v)::ss) P ta td t:=by
  obtain ⟨D,op,pl',K,x',r,hp⟩:=root_th a t ht
  · refine Ct.perm (List.Perm.append_left _ (perm_w (w_ty a) hp)) (Ct.cast (List.append_assoc _ _ _) ?_);refine ct_start (tx:=tx0) (pre:=[(L,selFr a (.f1 p0) t.addr),(a 5,rdD a kp ta),(a 1,scD S (a 2) (a 3) (P+adv ((.ij u v)::ss)))]) (ro:=((w_sc a++tokO ta td (kindOf ((.ij u v)::ss)) (P+off ((.ij u v)::ss))++w_rd a)++([(t.addr,instO 39 D),(D,nodD op pl' (a 20) K (.ref x'))]++w_ty a))) (sup:=r) hP tx0_ok (by decide) fun A' s R zs ta' N C U D' hR=>?_;refine sg C 4000 o_sel_ij_0_1 ?_;intro _;have K_1:=sN s R C trId [((N+37),tupO (strsL [(⟨⟨[46]⟩⟩:Str),(⟨⟨[91]⟩⟩:Str),(⟨⟨[94]⟩⟩:Str)]))] (ct_tupin [(⟨⟨[46]⟩⟩:Str),(⟨⟨[91]⟩⟩:Str),(⟨⟨[94]⟩⟩:Str)] (⟨⟨[91]⟩⟩:Str) (N+37)) [] [37];refine K_1 ?_;intro _ _ _ _ _ _ _ _ C_1 tr_1 su_1 _ _ _;have U_1:=su_1 _ U;refine sg C_1 4000 o_sel_ij_0_2 ?_;intro _;have K_2:=sN s R C_1 tr_1 [(a 4,instO 630 (a 5))] (ct_part hP a ta kp hk) [1] [7];refine K_2 ?_;intro _ _ _ _ _ _ _ _ C_2 tr_2 su_2 _ _ _;have U_2:=su_2 _ U_1;refine sg C_2 4000 o_sel_ij_0_3 ?_;intro _;have K_3:=sN s R C_2 tr_2 (w_sc a) (T1) [2] [3,4];refine K_3 ?_;intro b_3 _ _ _ _ _ _ _ C_3 tr_3 su_3 _ _ _;have U_3:=su_3 _ U_2;refine sg C_3 4000 o_sel_ij_0_4 ?_;intro _;have K_4:=sN s R C_3 tr_3 (w_sc a) (T2) [2] [3,4];refine K_4 ?_;intro b_4 _ _ _ N_4 _ _ _ C_4 tr_4 su_4 _ _ _;have U_4:=su_4 _ U_3;refine sg C_4 4000 o_sel_ij_0_5 ?_;intro _;have K_5:=sK s R C_4 tr_4 ([((N_4+49),instO 39 (N_4+48)),((N_4+48),nodD v_const (P+1) (a 15) (N_4+47) (.int (Int.ofNat (bn u)) 0))]++(w_ty a++([]++[(t.addr,instO 39 D),(D,nodD op pl' (a 20) K (.ref x'))]))) r (Ct.perm (perm_t (n:=[]) (f:=t.flat a) hp) (io_th_all hP a t ht P (N_4+49) (N_4+48) (N_4+47) (P+1) u)) [] [49,48,20,21,22,23,24,25,26,27,28,29,30,31,32,33,34,35,36,18,19] U_4;refine K_5 ?_;intro b_5 _ _ _ _ _ _ _ C_5 tr_5 su_5 _ _ _;have U_5:=su_5 _ U_4;refine sg C_5 4000 o_sel_ij_0_6 ?_;intro _;have K_6:=sN s R C_5 tr_5 (w_sc a) (T3) [2] [3,4];refine K_6 ?_;intro b_6 _ _ _ _ _ _ _ C_6 tr_6 su_6 _ _ _;have U_6:=su_6 _ U_5;refine sg C_6 4000 o_sel_ij_0_7 ?_;intro _;have K_7:=sN s R C_6 tr_6 (w_sc a) (T4) [2] [3,4];refine K_7 ?_;intro b_7 _ _ _ N_7 _ _ _ C_7 tr_7 su_7 _ _ _;have U_7:=su_7 _ U_6;refine sg C_7 4000 o_sel_ij_0_8 ?_;intro _;have K_8:=sK s R C_7 tr_7 ([((N_7+64),instO 39 (N_7+63)),((N_7+63),nodD v_const (P+4) (a 15) (N_7+62) (.int (Int.ofNat (bn v)) 0))]++(w_ty a++((n6 a b_5.1 b_5.2.1 b_5.2.2 P (a 25) (bn u) (N_4+49) (N_4+48) (N_4+47) (P+1) t.addr)++[(t.addr,instO 39 D),(D,nodD op pl' (a 20) K (.ref x'))]))) r (Ct.perm (perm_t (n:=(n6 a b_5.1 b_5.2.1 b_5.2.2 P (a 25) (bn u) (N_4+49) (N_4+48) (N_4+47) (P+1) t.addr)) (f:=t.flat a) hp) (io_pa_all hP a (.idx b_5.1 b_5.2.1 b_5.2.2 P true (bn u) (N_4+49) (N_4+48) (N_4+47) (P+1) t) rfl P (N_7+64) (N_7+63) (N_7+62) (P+4) v)) [] [64,63,20,21,22,23,24,25,26,27,28,29,30,31,32,33,34,35,36,51,52,53,49,48,47,18,19] U_7;refine K_8 ?_;intro b_8 _ _ _ _ _ _ _ C_8 tr_8 su_8 _ _ _;have U_8:=su_8 _ U_7;refine sg C_8 4000 o_sel_ij_0_9 ?_;intro _;have K_9:=sN s R C_8 tr_8 (w_sc a) (T5) [2] [3,4];refine K_9 ?_;intro b_9 _ _ _ _ _ _ _ C_9 tr_9 su_9 _ _ _;have U_9:=su_9 _ U_8;refine sg C_9 4000 o_sel_ij_0_10 ?_;intro _;have K_t:=tK C_9 ((w_sc a++tokO b_9.1 b_9.2 (kindOf ss) ((P+6)+off ss)++w_rd a)++(w_ty a++((n6 a b_8.1 b_8.2.1 b_8.2.2 P (a 15) (bn v) (N_7+64) (N_7+63) (N_7+62) (P+4) b_5.1++(n6 a b_5.1 b_5.2.1 b_5.2.2 P (a 25) (bn u) (N_4+49) (N_4+48) (N_4+47) (P+1) t.addr))++[(t.addr,instO 39 D),(D,nodD op pl' (a 20) K (.ref x'))]))) r (Ct.perm (perm_t (n:=(n6 a b_8.1 b_8.2.1 b_8.2.2 P (a 15) (bn v) (N_7+64) (N_7+63) (N_7+62) (P+4) b_5.1++(n6 a b_5.1 b_5.2.1 b_5.2.2 P (a 25) (bn u) (N_4+49) (N_4+48) (N_4+47) (P+1) t.addr))) (f:=t.flat a) hp) (IH (.f1 P) b_9.1 b_9.2 (.idx b_8.1 b_8.2.1 b_8.2.2 P false (bn v) (N_7+64) (N_7+63) (N_7+62) (P+4) (.idx b_5.1 b_5.2.1 b_5.2.2 P true (bn u) (N_4+49) (N_4+48) (N_4+47) (P+1) t)) rfl)) [0,1,2] [3,4,73,74,7,8,9,10,11,12,13,14,15,16,17,20,21,22,23,24,25,26,27,28,29,30,31,32,33,34,35,36,66,67,68,64,63,62,51,52,53,49,48,47,18,19] U_9 tr_9 D' hR;refine K_t ?_;rintro ⟨tb,frb,tab,tdb,allb⟩ zu zn h' su fs ⟨pd1,ns,junk,pd2,pd3⟩;have F:=sel_fin (ta0:=ta) (td0:=td) (t':=(.idx b_8.1 b_8.2.1 b_8.2.2 P false (bn v) (N_7+64) (N_7+63) (N_7+62) (P+4) (.idx b_5.1 b_5.2.1 b_5.2.2 P true (bn u) (N_4+49) (N_4+48) (N_4+47) (P+1) t))) (t:=t) (s:=(.ij u v)) (P:=P) (n:=(n6 a b_8.1 b_8.2.1 b_8.2.2 P (a 15) (bn v) (N_7+64) (N_7+63) (N_7+62) (P+4) b_5.1++(n6 a b_5.1 b_5.2.1 b_5.2.2 P (a 25) (bn u) (N_4+49) (N_4+48) (N_4+47) (P+1) t.addr))) rfl rfl rfl pd1 pd2 pd3;cases frb with
    | f0=>(refine finD ⟨tb,.f0,tab,tdb,((n6 a b_8.1 b_8.2.1 b_8.2.2 P (a 15) (bn v) (N_7+64) (N_7+63) (N_7+62) (P+4) b_5.1++(n6 a b_5.1 b_5.2.1 b_5.2.2 P (a 25) (bn u) (N_4+49) (N_4+48) (N_4+47) (P+1) t.addr))++tokO b_9.1 b_9.2 (kindOf ss) ((P+6)+off ss))++allb⟩ ((n6 a b_8.1 b_8.2.1 b_8.2.2 P (a 15) (bn v) (N_7+64) (N_7+63) (N_7+62) (P+4) b_5.1++(n6 a b_5.1 b_5.2.1 b_5.2.2 P (a 25) (bn u) (N_4+49) (N_4+48) (N_4+47) (P+1) t.addr))++tokO b_9.1 b_9.2 (kindOf ss) ((P+6)+off ss)) allb [66,67,68,64,63,62,51,52,53,49,48,47,73,74] rfl ?_ rfl ?_ ?_ ?_ (su [] Sup.nil).left fs rfl F; all_goals kernel_rfl)
    | f1 q1=>(refine finD ⟨tb,.f1 q1,tab,tdb,((n6 a b_8.1 b_8.2.1 b_8.2.2 P (a 15) (bn v) (N_7+64) (N_7+63) (N_7+62) (P+4) b_5.1++(n6 a b_5.1 b_5.2.1 b_5.2.2 P (a 25) (bn u) (N_4+49) (N_4+48) (N_4+47) (P+1) t.addr))++tokO b_9.1 b_9.2 (kindOf ss) ((P+6)+off ss))++allb⟩ ((n6 a b_8.1 b_8.2.1 b_8.2.2 P (a 15) (bn v) (N_7+64) (N_7+63) (N_7+62) (P+4) b_5.1++(n6 a b_5.1 b_5.2.1 b_5.2.2 P (a 25) (bn u) (N_4+49) (N_4+48) (N_4+47) (P+1) t.addr))++tokO b_9.1 b_9.2 (kindOf ss) ((P+6)+off ss)) allb [66,67,68,64,63,62,51,52,53,49,48,47,73,74] rfl ?_ rfl ?_ ?_ ?_ (su [] Sup.nil).left fs rfl F; all_goals kernel_rfl)
    | f2 q1 q2=>(refine finD ⟨tb,.f2 q1 q2,tab,tdb,((n6 a b_8.1 b_8.2.1 b_8.2.2 P (a 15) (bn v) (N_7+64) (N_7+63) (N_7+62) (P+4) b_5.1++(n6 a b_5.1 b_5.2.1 b_5.2.2 P (a 25) (bn u) (N_4+49) (N_4+48) (N_4+47) (P+1) t.addr))++tokO b_9.1 b_9.2 (kindOf ss) ((P+6)+off ss))++allb⟩ ((n6 a b_8.1 b_8.2.1 b_8.2.2 P (a 15) (bn v) (N_7+64) (N_7+63) (N_7+62) (P+4) b_5.1++(n6 a b_5.1 b_5.2.1 b_5.2.2 P (a 25) (bn u) (N_4+49) (N_4+48) (N_4+47) (P+1) t.addr))++tokO b_9.1 b_9.2 (kindOf ss) ((P+6)+off ss)) allb [66,67,68,64,63,62,51,52,53,49,48,47,73,74] rfl ?_ rfl ?_ ?_ ?_ (su [] Sup.nil).left fs rfl F; all_goals kernel_rfl)
theorem sel_ij_2 {w:World} {b1 b2 b3:Bool} (hP:Rows w b1 b2 b3) (a:Nat->Nat) (S:Str) (L:Nat) (p0 nm0:Nat) (kp:Nat) (hk:kp < 7) (u v:Bool) (ss:List Sl) (P ta td:Nat) (t:NT) (ht:t.ty = .th) (T1:TakeCt w a S (P+1) (P+1+1) v_int (.int (Int.ofNat (bn u)) 0) (P+1+0)) (T2:TakeCt w a S (P+2) (P+2+1) v_comma (.str v_empty 0) (P+2+0)) (T3:TakeCt w a S (P+3) (P+3+2) v_int (.int (Int.ofNat (bn v)) 0) (P+3+1)) (T4:TakeCt w a S (P+5) (P+5+1) v_rbr (.str v_empty 0) (P+5+0)) (T5:TakeCt w a S (P+6) (P+6+adv ss) (kindOf ss) (.str v_empty 0) (P+6+off ss))
    (IH:∀ fr ta td (t':NT),t'.sh=growS t.sh (.ij u v) P->SelC w a S L fr (kp+1) ss (P+6) ta td t'):SelC w a S L (.f2 p0 nm0) kp ((.ij u v)::ss) P ta td t:=by
  obtain ⟨D,op,pl',K,x',r,hp⟩:=root_th a t ht
  · refine Ct.perm (List.Perm.append_left _ (perm_w (w_ty a) hp)) (Ct.cast (List.append_assoc _ _ _) ?_);refine ct_start (tx:=tx0) (pre:=[(L,selFr a (.f2 p0 nm0) t.addr),(a 5,rdD a kp ta),(a 1,scD S (a 2) (a 3) (P+adv ((.ij u v)::ss)))]) (ro:=((w_sc a++tokO ta td (kindOf ((.ij u v)::ss)) (P+off ((.ij u v)::ss))++w_rd a)++([(t.addr,instO 39 D),(D,nodD op pl' (a 20) K (.ref x'))]++w_ty a))) (sup:=r) hP tx0_ok (by decide) fun A' s R zs ta' N C U D' hR=>?_;refine sg C 4000 o_sel_ij_0_1 ?_;intro _;have K_1:=sN s R C trId [((N+37),tupO (strsL [(⟨⟨[46]⟩⟩:Str),(⟨⟨[91]⟩⟩:Str),(⟨⟨[94]⟩⟩:Str)]))] (ct_tupin [(⟨⟨[46]⟩⟩:Str),(⟨⟨[91]⟩⟩:Str),(⟨⟨[94]⟩⟩:Str)] (⟨⟨[91]⟩⟩:Str) (N+37)) [] [37];refine K_1 ?_;intro _ _ _ _ _ _ _ _ C_1 tr_1 su_1 _ _ _;have U_1:=su_1 _ U;refine sg C_1 4000 o_sel_ij_0_2 ?_;intro _;have K_2:=sN s R C_1 tr_1 [(a 4,instO 630 (a 5))] (ct_part hP a ta kp hk) [1] [7];refine K_2 ?_;intro _ _ _ _ _ _ _ _ C_2 tr_2 su_2 _ _ _;have U_2:=su_2 _ U_1;refine sg C_2 4000 o_sel_ij_0_3 ?_;intro _;have K_3:=sN s R C_2 tr_2 (w_sc a) (T1) [2] [3,4];refine K_3 ?_;intro b_3 _ _ _ _ _ _ _ C_3 tr_3 su_3 _ _ _;have U_3:=su_3 _ U_2;refine sg C_3 4000 o_sel_ij_0_4 ?_;intro _;have K_4:=sN s R C_3 tr_3 (w_sc a) (T2) [2] [3,4];refine K_4 ?_;intro b_4 _ _ _ N_4 _ _ _ C_4 tr_4 su_4 _ _ _;have U_4:=su_4 _ U_3;refine sg C_4 4000 o_sel_ij_0_5 ?_;intro _;have K_5:=sK s R C_4 tr_4 ([((N_4+49),instO 39 (N_4+48)),((N_4+48),nodD v_const (P+1) (a 15) (N_4+47) (.int (Int.ofNat (bn u)) 0))]++(w_ty a++([]++[(t.addr,instO 39 D),(D,nodD op pl' (a 20) K (.ref x'))]))) r (Ct.perm (perm_t (n:=[]) (f:=t.flat a) hp) (io_th_all hP a t ht P (N_4+49) (N_4+48) (N_4+47) (P+1) u)) [] [49,48,20,21,22,23,24,25,26,27,28,29,30,31,32,33,34,35,36,18,19] U_4;refine K_5 ?_;intro b_5 _ _ _ _ _ _ _ C_5 tr_5 su_5 _ _ _;have U_5:=su_5 _ U_4;refine sg C_5 4000 o_sel_ij_0_6 ?_;intro _;have K_6:=sN s R C_5 tr_5 (w_sc a) (T3) [2] [3,4];refine K_6 ?_;intro b_6 _ _ _ _ _ _ _ C_6 tr_6 su_6 _ _ _;have U_6:=su_6 _ U_5;refine sg C_6 4000 o_sel_ij_0_7 ?_;intro _;have K_7:=sN s R C_6 tr_6 (w_sc a) (T4) [2] [3,4];refine K_7 ?_;intro b_7 _ _ _ N_7 _ _ _ C_7 tr_7 su_7 _ _ _;have U_7:=su_7 _ U_6;refine sg C_7 4000 o_sel_ij_0_8 ?_;intro _;have K_8:=sK s R C_7 tr_7 ([((N_7+64),instO 39 (N_7+63)),((N_7+63),nodD v_const (P+4) (a 15) (N_7+62) (.int (Int.ofNat (bn v)) 0))]++(w_ty a++((n6 a b_5.1 b_5.2.1 b_5.2.2 P (a 25) (bn u) (N_4+49) (N_4+48) (N_4+47) (P+1) t.addr)++[(t.addr,instO 39 D),(D,nodD op pl' (a 20) K (.ref x'))]))) r (Ct.perm (perm_t (n:=(n6 a b_5.1 b_5.2.1 b_5.2.2 P (a 25) (bn u) (N_4+49) (N_4+48) (N_4+47) (P+1) t.addr)) (f:=t.flat a) hp) (io_pa_all hP a (.idx b_5.1 b_5.2.1 b_5.2.2 P true (bn u) (N_4+49) (N_4+48) (N_4+47) (P+1) t) rfl P (N_7+64) (N_7+63) (N_7+62) (P+4) v)) [] [64,63,20,21,22,23,24,25,26,27,28,29,30,31,32,33,34,35,36,51,52,53,49,48,47,18,19] U_7;refine K_8 ?_;intro b_8 _ _ _ _ _ _ _ C_8 tr_8 su_8 _ _ _;have U_8:=su_8 _ U_7;refine sg C_8 4000 o_sel_ij_0_9 ?_;intro _;have K_9:=sN s R C_8 tr_8 (w_sc a) (T5) [2] [3,4];refine K_9 ?_;intro b_9 _ _ _ _ _ _ _ C_9 tr_9 su_9 _ _ _;have U_9:=su_9 _ U_8;refine sg C_9 4000 o_sel_ij_0_10 ?_;intro _;have K_t:=tK C_9 ((w_sc a++tokO b_9.1 b_9.2 (kindOf ss) ((P+6)+off ss)++w_rd a)++(w_ty a++((n6 a b_8.1 b_8.2.1 b_8.2.2 P (a 15) (bn v) (N_7+64) (N_7+63) (N_7+62) (P+4) b_5.1++(n6 a b_5.1 b_5.2.1 b_5.2.2 P (a 25) (bn u) (N_4+49) (N_4+48) (N_4+47) (P+1) t.addr))++[(t.addr,instO 39 D),(D,nodD op pl' (a 20) K (.ref x'))]))) r (Ct.perm (perm_t (n:=(n6 a b_8.1 b_8.2.1 b_8.2.2 P (a 15) (bn v) (N_7+64) (N_7+63) (N_7+62) (P+4) b_5.1++(n6 a b_5.1 b_5.2.1 b_5.2.2 P (a 25) (bn u) (N_4+49) (N_4+48) (N_4+47) (P+1) t.addr))) (f:=t.flat a) hp) (IH (.f2 P nm0) b_9.1 b_9.2 (.idx b_8.1 b_8.2.1 b_8.2.2 P false (bn v) (N_7+64) (N_7+63) (N_7+62) (P+4) (.idx b_5.1 b_5.2.1 b_5.2.2 P true (bn u) (N_4+49) (N_4+48) (N_4+47) (P+1) t)) rfl)) [0,1,2] [3,4,73,74,7,8,9,10,11,12,13,14,15,16,17,20,21,22,23,24,25,26,27,28,29,30,31,32,33,34,35,36,66,67,68,64,63,62,51,52,53,49,48,47,18,19] U_9 tr_9 D' hR;refine K_t ?_;rintro ⟨tb,frb,tab,tdb,allb⟩ zu zn h' su fs ⟨pd1,ns,junk,pd2,pd3⟩;have F:=sel_fin (ta0:=ta) (td0:=td) (t':=(.idx b_8.1 b_8.2.1 b_8.2.2 P false (bn v) (N_7+64) (N_7+63) (N_7+62) (P+4) (.idx b_5.1 b_5.2.1 b_5.2.2 P true (bn u) (N_4+49) (N_4+48) (N_4+47) (P+1) t))) (t:=t) (s:=(.ij u v)) (P:=P) (n:=(n6 a b_8.1 b_8.2.1 b_8.2.2 P (a 15) (bn v) (N_7+64) (N_7+63) (N_7+62) (P+4) b_5.1++(n6 a b_5.1 b_5.2.1 b_5.2.2 P (a 25) (bn u) (N_4+49) (N_4+48) (N_4+47) (P+1) t.addr))) rfl rfl rfl pd1 pd2 pd3;cases frb with
    | f0=>(refine finD ⟨tb,.f0,tab,tdb,((n6 a b_8.1 b_8.2.1 b_8.2.2 P (a 15) (bn v) (N_7+64) (N_7+63) (N_7+62) (P+4) b_5.1++(n6 a b_5.1 b_5.2.1 b_5.2.2 P (a 25) (bn u) (N_4+49) (N_4+48) (N_4+47) (P+1) t.addr))++tokO b_9.1 b_9.2 (kindOf ss) ((P+6)+off ss))++allb⟩ ((n6 a b_8.1 b_8.2.1 b_8.2.2 P (a 15) (bn v) (N_7+64) (N_7+63) (N_7+62) (P+4) b_5.1++(n6 a b_5.1 b_5.2.1 b_5.2.2 P (a 25) (bn u) (N_4+49) (N_4+48) (N_4+47) (P+1) t.addr))++tokO b_9.1 b_9.2 (kindOf ss) ((P+6)+off ss)) allb [66,67,68,64,63,62,51,52,53,49,48,47,73,74] rfl ?_ rfl ?_ ?_ ?_ (su [] Sup.nil).left fs rfl F; all_goals kernel_rfl)
    | f1 q1=>(refine finD ⟨tb,.f1 q1,tab,tdb,((n6 a b_8.1 b_8.2.1 b_8.2.2 P (a 15) (bn v) (N_7+64) (N_7+63) (N_7+62) (P+4) b_5.1++(n6 a b_5.1 b_5.2.1 b_5.2.2 P (a 25) (bn u) (N_4+49) (N_4+48) (N_4+47) (P+1) t.addr))++tokO b_9.1 b_9.2 (kindOf ss) ((P+6)+off ss))++allb⟩ ((n6 a b_8.1 b_8.2.1 b_8.2.2 P (a 15) (bn v) (N_7+64) (N_7+63) (N_7+62) (P+4) b_5.1++(n6 a b_5.1 b_5.2.1 b_5.2.2 P (a 25) (bn u) (N_4+49) (N_4+48) (N_4+47) (P+1) t.addr))++tokO b_9.1 b_9.2 (kindOf ss) ((P+6)+off ss)) allb [66,67,68,64,63,62,51,52,53,49,48,47,73,74] rfl ?_ rfl ?_ ?_ ?_ (su [] Sup.nil).left fs rfl F; all_goals kernel_rfl)
    | f2 q1 q2=>(refine finD ⟨tb,.f2 q1 q2,tab,tdb,((n6 a b_8.1 b_8.2.1 b_8.2.2 P (a 15) (bn v) (N_7+64) (N_7+63) (N_7+62) (P+4) b_5.1++(n6 a b_5.1 b_5.2.1 b_5.2.2 P (a 25) (bn u) (N_4+49) (N_4+48) (N_4+47) (P+1) t.addr))++tokO b_9.1 b_9.2 (kindOf ss) ((P+6)+off ss))++allb⟩ ((n6 a b_8.1 b_8.2.1 b_8.2.2 P (a 15) (bn v) (N_7+64) (N_7+63) (N_7+62) (P+4) b_5.1++(n6 a b_5.1 b_5.2.1 b_5.2.2 P (a 25) (bn u) (N_4+49) (N_4+48) (N_4+47) (P+1) t.addr))++tokO b_9.1 b_9.2 (kindOf ss) ((P+6)+off ss)) allb [66,67,68,64,63,62,51,52,53,49,48,47,73,74] rfl ?_ rfl ?_ ?_ ?_ (su [] Sup.nil).left fs rfl F; all_goals kernel_rfl)
noncomputable def o_sel_end_0_1:List Nat:=[0,1,8,0,0,0,0,8,0,0,0,8,8,0,2,6,0,0,0,0,6,0,0,0,6,6,0,7,0,1,1,1,8,0,0,0,0,8,0,0,0,8,8,0,2,6,0,0,0,0,6,0,0,0,6,6,0,7,0,19,19]
noncomputable def o_sel_end_0_2:List Nat:=[1,8,0,0,0,8,0,0,0,8,0,0,0,0,8,2,0,1,0,20,20,20,20,20,8,0,0,0,0,8,0,0,0,8,8,0,2,6,0,0,0,0,6,0,0,0,6,6,0,7,0,20,0,1,8,0,0,0,8,0,0,0,8,0,0,0,0,8,2,0,1,0,21,21,21,21,21,8,0,0,0,0,8,0,0,0,8,8,0,2,6,0,0,0,0,6,0,0,0,6,6,0,7,0,21,0,1,8,0,0,0,8,0,0,0,8,0,0,0,0,8,2,0,1,0,22,22,22,22,22,8,0,0,0,0,8,0,0,0,8,8,0,2,6,0,0,0,0,6,0,0,0,6,6,0,7,0,22,0,1,8,0,0,0,8,0,0,0,8,0,0,0,0,8,2,0,1,0,23,23,23,23,23,8,0,0,0,0,8,0,0,0,8,8,0,2,6,0,0,0,0,6,0,0,0,6,6,0,7,0,23,0,1]
noncomputable def o_sel_fun_1:List Nat:=[1,0,3,3,3,3,3,3]
noncomputable def o_sel_fun_2:List Nat:=[]
theorem sel_end_0 {w:World} {b1 b2 b3:Bool} (hP:Rows w b1 b2 b3) (a:Nat->Nat) (S:Str) (L:Nat) (kp:Nat) (P ta td:Nat) (t:NT):SelC w a S L .f0 kp [] P ta td t:=by
  refine ct_start (tx:=tx0) (pre:=[(L,selFr a .f0 t.addr),(a 5,rdD a kp ta),(a 1,scD S (a 2) (a 3) (P+adv []))]) (ro:=(w_sc a++tokO ta td (kindOf []) (P+off [])++w_rd a)) (sup:=w_ty a++t.flat a) hP tx0_ok (by decide) fun A' s R zs ta' N C U D' hR=>?_;refine sg C 4000 o_sel_end_0_1 ?_;intro _;have K_1:=sN s R C trId [((N+18),tupO (strsL [(⟨⟨[46]⟩⟩:Str),(⟨⟨[91]⟩⟩:Str),(⟨⟨[94]⟩⟩:Str)]))] (ct_tupin [(⟨⟨[46]⟩⟩:Str),(⟨⟨[91]⟩⟩:Str),(⟨⟨[94]⟩⟩:Str)] (⟨⟨[58,61]⟩⟩:Str) (N+18)) [] [18];refine K_1 ?_;intro _ _ _ _ _ _ _ _ C_1 tr_1 _ _ _ _;refine sg C_1 4000 o_sel_end_0_2 ?_;intro _;exact finishC tr_1 D' hR ⟨t,(.f1 (P+1)),ta,td,[]⟩ [] [] [] (by kernel_rfl) (by kernel_rfl) rfl (by kernel_rfl) rfl rfl Sup.nil (fun _ h=>nomatch h) rfl ⟨rfl,[],[],List.Perm.refl _,rfl,rfl,rfl⟩
theorem sel_end_1 {w:World} {b1 b2 b3:Bool} (hP:Rows w b1 b2 b3) (a:Nat->Nat) (S:Str) (L:Nat) (p0:Nat) (kp:Nat) (P ta td:Nat) (t:NT):SelC w a S L (.f1 p0) kp [] P ta td t:=by
  refine ct_start (tx:=tx0) (pre:=[(L,selFr a (.f1 p0) t.addr),(a 5,rdD a kp ta),(a 1,scD S (a 2) (a 3) (P+adv []))]) (ro:=(w_sc a++tokO ta td (kindOf []) (P+off [])++w_rd a)) (sup:=w_ty a++t.flat a) hP tx0_ok (by decide) fun A' s R zs ta' N C U D' hR=>?_;refine sg C 4000 o_sel_end_0_1 ?_;intro _;have K_1:=sN s R C trId [((N+18),tupO (strsL [(⟨⟨[46]⟩⟩:Str),(⟨⟨[91]⟩⟩:Str),(⟨⟨[94]⟩⟩:Str)]))] (ct_tupin [(⟨⟨[46]⟩⟩:Str),(⟨⟨[91]⟩⟩:Str),(⟨⟨[94]⟩⟩:Str)] (⟨⟨[58,61]⟩⟩:Str) (N+18)) [] [18];refine K_1 ?_;intro _ _ _ _ _ _ _ _ C_1 tr_1 _ _ _ _;refine sg C_1 4000 o_sel_end_0_2 ?_;intro _;exact finishC tr_1 D' hR ⟨t,(.f1 (P+1)),ta,td,[]⟩ [] [] [] (by kernel_rfl) (by kernel_rfl) rfl (by kernel_rfl) rfl rfl Sup.nil (fun _ h=>nomatch h) rfl ⟨rfl,[],[],List.Perm.refl _,rfl,rfl,rfl⟩
theorem sel_end_2 {w:World} {b1 b2 b3:Bool} (hP:Rows w b1 b2 b3) (a:Nat->Nat) (S:Str) (L:Nat) (p0 nm0:Nat) (kp:Nat) (P ta td:Nat) (t:NT):SelC w a S L (.f2 p0 nm0) kp [] P ta td t:=by
  refine ct_start (tx:=tx0) (pre:=[(L,selFr a (.f2 p0 nm0) t.addr),(a 5,rdD a kp ta),(a 1,scD S (a 2) (a 3) (P+adv []))]) (ro:=(w_sc a++tokO ta td (kindOf []) (P+off [])++w_rd a)) (sup:=w_ty a++t.flat a) hP tx0_ok (by decide) fun A' s R zs ta' N C U D' hR=>?_;refine sg C 4000 o_sel_end_0_1 ?_;intro _;have K_1:=sN s R C trId [((N+18),tupO (strsL [(⟨⟨[46]⟩⟩:Str),(⟨⟨[91]⟩⟩:Str),(⟨⟨[94]⟩⟩:Str)]))] (ct_tupin [(⟨⟨[46]⟩⟩:Str),(⟨⟨[91]⟩⟩:Str),(⟨⟨[94]⟩⟩:Str)] (⟨⟨[58,61]⟩⟩:Str) (N+18)) [] [18];refine K_1 ?_;intro _ _ _ _ _ _ _ _ C_1 tr_1 _ _ _ _;refine sg C_1 4000 o_sel_end_0_2 ?_;intro _;exact finishC tr_1 D' hR ⟨t,(.f2 (P+1) nm0),ta,td,[]⟩ [] [] [] (by kernel_rfl) (by kernel_rfl) rfl (by kernel_rfl) rfl rfl Sup.nil (fun _ h=>nomatch h) rfl ⟨rfl,[],[],List.Perm.refl _,rfl,rfl,rfl⟩
noncomputable def SelF (w:World) (a:Nat->Nat) (S:Str) (k:Nat) (ss:List Sl) (P ta td:Nat) (t:NT):Prop:=
  Ct w 420 420 (.call (.ref 134) ⟨[.ref (a 4),.ref t.addr,.ref 648],[]⟩) [(a 5,rdD a k ta),(a 1,scD S (a 2) (a 3) (P+adv ss))]
    ((w_sc a++tokO ta td (kindOf ss) (P+off ss)++w_rd a)++(w_ty a++t.flat a))
    (fun b:SB=>⟨.ret (.ref b.t.addr),[rdD a (kk ss k) b.ta,scD S (a 2) (a 3) (endP ss P+3)],[],b.all⟩)
    (fun b=>b.t.sh=grow t.sh ss P∧∃ ns junk,(b.t.flat a).Perm (ns++t.flat a)∧TokFin ss P ta td b.ta b.td b.all ns junk)
theorem sel_all {w:World} {b1 b2 b3:Bool} (hP:Rows w b1 b2 b3) (a:Nat->Nat) (S:Str) (L:Nat):∀ (ss:List Sl) (fr:Fr) (k P ta td:Nat) (t:NT),fits t.ty ss=true->At S P (txts ss++tailT)->k+ss.length<=7->SelC w a S L fr k ss P ta td t
  | [],fr,k,P,ta,td,t,hf,hA,hk=>by
    cases fr with
    | f0=>exact sel_end_0 hP a S L k P ta td t
    | f1 p=>exact sel_end_1 hP a S L p k P ta td t
    | f2 p nm=>exact sel_end_2 hP a S L p nm k P ta td t
  | s::ss,fr,k,P,ta,td,t,hf,hA,hk=>by
    rw [List.length_cons] at hk;have hk':k < 7:=by omega
    have step:∀ t':NT,t'.sh=growS t.sh s P->stepTy t.ty s=some t'.ty->fits t'.ty ss=true:=fun t' _ e=>by
      have h:=hf
      unfold fits at h
      rw [e] at h;exact h
    have ih:∀ (k1 P1:Nat),k1+ss.length<=7->P1=P+s.txt.length->∀ fr ta td (t':NT),t'.sh=growS t.sh s P->stepTy t.ty s=some t'.ty->SelC w a S L fr k1 ss P1 ta td t':=fun k1 P1 h1 h2 fr ta td t' h3 h4=>sel_all hP a S L ss fr k1 P1 ta td t' (step t' h3 h4) (by rw [h2]; exact At.drop (x:=s.txt) (by rw [<- List.append_assoc]; exact hA)) h1;have hA':At S P (s.txt++(txts ss++tailT)):=by rw [<- List.append_assoc]; exact hA
    have drop:∀ (x y:List Nat) (q:Nat),s.txt=x++y->q=P+x.length->At S q (y++(txts ss++tailT)):=fun x y q h1 h2=>by
      rw [h2];refine At.drop (x:=x) ?_;rw [<- List.append_assoc,<- h1];exact hA'
    have tyOf:∀ (t':NT) (u:Ty),t'.sh=growS t.sh s P->stepTy t.ty s=some u->(∀ x:Sh,x.ty=t.ty->(growS x s P).ty=u)->stepTy t.ty s=some t'.ty:=fun t' u h1 h2 h3=>by
      rw [h2,<- NT.sh_ty,h1,h3 _ (NT.sh_ty t)]
    cases ht:t.ty with
    | it=>rw [ht] at hf; cases s <;> cases hf
    | rc =>
      rw [ht] at hf;cases s with
      | f x =>
        have T1:=id_take hP a S (q:=P+1) x (ss:=ss) hf (drop [46] [x.ch] _ rfl rfl);have T2:=next_take0 hP a S (ss:=ss) (P:=P+2) (drop [46,x.ch] [] _ rfl rfl);have I:=fun fr ta td (t':NT) h=>ih (k+1) (P+2) (by omega) rfl fr ta td t' h (tyOf t' x.ty h (by rw [ht]; rfl) fun y hy=>by rw [ht] at hy; unfold growS; rw [hy]; rfl)
        cases fr with
        | f0=>exact sel_f_rc_0 hP a S L k hk' x ss P ta td t ht T1 T2 I
        | f1 p=>exact sel_f_rc_1 hP a S L p k hk' x ss P ta td t ht T1 T2 I
        | f2 p nm=>exact sel_f_rc_2 hP a S L p nm k hk' x ss P ta td t ht T1 T2 I
      | _=>cases hf
    | pt =>
      rw [ht] at hf;cases s with
      | f x =>
        have T1:=id_take hP a S (q:=P+1) x (ss:=ss) hf (drop [46] [x.ch] _ rfl rfl);have T2:=next_take0 hP a S (ss:=ss) (P:=P+2) (drop [46,x.ch] [] _ rfl rfl);have I:=fun fr ta td (t':NT) h=>ih (k+1) (P+2) (by omega) rfl fr ta td t' h (tyOf t' x.ty h (by rw [ht]; rfl) fun y hy=>by rw [ht] at hy; unfold growS; rw [hy]; rfl)
        cases fr with
        | f0=>exact sel_f_pt_0 hP a S L k hk' x ss P ta td t ht T1 T2 I
        | f1 p=>exact sel_f_pt_1 hP a S L p k hk' x ss P ta td t ht T1 T2 I
        | f2 p nm=>exact sel_f_pt_2 hP a S L p nm k hk' x ss P ta td t ht T1 T2 I
      | h =>
        have T1:=next_take1 hP a S (ss:=ss) (p:=P+1) hf (drop [94] [32] _ rfl rfl);have I:=fun fr ta td (t':NT) h=>ih (k+1) (P+2) (by omega) rfl fr ta td t' h (tyOf t' .rc h (by rw [ht]; rfl) fun y hy=>rfl);cases fr with
        | f0=>exact sel_h_0 hP a S L k hk' ss P ta td t ht T1 I
        | f1 p=>exact sel_h_1 hP a S L p k hk' ss P ta td t ht T1 I
        | f2 p nm=>exact sel_h_2 hP a S L p nm k hk' ss P ta td t ht T1 I
      | g =>
        obtain ⟨c,r,e⟩:=rest_cons ss;have T1:=idP_take hP a S (q:=P+1) (c:=c) (r:=r) (by rw [<- e]; exact drop [40] [80,41] _ rfl rfl);have T2:=rp_take hP a S (q:=P+2) (ss:=ss) hf (drop [40,80] [41] _ rfl rfl);have T3:=next_take0 hP a S (ss:=ss) (P:=P+3) (drop [40,80,41] [] _ rfl rfl);have I:=fun fr ta td (t':NT) h=>ih k (P+3) (by omega) rfl fr ta td t' h (tyOf t' .pt h (by rw [ht]; rfl) fun y hy=>rfl);cases fr with
        | f0=>exact sel_g_0 hP a S L k hk' ss P ta td t ht T1 T2 T3 I
        | f1 p=>exact sel_g_1 hP a S L p k hk' ss P ta td t ht T1 T2 T3 I
        | f2 p nm=>exact sel_g_2 hP a S L p nm k hk' ss P ta td t ht T1 T2 T3 I
      | _=>cases hf
    | th =>
      rw [ht] at hf;cases s with
      | i v =>
        obtain ⟨c,r,e⟩:=rest_cons ss;have T1:=numr_take hP a S (q:=P+1) v (r:=c::r) (by rw [<- e]; exact drop [91] [dig v,93] _ rfl rfl) rfl;have T2:=rb_take hP a S (q:=P+2) (ss:=ss) (T:=.pa) (.inl rfl) hf (drop [91,dig v] [93] _ rfl rfl);have T3:=next_take0 hP a S (ss:=ss) (P:=P+3) (drop [91,dig v,93] [] _ rfl rfl);have I:=fun fr ta td (t':NT) h=>ih (k+1) (P+3) (by omega) rfl fr ta td t' h (tyOf t' .pa h (by rw [ht]; rfl) fun y hy=>by rw [ht] at hy; unfold growS; rw [hy]; rfl)
        cases fr with
        | f0=>exact sel_i_th_0 hP a S L k hk' v ss P ta td t ht T1 T2 T3 I
        | f1 p=>exact sel_i_th_1 hP a S L p k hk' v ss P ta td t ht T1 T2 T3 I
        | f2 p nm=>exact sel_i_th_2 hP a S L p nm k hk' v ss P ta td t ht T1 T2 T3 I
      | ij u v =>
        obtain ⟨c,r,e⟩:=rest_cons ss;have T1:=numc_take hP a S (q:=P+1) u (r:=dig v::93::(txts ss++tailT)) (drop [91] [dig u,44,32,dig v,93] _ rfl rfl);have T2:=cm_take hP a S (q:=P+2) (c:=dig v) (r:=93::(txts ss++tailT)) (drop [91,dig u] [44,32,dig v,93] _ rfl rfl);have T3:=snum_take hP a S (q:=P+3) v (r:=c::r) (by rw [<- e]; exact drop [91,dig u,44] [32,dig v,93] _ rfl rfl) rfl;have T4:=rb_take hP a S (q:=P+5) (ss:=ss) (T:=.it) (.inr rfl) hf (drop [91,dig u,44,32,dig v] [93] _ rfl rfl);have T5:=next_take0 hP a S (ss:=ss) (P:=P+6) (drop [91,dig u,44,32,dig v,93] [] _ rfl rfl);have I:=fun fr ta td (t':NT) h=>ih (k+1) (P+6) (by omega) rfl fr ta td t' h (tyOf t' .it h (by rw [ht]; rfl) fun y hy=>rfl);cases fr with
        | f0=>exact sel_ij_0 hP a S L k hk' u v ss P ta td t ht T1 T2 T3 T4 T5 I
        | f1 p=>exact sel_ij_1 hP a S L p k hk' u v ss P ta td t ht T1 T2 T3 T4 T5 I
        | f2 p nm=>exact sel_ij_2 hP a S L p nm k hk' u v ss P ta td t ht T1 T2 T3 T4 T5 I
      | _=>cases hf
    | pa =>
      rw [ht] at hf;cases s with
      | i v =>
        obtain ⟨c,r,e⟩:=rest_cons ss;have T1:=numr_take hP a S (q:=P+1) v (r:=c::r) (by rw [<- e]; exact drop [91] [dig v,93] _ rfl rfl) rfl;have T2:=rb_take hP a S (q:=P+2) (ss:=ss) (T:=.it) (.inr rfl) hf (drop [91,dig v] [93] _ rfl rfl);have T3:=next_take0 hP a S (ss:=ss) (P:=P+3) (drop [91,dig v,93] [] _ rfl rfl);have I:=fun fr ta td (t':NT) h=>ih (k+1) (P+3) (by omega) rfl fr ta td t' h (tyOf t' .it h (by rw [ht]; rfl) fun y hy=>by rw [ht] at hy; unfold growS; rw [hy]; rfl)
        cases fr with
        | f0=>exact sel_i_pa_0 hP a S L k hk' v ss P ta td t ht T1 T2 T3 I
        | f1 p=>exact sel_i_pa_1 hP a S L p k hk' v ss P ta td t ht T1 T2 T3 I
        | f2 p nm=>exact sel_i_pa_2 hP a S L p nm k hk' v ss P ta td t ht T1 T2 T3 I
      | _=>cases hf
theorem sel_fun {w:World} {b1 b2 b3:Bool} (hP:Rows w b1 b2 b3) (a:Nat->Nat) (S:Str) (ss:List Sl) (k P ta td:Nat) (t:NT) (hf:fits t.ty ss=true) (hA:At S P (txts ss++tailT)) (hk:k+ss.length<=7):SelF w a S k ss P ta td t:=by
  refine ct_start (tx:=tx0) (pre:=[(a 5,rdD a k ta),(a 1,scD S (a 2) (a 3) (P+adv ss))]) (ro:=[]) (sup:=((w_sc a++tokO ta td (kindOf ss) (P+off ss)++w_rd a)++(w_ty a++t.flat a))) hP tx0_ok (by decide) fun A' s R zs ta' N C U D' hR=>?_;refine sg C 4000 o_sel_fun_1 ?_;intro _;have K_1:=sK s R C trId [] ((w_sc a++tokO ta td (kindOf ss) (P+off ss)++w_rd a)++(w_ty a++t.flat a)) (sel_all hP a S (N+2) ss .f0 k P ta td t hf hA hk) [2,0,1] [] U;refine K_1 ?_;intro b_1 _ _ _ _ _ _ _ C_1 tr_1 su_1 fs_1 pd_1 _;refine sg C_1 4000 o_sel_fun_2 ?_;intro _;exact finishC tr_1 D' hR b_1 [] b_1.all [] (by kernel_rfl) (by kernel_rfl) rfl (by kernel_rfl) rfl rfl (su_1 [] Sup.nil).left fs_1 rfl pd_1
section
variable {w:World}
noncomputable def ValC (w:World) (cd:Code) (ext:List (Nat×Obj)) (v:Value):Prop:=Ct w 0 100 cd [] ext (β:=Unit) (fun _=>⟨.ret v,[],[],[]⟩) (fun _=>True)
theorem ret_val {s:Shared} {R:Result->Shared->Prop} {u:Value} {v:Value} {tk:Nat} (hR:Ret s [] (fun _:Unit=>(⟨.ret v,[],[],[]⟩:Pst)) (fun _=>True) R) (e:er u=v):R (.ok (.ret u)) { s with toks:=tk }:=
  hR () (.ret u) _ (congrArg Flow.ret e) ⟨rfl,rfl,rfl,Nat.le_refl _,fun _ _ h _=>h⟩ trivial rfl trivial List.nodup_nil (fun _ h=>nomatch h) trivial
theorem ret_val' {s:Shared} {R:Result->Shared->Prop} {u:Value} {v:Value} (hR:Ret s [] (fun _:Unit=>(⟨.ret v,[],[],[]⟩:Pst)) (fun _=>True) R) (e:er u=v):R (.ok (.ret u)) s:=
  hR () (.ret u) _ (congrArg Flow.ret e) ⟨rfl,rfl,rfl,Nat.le_refl _,fun _ _ h _=>h⟩ trivial rfl trivial List.nodup_nil (fun _ h=>nomatch h) trivial
theorem ct_mod (a b:Int) (hb:b ≠ 0):ValC w (.call (.builtin "int.__mod__") ⟨[.int a 0,.int b 0],[]⟩) [] (.int (a.fmod b) 0):=by
  intro A s R c _ hc _ _ hR;obtain ⟨f,e⟩:=un_code c;rw [hc] at e; subst e;show codeAny (model pz w) A (.call (.builtin "int.__mod__") ⟨[.int a (f 0),.int b (f 1)],[]⟩) R s;refine codeAny_call_builtin F.slot_int_mod.plain F.entry_int_mod (F.slot_int_mod.check _ _ _ _ _ _ _ _ (typeIs_int s a _) (F.args_int_mod_2 _ _) ?_);exact AutoIntG6.int___mod___int_int_1 a _ b _ (by simpa using hb) pz w A R s (ret_val hR rfl)
theorem ct_fdiv (a b:Int) (hb:b ≠ 0) (hp:¬ (Builtin.divisionGoesByPylong a b)=true):ValC w (.call (.builtin "int.__floordiv__") ⟨[.int a 0,.int b 0],[]⟩) [] (.int (a.fdiv b) 0):=by
  intro A s R c _ hc _ _ hR;obtain ⟨f,e⟩:=un_code c;rw [hc] at e; subst e;show codeAny (model pz w) A (.call (.builtin "int.__floordiv__") ⟨[.int a (f 0),.int b (f 1)],[]⟩) R s;refine codeAny_call_builtin F.slot_int_floordiv.plain F.entry_int_floordiv (F.slot_int_floordiv.check _ _ _ _ _ _ _ _ (typeIs_int s a _) (F.args_int_floordiv_2 _ _) ?_);exact AutoIntG4.int___floordiv___int_int_1 a _ b _ (by simpa using hb) hp pz w A R s (ret_val hR rfl)
theorem ct_pow7 (b:Nat) (hb:b < 100):ValC w (.call (.builtin "int.__pow__") ⟨[.int 7 0,.int (b:Int) 0],[]⟩) [] (.int (7 ^ b) 0):=by
  intro A s R c _ hc _ _ hR;obtain ⟨f,e⟩:=un_code c;rw [hc] at e; subst e;show codeAny (model pz w) A (.call (.builtin "int.__pow__") ⟨[.int 7 (f 0),.int (b:Int) (f 1)],[]⟩) R s;refine codeAny_call_builtin F.slot_int_pow.plain F.entry_int_pow (F.slot_int_pow.check _ _ _ _ _ _ _ _ (typeIs_int s 7 _) (F.args_int_pow_2 _ _) ?_)
  by_cases h0:b=0
  · subst h0;exact AutoIntG9.int___pow___int_int_0 7 _ 0 _ (by omega) rfl pz w A R s (ret_val hR rfl)
  · refine AutoIntG2.int___pow___int_int_4 7 _ b _ (by omega) (by simpa using h0) (by decide) (by decide) ?_ pz w A R s ?_
    · have:((Builtin.Int.intBits 7:Nat):Int)=3:=by decide +kernel
      rw [this]
      unfold Builtin.Int.intTooBig
      rw [decide_eq_true_eq];have h2:(300:Int)<=PySem.bitsLine:=by decide +kernel
      omega
    · exact ret_val hR rfl
theorem ct_abs (a:Int):ValC w (.call (.builtin "abs") ⟨[.int a 0],[]⟩) [] (.int (a.natAbs:Int) 0):=by
  intro A s R c _ hc _ _ hR;obtain ⟨f,e⟩:=un_code c;rw [hc] at e; subst e;show codeAny (model pz w) A (.call (.builtin "abs") ⟨[.int a (f 0)],[]⟩) R s;refine code_function kind_abs plain_abs entry_abs (args_abs _) ?_
  unfold Builtin.«abs»
  refine wpAny_bind (m:=oneArg "abs" _) (wpAny_pure ?_);refine wpAny_bind (m:=callSpecial? (.int a (f 0)) (Str.ofString "__abs__")) (wpAny_callSpecial?_slot (name:=Str.ofString "__abs__") (typeIs_int s a _) slot_int_abs
    (wpAny_call_entry slot_int_abs (typeIs_int s a _) entry_int_abs ?_ (args_int_abs _)))
  show wpAny _ _ (if a < 0 then _ else _) _ _ s
  by_cases hneg:a < 0
  · rw [if_pos hneg];refine wpAny_ret_mkInt (wpAny_pure ?_);exact ret_val hR (by show Value.int (-a) 0=_; congr 1; omega)
  · rw [if_neg hneg];refine wpAny_pure ⟨_,rfl,wpAny_pure ?_⟩;exact ret_val' hR (by show Value.int a 0=_; congr 1; omega)
theorem ct_stradd (x y:Str) (hl:(x++y).length<=sizeLine):ValC w (.call (.builtin "str.__add__") ⟨[.str x 0,.str y 0],[]⟩) [] (.str (x++y) 0):=by
  intro A s R c _ hc _ _ hR;obtain ⟨f,e⟩:=un_code c;rw [hc] at e; subst e;show codeAny (model pz w) A (.call (.builtin "str.__add__") ⟨[.str x (f 0),.str y (f 1)],[]⟩) R s;refine codeAny_call_builtin F.slot_str_add.plain F.entry_str_add (F.slot_str_add.check _ _ _ _ _ _ _ _ (typeIs_str s x _) (F.args_str_add_2 _ _) ?_);refine gives_str_add x y _ _ pz w A R s ?_;have ext:∀ a b:Str,a.cps.toList=b.cps.toList->a=b:=fun a b h=>by cases a; cases b; exact congrArg Str.mk (Array.toList_inj.mp h)
  split
  · rename_i h0
    refine ret_val' hR ?_;have e:x.cps.toList=[]:=by
      have:x.length=0:=by simpa using h0
      exact List.eq_nil_of_length_eq_zero (by rw [Array.length_toList]; exact this)
    show Value.str y 0=_
    congr 1
    exact ext _ _ (by show _=(x.cps++y.cps).toList; rw [Array.toList_append,e]; rfl)
  · split
    · rename_i h0
      refine ret_val' hR ?_;have e:y.cps.toList=[]:=by
        have:y.length=0:=by simpa using h0
        exact List.eq_nil_of_length_eq_zero (by rw [Array.length_toList]; exact this)
      show Value.str x 0=_
      congr 1
      exact ext _ _ (by show _=(x.cps++y.cps).toList; rw [Array.toList_append,e,List.append_nil])
    · exact ⟨hl,ret_val hR rfl⟩
theorem ct_strlen (x:Str) (hl:x.length<=sizeLine):ValC w (.call (.builtin "len") ⟨[.str x 0],[]⟩) [] (.int (Int.ofNat x.length) 0):=by
  intro A s R c _ hc _ _ hR;obtain ⟨f,e⟩:=un_code c;rw [hc] at e; subst e;exact len_sound hl (ret_val hR rfl)
noncomputable def intsV:List Int->List Value
  | []=>[]
  | i::l=>.int i 0::intsV l
noncomputable def rowO (l:List Int):Obj:=listO (intsV l)
theorem er_ints:∀ l,erL (intsV l)=intsV l
  | []=>rfl
  | i::l=>congrArg (Value.int i 0::·) (er_ints l)
theorem er_row (l:List Int):erO (rowO l)=rowO l:=by
  show Obj.mk _ _ (Data.seq ⟨erL (intsV l)⟩ 0) _=_;rw [er_ints]; rfl
theorem look_row {T:LT} {l:List Int} {row j:Nat} (z:Nz) (h:T.get j=some (row,unO z (rowO l))):lookA T [j]=someA [(row,rowO l)]:=by
  unfold lookA
  rw [h];show [some (row,erO (unO z (rowO l)))]=_;rw [erO_un,er_row]; rfl
theorem ints_get (f:Nat->Tok):∀ (l:List Int) (i k:Nat) (x:Int),l[k]? = some x->(unL f i (intsV l))[k]? = some (.int x (f (i+k)))
  | [],_,_,_,h=>by simp at h
  | y::l,i,0,x,h=>by
    have:y=x:=by simpa using h
    subst this; rfl
  | y::l,i,k+1,x,h=>by
    have:=ints_get f l (Nat.succ i) k x (by simpa using h);show (unL f (Nat.succ i) (intsV l))[k]? = _;rw [this]
    congr 3
    omega
theorem ints_len (f:Nat->Tok):∀ (l:List Int) (i:Nat),(unL f i (intsV l)).length=l.length
  | [],_=>rfl
  | y::l,i=>congrArg Nat.succ (ints_len f l (Nat.succ i))
theorem has_row {h:Heap} {ad:Nat} {l:List Int} (x:Has h ad (rowO l)):∃ items,h.IsList ad items∧items.size=l.length∧∃ f,items=(unL f 0 (intsV l)).toArray:=by
  obtain ⟨_,o,ho,e⟩:=x;obtain ⟨z,rfl⟩:=un_nz _ _ e;exact ⟨_,⟨_,ho,rfl,_,rfl⟩,ints_len z.v l 0,z.v,rfl⟩
theorem ct_rowlen (l:List Int) (ad:Nat) (hl:l.length < 1000):ValC w (.call (.builtin "len") ⟨[.ref ad],[]⟩) [(ad,rowO l)] (.int (Int.ofNat l.length) 0):=by
  intro A s R c _ hc hp _ hR;obtain ⟨f,e⟩:=un_code c;rw [hc] at e; subst e;obtain ⟨items,hi,hs,_⟩:=has_row hp.1;show codeAny (model pz w) A (.call (.builtin "len") ⟨[.ref ad],[]⟩) R s;obtain ⟨o,ho,hcl,n,hd⟩:=id hi;refine code_function kind_len plain_len entry_len (args_len1 _) ?_
  unfold Builtin.«len»
  refine wpAny_bind (m:=oneArg "len" _) (wpAny_pure ?_);refine wpAny_bind (m:=callSpecial? (.ref ad) (Str.ofString "__len__")) (wpAny_callSpecial?_slot (name:=Str.ofString "__len__") hi.typeIs slot_list_len
    (wpAny_call_entry slot_list_len hi.typeIs entry_list_len ?_ (args_list_len _)))
  show wpAny _ _ (do retInt (<- seqSize ad)) _ _ s
  unfold seqSize
  refine wpAny_bind (wpAny_bind (wpAny_load ho ?_));rw [hd];refine wpAny_pure (wpAny_bind (wpAny_mkInt (wpAny_pure ⟨_,rfl,?_⟩)));refine wpAny_bind (wpAny_holding (wpAny_pure ?_));refine wpAny_bind (wpAny_letGo ?_);show wpAny _ _ (if ((items.size:Nat):Int) < 0 then _ else _) _ _ _;rw [if_neg (by omega)];show wpAny _ _ (if ((items.size:Nat):Int) ≥ 2 ^ 63 then _ else _) _ _ _;rw [if_neg (by omega)];exact wpAny_bind (wpAny_mkInt (wpAny_pure (ret_val (s:=s) (tk:=s.toks+1+1) hR (by rw [hs]; rfl))))
theorem ct_rowitem (l:List Int) (ad:Nat) (k:Nat) (x:Int) (hk:k < 1000) (hx:l[k]? = some x):ValC w (.call (.builtin "list.__getitem__") ⟨[.ref ad,.int (Int.ofNat k) 0],[]⟩) [(ad,rowO l)] (.int x 0):=by
  intro A s R c _ hc hp _ hR;obtain ⟨f,e⟩:=un_code c;rw [hc] at e; subst e;obtain ⟨items,hi,hs,g,hg⟩:=has_row hp.1;show codeAny (model pz w) A (.call (.builtin "list.__getitem__") ⟨[.ref ad,.int (Int.ofNat k) (f 1)],[]⟩) R s;have hfit:Builtin.List.listFitsIndex (Int.ofNat k)=true:=fitsIndex_of (Int.natCast_nonneg k) (Int.lt_trans (show (k:Int) < 1000 by omega) (by decide +kernel));obtain ⟨i,hi2⟩:∃ i:Int,i=Int.ofNat k:=⟨_,rfl⟩;rw [<- hi2] at hfit ⊢;obtain ⟨o,ho,hcl,n,hd⟩:=id hi;refine codeAny_call_builtin slot_list_getitem.plain entry_list_getitem (slot_list_getitem.check _ _ _ _ _ _ _ _ hi.typeIs (args_list_getitem _ _) ?_);show wpAny _ _ (Builtin.List.listSubscript? (.int i (f 1)) >>= _) _ _ s;refine wpAny_bind (wpAny_listSubscript_int hfit ?_);clear hfit;subst hi2;have hx':items[k]? = some (.int x (g (0+k))):=by
    rw [hg,List.getElem?_toArray];exact ints_get g l 0 k x hx
  show wpAny _ _ ((seqItemAt ad k >>= fun r=>pure (r.map (k,·))) >>= _) _ _ s;refine wpAny_bind (wpAny_bind (wpAny_seqItemAt ho hd (wpAny_pure ?_)));rw [hx']
  first
    | exact wpAny_bind (wpAny_pure (wpAny_pure (ret_val' hR rfl)))
    | exact wpAny_pure (ret_val' hR rfl)
    | exact wpAny_pure ⟨_,rfl,ret_val' hR rfl⟩
theorem ct_roweq (l:List Int) (ad e:Nat):ValC w (.call (.builtin "list.__eq__") ⟨[.ref ad,.ref e],[]⟩) [(ad,rowO l),(e,listO [])] (.bool (l.isEmpty)):=by
  intro A s R c _ hc hp _ hR;obtain ⟨f,q⟩:=un_code c;rw [hc] at q; subst q;obtain ⟨_,o1,ho1,q1⟩:=hp.1;obtain ⟨_,o2,ho2,q2⟩:=hp.2.1;obtain ⟨z1,rfl⟩:=un_nz _ _ q1;obtain ⟨z2,rfl⟩:=un_nz _ _ q2;show codeAny (model pz w) A (.call (.builtin "list.__eq__") ⟨[.ref ad,.ref e],[]⟩) R s;refine codeAny_call_builtin F.slot_list_eq.plain F.entry_list_eq (F.slot_list_eq.check _ _ _ _ _ _ _ _ ⟨_,ho1,rfl⟩ (F.args_list_eq_2 _ _) ?_);cases l with
  | nil=>exact SeqAt.list_eqAt ad e #[] #[] _ _ none none #[] #[] rfl (fun _=>true) pz w A R s ⟨ho1,ho2,(fun j h=>nomatch h),ret_val' hR rfl⟩
  | cons i l =>
    refine SeqAt.list_eq_lengthsAt ad e ⟨unL z1.v 0 (intsV (i::l))⟩ #[] _ _ none none #[] #[] ?_ pz w A R s ⟨ho1,ho2,ret_val' hR rfl⟩;have:=ints_len z1.v (i::l) 0;show ((unL z1.v 0 (intsV (i::l))).length != 0)=true;rw [this]; rfl
noncomputable def sliceO (k:Int):Obj:=⟨.type "slice",none,.fields ⟨[.none,.int k 0,.none]⟩,#[]⟩
end
theorem ints_are (f:Nat->Tok):∀ (l:List Int) (i:Nat),IntsAre (unL f i (intsV l)) l
  | [],_=>.nil
  | x::l,i=>.cons x (f i) (ints_are f l (Nat.succ i))
theorem are_ints {vs:List Value} {ns:List Int} (h:IntsAre vs ns):erL vs=intsV ns:=by
  induction h with
  | nil=>rfl
  | cons i t _ ih=>show er (.int i t)::erL _=_; rw [ih]; rfl
section
variable {w:World}
theorem ct_slice40 (l:List Int) (sc sl:Nat) (hl:l.length < 1000):Ct w 0 100 (.call (.builtin "list.__getitem__") ⟨[.ref sc,.ref sl],[]⟩) [] [(sc,rowO l),(sl,sliceO 40)] (β:=Nat) (fun b=>⟨.ret (.ref b),[],[(b,rowO (l.take 40))],[]⟩) (fun _=>True):=by
  intro A s R c hb hc hp _ hR;obtain ⟨f,e⟩:=un_code c;rw [hc] at e; subst e;obtain ⟨items,hi,hsz,g,hg⟩:=has_row hp.1;obtain ⟨_,o2,ho2,q2⟩:=hp.2.1;obtain ⟨z2,rfl⟩:=un_nz _ _ q2;show codeAny (model pz w) A (.call (.builtin "list.__getitem__") ⟨[.ref sc,.ref sl],[]⟩) R s;obtain ⟨o,ho,hcl,ne,hd⟩:=id hi;have hos:s.heap.get? sl=some (unO z2 (sliceO 40)):=ho2;have hcs:(unO z2 (sliceO 40)).cls = .type "slice":=rfl;have hds:(unO z2 (sliceO 40)).data = .fields #[.none,.int 40 (z2.v 1),.none]:=rfl;have hTs:s.TypeIs (.ref sl) "slice":=⟨_,hos,hcs⟩;refine codeAny_call_builtin slot_list_getitem.plain entry_list_getitem (slot_list_getitem.check _ _ _ _ _ _ _ _ hi.typeIs (args_list_getitem _ _) ?_);show wpAny _ _ (Builtin.List.listSubscript? (.ref sl) >>= _) _ _ s;refine wpAny_bind ?_
  unfold Builtin.List.listSubscript?
  refine wpAny_bind (wpAny_specialOf hTs slice_no_index ?_);simp only [Option.isNone_none,if_true];refine wpAny_pure ?_;show wpAny _ _ (typeOf (.ref sl) >>= _) _ _ s;refine wpAny_bind (wpAny_typeOf hTs ?_);rw [if_neg (by decide)];rw [listSliceParts_eq];refine wpAny_bind (wpAny_bind (wpAny_field hos hds (x:=.none) rfl (wpAny_bind (wpAny_listPart .none ?_))));rw [if_neg (by decide)];refine wpAny_bind (wpAny_field hos hds (x:=.none) rfl (wpAny_bind (wpAny_listPart .none ?_)));refine wpAny_bind (wpAny_field hos hds (x:=.int 40 (z2.v 1)) rfl (wpAny_bind (wpAny_listPart (.int _ _) (wpAny_pure ?_))));refine wpAny_bind (m:=Builtin.List.listItems (.ref sc)) ?_
  unfold Builtin.List.listItems
  refine wpAny_bind (wpAny_seqItems ho hd (wpAny_pure ?_));refine wpAny_bind (wpAny_of_eq (sliceIndices_raw none (some 40) none items.size (by decide)) ?_);refine wpAny_bind (wpAny_newObj_type (wpAny_pure ?_) (Nat.le_trans (slicePick_size_le items none (some 40) none) ?_))
  · have big:661<=s.heap.objs.size:=Heap.lt_size (hb.top 660 _ (kt_660 _));refine hR s.heap.objs.size (.ret (.ref s.heap.objs.size)) { s with heap:=s.heap.push { cls:=.type "list",data:=.seq (slicePick items none (some 40) none) } } rfl ⟨rfl,rfl,rfl,by rw [Heap.size_push]; exact Nat.le_succ _,fun _ _ h _=>Heap.get?_push_of_some _ h⟩ trivial rfl ?_ (List.nodup_cons.mpr ⟨(fun h=>nomatch h),List.nodup_nil⟩) (fun a ha=>?_) trivial
    · refine ⟨⟨big,_,Heap.get?_push_size _ rfl,?_⟩,trivial⟩;have z:=are_ints (slice_ints_uptoW (vs:=unL g 0 (intsV l)) (ns:=l) (y:=40) (ints_are g l 0) (by decide));rw [<- hg] at z;show Obj.mk (.type "list") none (Data.seq ⟨erL _⟩ 0) #[]=rowO (l.take 40);exact congrArg (fun v=>Obj.mk (.type "list") none (Data.seq ⟨v⟩ 0) #[]) z
    · cases ha with
      | head=>exact Nat.le_refl _
      | tail _ h=>exact nomatch h
  · rw [hsz]; exact Nat.le_trans (Nat.le_of_lt hl) (by decide +kernel)
theorem tup_key {h:Heap} {ad:Nat} {x y:Str} (H:Has h ad (tupO [.str x 0,.str y 0])):IsTupleKey (PySem.strKind pz w) h [x,y] ad:=by
  obtain ⟨_,o,ho,q⟩:=H;obtain ⟨z,rfl⟩:=un_nz _ _ q;exact ⟨_,_,_,ho,rfl,rfl,.cons (by simp [PySem.strKind,Value.isStrOf,un]) (.cons (by simp [PySem.strKind,Value.isStrOf,un]) .nil)⟩
noncomputable def knO1 (a v:Nat):Obj:=⟨.type "dict",none,.dict ⟨[⟨0,.ref a,.ref v⟩]⟩ 0,#[]⟩
noncomputable def knO2 (a v a' v':Nat):Obj:=⟨.type "dict",none,.dict ⟨[⟨0,.ref a,.ref v⟩,⟨0,.ref a',.ref v'⟩]⟩ 0,#[]⟩
section
variable {A:Around} {E:Value->Shared->Prop} {s:Shared}
theorem find_none {d a:Nat} {o:Obj} {ep:Nat} {h:Int} {Q:Option Nat->Shared->Prop} (ho:s.heap.get? d=some o) (hd:o.data = .dict #[] ep) (hq:Q none s):wpAny (model pz w) A (dictFind d (.ref a) h) Q E s:=by
  unfold dictFind
  try with_reducible refine wpAny_holding ?_
  refine wpAny_bind (wpAny_dictEntries ho hd ?_)
  dsimp only
  rw [if_neg (by simp [carriedByValue])];rw [if_neg (by simp)];simp only [placesWithHash,List.size_toArray,List.length_nil,List.range_zero,List.filter_nil,List.filterMap_nil];rw [if_neg (by exact fun h=>Bool.noConfusion (show false=true from h))];refine wpAny_bind ?_
  unfold tableMayTell
  refine wpAny_pure ?_;rw [if_neg (by simp)];refine wpAny_bind (wpAny_pure ?_);exact wpAny_pure hq
theorem find_one {d a a1:Nat} {o:Obj} {ep:Nat} {h h0:Int} {v1:Value} {x1 y1 x2 y2:Str} {Q:Option Nat->Shared->Prop} (hu:A.units < cLine) (k1:IsTupleKey (PySem.strKind pz w) s.heap [x1,y1] a1) (k2:IsTupleKey (PySem.strKind pz w) s.heap [x2,y2] a)
    (hne:¬ [x1,y1]=[x2,y2]) (haa:a1 ≠ a) (ho:s.heap.get? d=some o) (hd:o.data = .dict #[⟨h0,.ref a1,v1⟩] ep) (hq:Q none s):wpAny (model pz w) A (dictFind d (.ref a) h) Q E s:=by
  unfold dictFind
  try with_reducible refine wpAny_holding ?_
  refine wpAny_bind (wpAny_dictEntries ho hd ?_)
  dsimp only
  rw [if_neg (by simp [carriedByValue])];rw [if_neg (by simp [haa])]
  by_cases hh:h0=h
  · have e1:placesWithHash #[(⟨h0,.ref a1,v1⟩:DictEntry)].size (fun i=>(#[(⟨h0,.ref a1,v1⟩:DictEntry)][i]?).map (·.hash)) h=[0]:=by
      subst hh;show (List.range 1).filter _=[0];simp [List.range_succ]
    rw [e1];have e2:([0].filterMap fun i=>(#[(⟨h0,.ref a1,v1⟩:DictEntry)][i]?).map (·.key))=[Value.ref a1]:=rfl;rw [e2,if_neg (by simpa using haa)];refine wpAny_bind (wpAny_tableMayTell_quiet (knd:=tupleKind (PySem.strKind pz w)) k2 (fun v hv=>⟨[x1,y1],a1,by simpa using hv,k1⟩) ?_);rw [if_neg (by simp)];refine wpAny_bind ?_;refine wpAny_forIn_list _ (fun rest r s'=>s' = s∧r=(none,none)∧∀ v ∈ rest,v=0) _ ?_ ?_ _ _ ⟨rfl,rfl,fun v hv=>by simpa using hv⟩
    · rintro x rest r s' ⟨rfl,rfl,hall⟩;have hx:x=0:=hall x List.mem_cons_self;subst hx;show wpAny _ _ (if (h0 == h)=true then _ else _) _ _ _;rw [if_pos (by simpa using hh)];refine wpAny_bind (wpAny_dictEpoch ho hd (wpAny_bind ((tupleKind (PySem.strKind pz w)).eqBool hu k1 k2 (wpAny_bind (wpAny_dictEpoch ho hd ?_)))));show wpAny _ _ (if (ep != ep)=true then _ else _) _ _ _;rw [if_neg (by simp),decide_eq_false hne];simp only [Bool.false_eq_true,if_false];refine wpAny_bind (wpAny_rule ?_)
      first | rw [if_neg (by simp)] | skip
      first
        | exact wpAny_pure ⟨rfl,rfl,fun v hv=>hall v (List.mem_cons_of_mem _ hv)⟩
        | exact wpAny_bind (wpAny_pure (wpAny_pure ⟨rfl,rfl,fun v hv=>hall v (List.mem_cons_of_mem _ hv)⟩))
    · rintro r s' ⟨rfl,rfl,_⟩;exact wpAny_pure hq
  · have e1:placesWithHash #[(⟨h0,.ref a1,v1⟩:DictEntry)].size (fun i=>(#[(⟨h0,.ref a1,v1⟩:DictEntry)][i]?).map (·.hash)) h=[]:=by
      show (List.range 1).filter _=[];simp [List.range_succ,hh]
    rw [e1];have e2:(([]:List Nat).filterMap fun i=>(#[(⟨h0,.ref a1,v1⟩:DictEntry)][i]?).map (·.key))=[]:=rfl;rw [e2];rw [if_neg (by exact fun h=>Bool.noConfusion (show false=true from h))];refine wpAny_bind ?_
    unfold tableMayTell
    refine wpAny_pure ?_;rw [if_neg (by simp)];refine wpAny_bind (wpAny_pure ?_);exact wpAny_pure hq
end
theorem set_new {d a:Nat} {o:Obj} {es:Array DictEntry} {ep:Nat} {ks:List Str} {v:Value} {A:Around} {E:Value->Shared->Prop} {s:Shared} {Q:Unit->Shared->Prop} (hu:A.units < cLine) (hk:IsTupleKey (PySem.strKind pz w) s.heap ks a) (ho:s.heap.get? d=some o) (hd:o.data = .dict es ep) (hz:es.size<=2)
    (hf:∀ (h:Int) (Q':Option Nat->Shared->Prop) (s':Shared),s'.heap=s.heap->Q' none s'->wpAny (model pz w) A (dictFind d (.ref a) h) Q' E s')
    (hq:∀ h tk,Q () { s with heap:=s.heap.update d (Obj.mapDictKeys (·.push ⟨h,.ref a,v⟩)),toks:=tk }):wpAny (model pz w) A (dictSet d (.ref a) v) Q E s:=by
  unfold dictSet
  try with_reducible refine wpAny_holding ?_
  refine wpAny_bind ((tupleKind (PySem.strKind pz w)).pyHash hu hk ?_)
  unfold dictSetHashed
  try with_reducible refine wpAny_holding ?_
  refine wpAny_bind (hf _ _ _ rfl ?_);refine wpAny_bind (wpAny_rule ?_);exact wpAny_updateDictKeys (hz:=Nat.le_trans hz (by decide +kernel)) (s:={ s with toks:=_ }) ho hd (hq _ _)
theorem ct_tupset0 (d tp v:Nat) (x y:Str):Ct w 0 100 (.call (.builtin "dict.__setitem__") ⟨[.ref d,.ref tp,.ref v],[]⟩) [(d,dictO [])] [(tp,tupO [.str x 0,.str y 0])] (β:=Unit) (fun _=>⟨.ret .none,[knO1 tp v],[],[]⟩) (fun _=>True):=by
  intro A s R c hb hc hp hn hR;obtain ⟨f,e⟩:=un_code c;rw [hc] at e; subst e;obtain ⟨h661,o,ho,q⟩:=hp.1;obtain ⟨z,rfl⟩:=un_nz _ _ q;have hk:=tup_key (w:=w) hp.2.1;show codeAny (model pz w) A (.call (.builtin "dict.__setitem__") ⟨[.ref d,.ref tp,.ref v],[]⟩) R s;have hT:s.TypeIs (.ref d) "dict":=⟨_,ho,rfl⟩;refine codeAny_call_builtin F.slot_dict_setitem.plain F.entry_dict_setitem (F.slot_dict_setitem.check _ _ _ _ _ _ _ _ hT (F.args_dict_setitem_3 _ _ _) ?_);show wpAny _ _ (Builtin.Dict.notOrdered "__setitem__" ⟨[.ref d,.ref tp,.ref v],[]⟩ >>= _) _ _ s;refine wpAny_bind (wpAny_notOrdered_dict hT ?_);show wpAny _ _ (dictSet d (.ref tp) (.ref v) >>= _) _ _ s;have hu:A.in1.units < cLine:=by have:=hb.uni; show A.units+1 < cLine; omega
  refine wpAny_bind (set_new (es:=#[]) hu hk ho rfl (by simp) (fun h Q' s' e hq'=>find_none (e ▸ ho) rfl hq') fun h tk=>wpAny_pure ?_);have hs:Heap.SameBut d s.heap (s.heap.update d (Obj.mapDictKeys (·.push ⟨h,.ref tp,.ref v⟩))):=Heap.SameBut.update ..;refine hR () (.ret .none) { s with heap:=s.heap.update d (Obj.mapDictKeys (·.push ⟨h,.ref tp,.ref v⟩)),toks:=tk } rfl ⟨rfl,rfl,rfl,Nat.le_of_eq hs.1.symm,fun b o hb' hm=>(hs.2 b fun q=>hm (by subst q; exact .head _)).trans hb'⟩ ?_ rfl trivial List.nodup_nil (fun _ h=>nomatch h) trivial;exact ⟨⟨h661,_,Heap.get?_update_self _ ho rfl,rfl⟩,trivial⟩
theorem ct_tupset1 (d tp v tp1 v1:Nat) (x y x1 y1:Str) (hne:¬ [x1,y1]=[x,y]):Ct w 0 100 (.call (.builtin "dict.__setitem__") ⟨[.ref d,.ref tp,.ref v],[]⟩) [(d,knO1 tp1 v1)] [(tp,tupO [.str x 0,.str y 0]),(tp1,tupO [.str x1 0,.str y1 0])] (β:=Unit) (fun _=>⟨.ret .none,[knO2 tp1 v1 tp v],[],[]⟩) (fun _=>True):=by
  intro A s R c hb hc hp hn hR;obtain ⟨f,e⟩:=un_code c;rw [hc] at e; subst e;obtain ⟨h661,o,ho,q⟩:=hp.1;obtain ⟨z,rfl⟩:=un_nz _ _ q;have hk:=tup_key (w:=w) hp.2.1;have hk1:=tup_key (w:=w) hp.2.2.1;have haa:tp1 ≠ tp:=by
    have n:=hn;simp only [keys,List.map_append,List.map_cons,List.map_nil,List.cons_append,List.nil_append,List.nodup_cons,List.mem_cons] at n;intro q;exact n.2.1 (.inl q.symm)
  show codeAny (model pz w) A (.call (.builtin "dict.__setitem__") ⟨[.ref d,.ref tp,.ref v],[]⟩) R s;have hT:s.TypeIs (.ref d) "dict":=⟨_,ho,rfl⟩;refine codeAny_call_builtin F.slot_dict_setitem.plain F.entry_dict_setitem (F.slot_dict_setitem.check _ _ _ _ _ _ _ _ hT (F.args_dict_setitem_3 _ _ _) ?_);show wpAny _ _ (Builtin.Dict.notOrdered "__setitem__" ⟨[.ref d,.ref tp,.ref v],[]⟩ >>= _) _ _ s;refine wpAny_bind (wpAny_notOrdered_dict hT ?_);show wpAny _ _ (dictSet d (.ref tp) (.ref v) >>= _) _ _ s;have hu:A.in1.units < cLine:=by have:=hb.uni; show A.units+1 < cLine; omega
  refine wpAny_bind (set_new (es:=#[⟨z.h 0,.ref tp1,.ref v1⟩]) hu hk ho rfl (by simp) (fun h Q' s' e hq'=>find_one hu (e ▸ hk1) (e ▸ hk) hne haa (e ▸ ho) rfl hq') fun h tk=>wpAny_pure ?_);have hs:Heap.SameBut d s.heap (s.heap.update d (Obj.mapDictKeys (·.push ⟨h,.ref tp,.ref v⟩))):=Heap.SameBut.update ..;refine hR () (.ret .none) { s with heap:=s.heap.update d (Obj.mapDictKeys (·.push ⟨h,.ref tp,.ref v⟩)),toks:=tk } rfl ⟨rfl,rfl,rfl,Nat.le_of_eq hs.1.symm,fun b o hb' hm=>(hs.2 b fun q=>hm (by subst q; exact .head _)).trans hb'⟩ ?_ rfl trivial List.nodup_nil (fun _ h=>nomatch h) trivial;exact ⟨⟨h661,_,Heap.get?_update_self _ ho rfl,rfl⟩,trivial⟩
end
noncomputable def Le {α:Type} (t' t:Sem α):Prop:=∀ (M:Model) (Γ:Ctx) (Q:α->Pos->Shared->Prop) (E:Value->Pos->Shared->Prop) (p:Pos) (s:Shared),Γ.units < cLine->Sem.wp M Γ t' Q E p s->Sem.wp M Γ t Q E p s
theorem Le.refl {α:Type} (t:Sem α):Le t t:=fun _ _ _ _ _ _ _ h=>h
theorem Le.bind {α β:Type} {m' m:Sem α} {f' f:α->Sem β} (h:Le m' m) (hf:∀ a,Le (f' a) (f a)):Le (m' >>= f') (m >>= f):=fun M Γ Q E p s hu x=>by
  rw [Sem.wp_bind'] at x ⊢;exact h M Γ _ _ p s hu (Sem.wp_mono M Γ m' (fun a p' s' h'=>hf a M Γ _ _ p' s' hu h') (fun _ _ _ h'=>h') p s x)
theorem Le.holding {α:Type} {vs:List Value} {m' m:Sem α} (h:Le m' m):Le (PySem.holding vs m') (PySem.holding vs m):=fun M Γ Q E p s hu x=>by
  rw [Sem.wp_holding] at x ⊢;exact h M Γ _ _ p s hu x
theorem Le.onRaise {α:Type} {k:Value->Sem Unit} {m' m:Sem α} (h:Le m' m):Le (m'.onRaise k) (m.onRaise k):=fun M Γ Q E p s hu x=>by
  rw [Sem.wp_onRaise] at x ⊢;exact h M Γ _ _ p s hu x
noncomputable def skip {α:Type}:Sem α->Sem α
  | .stack k=>k []
  | t=>t
theorem skip_room {α:Type} (vs:List Value) (what:String) (f:Unit->Sem α):Le (skip (Sem.keep vs (cRoom what >>= f))) (Sem.keep vs (cRoom what >>= f)):=fun M Γ Q E p s hu x=>by
  rw [Sem.wp_keep,Sem.wp_bind',Sem.wp_cRoom];refine ⟨hu,?_⟩;have e:skip (Sem.keep vs (cRoom what >>= f))=Sem.keep vs (f ()):=rfl;rw [e,Sem.wp_keep] at x;exact x
noncomputable def cmpR (a b:Value):Sem Value:=match a,b with
  | .ref x,.ref y=>skip (compareOp .Eq (.ref x) (.ref y))
  | a,b=>compareOp .Eq a b
theorem cmpR_le (a b:Value):Le (cmpR a b) (compareOp .Eq a b):=by
  cases a with
  | ref x=>cases b with
    | ref y =>
      show Le (skip (richCompare .Eq (.ref x) (.ref y))) (richCompare .Eq (.ref x) (.ref y))
      unfold richCompare
      rw [cRoomFor_of_heap rfl];exact skip_room _ _ _
    | _=>exact Le.refl _
  | _=>exact Le.refl _
noncomputable def opR (pos:Pos) (left:Value) (rt:Sem Value):Sem Value:=do
  let rv <- holding [left] rt
  standAt pos
  operate [left,rv] (cmpR left rv)
theorem opR_le (pos:Pos) (left:Value) (rt:Sem Value):Le (opR pos left rt) (compareChain pos left [.Eq] [rt]):=
  Le.bind (Le.refl _) fun _=>Le.bind (Le.refl _) fun _=>Le.bind (Le.holding (cmpR_le _ _)) fun _=>Le.refl _
noncomputable def evalR:PySem.Expr->Env->Sem Value
  | .Compare left [.Eq] [r] pos,env=>do opR pos (<- eval left env) (markedBehindIn .Eq r (eval r env))
  | e,env=>eval e env
theorem evalR_le (e:PySem.Expr) (env:Env):Le (evalR e env) (eval e env):=by
  unfold evalR
  split
  · rw [eval_Compare1];exact Le.bind (Le.refl _) fun _=>opR_le _ _ _
  · exact Le.refl _
noncomputable def boolR (pos:Pos) (env:Env):List PySem.Expr->Sem Value
  | []=>boolOp pos .And []
  | [e]=>evalR e env
  | e::rest=>do
    let v <- evalR e env
    standAt pos
    let t <- holding [v] (truthy v)
    match t with
    | false=>pure v
    | true=>boolR pos env rest
theorem boolR_le (pos:Pos) (env:Env):∀ es:List PySem.Expr,Le (boolR pos env es) (boolOp pos .And (evalEach es env))
  | []=>Le.refl _
  | [e]=>evalR_le e env
  | e::e2::rest=>by
    refine Le.bind (evalR_le e env) fun v=>Le.bind (Le.refl _) fun _=>Le.bind (Le.refl _) fun t=>?_;cases t with
    | false=>exact Le.refl _
    | true=>exact boolR_le pos env (e2::rest)
noncomputable def testR (left r:PySem.Expr) (pos:Pos) (env:Env):Sem Bool:=do
  let lv <- eval left env
  let rv <- holding [lv] (markedBehindIn .Eq r (eval r env))
  standAt pos
  let c <- operate [lv,rv] (cmpR lv rv)
  holding [c] (truthy c)
noncomputable def execR:Stmt->Env->Sem Flow
  | .If (.Compare left [.Eq] [r] cpos) body orelse pos,env=>do
    standAt pos
    if <- testR left r cpos env then execs body env else execs orelse env
  | .Return (some (.BoolOp .And es bpos)) pos,env=>do
    standAt pos
    return .ret (<- boolR bpos env es)
  | s,env=>exec s env
theorem execR_le (s:Stmt) (env:Env):Le (execR s env) (exec s env):=by
  unfold execR
  split
  · rw [exec_If,isTrue_Compare1];exact Le.bind (Le.refl _) fun _=>Le.bind (Le.bind (Le.refl _) fun _=>Le.bind (Le.refl _) fun _=>Le.bind (Le.refl _) fun _=>Le.bind (Le.bind (Le.holding (cmpR_le _ _)) fun _=>Le.refl _) fun _=>Le.refl _) fun _=>Le.refl _
  · rw [exec_Return_some];exact Le.bind (Le.refl _) fun _=>Le.bind (boolR_le _ _ _) fun _=>Le.refl _
  · exact Le.refl _
noncomputable def execsR:List Stmt->Env->Sem Flow
  | [],env=>execs [] env
  | s::rest,env=>do
    match <- execR s env with
    | .next=>execsR rest env
    | f=>pure f
theorem execsR_le (env:Env):∀ l:List Stmt,Le (execsR l env) (execs l env)
  | []=>Le.refl _
  | s::rest=>by
    rw [execs_cons];refine Le.bind (execR_le s env) fun f=>?_;cases f with
    | next=>exact execsR_le env rest
    | _=>exact Le.refl _
noncomputable def bodyR (body:List Stmt) (env:Env):Sem PySem.Fin:=do
  point
  match <- (execsR body env).onRaise (leaving env) with
  | .ret v=>ret v
  | _=>ret .none
theorem bodyR_le (body:List Stmt) (env:Env):Le (bodyR body env) (denote table (.func body env)):=
  Le.bind (Le.refl _) fun _=>Le.bind (Le.onRaise (execsR_le env body)) fun _=>Le.refl _
noncomputable def cmpT (a b:Value):Sem Value:=match a,b with
  | .ref x,.ref y=>skip (PySem.W.Fast.tw12886488535604756494 .Eq (.ref x) (.ref y))
  | a,b=>PySem.W.Fast.tw12886488535604756494 .Eq a b
theorem cmpT_eq:cmpT=cmpR:=by
  delta cmpT cmpR
  rw [<- PySem.W.Fast.te12886488535604756494]
noncomputable def opT (pos:Pos) (left:Value) (rt:Sem Value):Sem Value:=
  letI:Monad Sem:=PySem.W.Fast.tw12456147031677567982
  do
  let rv <- PySem.W.Fast.tw17359229931016689406 [left] rt
  standAt pos
  PySem.W.Fast.tw8004119333741010377 [left,rv] (cmpT left rv)
theorem opT_eq:opT=opR:=by
  delta opT opR
  rw [<- PySem.W.Fast.te12456147031677567982,<- PySem.W.Fast.te17359229931016689406,<- PySem.W.Fast.te8004119333741010377,cmpT_eq]
noncomputable def evalT:PySem.Expr->Env->Sem Value
  | .Compare left [.Eq] [r] pos,env =>
    letI:Monad Sem:=PySem.W.Fast.tw12456147031677567982
    do opT pos (<- PySem.W.Fast.tw14044960220447912780 left env) (PySem.W.Fast.tw10513115210890433525 .Eq r (PySem.W.Fast.tw14044960220447912780 r env))
  | e,env=>PySem.W.Fast.tw14044960220447912780 e env
theorem evalT_eq:evalT=evalR:=by
  delta evalT evalR
  rw [<- PySem.W.Fast.te12456147031677567982,<- PySem.W.Fast.te14044960220447912780,<- PySem.W.Fast.te10513115210890433525,opT_eq]
noncomputable def boolT (pos:Pos) (env:Env):List PySem.Expr->Sem Value
  | []=>PySem.W.Fast.tw5920589197648130222 pos .And []
  | [e]=>evalT e env
  | e::rest =>
    letI:Monad Sem:=PySem.W.Fast.tw12456147031677567982
    do
    let v <- evalT e env
    standAt pos
    let t <- PySem.W.Fast.tw17359229931016689406 [v] (PySem.W.Fast.tw15245631507167962100 v)
    match t with
    | false=>pure v
    | true=>boolT pos env rest
theorem boolT_eq (pos:Pos) (env:Env):∀ es:List PySem.Expr,boolT pos env es=boolR pos env es
  | []=>by
    unfold boolT boolR
    rw [<- PySem.W.Fast.te5920589197648130222]
  | [e]=>by
    unfold boolT boolR
    rw [evalT_eq]
  | e::e2::rest=>by
    have ih:=boolT_eq pos env (e2::rest);have z:boolT pos env (e::e2::rest)=(@bind Sem PySem.W.Fast.tw12456147031677567982.toBind _ _ (evalT e env) fun v=>@bind Sem PySem.W.Fast.tw12456147031677567982.toBind _ _ (standAt pos) fun _=>@bind Sem PySem.W.Fast.tw12456147031677567982.toBind _ _ (PySem.W.Fast.tw17359229931016689406 [v] (PySem.W.Fast.tw15245631507167962100 v)) fun t=>match t with
      | false=>@pure Sem PySem.W.Fast.tw12456147031677567982.toPure _ v
      | true=>boolT pos env (e2::rest)):=rfl
    rw [z,ih,<- PySem.W.Fast.te12456147031677567982,<- PySem.W.Fast.te17359229931016689406,<- PySem.W.Fast.te15245631507167962100,evalT_eq]
    rfl
noncomputable def testT (left r:PySem.Expr) (pos:Pos) (env:Env):Sem Bool:=
  letI:Monad Sem:=PySem.W.Fast.tw12456147031677567982
  do
  let lv <- PySem.W.Fast.tw14044960220447912780 left env
  let rv <- PySem.W.Fast.tw17359229931016689406 [lv] (PySem.W.Fast.tw10513115210890433525 .Eq r (PySem.W.Fast.tw14044960220447912780 r env))
  standAt pos
  let c <- PySem.W.Fast.tw8004119333741010377 [lv,rv] (cmpT lv rv)
  PySem.W.Fast.tw17359229931016689406 [c] (PySem.W.Fast.tw15245631507167962100 c)
theorem testT_eq:testT=testR:=by
  delta testT testR
  rw [<- PySem.W.Fast.te12456147031677567982,<- PySem.W.Fast.te14044960220447912780,<- PySem.W.Fast.te17359229931016689406,<- PySem.W.Fast.te10513115210890433525,<- PySem.W.Fast.te8004119333741010377,<- PySem.W.Fast.te15245631507167962100,cmpT_eq]
theorem execs_one (s:Stmt) (env:Env):execs [s] env=exec s env:=by
  rw [execs_cons];have e:(fun f:Flow=>(match f with | .next=>execs [] env | f=>pure f:Sem Flow))=pure:=by
    funext f
    cases f <;> rfl
  exact (congrArg (fun k=>exec s env >>= k) e).trans (bind_pure _)
noncomputable def execT:Stmt->Env->Sem Flow
  | .If (.Compare left [.Eq] [r] cpos) body orelse pos,env =>
    letI:Monad Sem:=PySem.W.Fast.tw12456147031677567982
    do
    standAt pos
    if <- testT left r cpos env then PySem.W.Fast.tw12563942051412417395 body env else PySem.W.Fast.tw12563942051412417395 orelse env
  | .Return (some (.BoolOp .And es bpos)) pos,env =>
    letI:Monad Sem:=PySem.W.Fast.tw12456147031677567982
    do
    standAt pos
    return .ret (<- boolT bpos env es)
  | s,env=>PySem.W.Fast.tw12563942051412417395 [s] env
theorem execT_eq (s:Stmt) (env:Env):execT s env=execR s env:=by
  unfold execT execR
  rw [<- PySem.W.Fast.te12456147031677567982,<- PySem.W.Fast.te12563942051412417395,testT_eq];simp only [boolT_eq,execs_one]
noncomputable def execsT:List Stmt->Env->Sem Flow
  | [],env=>PySem.W.Fast.tw12563942051412417395 [] env
  | s::rest,env =>
    letI:Monad Sem:=PySem.W.Fast.tw12456147031677567982
    do
    match <- execT s env with
    | .next=>execsT rest env
    | f=>pure f
theorem execsT_eq (env:Env):∀ l:List Stmt,execsT l env=execsR l env
  | []=>by
    unfold execsT execsR
    rw [<- PySem.W.Fast.te12563942051412417395]
  | s::rest=>by
    unfold execsT execsR
    rw [<- PySem.W.Fast.te12456147031677567982,execT_eq,execsT_eq env rest]
noncomputable def bodyT (body:List Stmt) (env:Env):Sem PySem.Fin:=
  letI:Monad Sem:=PySem.W.Fast.tw12456147031677567982
  do
  point
  match <- PySem.W.R.onRaiseR (execsT body env) (PySem.W.Fast.tw9442747609961115081 env) with
  | .ret v=>PySem.W.Fast.tw6905046200447255374 v
  | _=>PySem.W.Fast.tw6905046200447255374 .none
theorem bodyT_eq:bodyT=bodyR:=by
  funext body env
  unfold bodyT bodyR
  rw [<- PySem.W.Fast.te12456147031677567982,<- PySem.W.R.onRaiseR_eq,<- PySem.W.Fast.te9442747609961115081,<- PySem.W.Fast.te6905046200447255374,execsT_eq]
section
variable {w:World} {b1 b2 b3:Bool} {tx:Tx} {Dp Un:Nat}
theorem ct_startF {body:List Stmt} {env:Env} {pre ro sup:List (Nat×Obj)} {β:Type} {out:β->Pst} {Pd:β->Prop} (hP:Rows w b1 b2 b3) (htx:TxOk tx) (dp:100<=Dp) (un:3<=Un)
    (x:∀ (A:Around) (s:Shared) (R:Result->Shared->Prop) (zs:Nat->Nz) (N:Nat),Cx w b1 b2 b3 Dp Un tx A (frOf (mkT zs 0 .nil (pre++ro)) s.heap.objs.size) s.heap ->
      Sup (frOf (mkT zs 0 .nil (pre++ro)) s.heap.objs.size) s.heap sup->Rep (ktop w.params) (frOf (mkT zs 0 .nil (pre++ro)) s.heap.objs.size) s.heap (mkT zs 0 .nil (pre++ro)) (pre++ro).length N s.heap ->
      Ret s pre out Pd R ->
      GoodC w b1 b2 b3 tx A R s (frOf (mkT zs 0 .nil (pre++ro)) s.heap.objs.size) s.heap ⟨false,.func body env,[],bodyT body env,mkT zs 0 .nil (pre++ro),(pre++ro).length,N,s.toks,[],[]⟩):Ct w Dp Un (.func body env) pre (ro++sup) out Pd:=by
  intro A s R c hb hc hp hn hR;rw [<- List.append_assoc] at hp hn;obtain ⟨hp,hq⟩:=has_append.mp hp;rw [keys_append,List.nodup_append] at hn;obtain ⟨zs,hz⟩:=has_nz (pre++ro) hp;obtain ⟨ta,e⟩:=un_code c;rw [hc] at e;subst e;have hle:=length_le_size (pre++ro) hp hn.1;have hN:s.heap.objs.size=(s.heap.objs.size - (pre++ro).length)+(pre++ro).length:=by omega
  have D:=rep_start hz hn.1 hb.top hN;have big:661<=s.heap.objs.size:=Heap.lt_size (hb.top 660 _ (kt_660 _));have C:Cx w b1 b2 b3 Dp Un tx A (frOf (mkT zs 0 .nil (pre++ro)) s.heap.objs.size) s.heap:=⟨hP,hb.hh,hb.dep,hb.uni,⟨fun _ q=>q.1,fun a o e=>kt_lt _ a o e,big⟩,htx,dp⟩;have U:Sup (frOf (mkT zs 0 .nil (pre++ro)) s.heap.objs.size) s.heap sup:=⟨hq,hn.2.1,fun a ha=>by
    obtain ⟨j,p,hj,e⟩:=mem_keys.mp ha;exact sub_keys (e ▸ (hq.get hj).lt) fun q=>hn.2.2 a q a ha rfl⟩
  have z:=(x A s R zs _ C U D hR).val s.heap D;have z':wpOwn (model pz w) A (.func body env) (bodyR body env) (postC pz w A R) (postE R) s:=by
    rw [<- bodyT_eq];exact z
  refine y_code (prog:=pz) (w:=w) A R s (.func body env) fun Γ p hcd hΓ=>bodyR_le body env (model pz w) Γ _ _ p s ?_ (z' Γ p hcd hΓ);have h1:=hΓ.in.2.2.2.2;rw [hcd] at h1;have h2:=hb.uni;have h3:(A.under (.func body env)).units=A.units+3:=rfl
  omega
end
theorem not_pylong (a b:Nat) (hb:b < 2 ^ 1000):¬ (Builtin.divisionGoesByPylong (Int.ofNat a) (Int.ofNat b))=true:=by
  unfold Builtin.divisionGoesByPylong
  intro h;have h1:=(Bool.and_eq_true_iff.mp h).1;simp only [decide_eq_true_eq] at h1
  split at h1
  · omega
  · rename_i hne
    have e:(Int.ofNat b).natAbs=b:=rfl;rw [e] at h1;have hb0:b ≠ 0:=fun q=>hne (by subst q; rfl);have:b.log2 < 1000:=(Nat.log2_lt hb0).mpr hb
    omega
theorem ct_modN {w:World} (a b:Nat) (hb:0 < b):ValC w (.call (.builtin "int.__mod__") ⟨[.int (Int.ofNat a) 0,.int (Int.ofNat b) 0],[]⟩) [] (.int (Int.ofNat (a % b)) 0):=by
  have h:=ct_mod (w:=w) (Int.ofNat a) (Int.ofNat b) (by intro q; have:(b:Int)=0:=q; omega);have e:(Int.ofNat a).fmod (Int.ofNat b)=Int.ofNat (a % b):=by
    show (a:Int).fmod (b:Int)=((a % b:Nat):Int);rw [Int.fmod_eq_emod_of_nonneg _ (Int.natCast_nonneg b)]; rfl
  rw [e] at h;exact h
theorem ct_fdivN {w:World} (a b:Nat) (hb:0 < b) (hb2:b < 2 ^ 1000):ValC w (.call (.builtin "int.__floordiv__") ⟨[.int (Int.ofNat a) 0,.int (Int.ofNat b) 0],[]⟩) [] (.int (Int.ofNat (a / b)) 0):=by
  have h:=ct_fdiv (w:=w) (Int.ofNat a) (Int.ofNat b) (by intro q; have:(b:Int)=0:=q; omega) (not_pylong a b hb2);have e:(Int.ofNat a).fdiv (Int.ofNat b)=Int.ofNat (a / b):=by
    show (a:Int).fdiv (b:Int)=((a / b:Nat):Int);rw [Int.fdiv_eq_ediv_of_nonneg _ (Int.natCast_nonneg b)]; rfl
  rw [e] at h;exact h
theorem ct_pow7N {w:World} (b:Nat) (hb:b < 100):ValC w (.call (.builtin "int.__pow__") ⟨[.int 7 0,.int (Int.ofNat b) 0],[]⟩) [] (.int (Int.ofNat (7 ^ b)) 0):=by
  have h:=ct_pow7 (w:=w) b hb;have e:(7:Int) ^ b=Int.ofNat (7 ^ b):=by
    show _=((7 ^ b:Nat):Int);rw [Int.natCast_pow]; rfl
  rw [e] at h;exact h
theorem ct_absN {w:World} (a:Int):ValC w (.call (.builtin "abs") ⟨[.int a 0],[]⟩) [] (.int (Int.ofNat a.natAbs) 0):=ct_abs a
noncomputable def tkCode (P:Params) (L:Nat):Code:=(againC (go (EE P false false false tx0) 12 [1,0,1,1,1,1] (X0 (.call (.ref 641) ⟨[.ref 0,.int 0 0],[]⟩) .nil 0 L 0))).getD (.builtin "" ⟨[],[]⟩)
noncomputable def bodyOf:Code->List Stmt
  | .func b _=>b
  | _=>[]
noncomputable def envOf:Code->Env
  | .func _ e=>e
  | _=>default
noncomputable def stO (row at_:Nat):Obj:=listO [.ref row,.int (Int.ofNat at_) 0]
noncomputable def tkF0 (st m:Nat):Obj:=frameO [(k_state,.ref st),(k_most,.int (Int.ofNat m) 0)]
noncomputable def tkF1 (st m row at_:Nat):Obj:=frameO [(k_state,.ref st),(k_most,.int (Int.ofNat m) 0),(k_row,.ref row),(k_at,.int (Int.ofNat at_) 0)]
noncomputable def TkB (w:World) (L st row:Nat) (l:List Int) (at_ m:Nat):Prop:=Ct w 150 150 (tkCode w.params L) [(L,tkF0 st m),(st,stO row at_)] ([(row,rowO l)]++[]) (fun b:Nat=>⟨.ret (.int (Int.ofNat b) 0),[tkF1 st m row at_,stO row (at_+1)],[],[]⟩) (fun b=>b < m)
theorem tk_code (P:Params) (L:Nat):tkCode P L = .func (bodyOf (tkCode P L)) (envOf (tkCode P L)):=by kernel_rfl
noncomputable def TkC (w:World) (st row:Nat) (l:List Int) (at_ m:Nat):Prop:=Ct w 200 200 (.call (.ref 641) ⟨[.ref st,.int (Int.ofNat m) 0],[]⟩) [(st,stO row at_)] ([]++[(row,rowO l)]) (fun b:Nat=>⟨.ret (.int (Int.ofNat b) 0),[stO row (at_+1)],[],[]⟩) (fun b=>b < m)
noncomputable def o_ltk_nil_1:List Nat:=[1,2,2,2,0,2,4,4,0,4,4,4,2,4,4,4,0,4,4,4,2,4,4,4,0,4,4,4,2,4,4,6,1,1,1,1,1,0,1,2,2,0,2,2,2,2,1,3,7,3]
noncomputable def o_ltk_nil_2:List Nat:=[]
noncomputable def o_ltk_cons_2:List Nat:=[0,0,1,1,0,0,1]
noncomputable def o_ltk_cons_4:List Nat:=[3,3,3]
noncomputable def o_ltk_cons_6:List Nat:=[1,0,0,1]
noncomputable def o_ltk_cons_10:List Nat:=[1]
theorem tk_body {w:World} {b1 b2 b3:Bool} (hP:Rows w b1 b2 b3) (L st row:Nat) (l:List Int) (hl:l.length < 100) (at_ m:Nat) (ha:at_ < 100) (hm:0 < m) (hm2:m < 100):TkB w L st row l at_ m:=by
  unfold TkB
  rw [tk_code];refine ct_startF (tx:=tx0) hP tx0_ok (by decide) (by decide) fun A' s R zs N C U D' hR=>?_;cases l with
  | nil =>
    refine sg C 4000 o_ltk_nil_1 ?_;intro _;have K_1:=sN s R C trId [(row,rowO ([])),((N+6),listO [])] (ct_roweq ([]) row (N+6)) [] [2,6];refine K_1 (hl2:=by exact (look_append (i:=[2]) (j:=[6]) (look_row (zs 2) (by kernel_rfl)) (by kernel_rfl))) ?_;intro _ _ _ _ _ _ _ _ C_1 tr_1 _ _ _ _;refine sg C_1 4000 o_ltk_nil_2 ?_;intro _;exact finishC tr_1 D' hR 0 [] [] [] (by kernel_rfl) (by kernel_rfl) rfl (by kernel_rfl) rfl rfl Sup.nil (fun _ h=>nomatch h) rfl hm
  | cons i l' =>
    have hn:0 < (i::l').length:=Nat.succ_pos _;have hn2:(i::l').length < 2 ^ 1000:=Nat.lt_trans hl (by decide);have hlt:at_ % (i::l').length < (i::l').length:=Nat.mod_lt _ hn;have hk:at_ % (i::l').length < 1000:=Nat.lt_trans hlt (Nat.lt_trans hl (by decide));obtain ⟨x,hx⟩:∃ x,(i::l')[at_ % (i::l').length]? = some x:=⟨_,List.getElem?_eq_getElem hlt⟩;have hq:at_ / (i::l').length < 100:=Nat.lt_of_le_of_lt (Nat.div_le_self _ _) ha;have hp:0 < 7 ^ (at_ / (i::l').length):=Nat.pow_pos (by decide);have hp2:7 ^ (at_ / (i::l').length) < 2 ^ 1000:=Nat.lt_of_le_of_lt (Nat.pow_le_pow_right (by decide) (Nat.le_of_lt hq)) (by decide +kernel);refine sg C 4000 o_ltk_nil_1 ?_;intro _;have K_1:=sN s R C trId [(row,rowO (i::l')),((N+6),listO [])] (ct_roweq (i::l') row (N+6)) [] [2,6];refine K_1 (hl2:=by exact (look_append (i:=[2]) (j:=[6]) (look_row (zs 2) (by kernel_rfl)) (by kernel_rfl))) ?_;intro _ _ _ _ _ _ _ _ C_1 tr_1 _ _ _ _;refine sg C_1 4000 o_ltk_cons_2 ?_;intro _;have K_2:=sN s R C_1 tr_1 [(row,rowO (i::l'))] (ct_rowlen (i::l') row (Nat.lt_trans hl (by decide))) [] [2];refine K_2 (hl2:=by exact (look_row (zs 2) (by kernel_rfl))) ?_;intro _ _ _ _ _ _ _ _ C_2 tr_2 _ _ _ _;refine sg C_2 4000 o_ltk_nil_2 ?_;intro _;have K_3:=sN s R C_2 tr_2 [] (ct_modN at_ (i::l').length hn) [] [];refine K_3 ?_;intro _ _ _ _ _ _ _ _ C_3 tr_3 _ _ _ _;refine sg C_3 4000 o_ltk_cons_4 ?_;intro _;have K_4:=sN s R C_3 tr_3 [(row,rowO (i::l'))] (ct_rowitem (i::l') row (at_ % (i::l').length) x hk hx) [] [2];refine K_4 (hl2:=by exact (look_row (zs 2) (by kernel_rfl))) ?_;intro _ _ _ _ _ _ _ _ C_4 tr_4 _ _ _ _;refine sg C_4 4000 o_ltk_nil_2 ?_;intro _;have K_5:=sN s R C_4 tr_4 [] (ct_absN x) [] [];refine K_5 ?_;intro _ _ _ _ _ _ _ _ C_5 tr_5 _ _ _ _;refine sg C_5 4000 o_ltk_cons_6 ?_;intro _;have K_6:=sN s R C_5 tr_5 [(row,rowO (i::l'))] (ct_rowlen (i::l') row (Nat.lt_trans hl (by decide))) [] [2];refine K_6 (hl2:=by exact (look_row (zs 2) (by kernel_rfl))) ?_;intro _ _ _ _ _ _ _ _ C_6 tr_6 _ _ _ _;refine sg C_6 4000 o_ltk_nil_2 ?_;intro _;have K_7:=sN s R C_6 tr_6 [] (ct_fdivN at_ (i::l').length hn hn2) [] [];refine K_7 ?_;intro _ _ _ _ _ _ _ _ C_7 tr_7 _ _ _ _;refine sg C_7 4000 o_ltk_nil_2 ?_;intro _;have K_8:=sN s R C_7 tr_7 [] (ct_pow7N (at_ / (i::l').length) hq) [] [];refine K_8 ?_;intro _ _ _ _ _ _ _ _ C_8 tr_8 _ _ _ _;refine sg C_8 4000 o_ltk_nil_2 ?_;intro _;have K_9:=sN s R C_8 tr_8 [] (ct_fdivN x.natAbs (7 ^ (at_ / (i::l').length)) hp hp2) [] [];refine K_9 ?_;intro _ _ _ _ _ _ _ _ C_9 tr_9 _ _ _ _;refine sg C_9 4000 o_ltk_cons_10 ?_;intro _;have K_10:=sN s R C_9 tr_9 [] (ct_modN (x.natAbs / 7 ^ (at_ / (i::l').length)) m hm) [] [];refine K_10 ?_;intro _ _ _ _ _ _ _ _ C_10 tr_10 _ _ _ _;refine sg C_10 4000 o_ltk_nil_2 ?_;intro _;exact finishC tr_10 D' hR (x.natAbs / 7 ^ (at_ / (i::l').length) % m) [] [] [] (by kernel_rfl) (by kernel_rfl) rfl (by kernel_rfl) rfl rfl Sup.nil (fun _ h=>nomatch h) rfl (Nat.mod_lt _ hm)
theorem tk_call {w:World} {b1 b2 b3:Bool} (hP:Rows w b1 b2 b3) (st row:Nat) (l:List Int) (hl:l.length < 100) (at_ m:Nat) (ha:at_ < 100) (hm:0 < m) (hm2:m < 100):TkC w st row l at_ m:=by
  refine ct_start (tx:=tx0) (pre:=[(st,stO row at_)]) (ro:=[]) (sup:=[(row,rowO l)]) hP tx0_ok (by decide) fun A' s R zs ta' N C U D' hR=>?_;refine sg C 12 [1,0,2,2,2,2] ?_;intro _;have K_t:=tK C [] [(row,rowO l)] (tk_body hP (N+1) st row l hl at_ m ha hm hm2) [1,0] [] U trId D' hR;refine K_t ?_;intro b zu zn h' su fs pd;exact ⟨b,[],[],[],rfl,by kernel_rfl,rfl,by kernel_rfl,rfl,rfl,Sup.nil,(fun _ h=>nomatch h),rfl,pd⟩
noncomputable def tyNo:Ty->Nat
  | .it=>4
  | .th=>11
  | .pa=>10
  | .rc=>8
  | .pt=>9
inductive DT
  | var (A K:Nat) (p:Bool)
  | fld (A K pl:Nat) (f:Fld) (kid:DT)
  | drf (A K pl:Nat) (kid:DT)
  | grd (A K pl:Nat) (kid:DT)
  | idx (A K pl:Nat) (two:Bool) (v C CK cpl:Nat) (kid:DT)
namespace DT
noncomputable def addr:DT->Nat
  | var A ..=>A
  | fld A ..=>A
  | drf A ..=>A
  | grd A ..=>A
  | idx A ..=>A
noncomputable def sh:DT->Sh
  | var _ _ p=>.var p
  | fld _ _ pl f kid=>.fld pl f kid.sh
  | drf _ _ pl kid=>.drf pl kid.sh
  | grd _ _ pl kid=>.grd pl kid.sh
  | idx _ _ pl two v _ _ cpl kid=>.idx pl two v cpl kid.sh
end DT
noncomputable def l5 (A K:Nat) (op:Str) (pl no:Nat) (v:Value) (kids:List Value):List (Nat×Obj):=[(A,listO [.str op 0,.int (Int.ofNat pl) 0,.int (Int.ofNat no) 0,v,.ref K]),(K,listO kids)]
namespace DT
noncomputable def flat:DT->List (Nat×Obj)
  | var A K p=>l5 A K v_var 1 (tyNo (match p with | true=>.pt | false=>.rc)) (.str v_v 0) []
  | fld A K pl f kid=>l5 A K v_field pl (tyNo f.ty) (.str f.name 0) [.ref kid.addr]++flat kid
  | drf A K pl kid=>l5 A K v_deref pl 8 .none [.ref kid.addr]++flat kid
  | grd A K pl kid=>l5 A K v_guard pl 9 (.int 9 0) [.ref kid.addr]++flat kid
  | idx A K pl two v C CK cpl kid=>(l5 A K v_index pl (tyNo (match two with | true=>.pa | false=>.it)) .none [.ref kid.addr,.ref C]++l5 C CK v_const cpl 4 (.int (Int.ofNat v) 0) [])++flat kid
end DT
noncomputable def k_script:Str:=⟨⟨[115,99,114,105,112,116]⟩⟩
inductive FV
  | v0 | v1 (go sp:Nat) | v2 (go sp fg:Nat)
structure LW where
  sc:Nat
  st:Nat
  row:Nat
  so:Nat
  vo:Nat
  sn:Nat
noncomputable def lawFr (a:Nat->Nat) (W:LW) (nm:Str) (t du:Nat) (S:Str):FV->Obj
  | .v0=>frameO [(k_script,.ref W.sc),(k_state,.ref W.st),(k_types,.ref (a 6)),(k_record,.ref (a 30)),(k_pointer,.ref (a 35)),(k_pair,.ref (a 25)),(k_three,.ref (a 20)),(k_sorts,.ref W.so),(k_name,.str nm 0),(k_t,.ref t),(k_variable,.ref W.vo),(k_start,.ref W.sn),(k_due,.ref du),(k_said,.str S 0)]
  | .v1 go sp=>frameO [(k_script,.ref W.sc),(k_state,.ref W.st),(k_types,.ref (a 6)),(k_record,.ref (a 30)),(k_pointer,.ref (a 35)),(k_pair,.ref (a 25)),(k_three,.ref (a 20)),(k_sorts,.ref W.so),(k_name,.str nm 0),(k_t,.ref t),(k_variable,.ref W.vo),(k_start,.ref W.sn),(k_due,.ref du),(k_said,.str S 0),(k_go_of,.int (Int.ofNat go) 0),(k_spot_of,.int (Int.ofNat sp) 0)]
  | .v2 go sp fg=>frameO [(k_script,.ref W.sc),(k_state,.ref W.st),(k_types,.ref (a 6)),(k_record,.ref (a 30)),(k_pointer,.ref (a 35)),(k_pair,.ref (a 25)),(k_three,.ref (a 20)),(k_sorts,.ref W.so),(k_name,.str nm 0),(k_t,.ref t),(k_variable,.ref W.vo),(k_start,.ref W.sn),(k_due,.ref du),(k_said,.str S 0),(k_go_of,.int (Int.ofNat go) 0),(k_spot_of,.int (Int.ofNat sp) 0),(k_figure,.int (Int.ofNat fg) 0)]
noncomputable def rItO (cur rem:Nat):Obj:=⟨.type "range_iterator",none,.fields ⟨[.int (Int.ofNat cur) 0,.int (Int.ofNat rem) 0,.int 1 0]⟩,#[]⟩
noncomputable def sortsL (a:Nat->Nat):List (Str×Value):=[(v_n,.ref (a 15)),(v_m,.ref (a 20)),(v_q,.ref (a 35))]
noncomputable def lawCode (P:Params) (L:Nat):Code:=(againC (go (EE P false false false tx0) 8 [1,0,1,1] (X0 (.call (.ref 660) ⟨[.ref 0],[]⟩) .nil 0 L 0))).getD (.builtin "" ⟨[],[]⟩)
noncomputable def lawFor (P:Params) (L It:Nat):Code:=match (bodyOf (lawCode P L)).drop 18 with
  | .For tg _ bd o _::_=>.forLoop tg (.ref It) bd o (envOf (lawCode P L))
  | _=>.builtin "" ⟨[],[]⟩
structure LB where
  ss:List Sl
  fv:FV
  nm:Str
  T:Ty
  d:DT
  S:Str
  at_:Nat
  cur:Nat
  all:List (Nat×Obj)
noncomputable def loopRo (a:Nat->Nat) (W:LW):List (Nat×Obj):=[(W.so,dictO (sortsL a)),(a 6,instO 426 (a 7)),(a 7,typesD a)]++w_ty a
noncomputable def LoopPd (d:DT) (S:Str) (rem:Nat) (b:LB):Prop:=b.ss.length<=rem∧fits d.sh.ty b.ss=true∧b.S.cps.toList=S.cps.toList++txts b.ss∧b.d.sh=grow d.sh b.ss S.length∧(b.d.flat).Perm (b.all++d.flat)∧b.T=b.d.sh.ty
noncomputable def LoopC (w:World) (a:Nat->Nat) (W:LW) (l:List Int) (L it:Nat) (T:Ty) (fv:FV) (nm:Str) (d:DT) (S:Str) (at_ cur rem:Nat):Prop:=
  Ct w 300 300 (lawFor w.params L it) [(L,lawFr a W nm (tyA a T) d.addr S fv),(W.st,stO W.row at_),(it,rItO cur rem)] (loopRo a W++[(W.row,rowO l)])
    (fun b:LB=>⟨.next,[lawFr a W b.nm (tyA a b.T) b.d.addr b.S b.fv,stO W.row b.at_,rItO b.cur 0],[],b.all⟩)
    (LoopPd d S rem)
noncomputable def fvOk:FV->Ty->Bool
  | .v0,.rc=>true
  | .v0,.pt=>true
  | .v0,_=>false
  | _,_=>true
theorem app_list (x:Str) (y:List Nat):(x++⟨⟨y⟩⟩:Str).cps.toList=x.cps.toList++y:=by
  show (x.cps++(⟨y⟩:Array Nat)).toList=_;rw [Array.toList_append]
theorem len_list (x:Str):x.length=x.cps.toList.length:=(Array.length_toList).symm
theorem len_app {x:Str} {y:List Nat} {n:Nat} (h:x.length<=n):(x++⟨⟨y⟩⟩:Str).length<=n+y.length:=by
  rw [len_list,app_list,List.length_append,<- len_list]
  omega
theorem ct_sadd {w:World} (x:Str) (y:List Nat) (n:Nat) (h:x.length<=n) (hn:n+y.length<=1000):ValC w (.call (.builtin "str.__add__") ⟨[.str x 0,.str ⟨⟨y⟩⟩ 0],[]⟩) [] (.str (x++⟨⟨y⟩⟩) 0):=
  ct_stradd x ⟨⟨y⟩⟩ (Nat.le_trans (len_app h) (Nat.le_trans hn (by decide +kernel)))
theorem ct_slen {w:World} (x:Str) (n:Nat) (h:x.length<=n) (hn:n<=1000):ValC w (.call (.builtin "len") ⟨[.str x 0],[]⟩) [] (.int (Int.ofNat x.length) 0):=
  ct_strlen x (Nat.le_trans h (Nat.le_trans hn (by decide +kernel)))
theorem txts_len_le:∀ s:Sl,s.txt.length<=6
  | .f _=>(show 2<=6 by decide)
  | .h=>(show 2<=6 by decide)
  | .g=>(show 3<=6 by decide)
  | .i _=>(show 3<=6 by decide)
  | .ij _ _=>(show 6<=6 by decide)
theorem loop_fin {d d':DT} {S S':Str} {rem:Nat} {s:Sl} {n:List (Nat×Obj)} {b:LB} (e:d'.flat=n++d.flat) (hs:d'.sh=growS d.sh s S.length) (hS:S'.cps.toList=S.cps.toList++s.txt) (hT:stepTy d.sh.ty s=some d'.sh.ty) (h:LoopPd d' S' rem b) :
    LoopPd d S (rem+1) ⟨s::b.ss,b.fv,b.nm,b.T,b.d,b.S,b.at_,b.cur,n++b.all⟩:=by
  obtain ⟨h1,h2,h3,h4,h5,h6⟩:=h;have hlen:S'.length=S.length+s.txt.length:=by rw [len_list,hS,List.length_append,<- len_list]
  refine ⟨Nat.succ_le_succ h1,?_,?_,?_,?_,h6⟩
  · show fits d.sh.ty (s::b.ss)=true
    unfold fits
    rw [hT];exact h2
  · show b.S.cps.toList=S.cps.toList++(s.txt++txts b.ss);rw [h3,hS,List.append_assoc]
  · show b.d.sh=grow (growS d.sh s S.length) b.ss (S.length+s.txt.length);rw [h4,hs,hlen]
  · show (b.d.flat).Perm ((n++b.all)++d.flat);refine h5.trans ?_;rw [e,List.append_assoc];exact NT.perm_mid _ _ _
theorem loop_fin0 {d:DT} {S:Str} {rem:Nat} {b:LB} (h:LoopPd d S rem b):LoopPd d S (rem+1) b:=⟨Nat.le_succ_of_le h.1,h.2⟩
theorem lt2 {b:Nat} (h:b < 2):b=0∨b=1:=by omega
theorem lt3 {b:Nat} (h:b < 3):b=0∨b=1∨b=2:=by omega
theorem lt7 {b:Nat} (h:b < 7):b=0∨b=1∨b=2∨b=3∨b=4∨b=5∨b=6:=by omega
noncomputable def o_next_1:List Nat:=[0,1,1,1,1,1,1,1,1]
theorem ct_next {w:World} {b1 b2 b3:Bool} (hP:Rows w b1 b2 b3) (it cur rem:Nat) (hr:rem < 7):Ct w 100 100 (.call (.builtin "range_iterator.__next__") ⟨[.ref it],[]⟩) [(it,rItO cur (rem+1))] [] (fun _:Unit=>⟨.ret (.int (Int.ofNat cur) 0),[rItO (cur+1) rem],[],[]⟩) (fun _=>True):=by
  match rem,hr with
  | 0,_ | 1,_ | 2,_ | 3,_ | 4,_ | 5,_ | 6,_ =>
    refine ct_start (tx:=tx0) (ro:=[]) (sup:=[]) hP tx0_ok (by decide) fun A' s R zs ta N C U D' hR=>?_;refine sg C 4000 o_next_1 ?_;intro _;exact finishC (Pd:=fun _=>True) trId D' hR () [] [] [] (by kernel_rfl) (by kernel_rfl) rfl (by kernel_rfl) rfl rfl Sup.nil (fun _ h=>nomatch h) rfl trivial
noncomputable def o_bt_rc_0_0_1:List Nat:=[0,3]
noncomputable def o_bt_rc_0_0_2:List Nat:=[1,1,0,0,1]
noncomputable def o_bt_rc_0_0_3:List Nat:=[1,1,1,13,0,0,0,0,13,0,0,0,13,13,0,14,0,0,1,0]
noncomputable def o_bt_rc_0_0_4:List Nat:=[0,1,1,1,13,0,0,0,0,13,0,0,0,13,13,0,14,0,1,1,4,4,4]
noncomputable def o_bt_rc_0_0_5:List Nat:=[1,1,1]
noncomputable def o_bt_rc_0_0_6:List Nat:=[1]
noncomputable def o_bt_rc_0_0_7:List Nat:=[1,1,1,1,7,0,0,0,0,7,0,0,0,7,7,0,8,1,1,1,1]
noncomputable def o_bt_rc_1_0_7:List Nat:=[1,1,1,1,9,0,0,0,0,9,0,0,0,9,9,0,10,1,1,1,1]
noncomputable def o_bt_rc_2_0_7:List Nat:=[1,1,1,1,15,0,0,0,0,15,0,0,0,15,15,0,16,1,1,1,1]
theorem bt_rc_0 {w:World} {b1 b2 b3:Bool} (hP:Rows w b1 b2 b3) (a:Nat->Nat) (W:LW) (l:List Int) (hl:l.length < 100) (L it:Nat) (nm:Str) (d:DT) (S:Str) (at_ cur rem:Nat) (hT:.rc=d.sh.ty) (hr:rem < 7) (n:Nat) (hn:n<=900) (hS:S.length<=n) (ha:at_ < 90)
    (IH:∀ (fv:FV) (nm:Str) (d':DT) (S':Str) (at' cur':Nat) (T':Ty),T' = d'.sh.ty->fvOk fv T' = true->S'.length<=n+6->at' <= at_+3->LoopC w a W l L it T' fv nm d' S' at' cur' rem):LoopC w a W l L it .rc .v0 nm d S at_ cur (rem+1):=by
  refine ct_start (tx:=tx0) (pre:=[(L,lawFr a W nm (tyA a .rc) d.addr S .v0),(W.st,stO W.row at_),(it,rItO cur (rem+1))]) (ro:=loopRo a W) (sup:=[(W.row,rowO l)]) hP tx0_ok (by decide) fun A' s R zs ta' N C U D' hR=>?_;refine sg C 4000 o_bt_rc_0_0_1 ?_;intro _;have K_1:=sN s R C trId [] (ct_next hP it cur rem hr) [2] [];refine K_1 ?_;intro _ _ _ _ _ _ _ _ C_1 tr_1 su_1 _ _ _;have U_1:=su_1 _ U;refine sg C_1 4000 o_bt_rc_0_0_2 ?_;intro _;have K_2:=sN s R C_1 tr_1 [] (ct_slen S n hS (by omega)) [] [];refine K_2 ?_;intro _ _ _ _ _ _ _ _ C_2 tr_2 su_2 _ _ _;have U_2:=su_2 _ U_1;refine sg C_2 4000 o_bt_rc_0_0_3 ?_;intro _;have K_3:=sK s R C_2 tr_2 [] [(W.row,rowO l)] (tk_call hP W.st W.row l hl at_ 3 (by omega) (by decide) (by decide)) [1] [] U_2;refine K_3 ?_;intro b_3 _ _ _ _ _ _ _ C_3 tr_3 su_3 _ pd_3 _;have U_3:=su_3 _ U_2;rcases lt3 pd_3 with rfl | rfl | rfl
  · refine sg C_3 4000 o_bt_rc_0_0_4 ?_;intro _;have K_4:=sN s R C_3 tr_3 [(W.so,dictO (sortsL a))] (ct_dictget (sortsL a) v_n (.ref (a 15)) W.so rfl rfl) [] [3];refine K_4 ?_;intro _ _ _ _ _ _ _ _ C_4 tr_4 su_4 _ _ _;have U_4:=su_4 _ U_3;refine sg C_4 4000 o_bt_rc_0_0_5 ?_;intro _;have K_5:=sN s R C_4 tr_4 [] (ct_sadd S [46] n hS (by show n+1<=1000; omega)) [] [];refine K_5 ?_;intro _ _ _ _ _ _ _ _ C_5 tr_5 su_5 _ _ _;have U_5:=su_5 _ U_4;refine sg C_5 4000 o_bt_rc_0_0_6 ?_;intro _;have K_6:=sN s R C_5 tr_5 [] (ct_sadd (S++⟨⟨[46]⟩⟩) [110] (n+1) (len_app (y:=[46]) hS) (by show (n+1)+1<=1000; omega)) [] [];refine K_6 ?_;intro _ _ _ _ N_6 _ _ _ C_6 tr_6 su_6 _ _ _;have U_6:=su_6 _ U_5;refine sg C_6 4000 o_bt_rc_0_0_7 ?_;intro _;have K_t:=tK C_6 (loopRo a W) [(W.row,rowO l)] (IH (.v1 cur S.length) v_n (DT.fld (N_6+24) (N_6+23) S.length .n d) ((S++⟨⟨[46]⟩⟩)++⟨⟨[110]⟩⟩) (at_+1) (cur+1) .it (by first | rfl | (rw [<- hT])) rfl (Nat.le_trans (show (((S++⟨⟨[46]⟩⟩)++⟨⟨[110]⟩⟩):Str).length<=((n+1)+1) from (len_app (y:=[110]) (len_app (y:=[46]) hS))) (by omega)) (by omega)) [0,1,2] [3,4,5,6,7,8,9,10,11,12,13,14,15,16,17,18,19,20,21,22] U_6 tr_6 D' hR
    refine K_t ?_;rintro ⟨ss',fv',nm',T',d'',S'',at'',cur'',all'⟩ zu zn h' su fs pd;have F:=loop_fin (d:=d) (d':=(DT.fld (N_6+24) (N_6+23) S.length .n d)) (S:=S) (S':=((S++⟨⟨[46]⟩⟩)++⟨⟨[110]⟩⟩)) (s:=(Sl.f .n)) (n:=(l5 (N_6+24) (N_6+23) v_field S.length (tyNo (Fld.ty .n)) (.str (Fld.name .n) 0) [.ref d.addr])) rfl (by first | rfl | (unfold growS; rw [<- hT]; rfl)) (by simp only [app_list,List.append_assoc]; rfl) (by rw [<- hT]; rfl) pd
    cases fv' <;> (refine finD ⟨(Sl.f .n)::ss',_,nm',T',d'',S'',at'',cur'',(l5 (N_6+24) (N_6+23) v_field S.length (tyNo (Fld.ty .n)) (.str (Fld.name .n) 0) [.ref d.addr])++all'⟩ (l5 (N_6+24) (N_6+23) v_field S.length (tyNo (Fld.ty .n)) (.str (Fld.name .n) 0) [.ref d.addr]) all' [24,23] rfl ?_ rfl ?_ ?_ ?_ (su [] Sup.nil).left fs rfl F <;> kernel_rfl)
  · refine sg C_3 4000 o_bt_rc_0_0_4 ?_;intro _;have K_4:=sN s R C_3 tr_3 [(W.so,dictO (sortsL a))] (ct_dictget (sortsL a) v_m (.ref (a 20)) W.so rfl rfl) [] [3];refine K_4 ?_;intro _ _ _ _ _ _ _ _ C_4 tr_4 su_4 _ _ _;have U_4:=su_4 _ U_3;refine sg C_4 4000 o_bt_rc_0_0_5 ?_;intro _;have K_5:=sN s R C_4 tr_4 [] (ct_sadd S [46] n hS (by show n+1<=1000; omega)) [] [];refine K_5 ?_;intro _ _ _ _ _ _ _ _ C_5 tr_5 su_5 _ _ _;have U_5:=su_5 _ U_4;refine sg C_5 4000 o_bt_rc_0_0_6 ?_;intro _;have K_6:=sN s R C_5 tr_5 [] (ct_sadd (S++⟨⟨[46]⟩⟩) [109] (n+1) (len_app (y:=[46]) hS) (by show (n+1)+1<=1000; omega)) [] [];refine K_6 ?_;intro _ _ _ _ N_6 _ _ _ C_6 tr_6 su_6 _ _ _;have U_6:=su_6 _ U_5;refine sg C_6 4000 o_bt_rc_1_0_7 ?_;intro _;have K_t:=tK C_6 (loopRo a W) [(W.row,rowO l)] (IH (.v1 cur S.length) v_m (DT.fld (N_6+24) (N_6+23) S.length .m d) ((S++⟨⟨[46]⟩⟩)++⟨⟨[109]⟩⟩) (at_+1) (cur+1) .th (by first | rfl | (rw [<- hT])) rfl (Nat.le_trans (show (((S++⟨⟨[46]⟩⟩)++⟨⟨[109]⟩⟩):Str).length<=((n+1)+1) from (len_app (y:=[109]) (len_app (y:=[46]) hS))) (by omega)) (by omega)) [0,1,2] [3,4,5,6,7,8,9,10,11,12,13,14,15,16,17,18,19,20,21,22] U_6 tr_6 D' hR
    refine K_t ?_;rintro ⟨ss',fv',nm',T',d'',S'',at'',cur'',all'⟩ zu zn h' su fs pd;have F:=loop_fin (d:=d) (d':=(DT.fld (N_6+24) (N_6+23) S.length .m d)) (S:=S) (S':=((S++⟨⟨[46]⟩⟩)++⟨⟨[109]⟩⟩)) (s:=(Sl.f .m)) (n:=(l5 (N_6+24) (N_6+23) v_field S.length (tyNo (Fld.ty .m)) (.str (Fld.name .m) 0) [.ref d.addr])) rfl (by first | rfl | (unfold growS; rw [<- hT]; rfl)) (by simp only [app_list,List.append_assoc]; rfl) (by rw [<- hT]; rfl) pd
    cases fv' <;> (refine finD ⟨(Sl.f .m)::ss',_,nm',T',d'',S'',at'',cur'',(l5 (N_6+24) (N_6+23) v_field S.length (tyNo (Fld.ty .m)) (.str (Fld.name .m) 0) [.ref d.addr])++all'⟩ (l5 (N_6+24) (N_6+23) v_field S.length (tyNo (Fld.ty .m)) (.str (Fld.name .m) 0) [.ref d.addr]) all' [24,23] rfl ?_ rfl ?_ ?_ ?_ (su [] Sup.nil).left fs rfl F <;> kernel_rfl)
  · refine sg C_3 4000 o_bt_rc_0_0_4 ?_;intro _;have K_4:=sN s R C_3 tr_3 [(W.so,dictO (sortsL a))] (ct_dictget (sortsL a) v_q (.ref (a 35)) W.so rfl rfl) [] [3];refine K_4 ?_;intro _ _ _ _ _ _ _ _ C_4 tr_4 su_4 _ _ _;have U_4:=su_4 _ U_3;refine sg C_4 4000 o_bt_rc_0_0_5 ?_;intro _;have K_5:=sN s R C_4 tr_4 [] (ct_sadd S [46] n hS (by show n+1<=1000; omega)) [] [];refine K_5 ?_;intro _ _ _ _ _ _ _ _ C_5 tr_5 su_5 _ _ _;have U_5:=su_5 _ U_4;refine sg C_5 4000 o_bt_rc_0_0_6 ?_;intro _;have K_6:=sN s R C_5 tr_5 [] (ct_sadd (S++⟨⟨[46]⟩⟩) [113] (n+1) (len_app (y:=[46]) hS) (by show (n+1)+1<=1000; omega)) [] [];refine K_6 ?_;intro _ _ _ _ N_6 _ _ _ C_6 tr_6 su_6 _ _ _;have U_6:=su_6 _ U_5;refine sg C_6 4000 o_bt_rc_2_0_7 ?_;intro _;have K_t:=tK C_6 (loopRo a W) [(W.row,rowO l)] (IH (.v1 cur S.length) v_q (DT.fld (N_6+24) (N_6+23) S.length .q d) ((S++⟨⟨[46]⟩⟩)++⟨⟨[113]⟩⟩) (at_+1) (cur+1) .pt (by first | rfl | (rw [<- hT])) rfl (Nat.le_trans (show (((S++⟨⟨[46]⟩⟩)++⟨⟨[113]⟩⟩):Str).length<=((n+1)+1) from (len_app (y:=[113]) (len_app (y:=[46]) hS))) (by omega)) (by omega)) [0,1,2] [3,4,5,6,7,8,9,10,11,12,13,14,15,16,17,18,19,20,21,22] U_6 tr_6 D' hR
    refine K_t ?_;rintro ⟨ss',fv',nm',T',d'',S'',at'',cur'',all'⟩ zu zn h' su fs pd;have F:=loop_fin (d:=d) (d':=(DT.fld (N_6+24) (N_6+23) S.length .q d)) (S:=S) (S':=((S++⟨⟨[46]⟩⟩)++⟨⟨[113]⟩⟩)) (s:=(Sl.f .q)) (n:=(l5 (N_6+24) (N_6+23) v_field S.length (tyNo (Fld.ty .q)) (.str (Fld.name .q) 0) [.ref d.addr])) rfl (by first | rfl | (unfold growS; rw [<- hT]; rfl)) (by simp only [app_list,List.append_assoc]; rfl) (by rw [<- hT]; rfl) pd
    cases fv' <;> (refine finD ⟨(Sl.f .q)::ss',_,nm',T',d'',S'',at'',cur'',(l5 (N_6+24) (N_6+23) v_field S.length (tyNo (Fld.ty .q)) (.str (Fld.name .q) 0) [.ref d.addr])++all'⟩ (l5 (N_6+24) (N_6+23) v_field S.length (tyNo (Fld.ty .q)) (.str (Fld.name .q) 0) [.ref d.addr]) all' [24,23] rfl ?_ rfl ?_ ?_ ?_ (su [] Sup.nil).left fs rfl F <;> kernel_rfl)
theorem bt_rc_1 {w:World} {b1 b2 b3:Bool} (hP:Rows w b1 b2 b3) (a:Nat->Nat) (W:LW) (l:List Int) (hl:l.length < 100) (L it:Nat) (go sp:Nat) (nm:Str) (d:DT) (S:Str) (at_ cur rem:Nat) (hT:.rc=d.sh.ty) (hr:rem < 7) (n:Nat) (hn:n<=900) (hS:S.length<=n) (ha:at_ < 90)
    (IH:∀ (fv:FV) (nm:Str) (d':DT) (S':Str) (at' cur':Nat) (T':Ty),T' = d'.sh.ty->fvOk fv T' = true->S'.length<=n+6->at' <= at_+3->LoopC w a W l L it T' fv nm d' S' at' cur' rem):LoopC w a W l L it .rc (.v1 go sp) nm d S at_ cur (rem+1):=by
  refine ct_start (tx:=tx0) (pre:=[(L,lawFr a W nm (tyA a .rc) d.addr S (.v1 go sp)),(W.st,stO W.row at_),(it,rItO cur (rem+1))]) (ro:=loopRo a W) (sup:=[(W.row,rowO l)]) hP tx0_ok (by decide) fun A' s R zs ta' N C U D' hR=>?_;refine sg C 4000 o_bt_rc_0_0_1 ?_;intro _;have K_1:=sN s R C trId [] (ct_next hP it cur rem hr) [2] [];refine K_1 ?_;intro _ _ _ _ _ _ _ _ C_1 tr_1 su_1 _ _ _;have U_1:=su_1 _ U;refine sg C_1 4000 o_bt_rc_0_0_2 ?_;intro _;have K_2:=sN s R C_1 tr_1 [] (ct_slen S n hS (by omega)) [] [];refine K_2 ?_;intro _ _ _ _ _ _ _ _ C_2 tr_2 su_2 _ _ _;have U_2:=su_2 _ U_1;refine sg C_2 4000 o_bt_rc_0_0_3 ?_;intro _;have K_3:=sK s R C_2 tr_2 [] [(W.row,rowO l)] (tk_call hP W.st W.row l hl at_ 3 (by omega) (by decide) (by decide)) [1] [] U_2;refine K_3 ?_;intro b_3 _ _ _ _ _ _ _ C_3 tr_3 su_3 _ pd_3 _;have U_3:=su_3 _ U_2;rcases lt3 pd_3 with rfl | rfl | rfl
  · refine sg C_3 4000 o_bt_rc_0_0_4 ?_;intro _;have K_4:=sN s R C_3 tr_3 [(W.so,dictO (sortsL a))] (ct_dictget (sortsL a) v_n (.ref (a 15)) W.so rfl rfl) [] [3];refine K_4 ?_;intro _ _ _ _ _ _ _ _ C_4 tr_4 su_4 _ _ _;have U_4:=su_4 _ U_3;refine sg C_4 4000 o_bt_rc_0_0_5 ?_;intro _;have K_5:=sN s R C_4 tr_4 [] (ct_sadd S [46] n hS (by show n+1<=1000; omega)) [] [];refine K_5 ?_;intro _ _ _ _ _ _ _ _ C_5 tr_5 su_5 _ _ _;have U_5:=su_5 _ U_4;refine sg C_5 4000 o_bt_rc_0_0_6 ?_;intro _;have K_6:=sN s R C_5 tr_5 [] (ct_sadd (S++⟨⟨[46]⟩⟩) [110] (n+1) (len_app (y:=[46]) hS) (by show (n+1)+1<=1000; omega)) [] [];refine K_6 ?_;intro _ _ _ _ N_6 _ _ _ C_6 tr_6 su_6 _ _ _;have U_6:=su_6 _ U_5;refine sg C_6 4000 o_bt_rc_0_0_7 ?_;intro _;have K_t:=tK C_6 (loopRo a W) [(W.row,rowO l)] (IH (.v1 cur S.length) v_n (DT.fld (N_6+24) (N_6+23) S.length .n d) ((S++⟨⟨[46]⟩⟩)++⟨⟨[110]⟩⟩) (at_+1) (cur+1) .it (by first | rfl | (rw [<- hT])) rfl (Nat.le_trans (show (((S++⟨⟨[46]⟩⟩)++⟨⟨[110]⟩⟩):Str).length<=((n+1)+1) from (len_app (y:=[110]) (len_app (y:=[46]) hS))) (by omega)) (by omega)) [0,1,2] [3,4,5,6,7,8,9,10,11,12,13,14,15,16,17,18,19,20,21,22] U_6 tr_6 D' hR
    refine K_t ?_;rintro ⟨ss',fv',nm',T',d'',S'',at'',cur'',all'⟩ zu zn h' su fs pd;have F:=loop_fin (d:=d) (d':=(DT.fld (N_6+24) (N_6+23) S.length .n d)) (S:=S) (S':=((S++⟨⟨[46]⟩⟩)++⟨⟨[110]⟩⟩)) (s:=(Sl.f .n)) (n:=(l5 (N_6+24) (N_6+23) v_field S.length (tyNo (Fld.ty .n)) (.str (Fld.name .n) 0) [.ref d.addr])) rfl (by first | rfl | (unfold growS; rw [<- hT]; rfl)) (by simp only [app_list,List.append_assoc]; rfl) (by rw [<- hT]; rfl) pd
    cases fv' <;> (refine finD ⟨(Sl.f .n)::ss',_,nm',T',d'',S'',at'',cur'',(l5 (N_6+24) (N_6+23) v_field S.length (tyNo (Fld.ty .n)) (.str (Fld.name .n) 0) [.ref d.addr])++all'⟩ (l5 (N_6+24) (N_6+23) v_field S.length (tyNo (Fld.ty .n)) (.str (Fld.name .n) 0) [.ref d.addr]) all' [24,23] rfl ?_ rfl ?_ ?_ ?_ (su [] Sup.nil).left fs rfl F <;> kernel_rfl)
  · refine sg C_3 4000 o_bt_rc_0_0_4 ?_;intro _;have K_4:=sN s R C_3 tr_3 [(W.so,dictO (sortsL a))] (ct_dictget (sortsL a) v_m (.ref (a 20)) W.so rfl rfl) [] [3];refine K_4 ?_;intro _ _ _ _ _ _ _ _ C_4 tr_4 su_4 _ _ _;have U_4:=su_4 _ U_3;refine sg C_4 4000 o_bt_rc_0_0_5 ?_;intro _;have K_5:=sN s R C_4 tr_4 [] (ct_sadd S [46] n hS (by show n+1<=1000; omega)) [] [];refine K_5 ?_;intro _ _ _ _ _ _ _ _ C_5 tr_5 su_5 _ _ _;have U_5:=su_5 _ U_4;refine sg C_5 4000 o_bt_rc_0_0_6 ?_;intro _;have K_6:=sN s R C_5 tr_5 [] (ct_sadd (S++⟨⟨[46]⟩⟩) [109] (n+1) (len_app (y:=[46]) hS) (by show (n+1)+1<=1000; omega)) [] [];refine K_6 ?_;intro _ _ _ _ N_6 _ _ _ C_6 tr_6 su_6 _ _ _;have U_6:=su_6 _ U_5;refine sg C_6 4000 o_bt_rc_1_0_7 ?_;intro _;have K_t:=tK C_6 (loopRo a W) [(W.row,rowO l)] (IH (.v1 cur S.length) v_m (DT.fld (N_6+24) (N_6+23) S.length .m d) ((S++⟨⟨[46]⟩⟩)++⟨⟨[109]⟩⟩) (at_+1) (cur+1) .th (by first | rfl | (rw [<- hT])) rfl (Nat.le_trans (show (((S++⟨⟨[46]⟩⟩)++⟨⟨[109]⟩⟩):Str).length<=((n+1)+1) from (len_app (y:=[109]) (len_app (y:=[46]) hS))) (by omega)) (by omega)) [0,1,2] [3,4,5,6,7,8,9,10,11,12,13,14,15,16,17,18,19,20,21,22] U_6 tr_6 D' hR
    refine K_t ?_;rintro ⟨ss',fv',nm',T',d'',S'',at'',cur'',all'⟩ zu zn h' su fs pd;have F:=loop_fin (d:=d) (d':=(DT.fld (N_6+24) (N_6+23) S.length .m d)) (S:=S) (S':=((S++⟨⟨[46]⟩⟩)++⟨⟨[109]⟩⟩)) (s:=(Sl.f .m)) (n:=(l5 (N_6+24) (N_6+23) v_field S.length (tyNo (Fld.ty .m)) (.str (Fld.name .m) 0) [.ref d.addr])) rfl (by first | rfl | (unfold growS; rw [<- hT]; rfl)) (by simp only [app_list,List.append_assoc]; rfl) (by rw [<- hT]; rfl) pd
    cases fv' <;> (refine finD ⟨(Sl.f .m)::ss',_,nm',T',d'',S'',at'',cur'',(l5 (N_6+24) (N_6+23) v_field S.length (tyNo (Fld.ty .m)) (.str (Fld.name .m) 0) [.ref d.addr])++all'⟩ (l5 (N_6+24) (N_6+23) v_field S.length (tyNo (Fld.ty .m)) (.str (Fld.name .m) 0) [.ref d.addr]) all' [24,23] rfl ?_ rfl ?_ ?_ ?_ (su [] Sup.nil).left fs rfl F <;> kernel_rfl)
  · refine sg C_3 4000 o_bt_rc_0_0_4 ?_;intro _;have K_4:=sN s R C_3 tr_3 [(W.so,dictO (sortsL a))] (ct_dictget (sortsL a) v_q (.ref (a 35)) W.so rfl rfl) [] [3];refine K_4 ?_;intro _ _ _ _ _ _ _ _ C_4 tr_4 su_4 _ _ _;have U_4:=su_4 _ U_3;refine sg C_4 4000 o_bt_rc_0_0_5 ?_;intro _;have K_5:=sN s R C_4 tr_4 [] (ct_sadd S [46] n hS (by show n+1<=1000; omega)) [] [];refine K_5 ?_;intro _ _ _ _ _ _ _ _ C_5 tr_5 su_5 _ _ _;have U_5:=su_5 _ U_4;refine sg C_5 4000 o_bt_rc_0_0_6 ?_;intro _;have K_6:=sN s R C_5 tr_5 [] (ct_sadd (S++⟨⟨[46]⟩⟩) [113] (n+1) (len_app (y:=[46]) hS) (by show (n+1)+1<=1000; omega)) [] [];refine K_6 ?_;intro _ _ _ _ N_6 _ _ _ C_6 tr_6 su_6 _ _ _;have U_6:=su_6 _ U_5;refine sg C_6 4000 o_bt_rc_2_0_7 ?_;intro _;have K_t:=tK C_6 (loopRo a W) [(W.row,rowO l)] (IH (.v1 cur S.length) v_q (DT.fld (N_6+24) (N_6+23) S.length .q d) ((S++⟨⟨[46]⟩⟩)++⟨⟨[113]⟩⟩) (at_+1) (cur+1) .pt (by first | rfl | (rw [<- hT])) rfl (Nat.le_trans (show (((S++⟨⟨[46]⟩⟩)++⟨⟨[113]⟩⟩):Str).length<=((n+1)+1) from (len_app (y:=[113]) (len_app (y:=[46]) hS))) (by omega)) (by omega)) [0,1,2] [3,4,5,6,7,8,9,10,11,12,13,14,15,16,17,18,19,20,21,22] U_6 tr_6 D' hR
    refine K_t ?_;rintro ⟨ss',fv',nm',T',d'',S'',at'',cur'',all'⟩ zu zn h' su fs pd;have F:=loop_fin (d:=d) (d':=(DT.fld (N_6+24) (N_6+23) S.length .q d)) (S:=S) (S':=((S++⟨⟨[46]⟩⟩)++⟨⟨[113]⟩⟩)) (s:=(Sl.f .q)) (n:=(l5 (N_6+24) (N_6+23) v_field S.length (tyNo (Fld.ty .q)) (.str (Fld.name .q) 0) [.ref d.addr])) rfl (by first | rfl | (unfold growS; rw [<- hT]; rfl)) (by simp only [app_list,List.append_assoc]; rfl) (by rw [<- hT]; rfl) pd
    cases fv' <;> (refine finD ⟨(Sl.f .q)::ss',_,nm',T',d'',S'',at'',cur'',(l5 (N_6+24) (N_6+23) v_field S.length (tyNo (Fld.ty .q)) (.str (Fld.name .q) 0) [.ref d.addr])++all'⟩ (l5 (N_6+24) (N_6+23) v_field S.length (tyNo (Fld.ty .q)) (.str (Fld.name .q) 0) [.ref d.addr]) all' [24,23] rfl ?_ rfl ?_ ?_ ?_ (su [] Sup.nil).left fs rfl F <;> kernel_rfl)
theorem bt_rc_2 {w:World} {b1 b2 b3:Bool} (hP:Rows w b1 b2 b3) (a:Nat->Nat) (W:LW) (l:List Int) (hl:l.length < 100) (L it:Nat) (go sp fg:Nat) (nm:Str) (d:DT) (S:Str) (at_ cur rem:Nat) (hT:.rc=d.sh.ty) (hr:rem < 7) (n:Nat) (hn:n<=900) (hS:S.length<=n) (ha:at_ < 90)
    (IH:∀ (fv:FV) (nm:Str) (d':DT) (S':Str) (at' cur':Nat) (T':Ty),T' = d'.sh.ty->fvOk fv T' = true->S'.length<=n+6->at' <= at_+3->LoopC w a W l L it T' fv nm d' S' at' cur' rem):LoopC w a W l L it .rc (.v2 go sp fg) nm d S at_ cur (rem+1):=by
  refine ct_start (tx:=tx0) (pre:=[(L,lawFr a W nm (tyA a .rc) d.addr S (.v2 go sp fg)),(W.st,stO W.row at_),(it,rItO cur (rem+1))]) (ro:=loopRo a W) (sup:=[(W.row,rowO l)]) hP tx0_ok (by decide) fun A' s R zs ta' N C U D' hR=>?_;refine sg C 4000 o_bt_rc_0_0_1 ?_;intro _;have K_1:=sN s R C trId [] (ct_next hP it cur rem hr) [2] [];refine K_1 ?_;intro _ _ _ _ _ _ _ _ C_1 tr_1 su_1 _ _ _;have U_1:=su_1 _ U;refine sg C_1 4000 o_bt_rc_0_0_2 ?_;intro _;have K_2:=sN s R C_1 tr_1 [] (ct_slen S n hS (by omega)) [] [];refine K_2 ?_;intro _ _ _ _ _ _ _ _ C_2 tr_2 su_2 _ _ _;have U_2:=su_2 _ U_1;refine sg C_2 4000 o_bt_rc_0_0_3 ?_;intro _;have K_3:=sK s R C_2 tr_2 [] [(W.row,rowO l)] (tk_call hP W.st W.row l hl at_ 3 (by omega) (by decide) (by decide)) [1] [] U_2;refine K_3 ?_;intro b_3 _ _ _ _ _ _ _ C_3 tr_3 su_3 _ pd_3 _;have U_3:=su_3 _ U_2;rcases lt3 pd_3 with rfl | rfl | rfl
  · refine sg C_3 4000 o_bt_rc_0_0_4 ?_;intro _;have K_4:=sN s R C_3 tr_3 [(W.so,dictO (sortsL a))] (ct_dictget (sortsL a) v_n (.ref (a 15)) W.so rfl rfl) [] [3];refine K_4 ?_;intro _ _ _ _ _ _ _ _ C_4 tr_4 su_4 _ _ _;have U_4:=su_4 _ U_3;refine sg C_4 4000 o_bt_rc_0_0_5 ?_;intro _;have K_5:=sN s R C_4 tr_4 [] (ct_sadd S [46] n hS (by show n+1<=1000; omega)) [] [];refine K_5 ?_;intro _ _ _ _ _ _ _ _ C_5 tr_5 su_5 _ _ _;have U_5:=su_5 _ U_4;refine sg C_5 4000 o_bt_rc_0_0_6 ?_;intro _;have K_6:=sN s R C_5 tr_5 [] (ct_sadd (S++⟨⟨[46]⟩⟩) [110] (n+1) (len_app (y:=[46]) hS) (by show (n+1)+1<=1000; omega)) [] [];refine K_6 ?_;intro _ _ _ _ N_6 _ _ _ C_6 tr_6 su_6 _ _ _;have U_6:=su_6 _ U_5;refine sg C_6 4000 o_bt_rc_0_0_7 ?_;intro _;have K_t:=tK C_6 (loopRo a W) [(W.row,rowO l)] (IH (.v2 cur S.length fg) v_n (DT.fld (N_6+24) (N_6+23) S.length .n d) ((S++⟨⟨[46]⟩⟩)++⟨⟨[110]⟩⟩) (at_+1) (cur+1) .it (by first | rfl | (rw [<- hT])) rfl (Nat.le_trans (show (((S++⟨⟨[46]⟩⟩)++⟨⟨[110]⟩⟩):Str).length<=((n+1)+1) from (len_app (y:=[110]) (len_app (y:=[46]) hS))) (by omega)) (by omega)) [0,1,2] [3,4,5,6,7,8,9,10,11,12,13,14,15,16,17,18,19,20,21,22] U_6 tr_6 D' hR
    refine K_t ?_;rintro ⟨ss',fv',nm',T',d'',S'',at'',cur'',all'⟩ zu zn h' su fs pd;have F:=loop_fin (d:=d) (d':=(DT.fld (N_6+24) (N_6+23) S.length .n d)) (S:=S) (S':=((S++⟨⟨[46]⟩⟩)++⟨⟨[110]⟩⟩)) (s:=(Sl.f .n)) (n:=(l5 (N_6+24) (N_6+23) v_field S.length (tyNo (Fld.ty .n)) (.str (Fld.name .n) 0) [.ref d.addr])) rfl (by first | rfl | (unfold growS; rw [<- hT]; rfl)) (by simp only [app_list,List.append_assoc]; rfl) (by rw [<- hT]; rfl) pd
    cases fv' <;> (refine finD ⟨(Sl.f .n)::ss',_,nm',T',d'',S'',at'',cur'',(l5 (N_6+24) (N_6+23) v_field S.length (tyNo (Fld.ty .n)) (.str (Fld.name .n) 0) [.ref d.addr])++all'⟩ (l5 (N_6+24) (N_6+23) v_field S.length (tyNo (Fld.ty .n)) (.str (Fld.name .n) 0) [.ref d.addr]) all' [24,23] rfl ?_ rfl ?_ ?_ ?_ (su [] Sup.nil).left fs rfl F <;> kernel_rfl)
  · refine sg C_3 4000 o_bt_rc_0_0_4 ?_;intro _;have K_4:=sN s R C_3 tr_3 [(W.so,dictO (sortsL a))] (ct_dictget (sortsL a) v_m (.ref (a 20)) W.so rfl rfl) [] [3];refine K_4 ?_;intro _ _ _ _ _ _ _ _ C_4 tr_4 su_4 _ _ _;have U_4:=su_4 _ U_3;refine sg C_4 4000 o_bt_rc_0_0_5 ?_;intro _;have K_5:=sN s R C_4 tr_4 [] (ct_sadd S [46] n hS (by show n+1<=1000; omega)) [] [];refine K_5 ?_;intro _ _ _ _ _ _ _ _ C_5 tr_5 su_5 _ _ _;have U_5:=su_5 _ U_4;refine sg C_5 4000 o_bt_rc_0_0_6 ?_;intro _;have K_6:=sN s R C_5 tr_5 [] (ct_sadd (S++⟨⟨[46]⟩⟩) [109] (n+1) (len_app (y:=[46]) hS) (by show (n+1)+1<=1000; omega)) [] [];refine K_6 ?_;intro _ _ _ _ N_6 _ _ _ C_6 tr_6 su_6 _ _ _;have U_6:=su_6 _ U_5;refine sg C_6 4000 o_bt_rc_1_0_7 ?_;intro _;have K_t:=tK C_6 (loopRo a W) [(W.row,rowO l)] (IH (.v2 cur S.length fg) v_m (DT.fld (N_6+24) (N_6+23) S.length .m d) ((S++⟨⟨[46]⟩⟩)++⟨⟨[109]⟩⟩) (at_+1) (cur+1) .th (by first | rfl | (rw [<- hT])) rfl (Nat.le_trans (show (((S++⟨⟨[46]⟩⟩)++⟨⟨[109]⟩⟩):Str).length<=((n+1)+1) from (len_app (y:=[109]) (len_app (y:=[46]) hS))) (by omega)) (by omega)) [0,1,2] [3,4,5,6,7,8,9,10,11,12,13,14,15,16,17,18,19,20,21,22] U_6 tr_6 D' hR
    refine K_t ?_;rintro ⟨ss',fv',nm',T',d'',S'',at'',cur'',all'⟩ zu zn h' su fs pd;have F:=loop_fin (d:=d) (d':=(DT.fld (N_6+24) (N_6+23) S.length .m d)) (S:=S) (S':=((S++⟨⟨[46]⟩⟩)++⟨⟨[109]⟩⟩)) (s:=(Sl.f .m)) (n:=(l5 (N_6+24) (N_6+23) v_field S.length (tyNo (Fld.ty .m)) (.str (Fld.name .m) 0) [.ref d.addr])) rfl (by first | rfl | (unfold growS; rw [<- hT]; rfl)) (by simp only [app_list,List.append_assoc]; rfl) (by rw [<- hT]; rfl) pd
    cases fv' <;> (refine finD ⟨(Sl.f .m)::ss',_,nm',T',d'',S'',at'',cur'',(l5 (N_6+24) (N_6+23) v_field S.length (tyNo (Fld.ty .m)) (.str (Fld.name .m) 0) [.ref d.addr])++all'⟩ (l5 (N_6+24) (N_6+23) v_field S.length (tyNo (Fld.ty .m)) (.str (Fld.name .m) 0) [.ref d.addr]) all' [24,23] rfl ?_ rfl ?_ ?_ ?_ (su [] Sup.nil).left fs rfl F <;> kernel_rfl)
  · refine sg C_3 4000 o_bt_rc_0_0_4 ?_;intro _;have K_4:=sN s R C_3 tr_3 [(W.so,dictO (sortsL a))] (ct_dictget (sortsL a) v_q (.ref (a 35)) W.so rfl rfl) [] [3];refine K_4 ?_;intro _ _ _ _ _ _ _ _ C_4 tr_4 su_4 _ _ _;have U_4:=su_4 _ U_3;refine sg C_4 4000 o_bt_rc_0_0_5 ?_;intro _;have K_5:=sN s R C_4 tr_4 [] (ct_sadd S [46] n hS (by show n+1<=1000; omega)) [] [];refine K_5 ?_;intro _ _ _ _ _ _ _ _ C_5 tr_5 su_5 _ _ _;have U_5:=su_5 _ U_4;refine sg C_5 4000 o_bt_rc_0_0_6 ?_;intro _;have K_6:=sN s R C_5 tr_5 [] (ct_sadd (S++⟨⟨[46]⟩⟩) [113] (n+1) (len_app (y:=[46]) hS) (by show (n+1)+1<=1000; omega)) [] [];refine K_6 ?_;intro _ _ _ _ N_6 _ _ _ C_6 tr_6 su_6 _ _ _;have U_6:=su_6 _ U_5;refine sg C_6 4000 o_bt_rc_2_0_7 ?_;intro _;have K_t:=tK C_6 (loopRo a W) [(W.row,rowO l)] (IH (.v2 cur S.length fg) v_q (DT.fld (N_6+24) (N_6+23) S.length .q d) ((S++⟨⟨[46]⟩⟩)++⟨⟨[113]⟩⟩) (at_+1) (cur+1) .pt (by first | rfl | (rw [<- hT])) rfl (Nat.le_trans (show (((S++⟨⟨[46]⟩⟩)++⟨⟨[113]⟩⟩):Str).length<=((n+1)+1) from (len_app (y:=[113]) (len_app (y:=[46]) hS))) (by omega)) (by omega)) [0,1,2] [3,4,5,6,7,8,9,10,11,12,13,14,15,16,17,18,19,20,21,22] U_6 tr_6 D' hR
    refine K_t ?_;rintro ⟨ss',fv',nm',T',d'',S'',at'',cur'',all'⟩ zu zn h' su fs pd;have F:=loop_fin (d:=d) (d':=(DT.fld (N_6+24) (N_6+23) S.length .q d)) (S:=S) (S':=((S++⟨⟨[46]⟩⟩)++⟨⟨[113]⟩⟩)) (s:=(Sl.f .q)) (n:=(l5 (N_6+24) (N_6+23) v_field S.length (tyNo (Fld.ty .q)) (.str (Fld.name .q) 0) [.ref d.addr])) rfl (by first | rfl | (unfold growS; rw [<- hT]; rfl)) (by simp only [app_list,List.append_assoc]; rfl) (by rw [<- hT]; rfl) pd
    cases fv' <;> (refine finD ⟨(Sl.f .q)::ss',_,nm',T',d'',S'',at'',cur'',(l5 (N_6+24) (N_6+23) v_field S.length (tyNo (Fld.ty .q)) (.str (Fld.name .q) 0) [.ref d.addr])++all'⟩ (l5 (N_6+24) (N_6+23) v_field S.length (tyNo (Fld.ty .q)) (.str (Fld.name .q) 0) [.ref d.addr]) all' [24,23] rfl ?_ rfl ?_ ?_ ?_ (su [] Sup.nil).left fs rfl F <;> kernel_rfl)
noncomputable def o_bt_pt_00_0_1:List Nat:=[0,3]
noncomputable def o_bt_pt_00_0_2:List Nat:=[1,1,0,0,1]
noncomputable def o_bt_pt_00_0_3:List Nat:=[1,1,1,15,0,0,0,0,15,0,0,0,15,15,0,16,0,1,15,0,0,0,0,15,0,0,0,15,15,0,16,0,0,1,0]
noncomputable def o_bt_pt_00_0_4:List Nat:=[0,0,1,0]
noncomputable def o_bt_pt_00_0_5:List Nat:=[0,1,1,1,15,0,0,0,0,15,0,0,0,15,15,0,16,0,1,1,13,0,0,0,0,13,0,0,0,13,13,0,14,1,1,1,1,1,4,4,4]
noncomputable def o_bt_pt_00_0_6:List Nat:=[1,1,1]
noncomputable def o_bt_pt_00_0_7:List Nat:=[1]
noncomputable def o_bt_pt_00_0_8:List Nat:=[1,1,1,1,7,0,0,0,0,7,0,0,0,7,7,0,8,1,1,1,1]
noncomputable def o_bt_pt_01_0_8:List Nat:=[1,1,1,1,9,0,0,0,0,9,0,0,0,9,9,0,10,1,1,1,1]
noncomputable def o_bt_pt_02_0_8:List Nat:=[1,1,1,1,15,0,0,0,0,15,0,0,0,15,15,0,16,1,1,1,1]
noncomputable def o_bt_pt_10_0_4:List Nat:=[0,1,15,0,0,0,0,15,0,0,0,15,15,0,16,0,0,1,0]
noncomputable def o_bt_pt_10_0_5:List Nat:=[0,1]
noncomputable def o_bt_pt_10_0_6:List Nat:=[1,1,1,1,1,1,1,13,0,0,0,0,13,0,0,0,13,13,0,14,1,1,1]
noncomputable def o_bt_pt_11_0_5:List Nat:=[0,1,15,0,0,0,0,15,0,0,0,15,15,0,16,0,1]
noncomputable def o_bt_pt_11_0_6:List Nat:=[1,1,1,1,15,0,0,0,0,15,0,0,0,15,15,0,16,1,15,0,0,0,0,15,0,0,0,15,15,0,16,1,1,1]
theorem bt_pt_0 {w:World} {b1 b2 b3:Bool} (hP:Rows w b1 b2 b3) (a:Nat->Nat) (W:LW) (l:List Int) (hl:l.length < 100) (L it:Nat) (nm:Str) (d:DT) (S:Str) (at_ cur rem:Nat) (hT:.pt=d.sh.ty) (hr:rem < 7) (n:Nat) (hn:n<=900) (hS:S.length<=n) (ha:at_ < 90)
    (IH:∀ (fv:FV) (nm:Str) (d':DT) (S':Str) (at' cur':Nat) (T':Ty),T' = d'.sh.ty->fvOk fv T' = true->S'.length<=n+6->at' <= at_+3->LoopC w a W l L it T' fv nm d' S' at' cur' rem):LoopC w a W l L it .pt .v0 nm d S at_ cur (rem+1):=by
  refine ct_start (tx:=tx0) (pre:=[(L,lawFr a W nm (tyA a .pt) d.addr S .v0),(W.st,stO W.row at_),(it,rItO cur (rem+1))]) (ro:=loopRo a W) (sup:=[(W.row,rowO l)]) hP tx0_ok (by decide) fun A' s R zs ta' N C U D' hR=>?_;refine sg C 4000 o_bt_pt_00_0_1 ?_;intro _;have K_1:=sN s R C trId [] (ct_next hP it cur rem hr) [2] [];refine K_1 ?_;intro _ _ _ _ _ _ _ _ C_1 tr_1 su_1 _ _ _;have U_1:=su_1 _ U;refine sg C_1 4000 o_bt_pt_00_0_2 ?_;intro _;have K_2:=sN s R C_1 tr_1 [] (ct_slen S n hS (by omega)) [] [];refine K_2 ?_;intro _ _ _ _ _ _ _ _ C_2 tr_2 su_2 _ _ _;have U_2:=su_2 _ U_1;refine sg C_2 4000 o_bt_pt_00_0_3 ?_;intro _;have K_3:=sK s R C_2 tr_2 [] [(W.row,rowO l)] (tk_call hP W.st W.row l hl at_ 3 (by omega) (by decide) (by decide)) [1] [] U_2;refine K_3 ?_;intro b_3 _ _ _ _ _ _ _ C_3 tr_3 su_3 _ pd_3 _;have U_3:=su_3 _ U_2;rcases lt3 pd_3 with rfl | rfl | rfl
  · refine sg C_3 4000 o_bt_pt_00_0_4 ?_;intro _;have K_4:=sK s R C_3 tr_3 [] [(W.row,rowO l)] (tk_call hP W.st W.row l hl (at_+1) 3 (by omega) (by decide) (by decide)) [1] [] U_3;refine K_4 ?_;intro b_4 _ _ _ N_4 _ _ _ C_4 tr_4 su_4 _ pd_4 _;have U_4:=su_4 _ U_3;rcases lt3 pd_4 with rfl | rfl | rfl
    · refine sg C_4 4000 o_bt_pt_00_0_5 ?_;intro _;have K_5:=sN s R C_4 tr_4 [(W.so,dictO (sortsL a))] (ct_dictget (sortsL a) v_n (.ref (a 15)) W.so rfl rfl) [] [3];refine K_5 ?_;intro _ _ _ _ N_5 _ _ _ C_5 tr_5 su_5 _ _ _;have U_5:=su_5 _ U_4;refine sg C_5 4000 o_bt_pt_00_0_6 ?_;intro _;have K_6:=sN s R C_5 tr_5 [] (ct_sadd S [46] n hS (by show n+1<=1000; omega)) [] [];refine K_6 ?_;intro _ _ _ _ _ _ _ _ C_6 tr_6 su_6 _ _ _;have U_6:=su_6 _ U_5;refine sg C_6 4000 o_bt_pt_00_0_7 ?_;intro _;have K_7:=sN s R C_6 tr_6 [] (ct_sadd (S++⟨⟨[46]⟩⟩) [110] (n+1) (len_app (y:=[46]) hS) (by show (n+1)+1<=1000; omega)) [] [];refine K_7 ?_;intro _ _ _ _ N_7 _ _ _ C_7 tr_7 su_7 _ _ _;have U_7:=su_7 _ U_6;refine sg C_7 4000 o_bt_pt_00_0_8 ?_;intro _;have K_t:=tK C_7 (loopRo a W) [(W.row,rowO l)] (IH (.v1 cur S.length) v_n (DT.fld (N_7+26) (N_7+25) S.length .n (DT.drf (N_4+24) (N_4+23) S.length d)) ((S++⟨⟨[46]⟩⟩)++⟨⟨[110]⟩⟩) ((at_+1)+1) (cur+1) .it (by first | rfl | (rw [<- hT])) rfl (Nat.le_trans (show (((S++⟨⟨[46]⟩⟩)++⟨⟨[110]⟩⟩):Str).length<=((n+1)+1) from (len_app (y:=[110]) (len_app (y:=[46]) hS))) (by omega)) (by omega)) [0,1,2] [3,4,5,6,7,8,9,10,11,12,13,14,15,16,17,18,19,20,21,22] U_7 tr_7 D' hR
      refine K_t ?_;rintro ⟨ss',fv',nm',T',d'',S'',at'',cur'',all'⟩ zu zn h' su fs pd;have F:=loop_fin (d:=d) (d':=(DT.fld (N_7+26) (N_7+25) S.length .n (DT.drf (N_4+24) (N_4+23) S.length d))) (S:=S) (S':=((S++⟨⟨[46]⟩⟩)++⟨⟨[110]⟩⟩)) (s:=(Sl.f .n)) (n:=(l5 (N_7+26) (N_7+25) v_field S.length (tyNo (Fld.ty .n)) (.str (Fld.name .n) 0) [.ref (N_4+24)]++l5 (N_4+24) (N_4+23) v_deref S.length 8 .none [.ref d.addr])) rfl (by first | rfl | (unfold growS; rw [<- hT]; rfl)) (by simp only [app_list,List.append_assoc]; rfl) (by rw [<- hT]; rfl) pd
      cases fv' <;> (refine finD ⟨(Sl.f .n)::ss',_,nm',T',d'',S'',at'',cur'',(l5 (N_7+26) (N_7+25) v_field S.length (tyNo (Fld.ty .n)) (.str (Fld.name .n) 0) [.ref (N_4+24)]++l5 (N_4+24) (N_4+23) v_deref S.length 8 .none [.ref d.addr])++all'⟩ (l5 (N_7+26) (N_7+25) v_field S.length (tyNo (Fld.ty .n)) (.str (Fld.name .n) 0) [.ref (N_4+24)]++l5 (N_4+24) (N_4+23) v_deref S.length 8 .none [.ref d.addr]) all' [26,25,24,23] rfl ?_ rfl ?_ ?_ ?_ (su [] Sup.nil).left fs rfl F <;> kernel_rfl)
    · refine sg C_4 4000 o_bt_pt_00_0_5 ?_;intro _;have K_5:=sN s R C_4 tr_4 [(W.so,dictO (sortsL a))] (ct_dictget (sortsL a) v_m (.ref (a 20)) W.so rfl rfl) [] [3];refine K_5 ?_;intro _ _ _ _ N_5 _ _ _ C_5 tr_5 su_5 _ _ _;have U_5:=su_5 _ U_4;refine sg C_5 4000 o_bt_pt_00_0_6 ?_;intro _;have K_6:=sN s R C_5 tr_5 [] (ct_sadd S [46] n hS (by show n+1<=1000; omega)) [] [];refine K_6 ?_;intro _ _ _ _ _ _ _ _ C_6 tr_6 su_6 _ _ _;have U_6:=su_6 _ U_5;refine sg C_6 4000 o_bt_pt_00_0_7 ?_;intro _;have K_7:=sN s R C_6 tr_6 [] (ct_sadd (S++⟨⟨[46]⟩⟩) [109] (n+1) (len_app (y:=[46]) hS) (by show (n+1)+1<=1000; omega)) [] [];refine K_7 ?_;intro _ _ _ _ N_7 _ _ _ C_7 tr_7 su_7 _ _ _;have U_7:=su_7 _ U_6;refine sg C_7 4000 o_bt_pt_01_0_8 ?_;intro _;have K_t:=tK C_7 (loopRo a W) [(W.row,rowO l)] (IH (.v1 cur S.length) v_m (DT.fld (N_7+26) (N_7+25) S.length .m (DT.drf (N_4+24) (N_4+23) S.length d)) ((S++⟨⟨[46]⟩⟩)++⟨⟨[109]⟩⟩) ((at_+1)+1) (cur+1) .th (by first | rfl | (rw [<- hT])) rfl (Nat.le_trans (show (((S++⟨⟨[46]⟩⟩)++⟨⟨[109]⟩⟩):Str).length<=((n+1)+1) from (len_app (y:=[109]) (len_app (y:=[46]) hS))) (by omega)) (by omega)) [0,1,2] [3,4,5,6,7,8,9,10,11,12,13,14,15,16,17,18,19,20,21,22] U_7 tr_7 D' hR
      refine K_t ?_;rintro ⟨ss',fv',nm',T',d'',S'',at'',cur'',all'⟩ zu zn h' su fs pd;have F:=loop_fin (d:=d) (d':=(DT.fld (N_7+26) (N_7+25) S.length .m (DT.drf (N_4+24) (N_4+23) S.length d))) (S:=S) (S':=((S++⟨⟨[46]⟩⟩)++⟨⟨[109]⟩⟩)) (s:=(Sl.f .m)) (n:=(l5 (N_7+26) (N_7+25) v_field S.length (tyNo (Fld.ty .m)) (.str (Fld.name .m) 0) [.ref (N_4+24)]++l5 (N_4+24) (N_4+23) v_deref S.length 8 .none [.ref d.addr])) rfl (by first | rfl | (unfold growS; rw [<- hT]; rfl)) (by simp only [app_list,List.append_assoc]; rfl) (by rw [<- hT]; rfl) pd
      cases fv' <;> (refine finD ⟨(Sl.f .m)::ss',_,nm',T',d'',S'',at'',cur'',(l5 (N_7+26) (N_7+25) v_field S.length (tyNo (Fld.ty .m)) (.str (Fld.name .m) 0) [.ref (N_4+24)]++l5 (N_4+24) (N_4+23) v_deref S.length 8 .none [.ref d.addr])++all'⟩ (l5 (N_7+26) (N_7+25) v_field S.length (tyNo (Fld.ty .m)) (.str (Fld.name .m) 0) [.ref (N_4+24)]++l5 (N_4+24) (N_4+23) v_deref S.length 8 .none [.ref d.addr]) all' [26,25,24,23] rfl ?_ rfl ?_ ?_ ?_ (su [] Sup.nil).left fs rfl F <;> kernel_rfl)
    · refine sg C_4 4000 o_bt_pt_00_0_5 ?_;intro _;have K_5:=sN s R C_4 tr_4 [(W.so,dictO (sortsL a))] (ct_dictget (sortsL a) v_q (.ref (a 35)) W.so rfl rfl) [] [3];refine K_5 ?_;intro _ _ _ _ N_5 _ _ _ C_5 tr_5 su_5 _ _ _;have U_5:=su_5 _ U_4;refine sg C_5 4000 o_bt_pt_00_0_6 ?_;intro _;have K_6:=sN s R C_5 tr_5 [] (ct_sadd S [46] n hS (by show n+1<=1000; omega)) [] [];refine K_6 ?_;intro _ _ _ _ _ _ _ _ C_6 tr_6 su_6 _ _ _;have U_6:=su_6 _ U_5;refine sg C_6 4000 o_bt_pt_00_0_7 ?_;intro _;have K_7:=sN s R C_6 tr_6 [] (ct_sadd (S++⟨⟨[46]⟩⟩) [113] (n+1) (len_app (y:=[46]) hS) (by show (n+1)+1<=1000; omega)) [] [];refine K_7 ?_;intro _ _ _ _ N_7 _ _ _ C_7 tr_7 su_7 _ _ _;have U_7:=su_7 _ U_6;refine sg C_7 4000 o_bt_pt_02_0_8 ?_;intro _;have K_t:=tK C_7 (loopRo a W) [(W.row,rowO l)] (IH (.v1 cur S.length) v_q (DT.fld (N_7+26) (N_7+25) S.length .q (DT.drf (N_4+24) (N_4+23) S.length d)) ((S++⟨⟨[46]⟩⟩)++⟨⟨[113]⟩⟩) ((at_+1)+1) (cur+1) .pt (by first | rfl | (rw [<- hT])) rfl (Nat.le_trans (show (((S++⟨⟨[46]⟩⟩)++⟨⟨[113]⟩⟩):Str).length<=((n+1)+1) from (len_app (y:=[113]) (len_app (y:=[46]) hS))) (by omega)) (by omega)) [0,1,2] [3,4,5,6,7,8,9,10,11,12,13,14,15,16,17,18,19,20,21,22] U_7 tr_7 D' hR
      refine K_t ?_;rintro ⟨ss',fv',nm',T',d'',S'',at'',cur'',all'⟩ zu zn h' su fs pd;have F:=loop_fin (d:=d) (d':=(DT.fld (N_7+26) (N_7+25) S.length .q (DT.drf (N_4+24) (N_4+23) S.length d))) (S:=S) (S':=((S++⟨⟨[46]⟩⟩)++⟨⟨[113]⟩⟩)) (s:=(Sl.f .q)) (n:=(l5 (N_7+26) (N_7+25) v_field S.length (tyNo (Fld.ty .q)) (.str (Fld.name .q) 0) [.ref (N_4+24)]++l5 (N_4+24) (N_4+23) v_deref S.length 8 .none [.ref d.addr])) rfl (by first | rfl | (unfold growS; rw [<- hT]; rfl)) (by simp only [app_list,List.append_assoc]; rfl) (by rw [<- hT]; rfl) pd
      cases fv' <;> (refine finD ⟨(Sl.f .q)::ss',_,nm',T',d'',S'',at'',cur'',(l5 (N_7+26) (N_7+25) v_field S.length (tyNo (Fld.ty .q)) (.str (Fld.name .q) 0) [.ref (N_4+24)]++l5 (N_4+24) (N_4+23) v_deref S.length 8 .none [.ref d.addr])++all'⟩ (l5 (N_7+26) (N_7+25) v_field S.length (tyNo (Fld.ty .q)) (.str (Fld.name .q) 0) [.ref (N_4+24)]++l5 (N_4+24) (N_4+23) v_deref S.length 8 .none [.ref d.addr]) all' [26,25,24,23] rfl ?_ rfl ?_ ?_ ?_ (su [] Sup.nil).left fs rfl F <;> kernel_rfl)
  · refine sg C_3 4000 o_bt_pt_10_0_4 ?_;intro _;have K_4:=sK s R C_3 tr_3 [] [(W.row,rowO l)] (tk_call hP W.st W.row l hl (at_+1) 2 (by omega) (by decide) (by decide)) [1] [] U_3;refine K_4 ?_;intro b_4 _ _ _ N_4 _ _ _ C_4 tr_4 su_4 _ pd_4 _;have U_4:=su_4 _ U_3;rcases lt2 pd_4 with rfl | rfl
    · refine sg C_4 4000 o_bt_pt_10_0_5 ?_;intro _;have K_5:=sN s R C_4 tr_4 [] (ct_sadd S [94,32] n hS (by show n+2<=1000; omega)) [] [];refine K_5 ?_;intro _ _ _ _ N_5 _ _ _ C_5 tr_5 su_5 _ _ _;have U_5:=su_5 _ U_4;refine sg C_5 4000 o_bt_pt_10_0_6 ?_;intro _;have K_t:=tK C_5 (loopRo a W) [(W.row,rowO l)] (IH (.v1 cur S.length) nm (DT.drf (N_5+24) (N_5+23) S.length d) (S++⟨⟨[94,32]⟩⟩) ((at_+1)+1) (cur+1) .rc (by first | rfl | (rw [<- hT])) rfl (Nat.le_trans (show ((S++⟨⟨[94,32]⟩⟩):Str).length<=(n+2) from (len_app (y:=[94,32]) hS)) (by omega)) (by omega)) [0,1,2] [3,4,5,6,7,8,9,10,11,12,13,14,15,16,17,18,19,20,21,22] U_5 tr_5 D' hR
      refine K_t ?_;rintro ⟨ss',fv',nm',T',d'',S'',at'',cur'',all'⟩ zu zn h' su fs pd;have F:=loop_fin (d:=d) (d':=(DT.drf (N_5+24) (N_5+23) S.length d)) (S:=S) (S':=(S++⟨⟨[94,32]⟩⟩)) (s:=Sl.h) (n:=(l5 (N_5+24) (N_5+23) v_deref S.length 8 .none [.ref d.addr])) rfl (by first | rfl | (unfold growS; rw [<- hT]; rfl)) (by simp only [app_list,List.append_assoc]; rfl) (by rw [<- hT]; rfl) pd
      cases fv' <;> (refine finD ⟨Sl.h::ss',_,nm',T',d'',S'',at'',cur'',(l5 (N_5+24) (N_5+23) v_deref S.length 8 .none [.ref d.addr])++all'⟩ (l5 (N_5+24) (N_5+23) v_deref S.length 8 .none [.ref d.addr]) all' [24,23] rfl ?_ rfl ?_ ?_ ?_ (su [] Sup.nil).left fs rfl F <;> kernel_rfl)
    · refine sg C_4 4000 o_bt_pt_11_0_5 ?_;intro _;have K_5:=sN s R C_4 tr_4 [] (ct_sadd S [40,80,41] n hS (by show n+3<=1000; omega)) [] [];refine K_5 ?_;intro _ _ _ _ N_5 _ _ _ C_5 tr_5 su_5 _ _ _;have U_5:=su_5 _ U_4;refine sg C_5 4000 o_bt_pt_11_0_6 ?_;intro _;have K_t:=tK C_5 (loopRo a W) [(W.row,rowO l)] (IH (.v1 cur S.length) nm (DT.grd (N_5+24) (N_5+23) S.length d) (S++⟨⟨[40,80,41]⟩⟩) ((at_+1)+1) (cur+1) .pt (by first | rfl | (rw [<- hT])) rfl (Nat.le_trans (show ((S++⟨⟨[40,80,41]⟩⟩):Str).length<=(n+3) from (len_app (y:=[40,80,41]) hS)) (by omega)) (by omega)) [0,1,2] [3,4,5,6,7,8,9,10,11,12,13,14,15,16,17,18,19,20,21,22] U_5 tr_5 D' hR
      refine K_t ?_;rintro ⟨ss',fv',nm',T',d'',S'',at'',cur'',all'⟩ zu zn h' su fs pd;have F:=loop_fin (d:=d) (d':=(DT.grd (N_5+24) (N_5+23) S.length d)) (S:=S) (S':=(S++⟨⟨[40,80,41]⟩⟩)) (s:=Sl.g) (n:=(l5 (N_5+24) (N_5+23) v_guard S.length 9 (.int 9 0) [.ref d.addr])) rfl (by first | rfl | (unfold growS; rw [<- hT]; rfl)) (by simp only [app_list,List.append_assoc]; rfl) (by rw [<- hT]; rfl) pd
      cases fv' <;> (refine finD ⟨Sl.g::ss',_,nm',T',d'',S'',at'',cur'',(l5 (N_5+24) (N_5+23) v_guard S.length 9 (.int 9 0) [.ref d.addr])++all'⟩ (l5 (N_5+24) (N_5+23) v_guard S.length 9 (.int 9 0) [.ref d.addr]) all' [24,23] rfl ?_ rfl ?_ ?_ ?_ (su [] Sup.nil).left fs rfl F <;> kernel_rfl)
  · refine sg C_3 4000 o_bt_pt_10_0_4 ?_;intro _;have K_4:=sK s R C_3 tr_3 [] [(W.row,rowO l)] (tk_call hP W.st W.row l hl (at_+1) 2 (by omega) (by decide) (by decide)) [1] [] U_3;refine K_4 ?_;intro b_4 _ _ _ N_4 _ _ _ C_4 tr_4 su_4 _ pd_4 _;have U_4:=su_4 _ U_3;rcases lt2 pd_4 with rfl | rfl
    · refine sg C_4 4000 o_bt_pt_10_0_5 ?_;intro _;have K_5:=sN s R C_4 tr_4 [] (ct_sadd S [94,32] n hS (by show n+2<=1000; omega)) [] [];refine K_5 ?_;intro _ _ _ _ N_5 _ _ _ C_5 tr_5 su_5 _ _ _;have U_5:=su_5 _ U_4;refine sg C_5 4000 o_bt_pt_10_0_6 ?_;intro _;have K_t:=tK C_5 (loopRo a W) [(W.row,rowO l)] (IH (.v1 cur S.length) nm (DT.drf (N_5+24) (N_5+23) S.length d) (S++⟨⟨[94,32]⟩⟩) ((at_+1)+1) (cur+1) .rc (by first | rfl | (rw [<- hT])) rfl (Nat.le_trans (show ((S++⟨⟨[94,32]⟩⟩):Str).length<=(n+2) from (len_app (y:=[94,32]) hS)) (by omega)) (by omega)) [0,1,2] [3,4,5,6,7,8,9,10,11,12,13,14,15,16,17,18,19,20,21,22] U_5 tr_5 D' hR
      refine K_t ?_;rintro ⟨ss',fv',nm',T',d'',S'',at'',cur'',all'⟩ zu zn h' su fs pd;have F:=loop_fin (d:=d) (d':=(DT.drf (N_5+24) (N_5+23) S.length d)) (S:=S) (S':=(S++⟨⟨[94,32]⟩⟩)) (s:=Sl.h) (n:=(l5 (N_5+24) (N_5+23) v_deref S.length 8 .none [.ref d.addr])) rfl (by first | rfl | (unfold growS; rw [<- hT]; rfl)) (by simp only [app_list,List.append_assoc]; rfl) (by rw [<- hT]; rfl) pd
      cases fv' <;> (refine finD ⟨Sl.h::ss',_,nm',T',d'',S'',at'',cur'',(l5 (N_5+24) (N_5+23) v_deref S.length 8 .none [.ref d.addr])++all'⟩ (l5 (N_5+24) (N_5+23) v_deref S.length 8 .none [.ref d.addr]) all' [24,23] rfl ?_ rfl ?_ ?_ ?_ (su [] Sup.nil).left fs rfl F <;> kernel_rfl)
    · refine sg C_4 4000 o_bt_pt_11_0_5 ?_;intro _;have K_5:=sN s R C_4 tr_4 [] (ct_sadd S [40,80,41] n hS (by show n+3<=1000; omega)) [] [];refine K_5 ?_;intro _ _ _ _ N_5 _ _ _ C_5 tr_5 su_5 _ _ _;have U_5:=su_5 _ U_4;refine sg C_5 4000 o_bt_pt_11_0_6 ?_;intro _;have K_t:=tK C_5 (loopRo a W) [(W.row,rowO l)] (IH (.v1 cur S.length) nm (DT.grd (N_5+24) (N_5+23) S.length d) (S++⟨⟨[40,80,41]⟩⟩) ((at_+1)+1) (cur+1) .pt (by first | rfl | (rw [<- hT])) rfl (Nat.le_trans (show ((S++⟨⟨[40,80,41]⟩⟩):Str).length<=(n+3) from (len_app (y:=[40,80,41]) hS)) (by omega)) (by omega)) [0,1,2] [3,4,5,6,7,8,9,10,11,12,13,14,15,16,17,18,19,20,21,22] U_5 tr_5 D' hR
      refine K_t ?_;rintro ⟨ss',fv',nm',T',d'',S'',at'',cur'',all'⟩ zu zn h' su fs pd;have F:=loop_fin (d:=d) (d':=(DT.grd (N_5+24) (N_5+23) S.length d)) (S:=S) (S':=(S++⟨⟨[40,80,41]⟩⟩)) (s:=Sl.g) (n:=(l5 (N_5+24) (N_5+23) v_guard S.length 9 (.int 9 0) [.ref d.addr])) rfl (by first | rfl | (unfold growS; rw [<- hT]; rfl)) (by simp only [app_list,List.append_assoc]; rfl) (by rw [<- hT]; rfl) pd
      cases fv' <;> (refine finD ⟨Sl.g::ss',_,nm',T',d'',S'',at'',cur'',(l5 (N_5+24) (N_5+23) v_guard S.length 9 (.int 9 0) [.ref d.addr])++all'⟩ (l5 (N_5+24) (N_5+23) v_guard S.length 9 (.int 9 0) [.ref d.addr]) all' [24,23] rfl ?_ rfl ?_ ?_ ?_ (su [] Sup.nil).left fs rfl F <;> kernel_rfl)
theorem bt_pt_1 {w:World} {b1 b2 b3:Bool} (hP:Rows w b1 b2 b3) (a:Nat->Nat) (W:LW) (l:List Int) (hl:l.length < 100) (L it:Nat) (go sp:Nat) (nm:Str) (d:DT) (S:Str) (at_ cur rem:Nat) (hT:.pt=d.sh.ty) (hr:rem < 7) (n:Nat) (hn:n<=900) (hS:S.length<=n) (ha:at_ < 90)
    (IH:∀ (fv:FV) (nm:Str) (d':DT) (S':Str) (at' cur':Nat) (T':Ty),T' = d'.sh.ty->fvOk fv T' = true->S'.length<=n+6->at' <= at_+3->LoopC w a W l L it T' fv nm d' S' at' cur' rem):LoopC w a W l L it .pt (.v1 go sp) nm d S at_ cur (rem+1):=by
  refine ct_start (tx:=tx0) (pre:=[(L,lawFr a W nm (tyA a .pt) d.addr S (.v1 go sp)),(W.st,stO W.row at_),(it,rItO cur (rem+1))]) (ro:=loopRo a W) (sup:=[(W.row,rowO l)]) hP tx0_ok (by decide) fun A' s R zs ta' N C U D' hR=>?_;refine sg C 4000 o_bt_pt_00_0_1 ?_;intro _;have K_1:=sN s R C trId [] (ct_next hP it cur rem hr) [2] [];refine K_1 ?_;intro _ _ _ _ _ _ _ _ C_1 tr_1 su_1 _ _ _;have U_1:=su_1 _ U;refine sg C_1 4000 o_bt_pt_00_0_2 ?_;intro _;have K_2:=sN s R C_1 tr_1 [] (ct_slen S n hS (by omega)) [] [];refine K_2 ?_;intro _ _ _ _ _ _ _ _ C_2 tr_2 su_2 _ _ _;have U_2:=su_2 _ U_1;refine sg C_2 4000 o_bt_pt_00_0_3 ?_;intro _;have K_3:=sK s R C_2 tr_2 [] [(W.row,rowO l)] (tk_call hP W.st W.row l hl at_ 3 (by omega) (by decide) (by decide)) [1] [] U_2;refine K_3 ?_;intro b_3 _ _ _ _ _ _ _ C_3 tr_3 su_3 _ pd_3 _;have U_3:=su_3 _ U_2;rcases lt3 pd_3 with rfl | rfl | rfl
  · refine sg C_3 4000 o_bt_pt_00_0_4 ?_;intro _;have K_4:=sK s R C_3 tr_3 [] [(W.row,rowO l)] (tk_call hP W.st W.row l hl (at_+1) 3 (by omega) (by decide) (by decide)) [1] [] U_3;refine K_4 ?_;intro b_4 _ _ _ N_4 _ _ _ C_4 tr_4 su_4 _ pd_4 _;have U_4:=su_4 _ U_3;rcases lt3 pd_4 with rfl | rfl | rfl
    · refine sg C_4 4000 o_bt_pt_00_0_5 ?_;intro _;have K_5:=sN s R C_4 tr_4 [(W.so,dictO (sortsL a))] (ct_dictget (sortsL a) v_n (.ref (a 15)) W.so rfl rfl) [] [3];refine K_5 ?_;intro _ _ _ _ N_5 _ _ _ C_5 tr_5 su_5 _ _ _;have U_5:=su_5 _ U_4;refine sg C_5 4000 o_bt_pt_00_0_6 ?_;intro _;have K_6:=sN s R C_5 tr_5 [] (ct_sadd S [46] n hS (by show n+1<=1000; omega)) [] [];refine K_6 ?_;intro _ _ _ _ _ _ _ _ C_6 tr_6 su_6 _ _ _;have U_6:=su_6 _ U_5;refine sg C_6 4000 o_bt_pt_00_0_7 ?_;intro _;have K_7:=sN s R C_6 tr_6 [] (ct_sadd (S++⟨⟨[46]⟩⟩) [110] (n+1) (len_app (y:=[46]) hS) (by show (n+1)+1<=1000; omega)) [] [];refine K_7 ?_;intro _ _ _ _ N_7 _ _ _ C_7 tr_7 su_7 _ _ _;have U_7:=su_7 _ U_6;refine sg C_7 4000 o_bt_pt_00_0_8 ?_;intro _;have K_t:=tK C_7 (loopRo a W) [(W.row,rowO l)] (IH (.v1 cur S.length) v_n (DT.fld (N_7+26) (N_7+25) S.length .n (DT.drf (N_4+24) (N_4+23) S.length d)) ((S++⟨⟨[46]⟩⟩)++⟨⟨[110]⟩⟩) ((at_+1)+1) (cur+1) .it (by first | rfl | (rw [<- hT])) rfl (Nat.le_trans (show (((S++⟨⟨[46]⟩⟩)++⟨⟨[110]⟩⟩):Str).length<=((n+1)+1) from (len_app (y:=[110]) (len_app (y:=[46]) hS))) (by omega)) (by omega)) [0,1,2] [3,4,5,6,7,8,9,10,11,12,13,14,15,16,17,18,19,20,21,22] U_7 tr_7 D' hR
      refine K_t ?_;rintro ⟨ss',fv',nm',T',d'',S'',at'',cur'',all'⟩ zu zn h' su fs pd;have F:=loop_fin (d:=d) (d':=(DT.fld (N_7+26) (N_7+25) S.length .n (DT.drf (N_4+24) (N_4+23) S.length d))) (S:=S) (S':=((S++⟨⟨[46]⟩⟩)++⟨⟨[110]⟩⟩)) (s:=(Sl.f .n)) (n:=(l5 (N_7+26) (N_7+25) v_field S.length (tyNo (Fld.ty .n)) (.str (Fld.name .n) 0) [.ref (N_4+24)]++l5 (N_4+24) (N_4+23) v_deref S.length 8 .none [.ref d.addr])) rfl (by first | rfl | (unfold growS; rw [<- hT]; rfl)) (by simp only [app_list,List.append_assoc]; rfl) (by rw [<- hT]; rfl) pd
      cases fv' <;> (refine finD ⟨(Sl.f .n)::ss',_,nm',T',d'',S'',at'',cur'',(l5 (N_7+26) (N_7+25) v_field S.length (tyNo (Fld.ty .n)) (.str (Fld.name .n) 0) [.ref (N_4+24)]++l5 (N_4+24) (N_4+23) v_deref S.length 8 .none [.ref d.addr])++all'⟩ (l5 (N_7+26) (N_7+25) v_field S.length (tyNo (Fld.ty .n)) (.str (Fld.name .n) 0) [.ref (N_4+24)]++l5 (N_4+24) (N_4+23) v_deref S.length 8 .none [.ref d.addr]) all' [26,25,24,23] rfl ?_ rfl ?_ ?_ ?_ (su [] Sup.nil).left fs rfl F <;> kernel_rfl)
    · refine sg C_4 4000 o_bt_pt_00_0_5 ?_;intro _;have K_5:=sN s R C_4 tr_4 [(W.so,dictO (sortsL a))] (ct_dictget (sortsL a) v_m (.ref (a 20)) W.so rfl rfl) [] [3];refine K_5 ?_;intro _ _ _ _ N_5 _ _ _ C_5 tr_5 su_5 _ _ _;have U_5:=su_5 _ U_4;refine sg C_5 4000 o_bt_pt_00_0_6 ?_;intro _;have K_6:=sN s R C_5 tr_5 [] (ct_sadd S [46] n hS (by show n+1<=1000; omega)) [] [];refine K_6 ?_;intro _ _ _ _ _ _ _ _ C_6 tr_6 su_6 _ _ _;have U_6:=su_6 _ U_5;refine sg C_6 4000 o_bt_pt_00_0_7 ?_;intro _;have K_7:=sN s R C_6 tr_6 [] (ct_sadd (S++⟨⟨[46]⟩⟩) [109] (n+1) (len_app (y:=[46]) hS) (by show (n+1)+1<=1000; omega)) [] [];refine K_7 ?_;intro _ _ _ _ N_7 _ _ _ C_7 tr_7 su_7 _ _ _;have U_7:=su_7 _ U_6;refine sg C_7 4000 o_bt_pt_01_0_8 ?_;intro _;have K_t:=tK C_7 (loopRo a W) [(W.row,rowO l)] (IH (.v1 cur S.length) v_m (DT.fld (N_7+26) (N_7+25) S.length .m (DT.drf (N_4+24) (N_4+23) S.length d)) ((S++⟨⟨[46]⟩⟩)++⟨⟨[109]⟩⟩) ((at_+1)+1) (cur+1) .th (by first | rfl | (rw [<- hT])) rfl (Nat.le_trans (show (((S++⟨⟨[46]⟩⟩)++⟨⟨[109]⟩⟩):Str).length<=((n+1)+1) from (len_app (y:=[109]) (len_app (y:=[46]) hS))) (by omega)) (by omega)) [0,1,2] [3,4,5,6,7,8,9,10,11,12,13,14,15,16,17,18,19,20,21,22] U_7 tr_7 D' hR
      refine K_t ?_;rintro ⟨ss',fv',nm',T',d'',S'',at'',cur'',all'⟩ zu zn h' su fs pd;have F:=loop_fin (d:=d) (d':=(DT.fld (N_7+26) (N_7+25) S.length .m (DT.drf (N_4+24) (N_4+23) S.length d))) (S:=S) (S':=((S++⟨⟨[46]⟩⟩)++⟨⟨[109]⟩⟩)) (s:=(Sl.f .m)) (n:=(l5 (N_7+26) (N_7+25) v_field S.length (tyNo (Fld.ty .m)) (.str (Fld.name .m) 0) [.ref (N_4+24)]++l5 (N_4+24) (N_4+23) v_deref S.length 8 .none [.ref d.addr])) rfl (by first | rfl | (unfold growS; rw [<- hT]; rfl)) (by simp only [app_list,List.append_assoc]; rfl) (by rw [<- hT]; rfl) pd
      cases fv' <;> (refine finD ⟨(Sl.f .m)::ss',_,nm',T',d'',S'',at'',cur'',(l5 (N_7+26) (N_7+25) v_field S.length (tyNo (Fld.ty .m)) (.str (Fld.name .m) 0) [.ref (N_4+24)]++l5 (N_4+24) (N_4+23) v_deref S.length 8 .none [.ref d.addr])++all'⟩ (l5 (N_7+26) (N_7+25) v_field S.length (tyNo (Fld.ty .m)) (.str (Fld.name .m) 0) [.ref (N_4+24)]++l5 (N_4+24) (N_4+23) v_deref S.length 8 .none [.ref d.addr]) all' [26,25,24,23] rfl ?_ rfl ?_ ?_ ?_ (su [] Sup.nil).left fs rfl F <;> kernel_rfl)
    · refine sg C_4 4000 o_bt_pt_00_0_5 ?_;intro _;have K_5:=sN s R C_4 tr_4 [(W.so,dictO (sortsL a))] (ct_dictget (sortsL a) v_q (.ref (a 35)) W.so rfl rfl) [] [3];refine K_5 ?_;intro _ _ _ _ N_5 _ _ _ C_5 tr_5 su_5 _ _ _;have U_5:=su_5 _ U_4;refine sg C_5 4000 o_bt_pt_00_0_6 ?_;intro _;have K_6:=sN s R C_5 tr_5 [] (ct_sadd S [46] n hS (by show n+1<=1000; omega)) [] [];refine K_6 ?_;intro _ _ _ _ _ _ _ _ C_6 tr_6 su_6 _ _ _;have U_6:=su_6 _ U_5;refine sg C_6 4000 o_bt_pt_00_0_7 ?_;intro _;have K_7:=sN s R C_6 tr_6 [] (ct_sadd (S++⟨⟨[46]⟩⟩) [113] (n+1) (len_app (y:=[46]) hS) (by show (n+1)+1<=1000; omega)) [] [];refine K_7 ?_;intro _ _ _ _ N_7 _ _ _ C_7 tr_7 su_7 _ _ _;have U_7:=su_7 _ U_6;refine sg C_7 4000 o_bt_pt_02_0_8 ?_;intro _;have K_t:=tK C_7 (loopRo a W) [(W.row,rowO l)] (IH (.v1 cur S.length) v_q (DT.fld (N_7+26) (N_7+25) S.length .q (DT.drf (N_4+24) (N_4+23) S.length d)) ((S++⟨⟨[46]⟩⟩)++⟨⟨[113]⟩⟩) ((at_+1)+1) (cur+1) .pt (by first | rfl | (rw [<- hT])) rfl (Nat.le_trans (show (((S++⟨⟨[46]⟩⟩)++⟨⟨[113]⟩⟩):Str).length<=((n+1)+1) from (len_app (y:=[113]) (len_app (y:=[46]) hS))) (by omega)) (by omega)) [0,1,2] [3,4,5,6,7,8,9,10,11,12,13,14,15,16,17,18,19,20,21,22] U_7 tr_7 D' hR
      refine K_t ?_;rintro ⟨ss',fv',nm',T',d'',S'',at'',cur'',all'⟩ zu zn h' su fs pd;have F:=loop_fin (d:=d) (d':=(DT.fld (N_7+26) (N_7+25) S.length .q (DT.drf (N_4+24) (N_4+23) S.length d))) (S:=S) (S':=((S++⟨⟨[46]⟩⟩)++⟨⟨[113]⟩⟩)) (s:=(Sl.f .q)) (n:=(l5 (N_7+26) (N_7+25) v_field S.length (tyNo (Fld.ty .q)) (.str (Fld.name .q) 0) [.ref (N_4+24)]++l5 (N_4+24) (N_4+23) v_deref S.length 8 .none [.ref d.addr])) rfl (by first | rfl | (unfold growS; rw [<- hT]; rfl)) (by simp only [app_list,List.append_assoc]; rfl) (by rw [<- hT]; rfl) pd
      cases fv' <;> (refine finD ⟨(Sl.f .q)::ss',_,nm',T',d'',S'',at'',cur'',(l5 (N_7+26) (N_7+25) v_field S.length (tyNo (Fld.ty .q)) (.str (Fld.name .q) 0) [.ref (N_4+24)]++l5 (N_4+24) (N_4+23) v_deref S.length 8 .none [.ref d.addr])++all'⟩ (l5 (N_7+26) (N_7+25) v_field S.length (tyNo (Fld.ty .q)) (.str (Fld.name .q) 0) [.ref (N_4+24)]++l5 (N_4+24) (N_4+23) v_deref S.length 8 .none [.ref d.addr]) all' [26,25,24,23] rfl ?_ rfl ?_ ?_ ?_ (su [] Sup.nil).left fs rfl F <;> kernel_rfl)
  · refine sg C_3 4000 o_bt_pt_10_0_4 ?_;intro _;have K_4:=sK s R C_3 tr_3 [] [(W.row,rowO l)] (tk_call hP W.st W.row l hl (at_+1) 2 (by omega) (by decide) (by decide)) [1] [] U_3;refine K_4 ?_;intro b_4 _ _ _ N_4 _ _ _ C_4 tr_4 su_4 _ pd_4 _;have U_4:=su_4 _ U_3;rcases lt2 pd_4 with rfl | rfl
    · refine sg C_4 4000 o_bt_pt_10_0_5 ?_;intro _;have K_5:=sN s R C_4 tr_4 [] (ct_sadd S [94,32] n hS (by show n+2<=1000; omega)) [] [];refine K_5 ?_;intro _ _ _ _ N_5 _ _ _ C_5 tr_5 su_5 _ _ _;have U_5:=su_5 _ U_4;refine sg C_5 4000 o_bt_pt_10_0_6 ?_;intro _;have K_t:=tK C_5 (loopRo a W) [(W.row,rowO l)] (IH (.v1 cur S.length) nm (DT.drf (N_5+24) (N_5+23) S.length d) (S++⟨⟨[94,32]⟩⟩) ((at_+1)+1) (cur+1) .rc (by first | rfl | (rw [<- hT])) rfl (Nat.le_trans (show ((S++⟨⟨[94,32]⟩⟩):Str).length<=(n+2) from (len_app (y:=[94,32]) hS)) (by omega)) (by omega)) [0,1,2] [3,4,5,6,7,8,9,10,11,12,13,14,15,16,17,18,19,20,21,22] U_5 tr_5 D' hR
      refine K_t ?_;rintro ⟨ss',fv',nm',T',d'',S'',at'',cur'',all'⟩ zu zn h' su fs pd;have F:=loop_fin (d:=d) (d':=(DT.drf (N_5+24) (N_5+23) S.length d)) (S:=S) (S':=(S++⟨⟨[94,32]⟩⟩)) (s:=Sl.h) (n:=(l5 (N_5+24) (N_5+23) v_deref S.length 8 .none [.ref d.addr])) rfl (by first | rfl | (unfold growS; rw [<- hT]; rfl)) (by simp only [app_list,List.append_assoc]; rfl) (by rw [<- hT]; rfl) pd
      cases fv' <;> (refine finD ⟨Sl.h::ss',_,nm',T',d'',S'',at'',cur'',(l5 (N_5+24) (N_5+23) v_deref S.length 8 .none [.ref d.addr])++all'⟩ (l5 (N_5+24) (N_5+23) v_deref S.length 8 .none [.ref d.addr]) all' [24,23] rfl ?_ rfl ?_ ?_ ?_ (su [] Sup.nil).left fs rfl F <;> kernel_rfl)
    · refine sg C_4 4000 o_bt_pt_11_0_5 ?_;intro _;have K_5:=sN s R C_4 tr_4 [] (ct_sadd S [40,80,41] n hS (by show n+3<=1000; omega)) [] [];refine K_5 ?_;intro _ _ _ _ N_5 _ _ _ C_5 tr_5 su_5 _ _ _;have U_5:=su_5 _ U_4;refine sg C_5 4000 o_bt_pt_11_0_6 ?_;intro _;have K_t:=tK C_5 (loopRo a W) [(W.row,rowO l)] (IH (.v1 cur S.length) nm (DT.grd (N_5+24) (N_5+23) S.length d) (S++⟨⟨[40,80,41]⟩⟩) ((at_+1)+1) (cur+1) .pt (by first | rfl | (rw [<- hT])) rfl (Nat.le_trans (show ((S++⟨⟨[40,80,41]⟩⟩):Str).length<=(n+3) from (len_app (y:=[40,80,41]) hS)) (by omega)) (by omega)) [0,1,2] [3,4,5,6,7,8,9,10,11,12,13,14,15,16,17,18,19,20,21,22] U_5 tr_5 D' hR
      refine K_t ?_;rintro ⟨ss',fv',nm',T',d'',S'',at'',cur'',all'⟩ zu zn h' su fs pd;have F:=loop_fin (d:=d) (d':=(DT.grd (N_5+24) (N_5+23) S.length d)) (S:=S) (S':=(S++⟨⟨[40,80,41]⟩⟩)) (s:=Sl.g) (n:=(l5 (N_5+24) (N_5+23) v_guard S.length 9 (.int 9 0) [.ref d.addr])) rfl (by first | rfl | (unfold growS; rw [<- hT]; rfl)) (by simp only [app_list,List.append_assoc]; rfl) (by rw [<- hT]; rfl) pd
      cases fv' <;> (refine finD ⟨Sl.g::ss',_,nm',T',d'',S'',at'',cur'',(l5 (N_5+24) (N_5+23) v_guard S.length 9 (.int 9 0) [.ref d.addr])++all'⟩ (l5 (N_5+24) (N_5+23) v_guard S.length 9 (.int 9 0) [.ref d.addr]) all' [24,23] rfl ?_ rfl ?_ ?_ ?_ (su [] Sup.nil).left fs rfl F <;> kernel_rfl)
  · refine sg C_3 4000 o_bt_pt_10_0_4 ?_;intro _;have K_4:=sK s R C_3 tr_3 [] [(W.row,rowO l)] (tk_call hP W.st W.row l hl (at_+1) 2 (by omega) (by decide) (by decide)) [1] [] U_3;refine K_4 ?_;intro b_4 _ _ _ N_4 _ _ _ C_4 tr_4 su_4 _ pd_4 _;have U_4:=su_4 _ U_3;rcases lt2 pd_4 with rfl | rfl
    · refine sg C_4 4000 o_bt_pt_10_0_5 ?_;intro _;have K_5:=sN s R C_4 tr_4 [] (ct_sadd S [94,32] n hS (by show n+2<=1000; omega)) [] [];refine K_5 ?_;intro _ _ _ _ N_5 _ _ _ C_5 tr_5 su_5 _ _ _;have U_5:=su_5 _ U_4;refine sg C_5 4000 o_bt_pt_10_0_6 ?_;intro _;have K_t:=tK C_5 (loopRo a W) [(W.row,rowO l)] (IH (.v1 cur S.length) nm (DT.drf (N_5+24) (N_5+23) S.length d) (S++⟨⟨[94,32]⟩⟩) ((at_+1)+1) (cur+1) .rc (by first | rfl | (rw [<- hT])) rfl (Nat.le_trans (show ((S++⟨⟨[94,32]⟩⟩):Str).length<=(n+2) from (len_app (y:=[94,32]) hS)) (by omega)) (by omega)) [0,1,2] [3,4,5,6,7,8,9,10,11,12,13,14,15,16,17,18,19,20,21,22] U_5 tr_5 D' hR
      refine K_t ?_;rintro ⟨ss',fv',nm',T',d'',S'',at'',cur'',all'⟩ zu zn h' su fs pd;have F:=loop_fin (d:=d) (d':=(DT.drf (N_5+24) (N_5+23) S.length d)) (S:=S) (S':=(S++⟨⟨[94,32]⟩⟩)) (s:=Sl.h) (n:=(l5 (N_5+24) (N_5+23) v_deref S.length 8 .none [.ref d.addr])) rfl (by first | rfl | (unfold growS; rw [<- hT]; rfl)) (by simp only [app_list,List.append_assoc]; rfl) (by rw [<- hT]; rfl) pd
      cases fv' <;> (refine finD ⟨Sl.h::ss',_,nm',T',d'',S'',at'',cur'',(l5 (N_5+24) (N_5+23) v_deref S.length 8 .none [.ref d.addr])++all'⟩ (l5 (N_5+24) (N_5+23) v_deref S.length 8 .none [.ref d.addr]) all' [24,23] rfl ?_ rfl ?_ ?_ ?_ (su [] Sup.nil).left fs rfl F <;> kernel_rfl)
    · refine sg C_4 4000 o_bt_pt_11_0_5 ?_;intro _;have K_5:=sN s R C_4 tr_4 [] (ct_sadd S [40,80,41] n hS (by show n+3<=1000; omega)) [] [];refine K_5 ?_;intro _ _ _ _ N_5 _ _ _ C_5 tr_5 su_5 _ _ _;have U_5:=su_5 _ U_4;refine sg C_5 4000 o_bt_pt_11_0_6 ?_;intro _;have K_t:=tK C_5 (loopRo a W) [(W.row,rowO l)] (IH (.v1 cur S.length) nm (DT.grd (N_5+24) (N_5+23) S.length d) (S++⟨⟨[40,80,41]⟩⟩) ((at_+1)+1) (cur+1) .pt (by first | rfl | (rw [<- hT])) rfl (Nat.le_trans (show ((S++⟨⟨[40,80,41]⟩⟩):Str).length<=(n+3) from (len_app (y:=[40,80,41]) hS)) (by omega)) (by omega)) [0,1,2] [3,4,5,6,7,8,9,10,11,12,13,14,15,16,17,18,19,20,21,22] U_5 tr_5 D' hR
      refine K_t ?_;rintro ⟨ss',fv',nm',T',d'',S'',at'',cur'',all'⟩ zu zn h' su fs pd;have F:=loop_fin (d:=d) (d':=(DT.grd (N_5+24) (N_5+23) S.length d)) (S:=S) (S':=(S++⟨⟨[40,80,41]⟩⟩)) (s:=Sl.g) (n:=(l5 (N_5+24) (N_5+23) v_guard S.length 9 (.int 9 0) [.ref d.addr])) rfl (by first | rfl | (unfold growS; rw [<- hT]; rfl)) (by simp only [app_list,List.append_assoc]; rfl) (by rw [<- hT]; rfl) pd
      cases fv' <;> (refine finD ⟨Sl.g::ss',_,nm',T',d'',S'',at'',cur'',(l5 (N_5+24) (N_5+23) v_guard S.length 9 (.int 9 0) [.ref d.addr])++all'⟩ (l5 (N_5+24) (N_5+23) v_guard S.length 9 (.int 9 0) [.ref d.addr]) all' [24,23] rfl ?_ rfl ?_ ?_ ?_ (su [] Sup.nil).left fs rfl F <;> kernel_rfl)
theorem bt_pt_2 {w:World} {b1 b2 b3:Bool} (hP:Rows w b1 b2 b3) (a:Nat->Nat) (W:LW) (l:List Int) (hl:l.length < 100) (L it:Nat) (go sp fg:Nat) (nm:Str) (d:DT) (S:Str) (at_ cur rem:Nat) (hT:.pt=d.sh.ty) (hr:rem < 7) (n:Nat) (hn:n<=900) (hS:S.length<=n) (ha:at_ < 90)
    (IH:∀ (fv:FV) (nm:Str) (d':DT) (S':Str) (at' cur':Nat) (T':Ty),T' = d'.sh.ty->fvOk fv T' = true->S'.length<=n+6->at' <= at_+3->LoopC w a W l L it T' fv nm d' S' at' cur' rem):LoopC w a W l L it .pt (.v2 go sp fg) nm d S at_ cur (rem+1):=by
  refine ct_start (tx:=tx0) (pre:=[(L,lawFr a W nm (tyA a .pt) d.addr S (.v2 go sp fg)),(W.st,stO W.row at_),(it,rItO cur (rem+1))]) (ro:=loopRo a W) (sup:=[(W.row,rowO l)]) hP tx0_ok (by decide) fun A' s R zs ta' N C U D' hR=>?_;refine sg C 4000 o_bt_pt_00_0_1 ?_;intro _;have K_1:=sN s R C trId [] (ct_next hP it cur rem hr) [2] [];refine K_1 ?_;intro _ _ _ _ _ _ _ _ C_1 tr_1 su_1 _ _ _;have U_1:=su_1 _ U;refine sg C_1 4000 o_bt_pt_00_0_2 ?_;intro _;have K_2:=sN s R C_1 tr_1 [] (ct_slen S n hS (by omega)) [] [];refine K_2 ?_;intro _ _ _ _ _ _ _ _ C_2 tr_2 su_2 _ _ _;have U_2:=su_2 _ U_1;refine sg C_2 4000 o_bt_pt_00_0_3 ?_;intro _;have K_3:=sK s R C_2 tr_2 [] [(W.row,rowO l)] (tk_call hP W.st W.row l hl at_ 3 (by omega) (by decide) (by decide)) [1] [] U_2;refine K_3 ?_;intro b_3 _ _ _ _ _ _ _ C_3 tr_3 su_3 _ pd_3 _;have U_3:=su_3 _ U_2;rcases lt3 pd_3 with rfl | rfl | rfl
  · refine sg C_3 4000 o_bt_pt_00_0_4 ?_;intro _;have K_4:=sK s R C_3 tr_3 [] [(W.row,rowO l)] (tk_call hP W.st W.row l hl (at_+1) 3 (by omega) (by decide) (by decide)) [1] [] U_3;refine K_4 ?_;intro b_4 _ _ _ N_4 _ _ _ C_4 tr_4 su_4 _ pd_4 _;have U_4:=su_4 _ U_3;rcases lt3 pd_4 with rfl | rfl | rfl
    · refine sg C_4 4000 o_bt_pt_00_0_5 ?_;intro _;have K_5:=sN s R C_4 tr_4 [(W.so,dictO (sortsL a))] (ct_dictget (sortsL a) v_n (.ref (a 15)) W.so rfl rfl) [] [3];refine K_5 ?_;intro _ _ _ _ N_5 _ _ _ C_5 tr_5 su_5 _ _ _;have U_5:=su_5 _ U_4;refine sg C_5 4000 o_bt_pt_00_0_6 ?_;intro _;have K_6:=sN s R C_5 tr_5 [] (ct_sadd S [46] n hS (by show n+1<=1000; omega)) [] [];refine K_6 ?_;intro _ _ _ _ _ _ _ _ C_6 tr_6 su_6 _ _ _;have U_6:=su_6 _ U_5;refine sg C_6 4000 o_bt_pt_00_0_7 ?_;intro _;have K_7:=sN s R C_6 tr_6 [] (ct_sadd (S++⟨⟨[46]⟩⟩) [110] (n+1) (len_app (y:=[46]) hS) (by show (n+1)+1<=1000; omega)) [] [];refine K_7 ?_;intro _ _ _ _ N_7 _ _ _ C_7 tr_7 su_7 _ _ _;have U_7:=su_7 _ U_6;refine sg C_7 4000 o_bt_pt_00_0_8 ?_;intro _;have K_t:=tK C_7 (loopRo a W) [(W.row,rowO l)] (IH (.v2 cur S.length fg) v_n (DT.fld (N_7+26) (N_7+25) S.length .n (DT.drf (N_4+24) (N_4+23) S.length d)) ((S++⟨⟨[46]⟩⟩)++⟨⟨[110]⟩⟩) ((at_+1)+1) (cur+1) .it (by first | rfl | (rw [<- hT])) rfl (Nat.le_trans (show (((S++⟨⟨[46]⟩⟩)++⟨⟨[110]⟩⟩):Str).length<=((n+1)+1) from (len_app (y:=[110]) (len_app (y:=[46]) hS))) (by omega)) (by omega)) [0,1,2] [3,4,5,6,7,8,9,10,11,12,13,14,15,16,17,18,19,20,21,22] U_7 tr_7 D' hR
      refine K_t ?_;rintro ⟨ss',fv',nm',T',d'',S'',at'',cur'',all'⟩ zu zn h' su fs pd;have F:=loop_fin (d:=d) (d':=(DT.fld (N_7+26) (N_7+25) S.length .n (DT.drf (N_4+24) (N_4+23) S.length d))) (S:=S) (S':=((S++⟨⟨[46]⟩⟩)++⟨⟨[110]⟩⟩)) (s:=(Sl.f .n)) (n:=(l5 (N_7+26) (N_7+25) v_field S.length (tyNo (Fld.ty .n)) (.str (Fld.name .n) 0) [.ref (N_4+24)]++l5 (N_4+24) (N_4+23) v_deref S.length 8 .none [.ref d.addr])) rfl (by first | rfl | (unfold growS; rw [<- hT]; rfl)) (by simp only [app_list,List.append_assoc]; rfl) (by rw [<- hT]; rfl) pd
      cases fv' <;> (refine finD ⟨(Sl.f .n)::ss',_,nm',T',d'',S'',at'',cur'',(l5 (N_7+26) (N_7+25) v_field S.length (tyNo (Fld.ty .n)) (.str (Fld.name .n) 0) [.ref (N_4+24)]++l5 (N_4+24) (N_4+23) v_deref S.length 8 .none [.ref d.addr])++all'⟩ (l5 (N_7+26) (N_7+25) v_field S.length (tyNo (Fld.ty .n)) (.str (Fld.name .n) 0) [.ref (N_4+24)]++l5 (N_4+24) (N_4+23) v_deref S.length 8 .none [.ref d.addr]) all' [26,25,24,23] rfl ?_ rfl ?_ ?_ ?_ (su [] Sup.nil).left fs rfl F <;> kernel_rfl)
    · refine sg C_4 4000 o_bt_pt_00_0_5 ?_;intro _;have K_5:=sN s R C_4 tr_4 [(W.so,dictO (sortsL a))] (ct_dictget (sortsL a) v_m (.ref (a 20)) W.so rfl rfl) [] [3];refine K_5 ?_;intro _ _ _ _ N_5 _ _ _ C_5 tr_5 su_5 _ _ _;have U_5:=su_5 _ U_4;refine sg C_5 4000 o_bt_pt_00_0_6 ?_;intro _;have K_6:=sN s R C_5 tr_5 [] (ct_sadd S [46] n hS (by show n+1<=1000; omega)) [] [];refine K_6 ?_;intro _ _ _ _ _ _ _ _ C_6 tr_6 su_6 _ _ _;have U_6:=su_6 _ U_5;refine sg C_6 4000 o_bt_pt_00_0_7 ?_;intro _;have K_7:=sN s R C_6 tr_6 [] (ct_sadd (S++⟨⟨[46]⟩⟩) [109] (n+1) (len_app (y:=[46]) hS) (by show (n+1)+1<=1000; omega)) [] [];refine K_7 ?_;intro _ _ _ _ N_7 _ _ _ C_7 tr_7 su_7 _ _ _;have U_7:=su_7 _ U_6;refine sg C_7 4000 o_bt_pt_01_0_8 ?_;intro _;have K_t:=tK C_7 (loopRo a W) [(W.row,rowO l)] (IH (.v2 cur S.length fg) v_m (DT.fld (N_7+26) (N_7+25) S.length .m (DT.drf (N_4+24) (N_4+23) S.length d)) ((S++⟨⟨[46]⟩⟩)++⟨⟨[109]⟩⟩) ((at_+1)+1) (cur+1) .th (by first | rfl | (rw [<- hT])) rfl (Nat.le_trans (show (((S++⟨⟨[46]⟩⟩)++⟨⟨[109]⟩⟩):Str).length<=((n+1)+1) from (len_app (y:=[109]) (len_app (y:=[46]) hS))) (by omega)) (by omega)) [0,1,2] [3,4,5,6,7,8,9,10,11,12,13,14,15,16,17,18,19,20,21,22] U_7 tr_7 D' hR
      refine K_t ?_;rintro ⟨ss',fv',nm',T',d'',S'',at'',cur'',all'⟩ zu zn h' su fs pd;have F:=loop_fin (d:=d) (d':=(DT.fld (N_7+26) (N_7+25) S.length .m (DT.drf (N_4+24) (N_4+23) S.length d))) (S:=S) (S':=((S++⟨⟨[46]⟩⟩)++⟨⟨[109]⟩⟩)) (s:=(Sl.f .m)) (n:=(l5 (N_7+26) (N_7+25) v_field S.length (tyNo (Fld.ty .m)) (.str (Fld.name .m) 0) [.ref (N_4+24)]++l5 (N_4+24) (N_4+23) v_deref S.length 8 .none [.ref d.addr])) rfl (by first | rfl | (unfold growS; rw [<- hT]; rfl)) (by simp only [app_list,List.append_assoc]; rfl) (by rw [<- hT]; rfl) pd
      cases fv' <;> (refine finD ⟨(Sl.f .m)::ss',_,nm',T',d'',S'',at'',cur'',(l5 (N_7+26) (N_7+25) v_field S.length (tyNo (Fld.ty .m)) (.str (Fld.name .m) 0) [.ref (N_4+24)]++l5 (N_4+24) (N_4+23) v_deref S.length 8 .none [.ref d.addr])++all'⟩ (l5 (N_7+26) (N_7+25) v_field S.length (tyNo (Fld.ty .m)) (.str (Fld.name .m) 0) [.ref (N_4+24)]++l5 (N_4+24) (N_4+23) v_deref S.length 8 .none [.ref d.addr]) all' [26,25,24,23] rfl ?_ rfl ?_ ?_ ?_ (su [] Sup.nil).left fs rfl F <;> kernel_rfl)
    · refine sg C_4 4000 o_bt_pt_00_0_5 ?_;intro _;have K_5:=sN s R C_4 tr_4 [(W.so,dictO (sortsL a))] (ct_dictget (sortsL a) v_q (.ref (a 35)) W.so rfl rfl) [] [3];refine K_5 ?_;intro _ _ _ _ N_5 _ _ _ C_5 tr_5 su_5 _ _ _;have U_5:=su_5 _ U_4;refine sg C_5 4000 o_bt_pt_00_0_6 ?_;intro _;have K_6:=sN s R C_5 tr_5 [] (ct_sadd S [46] n hS (by show n+1<=1000; omega)) [] [];refine K_6 ?_;intro _ _ _ _ _ _ _ _ C_6 tr_6 su_6 _ _ _;have U_6:=su_6 _ U_5;refine sg C_6 4000 o_bt_pt_00_0_7 ?_;intro _;have K_7:=sN s R C_6 tr_6 [] (ct_sadd (S++⟨⟨[46]⟩⟩) [113] (n+1) (len_app (y:=[46]) hS) (by show (n+1)+1<=1000; omega)) [] [];refine K_7 ?_;intro _ _ _ _ N_7 _ _ _ C_7 tr_7 su_7 _ _ _;have U_7:=su_7 _ U_6;refine sg C_7 4000 o_bt_pt_02_0_8 ?_;intro _;have K_t:=tK C_7 (loopRo a W) [(W.row,rowO l)] (IH (.v2 cur S.length fg) v_q (DT.fld (N_7+26) (N_7+25) S.length .q (DT.drf (N_4+24) (N_4+23) S.length d)) ((S++⟨⟨[46]⟩⟩)++⟨⟨[113]⟩⟩) ((at_+1)+1) (cur+1) .pt (by first | rfl | (rw [<- hT])) rfl (Nat.le_trans (show (((S++⟨⟨[46]⟩⟩)++⟨⟨[113]⟩⟩):Str).length<=((n+1)+1) from (len_app (y:=[113]) (len_app (y:=[46]) hS))) (by omega)) (by omega)) [0,1,2] [3,4,5,6,7,8,9,10,11,12,13,14,15,16,17,18,19,20,21,22] U_7 tr_7 D' hR
      refine K_t ?_;rintro ⟨ss',fv',nm',T',d'',S'',at'',cur'',all'⟩ zu zn h' su fs pd;have F:=loop_fin (d:=d) (d':=(DT.fld (N_7+26) (N_7+25) S.length .q (DT.drf (N_4+24) (N_4+23) S.length d))) (S:=S) (S':=((S++⟨⟨[46]⟩⟩)++⟨⟨[113]⟩⟩)) (s:=(Sl.f .q)) (n:=(l5 (N_7+26) (N_7+25) v_field S.length (tyNo (Fld.ty .q)) (.str (Fld.name .q) 0) [.ref (N_4+24)]++l5 (N_4+24) (N_4+23) v_deref S.length 8 .none [.ref d.addr])) rfl (by first | rfl | (unfold growS; rw [<- hT]; rfl)) (by simp only [app_list,List.append_assoc]; rfl) (by rw [<- hT]; rfl) pd
      cases fv' <;> (refine finD ⟨(Sl.f .q)::ss',_,nm',T',d'',S'',at'',cur'',(l5 (N_7+26) (N_7+25) v_field S.length (tyNo (Fld.ty .q)) (.str (Fld.name .q) 0) [.ref (N_4+24)]++l5 (N_4+24) (N_4+23) v_deref S.length 8 .none [.ref d.addr])++all'⟩ (l5 (N_7+26) (N_7+25) v_field S.length (tyNo (Fld.ty .q)) (.str (Fld.name .q) 0) [.ref (N_4+24)]++l5 (N_4+24) (N_4+23) v_deref S.length 8 .none [.ref d.addr]) all' [26,25,24,23] rfl ?_ rfl ?_ ?_ ?_ (su [] Sup.nil).left fs rfl F <;> kernel_rfl)
  · refine sg C_3 4000 o_bt_pt_10_0_4 ?_;intro _;have K_4:=sK s R C_3 tr_3 [] [(W.row,rowO l)] (tk_call hP W.st W.row l hl (at_+1) 2 (by omega) (by decide) (by decide)) [1] [] U_3;refine K_4 ?_;intro b_4 _ _ _ N_4 _ _ _ C_4 tr_4 su_4 _ pd_4 _;have U_4:=su_4 _ U_3;rcases lt2 pd_4 with rfl | rfl
    · refine sg C_4 4000 o_bt_pt_10_0_5 ?_;intro _;have K_5:=sN s R C_4 tr_4 [] (ct_sadd S [94,32] n hS (by show n+2<=1000; omega)) [] [];refine K_5 ?_;intro _ _ _ _ N_5 _ _ _ C_5 tr_5 su_5 _ _ _;have U_5:=su_5 _ U_4;refine sg C_5 4000 o_bt_pt_10_0_6 ?_;intro _;have K_t:=tK C_5 (loopRo a W) [(W.row,rowO l)] (IH (.v2 cur S.length fg) nm (DT.drf (N_5+24) (N_5+23) S.length d) (S++⟨⟨[94,32]⟩⟩) ((at_+1)+1) (cur+1) .rc (by first | rfl | (rw [<- hT])) rfl (Nat.le_trans (show ((S++⟨⟨[94,32]⟩⟩):Str).length<=(n+2) from (len_app (y:=[94,32]) hS)) (by omega)) (by omega)) [0,1,2] [3,4,5,6,7,8,9,10,11,12,13,14,15,16,17,18,19,20,21,22] U_5 tr_5 D' hR
      refine K_t ?_;rintro ⟨ss',fv',nm',T',d'',S'',at'',cur'',all'⟩ zu zn h' su fs pd;have F:=loop_fin (d:=d) (d':=(DT.drf (N_5+24) (N_5+23) S.length d)) (S:=S) (S':=(S++⟨⟨[94,32]⟩⟩)) (s:=Sl.h) (n:=(l5 (N_5+24) (N_5+23) v_deref S.length 8 .none [.ref d.addr])) rfl (by first | rfl | (unfold growS; rw [<- hT]; rfl)) (by simp only [app_list,List.append_assoc]; rfl) (by rw [<- hT]; rfl) pd
      cases fv' <;> (refine finD ⟨Sl.h::ss',_,nm',T',d'',S'',at'',cur'',(l5 (N_5+24) (N_5+23) v_deref S.length 8 .none [.ref d.addr])++all'⟩ (l5 (N_5+24) (N_5+23) v_deref S.length 8 .none [.ref d.addr]) all' [24,23] rfl ?_ rfl ?_ ?_ ?_ (su [] Sup.nil).left fs rfl F <;> kernel_rfl)
    · refine sg C_4 4000 o_bt_pt_11_0_5 ?_;intro _;have K_5:=sN s R C_4 tr_4 [] (ct_sadd S [40,80,41] n hS (by show n+3<=1000; omega)) [] [];refine K_5 ?_;intro _ _ _ _ N_5 _ _ _ C_5 tr_5 su_5 _ _ _;have U_5:=su_5 _ U_4;refine sg C_5 4000 o_bt_pt_11_0_6 ?_;intro _;have K_t:=tK C_5 (loopRo a W) [(W.row,rowO l)] (IH (.v2 cur S.length fg) nm (DT.grd (N_5+24) (N_5+23) S.length d) (S++⟨⟨[40,80,41]⟩⟩) ((at_+1)+1) (cur+1) .pt (by first | rfl | (rw [<- hT])) rfl (Nat.le_trans (show ((S++⟨⟨[40,80,41]⟩⟩):Str).length<=(n+3) from (len_app (y:=[40,80,41]) hS)) (by omega)) (by omega)) [0,1,2] [3,4,5,6,7,8,9,10,11,12,13,14,15,16,17,18,19,20,21,22] U_5 tr_5 D' hR
      refine K_t ?_;rintro ⟨ss',fv',nm',T',d'',S'',at'',cur'',all'⟩ zu zn h' su fs pd;have F:=loop_fin (d:=d) (d':=(DT.grd (N_5+24) (N_5+23) S.length d)) (S:=S) (S':=(S++⟨⟨[40,80,41]⟩⟩)) (s:=Sl.g) (n:=(l5 (N_5+24) (N_5+23) v_guard S.length 9 (.int 9 0) [.ref d.addr])) rfl (by first | rfl | (unfold growS; rw [<- hT]; rfl)) (by simp only [app_list,List.append_assoc]; rfl) (by rw [<- hT]; rfl) pd
      cases fv' <;> (refine finD ⟨Sl.g::ss',_,nm',T',d'',S'',at'',cur'',(l5 (N_5+24) (N_5+23) v_guard S.length 9 (.int 9 0) [.ref d.addr])++all'⟩ (l5 (N_5+24) (N_5+23) v_guard S.length 9 (.int 9 0) [.ref d.addr]) all' [24,23] rfl ?_ rfl ?_ ?_ ?_ (su [] Sup.nil).left fs rfl F <;> kernel_rfl)
  · refine sg C_3 4000 o_bt_pt_10_0_4 ?_;intro _;have K_4:=sK s R C_3 tr_3 [] [(W.row,rowO l)] (tk_call hP W.st W.row l hl (at_+1) 2 (by omega) (by decide) (by decide)) [1] [] U_3;refine K_4 ?_;intro b_4 _ _ _ N_4 _ _ _ C_4 tr_4 su_4 _ pd_4 _;have U_4:=su_4 _ U_3;rcases lt2 pd_4 with rfl | rfl
    · refine sg C_4 4000 o_bt_pt_10_0_5 ?_;intro _;have K_5:=sN s R C_4 tr_4 [] (ct_sadd S [94,32] n hS (by show n+2<=1000; omega)) [] [];refine K_5 ?_;intro _ _ _ _ N_5 _ _ _ C_5 tr_5 su_5 _ _ _;have U_5:=su_5 _ U_4;refine sg C_5 4000 o_bt_pt_10_0_6 ?_;intro _;have K_t:=tK C_5 (loopRo a W) [(W.row,rowO l)] (IH (.v2 cur S.length fg) nm (DT.drf (N_5+24) (N_5+23) S.length d) (S++⟨⟨[94,32]⟩⟩) ((at_+1)+1) (cur+1) .rc (by first | rfl | (rw [<- hT])) rfl (Nat.le_trans (show ((S++⟨⟨[94,32]⟩⟩):Str).length<=(n+2) from (len_app (y:=[94,32]) hS)) (by omega)) (by omega)) [0,1,2] [3,4,5,6,7,8,9,10,11,12,13,14,15,16,17,18,19,20,21,22] U_5 tr_5 D' hR
      refine K_t ?_;rintro ⟨ss',fv',nm',T',d'',S'',at'',cur'',all'⟩ zu zn h' su fs pd;have F:=loop_fin (d:=d) (d':=(DT.drf (N_5+24) (N_5+23) S.length d)) (S:=S) (S':=(S++⟨⟨[94,32]⟩⟩)) (s:=Sl.h) (n:=(l5 (N_5+24) (N_5+23) v_deref S.length 8 .none [.ref d.addr])) rfl (by first | rfl | (unfold growS; rw [<- hT]; rfl)) (by simp only [app_list,List.append_assoc]; rfl) (by rw [<- hT]; rfl) pd
      cases fv' <;> (refine finD ⟨Sl.h::ss',_,nm',T',d'',S'',at'',cur'',(l5 (N_5+24) (N_5+23) v_deref S.length 8 .none [.ref d.addr])++all'⟩ (l5 (N_5+24) (N_5+23) v_deref S.length 8 .none [.ref d.addr]) all' [24,23] rfl ?_ rfl ?_ ?_ ?_ (su [] Sup.nil).left fs rfl F <;> kernel_rfl)
    · refine sg C_4 4000 o_bt_pt_11_0_5 ?_;intro _;have K_5:=sN s R C_4 tr_4 [] (ct_sadd S [40,80,41] n hS (by show n+3<=1000; omega)) [] [];refine K_5 ?_;intro _ _ _ _ N_5 _ _ _ C_5 tr_5 su_5 _ _ _;have U_5:=su_5 _ U_4;refine sg C_5 4000 o_bt_pt_11_0_6 ?_;intro _;have K_t:=tK C_5 (loopRo a W) [(W.row,rowO l)] (IH (.v2 cur S.length fg) nm (DT.grd (N_5+24) (N_5+23) S.length d) (S++⟨⟨[40,80,41]⟩⟩) ((at_+1)+1) (cur+1) .pt (by first | rfl | (rw [<- hT])) rfl (Nat.le_trans (show ((S++⟨⟨[40,80,41]⟩⟩):Str).length<=(n+3) from (len_app (y:=[40,80,41]) hS)) (by omega)) (by omega)) [0,1,2] [3,4,5,6,7,8,9,10,11,12,13,14,15,16,17,18,19,20,21,22] U_5 tr_5 D' hR
      refine K_t ?_;rintro ⟨ss',fv',nm',T',d'',S'',at'',cur'',all'⟩ zu zn h' su fs pd;have F:=loop_fin (d:=d) (d':=(DT.grd (N_5+24) (N_5+23) S.length d)) (S:=S) (S':=(S++⟨⟨[40,80,41]⟩⟩)) (s:=Sl.g) (n:=(l5 (N_5+24) (N_5+23) v_guard S.length 9 (.int 9 0) [.ref d.addr])) rfl (by first | rfl | (unfold growS; rw [<- hT]; rfl)) (by simp only [app_list,List.append_assoc]; rfl) (by rw [<- hT]; rfl) pd
      cases fv' <;> (refine finD ⟨Sl.g::ss',_,nm',T',d'',S'',at'',cur'',(l5 (N_5+24) (N_5+23) v_guard S.length 9 (.int 9 0) [.ref d.addr])++all'⟩ (l5 (N_5+24) (N_5+23) v_guard S.length 9 (.int 9 0) [.ref d.addr]) all' [24,23] rfl ?_ rfl ?_ ?_ ?_ (su [] Sup.nil).left fs rfl F <;> kernel_rfl)
noncomputable def o_bt_th_00_1_1:List Nat:=[0,3]
noncomputable def o_bt_th_00_1_2:List Nat:=[1,1,0,0,1]
noncomputable def o_bt_th_00_1_3:List Nat:=[1,1,1,9,0,0,0,0,9,0,0,0,9,9,0,10,0,1,9,0,0,0,0,9,0,0,0,9,9,0,10,0,1,9,0,0,0,0,9,0,0,0,9,9,0,10,0,1,9,0,0,0,0,9,0,0,0,9,9,0,10,0,1,9,0,0,0,0,9,0,0,0,9,9,0,10,0,0,1,0]
noncomputable def o_bt_th_00_1_4:List Nat:=[1,1,1]
noncomputable def o_bt_th_00_1_5:List Nat:=[0,0,1,0,0,0,0,0]
noncomputable def o_bt_th_00_1_6:List Nat:=[1,1,1,1,9,0,0,0,0,9,0,0,0,9,9,0,10,11,0,0,0,0,11,0,0,0,11,11,0,12,0,1,1,0,1,5,0,0,0,0,5,0,0,0,5,5,0,6,7,0,0,0,0,7,0,0,0,7,7,0,8,0,1,1,1,1,9,0,0,0,0,9,0,0,0,9,9,0,10,1,1,1,11,0,0,0,0,11,0,0,0,11,11,0,12,0,0,1,0]
noncomputable def o_bt_th_00_1_7:List Nat:=[0,1]
noncomputable def o_bt_th_00_1_8:List Nat:=[1,1]
noncomputable def o_bt_th_010_1_7:List Nat:=[0,0,1,0]
noncomputable def o_bt_th_010_1_10:List Nat:=[1,1,1,1,11,0,0,0,0,11,0,0,0,11,11,0,12,7,0,0,0,0,7,0,0,0,7,7,0,8,0,1,1,0,1,5,0,0,0,0,5,0,0,0,5,5,0,6,7,0,0,0,0,7,0,0,0,7,7,0,8,0,1,1,1,1,11,0,0,0,0,11,0,0,0,11,11,0,12,1,1,1]
theorem bt_th_1 {w:World} {b1 b2 b3:Bool} (hP:Rows w b1 b2 b3) (a:Nat->Nat) (W:LW) (l:List Int) (hl:l.length < 100) (L it:Nat) (go sp:Nat) (nm:Str) (d:DT) (S:Str) (at_ cur rem:Nat) (hT:.th=d.sh.ty) (hr:rem < 7) (n:Nat) (hn:n<=900) (hS:S.length<=n) (ha:at_ < 90)
    (IH:∀ (fv:FV) (nm:Str) (d':DT) (S':Str) (at' cur':Nat) (T':Ty),T' = d'.sh.ty->fvOk fv T' = true->S'.length<=n+6->at' <= at_+3->LoopC w a W l L it T' fv nm d' S' at' cur' rem):LoopC w a W l L it .th (.v1 go sp) nm d S at_ cur (rem+1):=by
  refine ct_start (tx:=tx0) (pre:=[(L,lawFr a W nm (tyA a .th) d.addr S (.v1 go sp)),(W.st,stO W.row at_),(it,rItO cur (rem+1))]) (ro:=loopRo a W) (sup:=[(W.row,rowO l)]) hP tx0_ok (by decide) fun A' s R zs ta' N C U D' hR=>?_;refine sg C 4000 o_bt_th_00_1_1 ?_;intro _;have K_1:=sN s R C trId [] (ct_next hP it cur rem hr) [2] [];refine K_1 ?_;intro _ _ _ _ _ _ _ _ C_1 tr_1 su_1 _ _ _;have U_1:=su_1 _ U;refine sg C_1 4000 o_bt_th_00_1_2 ?_;intro _;have K_2:=sN s R C_1 tr_1 [] (ct_slen S n hS (by omega)) [] [];refine K_2 ?_;intro _ _ _ _ _ _ _ _ C_2 tr_2 su_2 _ _ _;have U_2:=su_2 _ U_1;refine sg C_2 4000 o_bt_th_00_1_3 ?_;intro _;have K_3:=sK s R C_2 tr_2 [] [(W.row,rowO l)] (tk_call hP W.st W.row l hl at_ 2 (by omega) (by decide) (by decide)) [1] [] U_2;refine K_3 ?_;intro b_3 _ _ _ _ _ _ _ C_3 tr_3 su_3 _ pd_3 _;have U_3:=su_3 _ U_2;rcases lt2 pd_3 with rfl | rfl
  · refine sg C_3 4000 o_bt_th_00_1_4 ?_;intro _;have K_4:=sN s R C_3 tr_3 [] (ct_sadd S [91] n hS (by show n+1<=1000; omega)) [] [];refine K_4 ?_;intro _ _ _ _ _ _ _ _ C_4 tr_4 su_4 _ _ _;have U_4:=su_4 _ U_3;refine sg C_4 4000 o_bt_th_00_1_5 ?_;intro _;have K_5:=sN s R C_4 tr_4 [] (ct_sadd (S++⟨⟨[91]⟩⟩) [48] (n+1) (len_app (y:=[91]) hS) (by show (n+1)+1<=1000; omega)) [] [];refine K_5 ?_;intro _ _ _ _ N_5 _ _ _ C_5 tr_5 su_5 _ _ _;have U_5:=su_5 _ U_4;refine sg C_5 4000 o_bt_th_00_1_6 ?_;intro _;have K_6:=sK s R C_5 tr_5 [] [(W.row,rowO l)] (tk_call hP W.st W.row l hl (at_+1) 2 (by omega) (by decide) (by decide)) [1] [] U_5;refine K_6 ?_;intro b_6 _ _ _ _ _ _ _ C_6 tr_6 su_6 _ pd_6 _;have U_6:=su_6 _ U_5;rcases lt2 pd_6 with rfl | rfl
    · refine sg C_6 4000 o_bt_th_00_1_7 ?_;intro _;have K_7:=sN s R C_6 tr_6 [] (ct_sadd ((S++⟨⟨[91]⟩⟩)++⟨⟨[48]⟩⟩) [93] ((n+1)+1) (len_app (y:=[48]) (len_app (y:=[91]) hS)) (by show ((n+1)+1)+1<=1000; omega)) [] [];refine K_7 ?_;intro _ _ _ _ _ _ _ _ C_7 tr_7 su_7 _ pd_7 _;have U_7:=su_7 _ U_6;refine sg C_7 4000 o_bt_th_00_1_8 ?_;intro _;have K_t:=tK C_7 (loopRo a W) [(W.row,rowO l)] (IH (.v2 cur S.length 0) nm (DT.idx (N_5+26) (N_5+25) S.length true 0 (N_5+24) (N_5+23) (S.length+1) d) (((S++⟨⟨[91]⟩⟩)++⟨⟨[48]⟩⟩)++⟨⟨[93]⟩⟩) ((at_+1)+1) (cur+1) .pa (by first | rfl | (rw [<- hT])) rfl (Nat.le_trans (show ((((S++⟨⟨[91]⟩⟩)++⟨⟨[48]⟩⟩)++⟨⟨[93]⟩⟩):Str).length<=(((n+1)+1)+1) from (len_app (y:=[93]) (len_app (y:=[48]) (len_app (y:=[91]) hS)))) (by omega)) (by omega)) [0,1,2] [3,4,5,6,7,8,9,10,11,12,13,14,15,16,17,18,19,20,21,22] U_7 tr_7 D' hR
      refine K_t ?_;rintro ⟨ss',fv',nm',T',d'',S'',at'',cur'',all'⟩ zu zn h' su fs pd;have F:=loop_fin (d:=d) (d':=(DT.idx (N_5+26) (N_5+25) S.length true 0 (N_5+24) (N_5+23) (S.length+1) d)) (S:=S) (S':=(((S++⟨⟨[91]⟩⟩)++⟨⟨[48]⟩⟩)++⟨⟨[93]⟩⟩)) (s:=(Sl.i false)) (n:=(l5 (N_5+26) (N_5+25) v_index S.length (tyNo (match true with | true=>Ty.pa | false=>Ty.it)) .none [.ref d.addr,.ref (N_5+24)]++l5 (N_5+24) (N_5+23) v_const (S.length+1) 4 (.int (Int.ofNat 0) 0) [])) rfl (by first | rfl | (unfold growS; rw [<- hT]; rfl)) (by simp only [app_list,List.append_assoc]; rfl) (by rw [<- hT]; rfl) pd
      cases fv' <;> (refine finD ⟨(Sl.i false)::ss',_,nm',T',d'',S'',at'',cur'',(l5 (N_5+26) (N_5+25) v_index S.length (tyNo (match true with | true=>Ty.pa | false=>Ty.it)) .none [.ref d.addr,.ref (N_5+24)]++l5 (N_5+24) (N_5+23) v_const (S.length+1) 4 (.int (Int.ofNat 0) 0) [])++all'⟩ (l5 (N_5+26) (N_5+25) v_index S.length (tyNo (match true with | true=>Ty.pa | false=>Ty.it)) .none [.ref d.addr,.ref (N_5+24)]++l5 (N_5+24) (N_5+23) v_const (S.length+1) 4 (.int (Int.ofNat 0) 0) []) all' [26,25,24,23] rfl ?_ rfl ?_ ?_ ?_ (su [] Sup.nil).left fs rfl F <;> kernel_rfl)
    · refine sg C_6 4000 o_bt_th_010_1_7 ?_;intro _;have K_7:=sK s R C_6 tr_6 [] [(W.row,rowO l)] (tk_call hP W.st W.row l hl ((at_+1)+1) 2 (by omega) (by decide) (by decide)) [1] [] U_6;refine K_7 ?_;intro b_7 _ _ _ _ _ _ _ C_7 tr_7 su_7 _ pd_7 _;have U_7:=su_7 _ U_6;rcases lt2 pd_7 with rfl | rfl
      · refine sg C_7 4000 o_bt_th_00_1_4 ?_;intro _;have K_8:=sN s R C_7 tr_7 [] (ct_sadd ((S++⟨⟨[91]⟩⟩)++⟨⟨[48]⟩⟩) [44,32] ((n+1)+1) (len_app (y:=[48]) (len_app (y:=[91]) hS)) (by show ((n+1)+1)+2<=1000; omega)) [] [];refine K_8 ?_;intro _ _ _ _ _ _ _ _ C_8 tr_8 su_8 _ _ _;have U_8:=su_8 _ U_7;refine sg C_8 4000 o_bt_th_00_1_5 ?_;intro _;have K_9:=sN s R C_8 tr_8 [] (ct_sadd (((S++⟨⟨[91]⟩⟩)++⟨⟨[48]⟩⟩)++⟨⟨[44,32]⟩⟩) [48] (((n+1)+1)+2) (len_app (y:=[44,32]) (len_app (y:=[48]) (len_app (y:=[91]) hS))) (by show (((n+1)+1)+2)+1<=1000; omega)) [] [];refine K_9 ?_;intro _ _ _ _ N_9 _ _ _ C_9 tr_9 su_9 _ _ _;have U_9:=su_9 _ U_8;refine sg C_9 4000 o_bt_th_010_1_10 ?_;intro _;have K_10:=sN s R C_9 tr_9 [] (ct_sadd ((((S++⟨⟨[91]⟩⟩)++⟨⟨[48]⟩⟩)++⟨⟨[44,32]⟩⟩)++⟨⟨[48]⟩⟩) [93] ((((n+1)+1)+2)+1) (len_app (y:=[48]) (len_app (y:=[44,32]) (len_app (y:=[48]) (len_app (y:=[91]) hS)))) (by show ((((n+1)+1)+2)+1)+1<=1000; omega)) [] [];refine K_10 ?_;intro _ _ _ _ _ _ _ _ C_10 tr_10 su_10 _ _ _;have U_10:=su_10 _ U_9;refine sg C_10 4000 o_bt_th_00_1_8 ?_;intro _;have K_t:=tK C_10 (loopRo a W) [(W.row,rowO l)] (IH (.v2 cur S.length 0) nm (DT.idx (N_9+30) (N_9+29) S.length false 0 (N_9+28) (N_9+27) (S.length+4) (DT.idx (N_5+26) (N_5+25) S.length true 0 (N_5+24) (N_5+23) (S.length+1) d)) (((((S++⟨⟨[91]⟩⟩)++⟨⟨[48]⟩⟩)++⟨⟨[44,32]⟩⟩)++⟨⟨[48]⟩⟩)++⟨⟨[93]⟩⟩) (((at_+1)+1)+1) (cur+1) .it (by first | rfl | (rw [<- hT])) rfl (Nat.le_trans (show ((((((S++⟨⟨[91]⟩⟩)++⟨⟨[48]⟩⟩)++⟨⟨[44,32]⟩⟩)++⟨⟨[48]⟩⟩)++⟨⟨[93]⟩⟩):Str).length<=(((((n+1)+1)+2)+1)+1) from (len_app (y:=[93]) (len_app (y:=[48]) (len_app (y:=[44,32]) (len_app (y:=[48]) (len_app (y:=[91]) hS)))))) (by omega)) (by omega)) [0,1,2] [3,4,5,6,7,8,9,10,11,12,13,14,15,16,17,18,19,20,21,22] U_10 tr_10 D' hR
        refine K_t ?_;rintro ⟨ss',fv',nm',T',d'',S'',at'',cur'',all'⟩ zu zn h' su fs pd;have F:=loop_fin (d:=d) (d':=(DT.idx (N_9+30) (N_9+29) S.length false 0 (N_9+28) (N_9+27) (S.length+4) (DT.idx (N_5+26) (N_5+25) S.length true 0 (N_5+24) (N_5+23) (S.length+1) d))) (S:=S) (S':=(((((S++⟨⟨[91]⟩⟩)++⟨⟨[48]⟩⟩)++⟨⟨[44,32]⟩⟩)++⟨⟨[48]⟩⟩)++⟨⟨[93]⟩⟩)) (s:=(Sl.ij false false)) (n:=((l5 (N_9+30) (N_9+29) v_index S.length (tyNo (match false with | true=>Ty.pa | false=>Ty.it)) .none [.ref (N_5+26),.ref (N_9+28)]++l5 (N_9+28) (N_9+27) v_const (S.length+4) 4 (.int (Int.ofNat 0) 0) [])++(l5 (N_5+26) (N_5+25) v_index S.length (tyNo (match true with | true=>Ty.pa | false=>Ty.it)) .none [.ref d.addr,.ref (N_5+24)]++l5 (N_5+24) (N_5+23) v_const (S.length+1) 4 (.int (Int.ofNat 0) 0) []))) rfl (by first | rfl | (unfold growS; rw [<- hT]; rfl)) (by simp only [app_list,List.append_assoc]; rfl) (by rw [<- hT]; rfl) pd
        cases fv' <;> (refine finD ⟨(Sl.ij false false)::ss',_,nm',T',d'',S'',at'',cur'',((l5 (N_9+30) (N_9+29) v_index S.length (tyNo (match false with | true=>Ty.pa | false=>Ty.it)) .none [.ref (N_5+26),.ref (N_9+28)]++l5 (N_9+28) (N_9+27) v_const (S.length+4) 4 (.int (Int.ofNat 0) 0) [])++(l5 (N_5+26) (N_5+25) v_index S.length (tyNo (match true with | true=>Ty.pa | false=>Ty.it)) .none [.ref d.addr,.ref (N_5+24)]++l5 (N_5+24) (N_5+23) v_const (S.length+1) 4 (.int (Int.ofNat 0) 0) []))++all'⟩ ((l5 (N_9+30) (N_9+29) v_index S.length (tyNo (match false with | true=>Ty.pa | false=>Ty.it)) .none [.ref (N_5+26),.ref (N_9+28)]++l5 (N_9+28) (N_9+27) v_const (S.length+4) 4 (.int (Int.ofNat 0) 0) [])++(l5 (N_5+26) (N_5+25) v_index S.length (tyNo (match true with | true=>Ty.pa | false=>Ty.it)) .none [.ref d.addr,.ref (N_5+24)]++l5 (N_5+24) (N_5+23) v_const (S.length+1) 4 (.int (Int.ofNat 0) 0) [])) all' [30,29,28,27,26,25,24,23] rfl ?_ rfl ?_ ?_ ?_ (su [] Sup.nil).left fs rfl F <;> kernel_rfl)
      · refine sg C_7 4000 o_bt_th_00_1_4 ?_;intro _;have K_8:=sN s R C_7 tr_7 [] (ct_sadd ((S++⟨⟨[91]⟩⟩)++⟨⟨[48]⟩⟩) [44,32] ((n+1)+1) (len_app (y:=[48]) (len_app (y:=[91]) hS)) (by show ((n+1)+1)+2<=1000; omega)) [] [];refine K_8 ?_;intro _ _ _ _ _ _ _ _ C_8 tr_8 su_8 _ _ _;have U_8:=su_8 _ U_7;refine sg C_8 4000 o_bt_th_00_1_5 ?_;intro _;have K_9:=sN s R C_8 tr_8 [] (ct_sadd (((S++⟨⟨[91]⟩⟩)++⟨⟨[48]⟩⟩)++⟨⟨[44,32]⟩⟩) [49] (((n+1)+1)+2) (len_app (y:=[44,32]) (len_app (y:=[48]) (len_app (y:=[91]) hS))) (by show (((n+1)+1)+2)+1<=1000; omega)) [] [];refine K_9 ?_;intro _ _ _ _ N_9 _ _ _ C_9 tr_9 su_9 _ _ _;have U_9:=su_9 _ U_8;refine sg C_9 4000 o_bt_th_010_1_10 ?_;intro _;have K_10:=sN s R C_9 tr_9 [] (ct_sadd ((((S++⟨⟨[91]⟩⟩)++⟨⟨[48]⟩⟩)++⟨⟨[44,32]⟩⟩)++⟨⟨[49]⟩⟩) [93] ((((n+1)+1)+2)+1) (len_app (y:=[49]) (len_app (y:=[44,32]) (len_app (y:=[48]) (len_app (y:=[91]) hS)))) (by show ((((n+1)+1)+2)+1)+1<=1000; omega)) [] [];refine K_10 ?_;intro _ _ _ _ _ _ _ _ C_10 tr_10 su_10 _ _ _;have U_10:=su_10 _ U_9;refine sg C_10 4000 o_bt_th_00_1_8 ?_;intro _;have K_t:=tK C_10 (loopRo a W) [(W.row,rowO l)] (IH (.v2 cur S.length 1) nm (DT.idx (N_9+30) (N_9+29) S.length false 1 (N_9+28) (N_9+27) (S.length+4) (DT.idx (N_5+26) (N_5+25) S.length true 0 (N_5+24) (N_5+23) (S.length+1) d)) (((((S++⟨⟨[91]⟩⟩)++⟨⟨[48]⟩⟩)++⟨⟨[44,32]⟩⟩)++⟨⟨[49]⟩⟩)++⟨⟨[93]⟩⟩) (((at_+1)+1)+1) (cur+1) .it (by first | rfl | (rw [<- hT])) rfl (Nat.le_trans (show ((((((S++⟨⟨[91]⟩⟩)++⟨⟨[48]⟩⟩)++⟨⟨[44,32]⟩⟩)++⟨⟨[49]⟩⟩)++⟨⟨[93]⟩⟩):Str).length<=(((((n+1)+1)+2)+1)+1) from (len_app (y:=[93]) (len_app (y:=[49]) (len_app (y:=[44,32]) (len_app (y:=[48]) (len_app (y:=[91]) hS)))))) (by omega)) (by omega)) [0,1,2] [3,4,5,6,7,8,9,10,11,12,13,14,15,16,17,18,19,20,21,22] U_10 tr_10 D' hR
        refine K_t ?_;rintro ⟨ss',fv',nm',T',d'',S'',at'',cur'',all'⟩ zu zn h' su fs pd;have F:=loop_fin (d:=d) (d':=(DT.idx (N_9+30) (N_9+29) S.length false 1 (N_9+28) (N_9+27) (S.length+4) (DT.idx (N_5+26) (N_5+25) S.length true 0 (N_5+24) (N_5+23) (S.length+1) d))) (S:=S) (S':=(((((S++⟨⟨[91]⟩⟩)++⟨⟨[48]⟩⟩)++⟨⟨[44,32]⟩⟩)++⟨⟨[49]⟩⟩)++⟨⟨[93]⟩⟩)) (s:=(Sl.ij false true)) (n:=((l5 (N_9+30) (N_9+29) v_index S.length (tyNo (match false with | true=>Ty.pa | false=>Ty.it)) .none [.ref (N_5+26),.ref (N_9+28)]++l5 (N_9+28) (N_9+27) v_const (S.length+4) 4 (.int (Int.ofNat 1) 0) [])++(l5 (N_5+26) (N_5+25) v_index S.length (tyNo (match true with | true=>Ty.pa | false=>Ty.it)) .none [.ref d.addr,.ref (N_5+24)]++l5 (N_5+24) (N_5+23) v_const (S.length+1) 4 (.int (Int.ofNat 0) 0) []))) rfl (by first | rfl | (unfold growS; rw [<- hT]; rfl)) (by simp only [app_list,List.append_assoc]; rfl) (by rw [<- hT]; rfl) pd
        cases fv' <;> (refine finD ⟨(Sl.ij false true)::ss',_,nm',T',d'',S'',at'',cur'',((l5 (N_9+30) (N_9+29) v_index S.length (tyNo (match false with | true=>Ty.pa | false=>Ty.it)) .none [.ref (N_5+26),.ref (N_9+28)]++l5 (N_9+28) (N_9+27) v_const (S.length+4) 4 (.int (Int.ofNat 1) 0) [])++(l5 (N_5+26) (N_5+25) v_index S.length (tyNo (match true with | true=>Ty.pa | false=>Ty.it)) .none [.ref d.addr,.ref (N_5+24)]++l5 (N_5+24) (N_5+23) v_const (S.length+1) 4 (.int (Int.ofNat 0) 0) []))++all'⟩ ((l5 (N_9+30) (N_9+29) v_index S.length (tyNo (match false with | true=>Ty.pa | false=>Ty.it)) .none [.ref (N_5+26),.ref (N_9+28)]++l5 (N_9+28) (N_9+27) v_const (S.length+4) 4 (.int (Int.ofNat 1) 0) [])++(l5 (N_5+26) (N_5+25) v_index S.length (tyNo (match true with | true=>Ty.pa | false=>Ty.it)) .none [.ref d.addr,.ref (N_5+24)]++l5 (N_5+24) (N_5+23) v_const (S.length+1) 4 (.int (Int.ofNat 0) 0) [])) all' [30,29,28,27,26,25,24,23] rfl ?_ rfl ?_ ?_ ?_ (su [] Sup.nil).left fs rfl F <;> kernel_rfl)
  · refine sg C_3 4000 o_bt_th_00_1_4 ?_;intro _;have K_4:=sN s R C_3 tr_3 [] (ct_sadd S [91] n hS (by show n+1<=1000; omega)) [] [];refine K_4 ?_;intro _ _ _ _ _ _ _ _ C_4 tr_4 su_4 _ _ _;have U_4:=su_4 _ U_3;refine sg C_4 4000 o_bt_th_00_1_5 ?_;intro _;have K_5:=sN s R C_4 tr_4 [] (ct_sadd (S++⟨⟨[91]⟩⟩) [49] (n+1) (len_app (y:=[91]) hS) (by show (n+1)+1<=1000; omega)) [] [];refine K_5 ?_;intro _ _ _ _ N_5 _ _ _ C_5 tr_5 su_5 _ _ _;have U_5:=su_5 _ U_4;refine sg C_5 4000 o_bt_th_00_1_6 ?_;intro _;have K_6:=sK s R C_5 tr_5 [] [(W.row,rowO l)] (tk_call hP W.st W.row l hl (at_+1) 2 (by omega) (by decide) (by decide)) [1] [] U_5;refine K_6 ?_;intro b_6 _ _ _ _ _ _ _ C_6 tr_6 su_6 _ pd_6 _;have U_6:=su_6 _ U_5;rcases lt2 pd_6 with rfl | rfl
    · refine sg C_6 4000 o_bt_th_00_1_7 ?_;intro _;have K_7:=sN s R C_6 tr_6 [] (ct_sadd ((S++⟨⟨[91]⟩⟩)++⟨⟨[49]⟩⟩) [93] ((n+1)+1) (len_app (y:=[49]) (len_app (y:=[91]) hS)) (by show ((n+1)+1)+1<=1000; omega)) [] [];refine K_7 ?_;intro _ _ _ _ _ _ _ _ C_7 tr_7 su_7 _ pd_7 _;have U_7:=su_7 _ U_6;refine sg C_7 4000 o_bt_th_00_1_8 ?_;intro _;have K_t:=tK C_7 (loopRo a W) [(W.row,rowO l)] (IH (.v2 cur S.length 1) nm (DT.idx (N_5+26) (N_5+25) S.length true 1 (N_5+24) (N_5+23) (S.length+1) d) (((S++⟨⟨[91]⟩⟩)++⟨⟨[49]⟩⟩)++⟨⟨[93]⟩⟩) ((at_+1)+1) (cur+1) .pa (by first | rfl | (rw [<- hT])) rfl (Nat.le_trans (show ((((S++⟨⟨[91]⟩⟩)++⟨⟨[49]⟩⟩)++⟨⟨[93]⟩⟩):Str).length<=(((n+1)+1)+1) from (len_app (y:=[93]) (len_app (y:=[49]) (len_app (y:=[91]) hS)))) (by omega)) (by omega)) [0,1,2] [3,4,5,6,7,8,9,10,11,12,13,14,15,16,17,18,19,20,21,22] U_7 tr_7 D' hR
      refine K_t ?_;rintro ⟨ss',fv',nm',T',d'',S'',at'',cur'',all'⟩ zu zn h' su fs pd;have F:=loop_fin (d:=d) (d':=(DT.idx (N_5+26) (N_5+25) S.length true 1 (N_5+24) (N_5+23) (S.length+1) d)) (S:=S) (S':=(((S++⟨⟨[91]⟩⟩)++⟨⟨[49]⟩⟩)++⟨⟨[93]⟩⟩)) (s:=(Sl.i true)) (n:=(l5 (N_5+26) (N_5+25) v_index S.length (tyNo (match true with | true=>Ty.pa | false=>Ty.it)) .none [.ref d.addr,.ref (N_5+24)]++l5 (N_5+24) (N_5+23) v_const (S.length+1) 4 (.int (Int.ofNat 1) 0) [])) rfl (by first | rfl | (unfold growS; rw [<- hT]; rfl)) (by simp only [app_list,List.append_assoc]; rfl) (by rw [<- hT]; rfl) pd
      cases fv' <;> (refine finD ⟨(Sl.i true)::ss',_,nm',T',d'',S'',at'',cur'',(l5 (N_5+26) (N_5+25) v_index S.length (tyNo (match true with | true=>Ty.pa | false=>Ty.it)) .none [.ref d.addr,.ref (N_5+24)]++l5 (N_5+24) (N_5+23) v_const (S.length+1) 4 (.int (Int.ofNat 1) 0) [])++all'⟩ (l5 (N_5+26) (N_5+25) v_index S.length (tyNo (match true with | true=>Ty.pa | false=>Ty.it)) .none [.ref d.addr,.ref (N_5+24)]++l5 (N_5+24) (N_5+23) v_const (S.length+1) 4 (.int (Int.ofNat 1) 0) []) all' [26,25,24,23] rfl ?_ rfl ?_ ?_ ?_ (su [] Sup.nil).left fs rfl F <;> kernel_rfl)
    · refine sg C_6 4000 o_bt_th_010_1_7 ?_;intro _;have K_7:=sK s R C_6 tr_6 [] [(W.row,rowO l)] (tk_call hP W.st W.row l hl ((at_+1)+1) 2 (by omega) (by decide) (by decide)) [1] [] U_6;refine K_7 ?_;intro b_7 _ _ _ _ _ _ _ C_7 tr_7 su_7 _ pd_7 _;have U_7:=su_7 _ U_6;rcases lt2 pd_7 with rfl | rfl
      · refine sg C_7 4000 o_bt_th_00_1_4 ?_;intro _;have K_8:=sN s R C_7 tr_7 [] (ct_sadd ((S++⟨⟨[91]⟩⟩)++⟨⟨[49]⟩⟩) [44,32] ((n+1)+1) (len_app (y:=[49]) (len_app (y:=[91]) hS)) (by show ((n+1)+1)+2<=1000; omega)) [] [];refine K_8 ?_;intro _ _ _ _ _ _ _ _ C_8 tr_8 su_8 _ _ _;have U_8:=su_8 _ U_7;refine sg C_8 4000 o_bt_th_00_1_5 ?_;intro _;have K_9:=sN s R C_8 tr_8 [] (ct_sadd (((S++⟨⟨[91]⟩⟩)++⟨⟨[49]⟩⟩)++⟨⟨[44,32]⟩⟩) [48] (((n+1)+1)+2) (len_app (y:=[44,32]) (len_app (y:=[49]) (len_app (y:=[91]) hS))) (by show (((n+1)+1)+2)+1<=1000; omega)) [] [];refine K_9 ?_;intro _ _ _ _ N_9 _ _ _ C_9 tr_9 su_9 _ _ _;have U_9:=su_9 _ U_8;refine sg C_9 4000 o_bt_th_010_1_10 ?_;intro _;have K_10:=sN s R C_9 tr_9 [] (ct_sadd ((((S++⟨⟨[91]⟩⟩)++⟨⟨[49]⟩⟩)++⟨⟨[44,32]⟩⟩)++⟨⟨[48]⟩⟩) [93] ((((n+1)+1)+2)+1) (len_app (y:=[48]) (len_app (y:=[44,32]) (len_app (y:=[49]) (len_app (y:=[91]) hS)))) (by show ((((n+1)+1)+2)+1)+1<=1000; omega)) [] [];refine K_10 ?_;intro _ _ _ _ _ _ _ _ C_10 tr_10 su_10 _ _ _;have U_10:=su_10 _ U_9;refine sg C_10 4000 o_bt_th_00_1_8 ?_;intro _;have K_t:=tK C_10 (loopRo a W) [(W.row,rowO l)] (IH (.v2 cur S.length 0) nm (DT.idx (N_9+30) (N_9+29) S.length false 0 (N_9+28) (N_9+27) (S.length+4) (DT.idx (N_5+26) (N_5+25) S.length true 1 (N_5+24) (N_5+23) (S.length+1) d)) (((((S++⟨⟨[91]⟩⟩)++⟨⟨[49]⟩⟩)++⟨⟨[44,32]⟩⟩)++⟨⟨[48]⟩⟩)++⟨⟨[93]⟩⟩) (((at_+1)+1)+1) (cur+1) .it (by first | rfl | (rw [<- hT])) rfl (Nat.le_trans (show ((((((S++⟨⟨[91]⟩⟩)++⟨⟨[49]⟩⟩)++⟨⟨[44,32]⟩⟩)++⟨⟨[48]⟩⟩)++⟨⟨[93]⟩⟩):Str).length<=(((((n+1)+1)+2)+1)+1) from (len_app (y:=[93]) (len_app (y:=[48]) (len_app (y:=[44,32]) (len_app (y:=[49]) (len_app (y:=[91]) hS)))))) (by omega)) (by omega)) [0,1,2] [3,4,5,6,7,8,9,10,11,12,13,14,15,16,17,18,19,20,21,22] U_10 tr_10 D' hR
        refine K_t ?_;rintro ⟨ss',fv',nm',T',d'',S'',at'',cur'',all'⟩ zu zn h' su fs pd;have F:=loop_fin (d:=d) (d':=(DT.idx (N_9+30) (N_9+29) S.length false 0 (N_9+28) (N_9+27) (S.length+4) (DT.idx (N_5+26) (N_5+25) S.length true 1 (N_5+24) (N_5+23) (S.length+1) d))) (S:=S) (S':=(((((S++⟨⟨[91]⟩⟩)++⟨⟨[49]⟩⟩)++⟨⟨[44,32]⟩⟩)++⟨⟨[48]⟩⟩)++⟨⟨[93]⟩⟩)) (s:=(Sl.ij true false)) (n:=((l5 (N_9+30) (N_9+29) v_index S.length (tyNo (match false with | true=>Ty.pa | false=>Ty.it)) .none [.ref (N_5+26),.ref (N_9+28)]++l5 (N_9+28) (N_9+27) v_const (S.length+4) 4 (.int (Int.ofNat 0) 0) [])++(l5 (N_5+26) (N_5+25) v_index S.length (tyNo (match true with | true=>Ty.pa | false=>Ty.it)) .none [.ref d.addr,.ref (N_5+24)]++l5 (N_5+24) (N_5+23) v_const (S.length+1) 4 (.int (Int.ofNat 1) 0) []))) rfl (by first | rfl | (unfold growS; rw [<- hT]; rfl)) (by simp only [app_list,List.append_assoc]; rfl) (by rw [<- hT]; rfl) pd
        cases fv' <;> (refine finD ⟨(Sl.ij true false)::ss',_,nm',T',d'',S'',at'',cur'',((l5 (N_9+30) (N_9+29) v_index S.length (tyNo (match false with | true=>Ty.pa | false=>Ty.it)) .none [.ref (N_5+26),.ref (N_9+28)]++l5 (N_9+28) (N_9+27) v_const (S.length+4) 4 (.int (Int.ofNat 0) 0) [])++(l5 (N_5+26) (N_5+25) v_index S.length (tyNo (match true with | true=>Ty.pa | false=>Ty.it)) .none [.ref d.addr,.ref (N_5+24)]++l5 (N_5+24) (N_5+23) v_const (S.length+1) 4 (.int (Int.ofNat 1) 0) []))++all'⟩ ((l5 (N_9+30) (N_9+29) v_index S.length (tyNo (match false with | true=>Ty.pa | false=>Ty.it)) .none [.ref (N_5+26),.ref (N_9+28)]++l5 (N_9+28) (N_9+27) v_const (S.length+4) 4 (.int (Int.ofNat 0) 0) [])++(l5 (N_5+26) (N_5+25) v_index S.length (tyNo (match true with | true=>Ty.pa | false=>Ty.it)) .none [.ref d.addr,.ref (N_5+24)]++l5 (N_5+24) (N_5+23) v_const (S.length+1) 4 (.int (Int.ofNat 1) 0) [])) all' [30,29,28,27,26,25,24,23] rfl ?_ rfl ?_ ?_ ?_ (su [] Sup.nil).left fs rfl F <;> kernel_rfl)
      · refine sg C_7 4000 o_bt_th_00_1_4 ?_;intro _;have K_8:=sN s R C_7 tr_7 [] (ct_sadd ((S++⟨⟨[91]⟩⟩)++⟨⟨[49]⟩⟩) [44,32] ((n+1)+1) (len_app (y:=[49]) (len_app (y:=[91]) hS)) (by show ((n+1)+1)+2<=1000; omega)) [] [];refine K_8 ?_;intro _ _ _ _ _ _ _ _ C_8 tr_8 su_8 _ _ _;have U_8:=su_8 _ U_7;refine sg C_8 4000 o_bt_th_00_1_5 ?_;intro _;have K_9:=sN s R C_8 tr_8 [] (ct_sadd (((S++⟨⟨[91]⟩⟩)++⟨⟨[49]⟩⟩)++⟨⟨[44,32]⟩⟩) [49] (((n+1)+1)+2) (len_app (y:=[44,32]) (len_app (y:=[49]) (len_app (y:=[91]) hS))) (by show (((n+1)+1)+2)+1<=1000; omega)) [] [];refine K_9 ?_;intro _ _ _ _ N_9 _ _ _ C_9 tr_9 su_9 _ _ _;have U_9:=su_9 _ U_8;refine sg C_9 4000 o_bt_th_010_1_10 ?_;intro _;have K_10:=sN s R C_9 tr_9 [] (ct_sadd ((((S++⟨⟨[91]⟩⟩)++⟨⟨[49]⟩⟩)++⟨⟨[44,32]⟩⟩)++⟨⟨[49]⟩⟩) [93] ((((n+1)+1)+2)+1) (len_app (y:=[49]) (len_app (y:=[44,32]) (len_app (y:=[49]) (len_app (y:=[91]) hS)))) (by show ((((n+1)+1)+2)+1)+1<=1000; omega)) [] [];refine K_10 ?_;intro _ _ _ _ _ _ _ _ C_10 tr_10 su_10 _ _ _;have U_10:=su_10 _ U_9;refine sg C_10 4000 o_bt_th_00_1_8 ?_;intro _;have K_t:=tK C_10 (loopRo a W) [(W.row,rowO l)] (IH (.v2 cur S.length 1) nm (DT.idx (N_9+30) (N_9+29) S.length false 1 (N_9+28) (N_9+27) (S.length+4) (DT.idx (N_5+26) (N_5+25) S.length true 1 (N_5+24) (N_5+23) (S.length+1) d)) (((((S++⟨⟨[91]⟩⟩)++⟨⟨[49]⟩⟩)++⟨⟨[44,32]⟩⟩)++⟨⟨[49]⟩⟩)++⟨⟨[93]⟩⟩) (((at_+1)+1)+1) (cur+1) .it (by first | rfl | (rw [<- hT])) rfl (Nat.le_trans (show ((((((S++⟨⟨[91]⟩⟩)++⟨⟨[49]⟩⟩)++⟨⟨[44,32]⟩⟩)++⟨⟨[49]⟩⟩)++⟨⟨[93]⟩⟩):Str).length<=(((((n+1)+1)+2)+1)+1) from (len_app (y:=[93]) (len_app (y:=[49]) (len_app (y:=[44,32]) (len_app (y:=[49]) (len_app (y:=[91]) hS)))))) (by omega)) (by omega)) [0,1,2] [3,4,5,6,7,8,9,10,11,12,13,14,15,16,17,18,19,20,21,22] U_10 tr_10 D' hR
        refine K_t ?_;rintro ⟨ss',fv',nm',T',d'',S'',at'',cur'',all'⟩ zu zn h' su fs pd;have F:=loop_fin (d:=d) (d':=(DT.idx (N_9+30) (N_9+29) S.length false 1 (N_9+28) (N_9+27) (S.length+4) (DT.idx (N_5+26) (N_5+25) S.length true 1 (N_5+24) (N_5+23) (S.length+1) d))) (S:=S) (S':=(((((S++⟨⟨[91]⟩⟩)++⟨⟨[49]⟩⟩)++⟨⟨[44,32]⟩⟩)++⟨⟨[49]⟩⟩)++⟨⟨[93]⟩⟩)) (s:=(Sl.ij true true)) (n:=((l5 (N_9+30) (N_9+29) v_index S.length (tyNo (match false with | true=>Ty.pa | false=>Ty.it)) .none [.ref (N_5+26),.ref (N_9+28)]++l5 (N_9+28) (N_9+27) v_const (S.length+4) 4 (.int (Int.ofNat 1) 0) [])++(l5 (N_5+26) (N_5+25) v_index S.length (tyNo (match true with | true=>Ty.pa | false=>Ty.it)) .none [.ref d.addr,.ref (N_5+24)]++l5 (N_5+24) (N_5+23) v_const (S.length+1) 4 (.int (Int.ofNat 1) 0) []))) rfl (by first | rfl | (unfold growS; rw [<- hT]; rfl)) (by simp only [app_list,List.append_assoc]; rfl) (by rw [<- hT]; rfl) pd
        cases fv' <;> (refine finD ⟨(Sl.ij true true)::ss',_,nm',T',d'',S'',at'',cur'',((l5 (N_9+30) (N_9+29) v_index S.length (tyNo (match false with | true=>Ty.pa | false=>Ty.it)) .none [.ref (N_5+26),.ref (N_9+28)]++l5 (N_9+28) (N_9+27) v_const (S.length+4) 4 (.int (Int.ofNat 1) 0) [])++(l5 (N_5+26) (N_5+25) v_index S.length (tyNo (match true with | true=>Ty.pa | false=>Ty.it)) .none [.ref d.addr,.ref (N_5+24)]++l5 (N_5+24) (N_5+23) v_const (S.length+1) 4 (.int (Int.ofNat 1) 0) []))++all'⟩ ((l5 (N_9+30) (N_9+29) v_index S.length (tyNo (match false with | true=>Ty.pa | false=>Ty.it)) .none [.ref (N_5+26),.ref (N_9+28)]++l5 (N_9+28) (N_9+27) v_const (S.length+4) 4 (.int (Int.ofNat 1) 0) [])++(l5 (N_5+26) (N_5+25) v_index S.length (tyNo (match true with | true=>Ty.pa | false=>Ty.it)) .none [.ref d.addr,.ref (N_5+24)]++l5 (N_5+24) (N_5+23) v_const (S.length+1) 4 (.int (Int.ofNat 1) 0) [])) all' [30,29,28,27,26,25,24,23] rfl ?_ rfl ?_ ?_ ?_ (su [] Sup.nil).left fs rfl F <;> kernel_rfl)
theorem bt_th_2 {w:World} {b1 b2 b3:Bool} (hP:Rows w b1 b2 b3) (a:Nat->Nat) (W:LW) (l:List Int) (hl:l.length < 100) (L it:Nat) (go sp fg:Nat) (nm:Str) (d:DT) (S:Str) (at_ cur rem:Nat) (hT:.th=d.sh.ty) (hr:rem < 7) (n:Nat) (hn:n<=900) (hS:S.length<=n) (ha:at_ < 90)
    (IH:∀ (fv:FV) (nm:Str) (d':DT) (S':Str) (at' cur':Nat) (T':Ty),T' = d'.sh.ty->fvOk fv T' = true->S'.length<=n+6->at' <= at_+3->LoopC w a W l L it T' fv nm d' S' at' cur' rem):LoopC w a W l L it .th (.v2 go sp fg) nm d S at_ cur (rem+1):=by
  refine ct_start (tx:=tx0) (pre:=[(L,lawFr a W nm (tyA a .th) d.addr S (.v2 go sp fg)),(W.st,stO W.row at_),(it,rItO cur (rem+1))]) (ro:=loopRo a W) (sup:=[(W.row,rowO l)]) hP tx0_ok (by decide) fun A' s R zs ta' N C U D' hR=>?_;refine sg C 4000 o_bt_th_00_1_1 ?_;intro _;have K_1:=sN s R C trId [] (ct_next hP it cur rem hr) [2] [];refine K_1 ?_;intro _ _ _ _ _ _ _ _ C_1 tr_1 su_1 _ _ _;have U_1:=su_1 _ U;refine sg C_1 4000 o_bt_th_00_1_2 ?_;intro _;have K_2:=sN s R C_1 tr_1 [] (ct_slen S n hS (by omega)) [] [];refine K_2 ?_;intro _ _ _ _ _ _ _ _ C_2 tr_2 su_2 _ _ _;have U_2:=su_2 _ U_1;refine sg C_2 4000 o_bt_th_00_1_3 ?_;intro _;have K_3:=sK s R C_2 tr_2 [] [(W.row,rowO l)] (tk_call hP W.st W.row l hl at_ 2 (by omega) (by decide) (by decide)) [1] [] U_2;refine K_3 ?_;intro b_3 _ _ _ _ _ _ _ C_3 tr_3 su_3 _ pd_3 _;have U_3:=su_3 _ U_2;rcases lt2 pd_3 with rfl | rfl
  · refine sg C_3 4000 o_bt_th_00_1_4 ?_;intro _;have K_4:=sN s R C_3 tr_3 [] (ct_sadd S [91] n hS (by show n+1<=1000; omega)) [] [];refine K_4 ?_;intro _ _ _ _ _ _ _ _ C_4 tr_4 su_4 _ _ _;have U_4:=su_4 _ U_3;refine sg C_4 4000 o_bt_th_00_1_5 ?_;intro _;have K_5:=sN s R C_4 tr_4 [] (ct_sadd (S++⟨⟨[91]⟩⟩) [48] (n+1) (len_app (y:=[91]) hS) (by show (n+1)+1<=1000; omega)) [] [];refine K_5 ?_;intro _ _ _ _ N_5 _ _ _ C_5 tr_5 su_5 _ _ _;have U_5:=su_5 _ U_4;refine sg C_5 4000 o_bt_th_00_1_6 ?_;intro _;have K_6:=sK s R C_5 tr_5 [] [(W.row,rowO l)] (tk_call hP W.st W.row l hl (at_+1) 2 (by omega) (by decide) (by decide)) [1] [] U_5;refine K_6 ?_;intro b_6 _ _ _ _ _ _ _ C_6 tr_6 su_6 _ pd_6 _;have U_6:=su_6 _ U_5;rcases lt2 pd_6 with rfl | rfl
    · refine sg C_6 4000 o_bt_th_00_1_7 ?_;intro _;have K_7:=sN s R C_6 tr_6 [] (ct_sadd ((S++⟨⟨[91]⟩⟩)++⟨⟨[48]⟩⟩) [93] ((n+1)+1) (len_app (y:=[48]) (len_app (y:=[91]) hS)) (by show ((n+1)+1)+1<=1000; omega)) [] [];refine K_7 ?_;intro _ _ _ _ _ _ _ _ C_7 tr_7 su_7 _ pd_7 _;have U_7:=su_7 _ U_6;refine sg C_7 4000 o_bt_th_00_1_8 ?_;intro _;have K_t:=tK C_7 (loopRo a W) [(W.row,rowO l)] (IH (.v2 cur S.length 0) nm (DT.idx (N_5+26) (N_5+25) S.length true 0 (N_5+24) (N_5+23) (S.length+1) d) (((S++⟨⟨[91]⟩⟩)++⟨⟨[48]⟩⟩)++⟨⟨[93]⟩⟩) ((at_+1)+1) (cur+1) .pa (by first | rfl | (rw [<- hT])) rfl (Nat.le_trans (show ((((S++⟨⟨[91]⟩⟩)++⟨⟨[48]⟩⟩)++⟨⟨[93]⟩⟩):Str).length<=(((n+1)+1)+1) from (len_app (y:=[93]) (len_app (y:=[48]) (len_app (y:=[91]) hS)))) (by omega)) (by omega)) [0,1,2] [3,4,5,6,7,8,9,10,11,12,13,14,15,16,17,18,19,20,21,22] U_7 tr_7 D' hR
      refine K_t ?_;rintro ⟨ss',fv',nm',T',d'',S'',at'',cur'',all'⟩ zu zn h' su fs pd;have F:=loop_fin (d:=d) (d':=(DT.idx (N_5+26) (N_5+25) S.length true 0 (N_5+24) (N_5+23) (S.length+1) d)) (S:=S) (S':=(((S++⟨⟨[91]⟩⟩)++⟨⟨[48]⟩⟩)++⟨⟨[93]⟩⟩)) (s:=(Sl.i false)) (n:=(l5 (N_5+26) (N_5+25) v_index S.length (tyNo (match true with | true=>Ty.pa | false=>Ty.it)) .none [.ref d.addr,.ref (N_5+24)]++l5 (N_5+24) (N_5+23) v_const (S.length+1) 4 (.int (Int.ofNat 0) 0) [])) rfl (by first | rfl | (unfold growS; rw [<- hT]; rfl)) (by simp only [app_list,List.append_assoc]; rfl) (by rw [<- hT]; rfl) pd
      cases fv' <;> (refine finD ⟨(Sl.i false)::ss',_,nm',T',d'',S'',at'',cur'',(l5 (N_5+26) (N_5+25) v_index S.length (tyNo (match true with | true=>Ty.pa | false=>Ty.it)) .none [.ref d.addr,.ref (N_5+24)]++l5 (N_5+24) (N_5+23) v_const (S.length+1) 4 (.int (Int.ofNat 0) 0) [])++all'⟩ (l5 (N_5+26) (N_5+25) v_index S.length (tyNo (match true with | true=>Ty.pa | false=>Ty.it)) .none [.ref d.addr,.ref (N_5+24)]++l5 (N_5+24) (N_5+23) v_const (S.length+1) 4 (.int (Int.ofNat 0) 0) []) all' [26,25,24,23] rfl ?_ rfl ?_ ?_ ?_ (su [] Sup.nil).left fs rfl F <;> kernel_rfl)
    · refine sg C_6 4000 o_bt_th_010_1_7 ?_;intro _;have K_7:=sK s R C_6 tr_6 [] [(W.row,rowO l)] (tk_call hP W.st W.row l hl ((at_+1)+1) 2 (by omega) (by decide) (by decide)) [1] [] U_6;refine K_7 ?_;intro b_7 _ _ _ _ _ _ _ C_7 tr_7 su_7 _ pd_7 _;have U_7:=su_7 _ U_6;rcases lt2 pd_7 with rfl | rfl
      · refine sg C_7 4000 o_bt_th_00_1_4 ?_;intro _;have K_8:=sN s R C_7 tr_7 [] (ct_sadd ((S++⟨⟨[91]⟩⟩)++⟨⟨[48]⟩⟩) [44,32] ((n+1)+1) (len_app (y:=[48]) (len_app (y:=[91]) hS)) (by show ((n+1)+1)+2<=1000; omega)) [] [];refine K_8 ?_;intro _ _ _ _ _ _ _ _ C_8 tr_8 su_8 _ _ _;have U_8:=su_8 _ U_7;refine sg C_8 4000 o_bt_th_00_1_5 ?_;intro _;have K_9:=sN s R C_8 tr_8 [] (ct_sadd (((S++⟨⟨[91]⟩⟩)++⟨⟨[48]⟩⟩)++⟨⟨[44,32]⟩⟩) [48] (((n+1)+1)+2) (len_app (y:=[44,32]) (len_app (y:=[48]) (len_app (y:=[91]) hS))) (by show (((n+1)+1)+2)+1<=1000; omega)) [] [];refine K_9 ?_;intro _ _ _ _ N_9 _ _ _ C_9 tr_9 su_9 _ _ _;have U_9:=su_9 _ U_8;refine sg C_9 4000 o_bt_th_010_1_10 ?_;intro _;have K_10:=sN s R C_9 tr_9 [] (ct_sadd ((((S++⟨⟨[91]⟩⟩)++⟨⟨[48]⟩⟩)++⟨⟨[44,32]⟩⟩)++⟨⟨[48]⟩⟩) [93] ((((n+1)+1)+2)+1) (len_app (y:=[48]) (len_app (y:=[44,32]) (len_app (y:=[48]) (len_app (y:=[91]) hS)))) (by show ((((n+1)+1)+2)+1)+1<=1000; omega)) [] [];refine K_10 ?_;intro _ _ _ _ _ _ _ _ C_10 tr_10 su_10 _ _ _;have U_10:=su_10 _ U_9;refine sg C_10 4000 o_bt_th_00_1_8 ?_;intro _;have K_t:=tK C_10 (loopRo a W) [(W.row,rowO l)] (IH (.v2 cur S.length 0) nm (DT.idx (N_9+30) (N_9+29) S.length false 0 (N_9+28) (N_9+27) (S.length+4) (DT.idx (N_5+26) (N_5+25) S.length true 0 (N_5+24) (N_5+23) (S.length+1) d)) (((((S++⟨⟨[91]⟩⟩)++⟨⟨[48]⟩⟩)++⟨⟨[44,32]⟩⟩)++⟨⟨[48]⟩⟩)++⟨⟨[93]⟩⟩) (((at_+1)+1)+1) (cur+1) .it (by first | rfl | (rw [<- hT])) rfl (Nat.le_trans (show ((((((S++⟨⟨[91]⟩⟩)++⟨⟨[48]⟩⟩)++⟨⟨[44,32]⟩⟩)++⟨⟨[48]⟩⟩)++⟨⟨[93]⟩⟩):Str).length<=(((((n+1)+1)+2)+1)+1) from (len_app (y:=[93]) (len_app (y:=[48]) (len_app (y:=[44,32]) (len_app (y:=[48]) (len_app (y:=[91]) hS)))))) (by omega)) (by omega)) [0,1,2] [3,4,5,6,7,8,9,10,11,12,13,14,15,16,17,18,19,20,21,22] U_10 tr_10 D' hR
        refine K_t ?_;rintro ⟨ss',fv',nm',T',d'',S'',at'',cur'',all'⟩ zu zn h' su fs pd;have F:=loop_fin (d:=d) (d':=(DT.idx (N_9+30) (N_9+29) S.length false 0 (N_9+28) (N_9+27) (S.length+4) (DT.idx (N_5+26) (N_5+25) S.length true 0 (N_5+24) (N_5+23) (S.length+1) d))) (S:=S) (S':=(((((S++⟨⟨[91]⟩⟩)++⟨⟨[48]⟩⟩)++⟨⟨[44,32]⟩⟩)++⟨⟨[48]⟩⟩)++⟨⟨[93]⟩⟩)) (s:=(Sl.ij false false)) (n:=((l5 (N_9+30) (N_9+29) v_index S.length (tyNo (match false with | true=>Ty.pa | false=>Ty.it)) .none [.ref (N_5+26),.ref (N_9+28)]++l5 (N_9+28) (N_9+27) v_const (S.length+4) 4 (.int (Int.ofNat 0) 0) [])++(l5 (N_5+26) (N_5+25) v_index S.length (tyNo (match true with | true=>Ty.pa | false=>Ty.it)) .none [.ref d.addr,.ref (N_5+24)]++l5 (N_5+24) (N_5+23) v_const (S.length+1) 4 (.int (Int.ofNat 0) 0) []))) rfl (by first | rfl | (unfold growS; rw [<- hT]; rfl)) (by simp only [app_list,List.append_assoc]; rfl) (by rw [<- hT]; rfl) pd
        cases fv' <;> (refine finD ⟨(Sl.ij false false)::ss',_,nm',T',d'',S'',at'',cur'',((l5 (N_9+30) (N_9+29) v_index S.length (tyNo (match false with | true=>Ty.pa | false=>Ty.it)) .none [.ref (N_5+26),.ref (N_9+28)]++l5 (N_9+28) (N_9+27) v_const (S.length+4) 4 (.int (Int.ofNat 0) 0) [])++(l5 (N_5+26) (N_5+25) v_index S.length (tyNo (match true with | true=>Ty.pa | false=>Ty.it)) .none [.ref d.addr,.ref (N_5+24)]++l5 (N_5+24) (N_5+23) v_const (S.length+1) 4 (.int (Int.ofNat 0) 0) []))++all'⟩ ((l5 (N_9+30) (N_9+29) v_index S.length (tyNo (match false with | true=>Ty.pa | false=>Ty.it)) .none [.ref (N_5+26),.ref (N_9+28)]++l5 (N_9+28) (N_9+27) v_const (S.length+4) 4 (.int (Int.ofNat 0) 0) [])++(l5 (N_5+26) (N_5+25) v_index S.length (tyNo (match true with | true=>Ty.pa | false=>Ty.it)) .none [.ref d.addr,.ref (N_5+24)]++l5 (N_5+24) (N_5+23) v_const (S.length+1) 4 (.int (Int.ofNat 0) 0) [])) all' [30,29,28,27,26,25,24,23] rfl ?_ rfl ?_ ?_ ?_ (su [] Sup.nil).left fs rfl F <;> kernel_rfl)
      · refine sg C_7 4000 o_bt_th_00_1_4 ?_;intro _;have K_8:=sN s R C_7 tr_7 [] (ct_sadd ((S++⟨⟨[91]⟩⟩)++⟨⟨[48]⟩⟩) [44,32] ((n+1)+1) (len_app (y:=[48]) (len_app (y:=[91]) hS)) (by show ((n+1)+1)+2<=1000; omega)) [] [];refine K_8 ?_;intro _ _ _ _ _ _ _ _ C_8 tr_8 su_8 _ _ _;have U_8:=su_8 _ U_7;refine sg C_8 4000 o_bt_th_00_1_5 ?_;intro _;have K_9:=sN s R C_8 tr_8 [] (ct_sadd (((S++⟨⟨[91]⟩⟩)++⟨⟨[48]⟩⟩)++⟨⟨[44,32]⟩⟩) [49] (((n+1)+1)+2) (len_app (y:=[44,32]) (len_app (y:=[48]) (len_app (y:=[91]) hS))) (by show (((n+1)+1)+2)+1<=1000; omega)) [] [];refine K_9 ?_;intro _ _ _ _ N_9 _ _ _ C_9 tr_9 su_9 _ _ _;have U_9:=su_9 _ U_8;refine sg C_9 4000 o_bt_th_010_1_10 ?_;intro _;have K_10:=sN s R C_9 tr_9 [] (ct_sadd ((((S++⟨⟨[91]⟩⟩)++⟨⟨[48]⟩⟩)++⟨⟨[44,32]⟩⟩)++⟨⟨[49]⟩⟩) [93] ((((n+1)+1)+2)+1) (len_app (y:=[49]) (len_app (y:=[44,32]) (len_app (y:=[48]) (len_app (y:=[91]) hS)))) (by show ((((n+1)+1)+2)+1)+1<=1000; omega)) [] [];refine K_10 ?_;intro _ _ _ _ _ _ _ _ C_10 tr_10 su_10 _ _ _;have U_10:=su_10 _ U_9;refine sg C_10 4000 o_bt_th_00_1_8 ?_;intro _;have K_t:=tK C_10 (loopRo a W) [(W.row,rowO l)] (IH (.v2 cur S.length 1) nm (DT.idx (N_9+30) (N_9+29) S.length false 1 (N_9+28) (N_9+27) (S.length+4) (DT.idx (N_5+26) (N_5+25) S.length true 0 (N_5+24) (N_5+23) (S.length+1) d)) (((((S++⟨⟨[91]⟩⟩)++⟨⟨[48]⟩⟩)++⟨⟨[44,32]⟩⟩)++⟨⟨[49]⟩⟩)++⟨⟨[93]⟩⟩) (((at_+1)+1)+1) (cur+1) .it (by first | rfl | (rw [<- hT])) rfl (Nat.le_trans (show ((((((S++⟨⟨[91]⟩⟩)++⟨⟨[48]⟩⟩)++⟨⟨[44,32]⟩⟩)++⟨⟨[49]⟩⟩)++⟨⟨[93]⟩⟩):Str).length<=(((((n+1)+1)+2)+1)+1) from (len_app (y:=[93]) (len_app (y:=[49]) (len_app (y:=[44,32]) (len_app (y:=[48]) (len_app (y:=[91]) hS)))))) (by omega)) (by omega)) [0,1,2] [3,4,5,6,7,8,9,10,11,12,13,14,15,16,17,18,19,20,21,22] U_10 tr_10 D' hR
        refine K_t ?_;rintro ⟨ss',fv',nm',T',d'',S'',at'',cur'',all'⟩ zu zn h' su fs pd;have F:=loop_fin (d:=d) (d':=(DT.idx (N_9+30) (N_9+29) S.length false 1 (N_9+28) (N_9+27) (S.length+4) (DT.idx (N_5+26) (N_5+25) S.length true 0 (N_5+24) (N_5+23) (S.length+1) d))) (S:=S) (S':=(((((S++⟨⟨[91]⟩⟩)++⟨⟨[48]⟩⟩)++⟨⟨[44,32]⟩⟩)++⟨⟨[49]⟩⟩)++⟨⟨[93]⟩⟩)) (s:=(Sl.ij false true)) (n:=((l5 (N_9+30) (N_9+29) v_index S.length (tyNo (match false with | true=>Ty.pa | false=>Ty.it)) .none [.ref (N_5+26),.ref (N_9+28)]++l5 (N_9+28) (N_9+27) v_const (S.length+4) 4 (.int (Int.ofNat 1) 0) [])++(l5 (N_5+26) (N_5+25) v_index S.length (tyNo (match true with | true=>Ty.pa | false=>Ty.it)) .none [.ref d.addr,.ref (N_5+24)]++l5 (N_5+24) (N_5+23) v_const (S.length+1) 4 (.int (Int.ofNat 0) 0) []))) rfl (by first | rfl | (unfold growS; rw [<- hT]; rfl)) (by simp only [app_list,List.append_assoc]; rfl) (by rw [<- hT]; rfl) pd
        cases fv' <;> (refine finD ⟨(Sl.ij false true)::ss',_,nm',T',d'',S'',at'',cur'',((l5 (N_9+30) (N_9+29) v_index S.length (tyNo (match false with | true=>Ty.pa | false=>Ty.it)) .none [.ref (N_5+26),.ref (N_9+28)]++l5 (N_9+28) (N_9+27) v_const (S.length+4) 4 (.int (Int.ofNat 1) 0) [])++(l5 (N_5+26) (N_5+25) v_index S.length (tyNo (match true with | true=>Ty.pa | false=>Ty.it)) .none [.ref d.addr,.ref (N_5+24)]++l5 (N_5+24) (N_5+23) v_const (S.length+1) 4 (.int (Int.ofNat 0) 0) []))++all'⟩ ((l5 (N_9+30) (N_9+29) v_index S.length (tyNo (match false with | true=>Ty.pa | false=>Ty.it)) .none [.ref (N_5+26),.ref (N_9+28)]++l5 (N_9+28) (N_9+27) v_const (S.length+4) 4 (.int (Int.ofNat 1) 0) [])++(l5 (N_5+26) (N_5+25) v_index S.length (tyNo (match true with | true=>Ty.pa | false=>Ty.it)) .none [.ref d.addr,.ref (N_5+24)]++l5 (N_5+24) (N_5+23) v_const (S.length+1) 4 (.int (Int.ofNat 0) 0) [])) all' [30,29,28,27,26,25,24,23] rfl ?_ rfl ?_ ?_ ?_ (su [] Sup.nil).left fs rfl F <;> kernel_rfl)
  · refine sg C_3 4000 o_bt_th_00_1_4 ?_;intro _;have K_4:=sN s R C_3 tr_3 [] (ct_sadd S [91] n hS (by show n+1<=1000; omega)) [] [];refine K_4 ?_;intro _ _ _ _ _ _ _ _ C_4 tr_4 su_4 _ _ _;have U_4:=su_4 _ U_3;refine sg C_4 4000 o_bt_th_00_1_5 ?_;intro _;have K_5:=sN s R C_4 tr_4 [] (ct_sadd (S++⟨⟨[91]⟩⟩) [49] (n+1) (len_app (y:=[91]) hS) (by show (n+1)+1<=1000; omega)) [] [];refine K_5 ?_;intro _ _ _ _ N_5 _ _ _ C_5 tr_5 su_5 _ _ _;have U_5:=su_5 _ U_4;refine sg C_5 4000 o_bt_th_00_1_6 ?_;intro _;have K_6:=sK s R C_5 tr_5 [] [(W.row,rowO l)] (tk_call hP W.st W.row l hl (at_+1) 2 (by omega) (by decide) (by decide)) [1] [] U_5;refine K_6 ?_;intro b_6 _ _ _ _ _ _ _ C_6 tr_6 su_6 _ pd_6 _;have U_6:=su_6 _ U_5;rcases lt2 pd_6 with rfl | rfl
    · refine sg C_6 4000 o_bt_th_00_1_7 ?_;intro _;have K_7:=sN s R C_6 tr_6 [] (ct_sadd ((S++⟨⟨[91]⟩⟩)++⟨⟨[49]⟩⟩) [93] ((n+1)+1) (len_app (y:=[49]) (len_app (y:=[91]) hS)) (by show ((n+1)+1)+1<=1000; omega)) [] [];refine K_7 ?_;intro _ _ _ _ _ _ _ _ C_7 tr_7 su_7 _ pd_7 _;have U_7:=su_7 _ U_6;refine sg C_7 4000 o_bt_th_00_1_8 ?_;intro _;have K_t:=tK C_7 (loopRo a W) [(W.row,rowO l)] (IH (.v2 cur S.length 1) nm (DT.idx (N_5+26) (N_5+25) S.length true 1 (N_5+24) (N_5+23) (S.length+1) d) (((S++⟨⟨[91]⟩⟩)++⟨⟨[49]⟩⟩)++⟨⟨[93]⟩⟩) ((at_+1)+1) (cur+1) .pa (by first | rfl | (rw [<- hT])) rfl (Nat.le_trans (show ((((S++⟨⟨[91]⟩⟩)++⟨⟨[49]⟩⟩)++⟨⟨[93]⟩⟩):Str).length<=(((n+1)+1)+1) from (len_app (y:=[93]) (len_app (y:=[49]) (len_app (y:=[91]) hS)))) (by omega)) (by omega)) [0,1,2] [3,4,5,6,7,8,9,10,11,12,13,14,15,16,17,18,19,20,21,22] U_7 tr_7 D' hR
      refine K_t ?_;rintro ⟨ss',fv',nm',T',d'',S'',at'',cur'',all'⟩ zu zn h' su fs pd;have F:=loop_fin (d:=d) (d':=(DT.idx (N_5+26) (N_5+25) S.length true 1 (N_5+24) (N_5+23) (S.length+1) d)) (S:=S) (S':=(((S++⟨⟨[91]⟩⟩)++⟨⟨[49]⟩⟩)++⟨⟨[93]⟩⟩)) (s:=(Sl.i true)) (n:=(l5 (N_5+26) (N_5+25) v_index S.length (tyNo (match true with | true=>Ty.pa | false=>Ty.it)) .none [.ref d.addr,.ref (N_5+24)]++l5 (N_5+24) (N_5+23) v_const (S.length+1) 4 (.int (Int.ofNat 1) 0) [])) rfl (by first | rfl | (unfold growS; rw [<- hT]; rfl)) (by simp only [app_list,List.append_assoc]; rfl) (by rw [<- hT]; rfl) pd
      cases fv' <;> (refine finD ⟨(Sl.i true)::ss',_,nm',T',d'',S'',at'',cur'',(l5 (N_5+26) (N_5+25) v_index S.length (tyNo (match true with | true=>Ty.pa | false=>Ty.it)) .none [.ref d.addr,.ref (N_5+24)]++l5 (N_5+24) (N_5+23) v_const (S.length+1) 4 (.int (Int.ofNat 1) 0) [])++all'⟩ (l5 (N_5+26) (N_5+25) v_index S.length (tyNo (match true with | true=>Ty.pa | false=>Ty.it)) .none [.ref d.addr,.ref (N_5+24)]++l5 (N_5+24) (N_5+23) v_const (S.length+1) 4 (.int (Int.ofNat 1) 0) []) all' [26,25,24,23] rfl ?_ rfl ?_ ?_ ?_ (su [] Sup.nil).left fs rfl F <;> kernel_rfl)
    · refine sg C_6 4000 o_bt_th_010_1_7 ?_;intro _;have K_7:=sK s R C_6 tr_6 [] [(W.row,rowO l)] (tk_call hP W.st W.row l hl ((at_+1)+1) 2 (by omega) (by decide) (by decide)) [1] [] U_6;refine K_7 ?_;intro b_7 _ _ _ _ _ _ _ C_7 tr_7 su_7 _ pd_7 _;have U_7:=su_7 _ U_6;rcases lt2 pd_7 with rfl | rfl
      · refine sg C_7 4000 o_bt_th_00_1_4 ?_;intro _;have K_8:=sN s R C_7 tr_7 [] (ct_sadd ((S++⟨⟨[91]⟩⟩)++⟨⟨[49]⟩⟩) [44,32] ((n+1)+1) (len_app (y:=[49]) (len_app (y:=[91]) hS)) (by show ((n+1)+1)+2<=1000; omega)) [] [];refine K_8 ?_;intro _ _ _ _ _ _ _ _ C_8 tr_8 su_8 _ _ _;have U_8:=su_8 _ U_7;refine sg C_8 4000 o_bt_th_00_1_5 ?_;intro _;have K_9:=sN s R C_8 tr_8 [] (ct_sadd (((S++⟨⟨[91]⟩⟩)++⟨⟨[49]⟩⟩)++⟨⟨[44,32]⟩⟩) [48] (((n+1)+1)+2) (len_app (y:=[44,32]) (len_app (y:=[49]) (len_app (y:=[91]) hS))) (by show (((n+1)+1)+2)+1<=1000; omega)) [] [];refine K_9 ?_;intro _ _ _ _ N_9 _ _ _ C_9 tr_9 su_9 _ _ _;have U_9:=su_9 _ U_8;refine sg C_9 4000 o_bt_th_010_1_10 ?_;intro _;have K_10:=sN s R C_9 tr_9 [] (ct_sadd ((((S++⟨⟨[91]⟩⟩)++⟨⟨[49]⟩⟩)++⟨⟨[44,32]⟩⟩)++⟨⟨[48]⟩⟩) [93] ((((n+1)+1)+2)+1) (len_app (y:=[48]) (len_app (y:=[44,32]) (len_app (y:=[49]) (len_app (y:=[91]) hS)))) (by show ((((n+1)+1)+2)+1)+1<=1000; omega)) [] [];refine K_10 ?_;intro _ _ _ _ _ _ _ _ C_10 tr_10 su_10 _ _ _;have U_10:=su_10 _ U_9;refine sg C_10 4000 o_bt_th_00_1_8 ?_;intro _;have K_t:=tK C_10 (loopRo a W) [(W.row,rowO l)] (IH (.v2 cur S.length 0) nm (DT.idx (N_9+30) (N_9+29) S.length false 0 (N_9+28) (N_9+27) (S.length+4) (DT.idx (N_5+26) (N_5+25) S.length true 1 (N_5+24) (N_5+23) (S.length+1) d)) (((((S++⟨⟨[91]⟩⟩)++⟨⟨[49]⟩⟩)++⟨⟨[44,32]⟩⟩)++⟨⟨[48]⟩⟩)++⟨⟨[93]⟩⟩) (((at_+1)+1)+1) (cur+1) .it (by first | rfl | (rw [<- hT])) rfl (Nat.le_trans (show ((((((S++⟨⟨[91]⟩⟩)++⟨⟨[49]⟩⟩)++⟨⟨[44,32]⟩⟩)++⟨⟨[48]⟩⟩)++⟨⟨[93]⟩⟩):Str).length<=(((((n+1)+1)+2)+1)+1) from (len_app (y:=[93]) (len_app (y:=[48]) (len_app (y:=[44,32]) (len_app (y:=[49]) (len_app (y:=[91]) hS)))))) (by omega)) (by omega)) [0,1,2] [3,4,5,6,7,8,9,10,11,12,13,14,15,16,17,18,19,20,21,22] U_10 tr_10 D' hR
        refine K_t ?_;rintro ⟨ss',fv',nm',T',d'',S'',at'',cur'',all'⟩ zu zn h' su fs pd;have F:=loop_fin (d:=d) (d':=(DT.idx (N_9+30) (N_9+29) S.length false 0 (N_9+28) (N_9+27) (S.length+4) (DT.idx (N_5+26) (N_5+25) S.length true 1 (N_5+24) (N_5+23) (S.length+1) d))) (S:=S) (S':=(((((S++⟨⟨[91]⟩⟩)++⟨⟨[49]⟩⟩)++⟨⟨[44,32]⟩⟩)++⟨⟨[48]⟩⟩)++⟨⟨[93]⟩⟩)) (s:=(Sl.ij true false)) (n:=((l5 (N_9+30) (N_9+29) v_index S.length (tyNo (match false with | true=>Ty.pa | false=>Ty.it)) .none [.ref (N_5+26),.ref (N_9+28)]++l5 (N_9+28) (N_9+27) v_const (S.length+4) 4 (.int (Int.ofNat 0) 0) [])++(l5 (N_5+26) (N_5+25) v_index S.length (tyNo (match true with | true=>Ty.pa | false=>Ty.it)) .none [.ref d.addr,.ref (N_5+24)]++l5 (N_5+24) (N_5+23) v_const (S.length+1) 4 (.int (Int.ofNat 1) 0) []))) rfl (by first | rfl | (unfold growS; rw [<- hT]; rfl)) (by simp only [app_list,List.append_assoc]; rfl) (by rw [<- hT]; rfl) pd
        cases fv' <;> (refine finD ⟨(Sl.ij true false)::ss',_,nm',T',d'',S'',at'',cur'',((l5 (N_9+30) (N_9+29) v_index S.length (tyNo (match false with | true=>Ty.pa | false=>Ty.it)) .none [.ref (N_5+26),.ref (N_9+28)]++l5 (N_9+28) (N_9+27) v_const (S.length+4) 4 (.int (Int.ofNat 0) 0) [])++(l5 (N_5+26) (N_5+25) v_index S.length (tyNo (match true with | true=>Ty.pa | false=>Ty.it)) .none [.ref d.addr,.ref (N_5+24)]++l5 (N_5+24) (N_5+23) v_const (S.length+1) 4 (.int (Int.ofNat 1) 0) []))++all'⟩ ((l5 (N_9+30) (N_9+29) v_index S.length (tyNo (match false with | true=>Ty.pa | false=>Ty.it)) .none [.ref (N_5+26),.ref (N_9+28)]++l5 (N_9+28) (N_9+27) v_const (S.length+4) 4 (.int (Int.ofNat 0) 0) [])++(l5 (N_5+26) (N_5+25) v_index S.length (tyNo (match true with | true=>Ty.pa | false=>Ty.it)) .none [.ref d.addr,.ref (N_5+24)]++l5 (N_5+24) (N_5+23) v_const (S.length+1) 4 (.int (Int.ofNat 1) 0) [])) all' [30,29,28,27,26,25,24,23] rfl ?_ rfl ?_ ?_ ?_ (su [] Sup.nil).left fs rfl F <;> kernel_rfl)
      · refine sg C_7 4000 o_bt_th_00_1_4 ?_;intro _;have K_8:=sN s R C_7 tr_7 [] (ct_sadd ((S++⟨⟨[91]⟩⟩)++⟨⟨[49]⟩⟩) [44,32] ((n+1)+1) (len_app (y:=[49]) (len_app (y:=[91]) hS)) (by show ((n+1)+1)+2<=1000; omega)) [] [];refine K_8 ?_;intro _ _ _ _ _ _ _ _ C_8 tr_8 su_8 _ _ _;have U_8:=su_8 _ U_7;refine sg C_8 4000 o_bt_th_00_1_5 ?_;intro _;have K_9:=sN s R C_8 tr_8 [] (ct_sadd (((S++⟨⟨[91]⟩⟩)++⟨⟨[49]⟩⟩)++⟨⟨[44,32]⟩⟩) [49] (((n+1)+1)+2) (len_app (y:=[44,32]) (len_app (y:=[49]) (len_app (y:=[91]) hS))) (by show (((n+1)+1)+2)+1<=1000; omega)) [] [];refine K_9 ?_;intro _ _ _ _ N_9 _ _ _ C_9 tr_9 su_9 _ _ _;have U_9:=su_9 _ U_8;refine sg C_9 4000 o_bt_th_010_1_10 ?_;intro _;have K_10:=sN s R C_9 tr_9 [] (ct_sadd ((((S++⟨⟨[91]⟩⟩)++⟨⟨[49]⟩⟩)++⟨⟨[44,32]⟩⟩)++⟨⟨[49]⟩⟩) [93] ((((n+1)+1)+2)+1) (len_app (y:=[49]) (len_app (y:=[44,32]) (len_app (y:=[49]) (len_app (y:=[91]) hS)))) (by show ((((n+1)+1)+2)+1)+1<=1000; omega)) [] [];refine K_10 ?_;intro _ _ _ _ _ _ _ _ C_10 tr_10 su_10 _ _ _;have U_10:=su_10 _ U_9;refine sg C_10 4000 o_bt_th_00_1_8 ?_;intro _;have K_t:=tK C_10 (loopRo a W) [(W.row,rowO l)] (IH (.v2 cur S.length 1) nm (DT.idx (N_9+30) (N_9+29) S.length false 1 (N_9+28) (N_9+27) (S.length+4) (DT.idx (N_5+26) (N_5+25) S.length true 1 (N_5+24) (N_5+23) (S.length+1) d)) (((((S++⟨⟨[91]⟩⟩)++⟨⟨[49]⟩⟩)++⟨⟨[44,32]⟩⟩)++⟨⟨[49]⟩⟩)++⟨⟨[93]⟩⟩) (((at_+1)+1)+1) (cur+1) .it (by first | rfl | (rw [<- hT])) rfl (Nat.le_trans (show ((((((S++⟨⟨[91]⟩⟩)++⟨⟨[49]⟩⟩)++⟨⟨[44,32]⟩⟩)++⟨⟨[49]⟩⟩)++⟨⟨[93]⟩⟩):Str).length<=(((((n+1)+1)+2)+1)+1) from (len_app (y:=[93]) (len_app (y:=[49]) (len_app (y:=[44,32]) (len_app (y:=[49]) (len_app (y:=[91]) hS)))))) (by omega)) (by omega)) [0,1,2] [3,4,5,6,7,8,9,10,11,12,13,14,15,16,17,18,19,20,21,22] U_10 tr_10 D' hR
        refine K_t ?_;rintro ⟨ss',fv',nm',T',d'',S'',at'',cur'',all'⟩ zu zn h' su fs pd;have F:=loop_fin (d:=d) (d':=(DT.idx (N_9+30) (N_9+29) S.length false 1 (N_9+28) (N_9+27) (S.length+4) (DT.idx (N_5+26) (N_5+25) S.length true 1 (N_5+24) (N_5+23) (S.length+1) d))) (S:=S) (S':=(((((S++⟨⟨[91]⟩⟩)++⟨⟨[49]⟩⟩)++⟨⟨[44,32]⟩⟩)++⟨⟨[49]⟩⟩)++⟨⟨[93]⟩⟩)) (s:=(Sl.ij true true)) (n:=((l5 (N_9+30) (N_9+29) v_index S.length (tyNo (match false with | true=>Ty.pa | false=>Ty.it)) .none [.ref (N_5+26),.ref (N_9+28)]++l5 (N_9+28) (N_9+27) v_const (S.length+4) 4 (.int (Int.ofNat 1) 0) [])++(l5 (N_5+26) (N_5+25) v_index S.length (tyNo (match true with | true=>Ty.pa | false=>Ty.it)) .none [.ref d.addr,.ref (N_5+24)]++l5 (N_5+24) (N_5+23) v_const (S.length+1) 4 (.int (Int.ofNat 1) 0) []))) rfl (by first | rfl | (unfold growS; rw [<- hT]; rfl)) (by simp only [app_list,List.append_assoc]; rfl) (by rw [<- hT]; rfl) pd
        cases fv' <;> (refine finD ⟨(Sl.ij true true)::ss',_,nm',T',d'',S'',at'',cur'',((l5 (N_9+30) (N_9+29) v_index S.length (tyNo (match false with | true=>Ty.pa | false=>Ty.it)) .none [.ref (N_5+26),.ref (N_9+28)]++l5 (N_9+28) (N_9+27) v_const (S.length+4) 4 (.int (Int.ofNat 1) 0) [])++(l5 (N_5+26) (N_5+25) v_index S.length (tyNo (match true with | true=>Ty.pa | false=>Ty.it)) .none [.ref d.addr,.ref (N_5+24)]++l5 (N_5+24) (N_5+23) v_const (S.length+1) 4 (.int (Int.ofNat 1) 0) []))++all'⟩ ((l5 (N_9+30) (N_9+29) v_index S.length (tyNo (match false with | true=>Ty.pa | false=>Ty.it)) .none [.ref (N_5+26),.ref (N_9+28)]++l5 (N_9+28) (N_9+27) v_const (S.length+4) 4 (.int (Int.ofNat 1) 0) [])++(l5 (N_5+26) (N_5+25) v_index S.length (tyNo (match true with | true=>Ty.pa | false=>Ty.it)) .none [.ref d.addr,.ref (N_5+24)]++l5 (N_5+24) (N_5+23) v_const (S.length+1) 4 (.int (Int.ofNat 1) 0) [])) all' [30,29,28,27,26,25,24,23] rfl ?_ rfl ?_ ?_ ?_ (su [] Sup.nil).left fs rfl F <;> kernel_rfl)
noncomputable def o_bt_pa_0_1_1:List Nat:=[0,3]
noncomputable def o_bt_pa_0_1_2:List Nat:=[1,1,0,0,1]
noncomputable def o_bt_pa_0_1_3:List Nat:=[1,1,1,11,0,0,0,0,11,0,0,0,11,11,0,12,0,1,11,0,0,0,0,11,0,0,0,11,11,0,12,0,1,11,0,0,0,0,11,0,0,0,11,11,0,12,0,1,11,0,0,0,0,11,0,0,0,11,11,0,12,0,1,11,0,0,0,0,11,0,0,0,11,11,0,12,0,0,1,0]
noncomputable def o_bt_pa_0_1_4:List Nat:=[1,1,1]
noncomputable def o_bt_pa_0_1_5:List Nat:=[0,0,1,0,0,0,0,0]
noncomputable def o_bt_pa_0_1_6:List Nat:=[1,1,1,1,11,0,0,0,0,11,0,0,0,11,11,0,12,7,0,0,0,0,7,0,0,0,7,7,0,8,0,1,1,0,1,5,0,0,0,0,5,0,0,0,5,5,0,6,7,0,0,0,0,7,0,0,0,7,7,0,8,0,1,1,1,1,11,0,0,0,0,11,0,0,0,11,11,0,12,1,1,1,7,0,0,0,0,7,0,0,0,7,7,0,8,0,1]
noncomputable def o_bt_pa_0_1_7:List Nat:=[1,1]
noncomputable def o_bt_it_1_3:List Nat:=[1,1,1,7,0,0,0,0,7,0,0,0,7,7,0,8,0,1,7,0,0,0,0,7,0,0,0,7,7,0,8,0,1,7,0,0,0,0,7,0,0,0,7,7,0,8,0,1,7,0,0,0,0,7,0,0,0,7,7,0,8,0,1,7,0,0,0,0,7,0,0,0,7,7,0,8,0]
theorem bt_pa_1 {w:World} {b1 b2 b3:Bool} (hP:Rows w b1 b2 b3) (a:Nat->Nat) (W:LW) (l:List Int) (hl:l.length < 100) (L it:Nat) (go sp:Nat) (nm:Str) (d:DT) (S:Str) (at_ cur rem:Nat) (hT:.pa=d.sh.ty) (hr:rem < 7) (n:Nat) (hn:n<=900) (hS:S.length<=n) (ha:at_ < 90)
    (IH:∀ (fv:FV) (nm:Str) (d':DT) (S':Str) (at' cur':Nat) (T':Ty),T' = d'.sh.ty->fvOk fv T' = true->S'.length<=n+6->at' <= at_+3->LoopC w a W l L it T' fv nm d' S' at' cur' rem):LoopC w a W l L it .pa (.v1 go sp) nm d S at_ cur (rem+1):=by
  refine ct_start (tx:=tx0) (pre:=[(L,lawFr a W nm (tyA a .pa) d.addr S (.v1 go sp)),(W.st,stO W.row at_),(it,rItO cur (rem+1))]) (ro:=loopRo a W) (sup:=[(W.row,rowO l)]) hP tx0_ok (by decide) fun A' s R zs ta' N C U D' hR=>?_;refine sg C 4000 o_bt_pa_0_1_1 ?_;intro _;have K_1:=sN s R C trId [] (ct_next hP it cur rem hr) [2] [];refine K_1 ?_;intro _ _ _ _ _ _ _ _ C_1 tr_1 su_1 _ _ _;have U_1:=su_1 _ U;refine sg C_1 4000 o_bt_pa_0_1_2 ?_;intro _;have K_2:=sN s R C_1 tr_1 [] (ct_slen S n hS (by omega)) [] [];refine K_2 ?_;intro _ _ _ _ _ _ _ _ C_2 tr_2 su_2 _ _ _;have U_2:=su_2 _ U_1;refine sg C_2 4000 o_bt_pa_0_1_3 ?_;intro _;have K_3:=sK s R C_2 tr_2 [] [(W.row,rowO l)] (tk_call hP W.st W.row l hl at_ 2 (by omega) (by decide) (by decide)) [1] [] U_2;refine K_3 ?_;intro b_3 _ _ _ _ _ _ _ C_3 tr_3 su_3 _ pd_3 _;have U_3:=su_3 _ U_2;rcases lt2 pd_3 with rfl | rfl
  · refine sg C_3 4000 o_bt_pa_0_1_4 ?_;intro _;have K_4:=sN s R C_3 tr_3 [] (ct_sadd S [91] n hS (by show n+1<=1000; omega)) [] [];refine K_4 ?_;intro _ _ _ _ _ _ _ _ C_4 tr_4 su_4 _ _ _;have U_4:=su_4 _ U_3;refine sg C_4 4000 o_bt_pa_0_1_5 ?_;intro _;have K_5:=sN s R C_4 tr_4 [] (ct_sadd (S++⟨⟨[91]⟩⟩) [48] (n+1) (len_app (y:=[91]) hS) (by show (n+1)+1<=1000; omega)) [] [];refine K_5 ?_;intro _ _ _ _ N_5 _ _ _ C_5 tr_5 su_5 _ _ _;have U_5:=su_5 _ U_4;refine sg C_5 4000 o_bt_pa_0_1_6 ?_;intro _;have K_6:=sN s R C_5 tr_5 [] (ct_sadd ((S++⟨⟨[91]⟩⟩)++⟨⟨[48]⟩⟩) [93] ((n+1)+1) (len_app (y:=[48]) (len_app (y:=[91]) hS)) (by show ((n+1)+1)+1<=1000; omega)) [] [];refine K_6 ?_;intro _ _ _ _ _ _ _ _ C_6 tr_6 su_6 _ _ _;have U_6:=su_6 _ U_5;refine sg C_6 4000 o_bt_pa_0_1_7 ?_;intro _;have K_t:=tK C_6 (loopRo a W) [(W.row,rowO l)] (IH (.v2 cur S.length 0) nm (DT.idx (N_5+26) (N_5+25) S.length false 0 (N_5+24) (N_5+23) (S.length+1) d) (((S++⟨⟨[91]⟩⟩)++⟨⟨[48]⟩⟩)++⟨⟨[93]⟩⟩) (at_+1) (cur+1) .it (by first | rfl | (rw [<- hT])) rfl (Nat.le_trans (show ((((S++⟨⟨[91]⟩⟩)++⟨⟨[48]⟩⟩)++⟨⟨[93]⟩⟩):Str).length<=(((n+1)+1)+1) from (len_app (y:=[93]) (len_app (y:=[48]) (len_app (y:=[91]) hS)))) (by omega)) (by omega)) [0,1,2] [3,4,5,6,7,8,9,10,11,12,13,14,15,16,17,18,19,20,21,22] U_6 tr_6 D' hR
    refine K_t ?_;rintro ⟨ss',fv',nm',T',d'',S'',at'',cur'',all'⟩ zu zn h' su fs pd;have F:=loop_fin (d:=d) (d':=(DT.idx (N_5+26) (N_5+25) S.length false 0 (N_5+24) (N_5+23) (S.length+1) d)) (S:=S) (S':=(((S++⟨⟨[91]⟩⟩)++⟨⟨[48]⟩⟩)++⟨⟨[93]⟩⟩)) (s:=(Sl.i false)) (n:=(l5 (N_5+26) (N_5+25) v_index S.length (tyNo (match false with | true=>Ty.pa | false=>Ty.it)) .none [.ref d.addr,.ref (N_5+24)]++l5 (N_5+24) (N_5+23) v_const (S.length+1) 4 (.int (Int.ofNat 0) 0) [])) rfl (by first | rfl | (unfold growS; rw [<- hT]; rfl)) (by simp only [app_list,List.append_assoc]; rfl) (by rw [<- hT]; rfl) pd
    cases fv' <;> (refine finD ⟨(Sl.i false)::ss',_,nm',T',d'',S'',at'',cur'',(l5 (N_5+26) (N_5+25) v_index S.length (tyNo (match false with | true=>Ty.pa | false=>Ty.it)) .none [.ref d.addr,.ref (N_5+24)]++l5 (N_5+24) (N_5+23) v_const (S.length+1) 4 (.int (Int.ofNat 0) 0) [])++all'⟩ (l5 (N_5+26) (N_5+25) v_index S.length (tyNo (match false with | true=>Ty.pa | false=>Ty.it)) .none [.ref d.addr,.ref (N_5+24)]++l5 (N_5+24) (N_5+23) v_const (S.length+1) 4 (.int (Int.ofNat 0) 0) []) all' [26,25,24,23] rfl ?_ rfl ?_ ?_ ?_ (su [] Sup.nil).left fs rfl F <;> kernel_rfl)
  · refine sg C_3 4000 o_bt_pa_0_1_4 ?_;intro _;have K_4:=sN s R C_3 tr_3 [] (ct_sadd S [91] n hS (by show n+1<=1000; omega)) [] [];refine K_4 ?_;intro _ _ _ _ _ _ _ _ C_4 tr_4 su_4 _ _ _;have U_4:=su_4 _ U_3;refine sg C_4 4000 o_bt_pa_0_1_5 ?_;intro _;have K_5:=sN s R C_4 tr_4 [] (ct_sadd (S++⟨⟨[91]⟩⟩) [49] (n+1) (len_app (y:=[91]) hS) (by show (n+1)+1<=1000; omega)) [] [];refine K_5 ?_;intro _ _ _ _ N_5 _ _ _ C_5 tr_5 su_5 _ _ _;have U_5:=su_5 _ U_4;refine sg C_5 4000 o_bt_pa_0_1_6 ?_;intro _;have K_6:=sN s R C_5 tr_5 [] (ct_sadd ((S++⟨⟨[91]⟩⟩)++⟨⟨[49]⟩⟩) [93] ((n+1)+1) (len_app (y:=[49]) (len_app (y:=[91]) hS)) (by show ((n+1)+1)+1<=1000; omega)) [] [];refine K_6 ?_;intro _ _ _ _ _ _ _ _ C_6 tr_6 su_6 _ _ _;have U_6:=su_6 _ U_5;refine sg C_6 4000 o_bt_pa_0_1_7 ?_;intro _;have K_t:=tK C_6 (loopRo a W) [(W.row,rowO l)] (IH (.v2 cur S.length 1) nm (DT.idx (N_5+26) (N_5+25) S.length false 1 (N_5+24) (N_5+23) (S.length+1) d) (((S++⟨⟨[91]⟩⟩)++⟨⟨[49]⟩⟩)++⟨⟨[93]⟩⟩) (at_+1) (cur+1) .it (by first | rfl | (rw [<- hT])) rfl (Nat.le_trans (show ((((S++⟨⟨[91]⟩⟩)++⟨⟨[49]⟩⟩)++⟨⟨[93]⟩⟩):Str).length<=(((n+1)+1)+1) from (len_app (y:=[93]) (len_app (y:=[49]) (len_app (y:=[91]) hS)))) (by omega)) (by omega)) [0,1,2] [3,4,5,6,7,8,9,10,11,12,13,14,15,16,17,18,19,20,21,22] U_6 tr_6 D' hR
    refine K_t ?_;rintro ⟨ss',fv',nm',T',d'',S'',at'',cur'',all'⟩ zu zn h' su fs pd;have F:=loop_fin (d:=d) (d':=(DT.idx (N_5+26) (N_5+25) S.length false 1 (N_5+24) (N_5+23) (S.length+1) d)) (S:=S) (S':=(((S++⟨⟨[91]⟩⟩)++⟨⟨[49]⟩⟩)++⟨⟨[93]⟩⟩)) (s:=(Sl.i true)) (n:=(l5 (N_5+26) (N_5+25) v_index S.length (tyNo (match false with | true=>Ty.pa | false=>Ty.it)) .none [.ref d.addr,.ref (N_5+24)]++l5 (N_5+24) (N_5+23) v_const (S.length+1) 4 (.int (Int.ofNat 1) 0) [])) rfl (by first | rfl | (unfold growS; rw [<- hT]; rfl)) (by simp only [app_list,List.append_assoc]; rfl) (by rw [<- hT]; rfl) pd
    cases fv' <;> (refine finD ⟨(Sl.i true)::ss',_,nm',T',d'',S'',at'',cur'',(l5 (N_5+26) (N_5+25) v_index S.length (tyNo (match false with | true=>Ty.pa | false=>Ty.it)) .none [.ref d.addr,.ref (N_5+24)]++l5 (N_5+24) (N_5+23) v_const (S.length+1) 4 (.int (Int.ofNat 1) 0) [])++all'⟩ (l5 (N_5+26) (N_5+25) v_index S.length (tyNo (match false with | true=>Ty.pa | false=>Ty.it)) .none [.ref d.addr,.ref (N_5+24)]++l5 (N_5+24) (N_5+23) v_const (S.length+1) 4 (.int (Int.ofNat 1) 0) []) all' [26,25,24,23] rfl ?_ rfl ?_ ?_ ?_ (su [] Sup.nil).left fs rfl F <;> kernel_rfl)
theorem bt_pa_2 {w:World} {b1 b2 b3:Bool} (hP:Rows w b1 b2 b3) (a:Nat->Nat) (W:LW) (l:List Int) (hl:l.length < 100) (L it:Nat) (go sp fg:Nat) (nm:Str) (d:DT) (S:Str) (at_ cur rem:Nat) (hT:.pa=d.sh.ty) (hr:rem < 7) (n:Nat) (hn:n<=900) (hS:S.length<=n) (ha:at_ < 90)
    (IH:∀ (fv:FV) (nm:Str) (d':DT) (S':Str) (at' cur':Nat) (T':Ty),T' = d'.sh.ty->fvOk fv T' = true->S'.length<=n+6->at' <= at_+3->LoopC w a W l L it T' fv nm d' S' at' cur' rem):LoopC w a W l L it .pa (.v2 go sp fg) nm d S at_ cur (rem+1):=by
  refine ct_start (tx:=tx0) (pre:=[(L,lawFr a W nm (tyA a .pa) d.addr S (.v2 go sp fg)),(W.st,stO W.row at_),(it,rItO cur (rem+1))]) (ro:=loopRo a W) (sup:=[(W.row,rowO l)]) hP tx0_ok (by decide) fun A' s R zs ta' N C U D' hR=>?_;refine sg C 4000 o_bt_pa_0_1_1 ?_;intro _;have K_1:=sN s R C trId [] (ct_next hP it cur rem hr) [2] [];refine K_1 ?_;intro _ _ _ _ _ _ _ _ C_1 tr_1 su_1 _ _ _;have U_1:=su_1 _ U;refine sg C_1 4000 o_bt_pa_0_1_2 ?_;intro _;have K_2:=sN s R C_1 tr_1 [] (ct_slen S n hS (by omega)) [] [];refine K_2 ?_;intro _ _ _ _ _ _ _ _ C_2 tr_2 su_2 _ _ _;have U_2:=su_2 _ U_1;refine sg C_2 4000 o_bt_pa_0_1_3 ?_;intro _;have K_3:=sK s R C_2 tr_2 [] [(W.row,rowO l)] (tk_call hP W.st W.row l hl at_ 2 (by omega) (by decide) (by decide)) [1] [] U_2;refine K_3 ?_;intro b_3 _ _ _ _ _ _ _ C_3 tr_3 su_3 _ pd_3 _;have U_3:=su_3 _ U_2;rcases lt2 pd_3 with rfl | rfl
  · refine sg C_3 4000 o_bt_pa_0_1_4 ?_;intro _;have K_4:=sN s R C_3 tr_3 [] (ct_sadd S [91] n hS (by show n+1<=1000; omega)) [] [];refine K_4 ?_;intro _ _ _ _ _ _ _ _ C_4 tr_4 su_4 _ _ _;have U_4:=su_4 _ U_3;refine sg C_4 4000 o_bt_pa_0_1_5 ?_;intro _;have K_5:=sN s R C_4 tr_4 [] (ct_sadd (S++⟨⟨[91]⟩⟩) [48] (n+1) (len_app (y:=[91]) hS) (by show (n+1)+1<=1000; omega)) [] [];refine K_5 ?_;intro _ _ _ _ N_5 _ _ _ C_5 tr_5 su_5 _ _ _;have U_5:=su_5 _ U_4;refine sg C_5 4000 o_bt_pa_0_1_6 ?_;intro _;have K_6:=sN s R C_5 tr_5 [] (ct_sadd ((S++⟨⟨[91]⟩⟩)++⟨⟨[48]⟩⟩) [93] ((n+1)+1) (len_app (y:=[48]) (len_app (y:=[91]) hS)) (by show ((n+1)+1)+1<=1000; omega)) [] [];refine K_6 ?_;intro _ _ _ _ _ _ _ _ C_6 tr_6 su_6 _ _ _;have U_6:=su_6 _ U_5;refine sg C_6 4000 o_bt_pa_0_1_7 ?_;intro _;have K_t:=tK C_6 (loopRo a W) [(W.row,rowO l)] (IH (.v2 cur S.length 0) nm (DT.idx (N_5+26) (N_5+25) S.length false 0 (N_5+24) (N_5+23) (S.length+1) d) (((S++⟨⟨[91]⟩⟩)++⟨⟨[48]⟩⟩)++⟨⟨[93]⟩⟩) (at_+1) (cur+1) .it (by first | rfl | (rw [<- hT])) rfl (Nat.le_trans (show ((((S++⟨⟨[91]⟩⟩)++⟨⟨[48]⟩⟩)++⟨⟨[93]⟩⟩):Str).length<=(((n+1)+1)+1) from (len_app (y:=[93]) (len_app (y:=[48]) (len_app (y:=[91]) hS)))) (by omega)) (by omega)) [0,1,2] [3,4,5,6,7,8,9,10,11,12,13,14,15,16,17,18,19,20,21,22] U_6 tr_6 D' hR
    refine K_t ?_;rintro ⟨ss',fv',nm',T',d'',S'',at'',cur'',all'⟩ zu zn h' su fs pd;have F:=loop_fin (d:=d) (d':=(DT.idx (N_5+26) (N_5+25) S.length false 0 (N_5+24) (N_5+23) (S.length+1) d)) (S:=S) (S':=(((S++⟨⟨[91]⟩⟩)++⟨⟨[48]⟩⟩)++⟨⟨[93]⟩⟩)) (s:=(Sl.i false)) (n:=(l5 (N_5+26) (N_5+25) v_index S.length (tyNo (match false with | true=>Ty.pa | false=>Ty.it)) .none [.ref d.addr,.ref (N_5+24)]++l5 (N_5+24) (N_5+23) v_const (S.length+1) 4 (.int (Int.ofNat 0) 0) [])) rfl (by first | rfl | (unfold growS; rw [<- hT]; rfl)) (by simp only [app_list,List.append_assoc]; rfl) (by rw [<- hT]; rfl) pd
    cases fv' <;> (refine finD ⟨(Sl.i false)::ss',_,nm',T',d'',S'',at'',cur'',(l5 (N_5+26) (N_5+25) v_index S.length (tyNo (match false with | true=>Ty.pa | false=>Ty.it)) .none [.ref d.addr,.ref (N_5+24)]++l5 (N_5+24) (N_5+23) v_const (S.length+1) 4 (.int (Int.ofNat 0) 0) [])++all'⟩ (l5 (N_5+26) (N_5+25) v_index S.length (tyNo (match false with | true=>Ty.pa | false=>Ty.it)) .none [.ref d.addr,.ref (N_5+24)]++l5 (N_5+24) (N_5+23) v_const (S.length+1) 4 (.int (Int.ofNat 0) 0) []) all' [26,25,24,23] rfl ?_ rfl ?_ ?_ ?_ (su [] Sup.nil).left fs rfl F <;> kernel_rfl)
  · refine sg C_3 4000 o_bt_pa_0_1_4 ?_;intro _;have K_4:=sN s R C_3 tr_3 [] (ct_sadd S [91] n hS (by show n+1<=1000; omega)) [] [];refine K_4 ?_;intro _ _ _ _ _ _ _ _ C_4 tr_4 su_4 _ _ _;have U_4:=su_4 _ U_3;refine sg C_4 4000 o_bt_pa_0_1_5 ?_;intro _;have K_5:=sN s R C_4 tr_4 [] (ct_sadd (S++⟨⟨[91]⟩⟩) [49] (n+1) (len_app (y:=[91]) hS) (by show (n+1)+1<=1000; omega)) [] [];refine K_5 ?_;intro _ _ _ _ N_5 _ _ _ C_5 tr_5 su_5 _ _ _;have U_5:=su_5 _ U_4;refine sg C_5 4000 o_bt_pa_0_1_6 ?_;intro _;have K_6:=sN s R C_5 tr_5 [] (ct_sadd ((S++⟨⟨[91]⟩⟩)++⟨⟨[49]⟩⟩) [93] ((n+1)+1) (len_app (y:=[49]) (len_app (y:=[91]) hS)) (by show ((n+1)+1)+1<=1000; omega)) [] [];refine K_6 ?_;intro _ _ _ _ _ _ _ _ C_6 tr_6 su_6 _ _ _;have U_6:=su_6 _ U_5;refine sg C_6 4000 o_bt_pa_0_1_7 ?_;intro _;have K_t:=tK C_6 (loopRo a W) [(W.row,rowO l)] (IH (.v2 cur S.length 1) nm (DT.idx (N_5+26) (N_5+25) S.length false 1 (N_5+24) (N_5+23) (S.length+1) d) (((S++⟨⟨[91]⟩⟩)++⟨⟨[49]⟩⟩)++⟨⟨[93]⟩⟩) (at_+1) (cur+1) .it (by first | rfl | (rw [<- hT])) rfl (Nat.le_trans (show ((((S++⟨⟨[91]⟩⟩)++⟨⟨[49]⟩⟩)++⟨⟨[93]⟩⟩):Str).length<=(((n+1)+1)+1) from (len_app (y:=[93]) (len_app (y:=[49]) (len_app (y:=[91]) hS)))) (by omega)) (by omega)) [0,1,2] [3,4,5,6,7,8,9,10,11,12,13,14,15,16,17,18,19,20,21,22] U_6 tr_6 D' hR
    refine K_t ?_;rintro ⟨ss',fv',nm',T',d'',S'',at'',cur'',all'⟩ zu zn h' su fs pd;have F:=loop_fin (d:=d) (d':=(DT.idx (N_5+26) (N_5+25) S.length false 1 (N_5+24) (N_5+23) (S.length+1) d)) (S:=S) (S':=(((S++⟨⟨[91]⟩⟩)++⟨⟨[49]⟩⟩)++⟨⟨[93]⟩⟩)) (s:=(Sl.i true)) (n:=(l5 (N_5+26) (N_5+25) v_index S.length (tyNo (match false with | true=>Ty.pa | false=>Ty.it)) .none [.ref d.addr,.ref (N_5+24)]++l5 (N_5+24) (N_5+23) v_const (S.length+1) 4 (.int (Int.ofNat 1) 0) [])) rfl (by first | rfl | (unfold growS; rw [<- hT]; rfl)) (by simp only [app_list,List.append_assoc]; rfl) (by rw [<- hT]; rfl) pd
    cases fv' <;> (refine finD ⟨(Sl.i true)::ss',_,nm',T',d'',S'',at'',cur'',(l5 (N_5+26) (N_5+25) v_index S.length (tyNo (match false with | true=>Ty.pa | false=>Ty.it)) .none [.ref d.addr,.ref (N_5+24)]++l5 (N_5+24) (N_5+23) v_const (S.length+1) 4 (.int (Int.ofNat 1) 0) [])++all'⟩ (l5 (N_5+26) (N_5+25) v_index S.length (tyNo (match false with | true=>Ty.pa | false=>Ty.it)) .none [.ref d.addr,.ref (N_5+24)]++l5 (N_5+24) (N_5+23) v_const (S.length+1) 4 (.int (Int.ofNat 1) 0) []) all' [26,25,24,23] rfl ?_ rfl ?_ ?_ ?_ (su [] Sup.nil).left fs rfl F <;> kernel_rfl)
theorem bt_it_1 {w:World} {b1 b2 b3:Bool} (hP:Rows w b1 b2 b3) (a:Nat->Nat) (W:LW) (l:List Int) (hl:l.length < 100) (L it:Nat) (go sp:Nat) (nm:Str) (d:DT) (S:Str) (at_ cur rem:Nat) (hT:.it=d.sh.ty) (hr:rem < 7) (n:Nat) (hn:n<=900) (hS:S.length<=n) (ha:at_ < 90)
    (IH:∀ (fv:FV) (nm:Str) (d':DT) (S':Str) (at' cur':Nat) (T':Ty),T' = d'.sh.ty->fvOk fv T' = true->S'.length<=n+6->at' <= at_+3->LoopC w a W l L it T' fv nm d' S' at' cur' rem):LoopC w a W l L it .it (.v1 go sp) nm d S at_ cur (rem+1):=by
  refine ct_start (tx:=tx0) (pre:=[(L,lawFr a W nm (tyA a .it) d.addr S (.v1 go sp)),(W.st,stO W.row at_),(it,rItO cur (rem+1))]) (ro:=loopRo a W) (sup:=[(W.row,rowO l)]) hP tx0_ok (by decide) fun A' s R zs ta' N C U D' hR=>?_;refine sg C 4000 o_bt_pa_0_1_1 ?_;intro _;have K_1:=sN s R C trId [] (ct_next hP it cur rem hr) [2] [];refine K_1 ?_;intro _ _ _ _ _ _ _ _ C_1 tr_1 su_1 _ _ _;have U_1:=su_1 _ U;refine sg C_1 4000 o_bt_pa_0_1_2 ?_;intro _;have K_2:=sN s R C_1 tr_1 [] (ct_slen S n hS (by omega)) [] [];refine K_2 ?_;intro _ _ _ _ _ _ _ _ C_2 tr_2 su_2 _ _ _;have U_2:=su_2 _ U_1;refine sg C_2 4000 o_bt_it_1_3 ?_;intro _;have K_t:=tK C_2 (loopRo a W) [(W.row,rowO l)] (IH (.v1 cur S.length) nm d S at_ (cur+1) .it (by first | rfl | (rw [<- hT])) rfl (Nat.le_trans (show (S:Str).length<=n from hS) (by omega)) (by omega)) [0,1,2] [3,4,5,6,7,8,9,10,11,12,13,14,15,16,17,18,19,20,21,22] U_2 tr_2 D' hR
  refine K_t ?_;rintro ⟨ss',fv',nm',T',d'',S'',at'',cur'',all'⟩ zu zn h' su fs pd;have F:=loop_fin0 pd;cases fv' <;> (refine finD ⟨ss',_,nm',T',d'',S'',at'',cur'',all'⟩ [] all' [] rfl ?_ rfl ?_ ?_ ?_ (su [] Sup.nil).left fs rfl F <;> kernel_rfl)
theorem bt_it_2 {w:World} {b1 b2 b3:Bool} (hP:Rows w b1 b2 b3) (a:Nat->Nat) (W:LW) (l:List Int) (hl:l.length < 100) (L it:Nat) (go sp fg:Nat) (nm:Str) (d:DT) (S:Str) (at_ cur rem:Nat) (hT:.it=d.sh.ty) (hr:rem < 7) (n:Nat) (hn:n<=900) (hS:S.length<=n) (ha:at_ < 90)
    (IH:∀ (fv:FV) (nm:Str) (d':DT) (S':Str) (at' cur':Nat) (T':Ty),T' = d'.sh.ty->fvOk fv T' = true->S'.length<=n+6->at' <= at_+3->LoopC w a W l L it T' fv nm d' S' at' cur' rem):LoopC w a W l L it .it (.v2 go sp fg) nm d S at_ cur (rem+1):=by
  refine ct_start (tx:=tx0) (pre:=[(L,lawFr a W nm (tyA a .it) d.addr S (.v2 go sp fg)),(W.st,stO W.row at_),(it,rItO cur (rem+1))]) (ro:=loopRo a W) (sup:=[(W.row,rowO l)]) hP tx0_ok (by decide) fun A' s R zs ta' N C U D' hR=>?_;refine sg C 4000 o_bt_pa_0_1_1 ?_;intro _;have K_1:=sN s R C trId [] (ct_next hP it cur rem hr) [2] [];refine K_1 ?_;intro _ _ _ _ _ _ _ _ C_1 tr_1 su_1 _ _ _;have U_1:=su_1 _ U;refine sg C_1 4000 o_bt_pa_0_1_2 ?_;intro _;have K_2:=sN s R C_1 tr_1 [] (ct_slen S n hS (by omega)) [] [];refine K_2 ?_;intro _ _ _ _ _ _ _ _ C_2 tr_2 su_2 _ _ _;have U_2:=su_2 _ U_1;refine sg C_2 4000 o_bt_it_1_3 ?_;intro _;have K_t:=tK C_2 (loopRo a W) [(W.row,rowO l)] (IH (.v2 cur S.length fg) nm d S at_ (cur+1) .it (by first | rfl | (rw [<- hT])) rfl (Nat.le_trans (show (S:Str).length<=n from hS) (by omega)) (by omega)) [0,1,2] [3,4,5,6,7,8,9,10,11,12,13,14,15,16,17,18,19,20,21,22] U_2 tr_2 D' hR
  refine K_t ?_;rintro ⟨ss',fv',nm',T',d'',S'',at'',cur'',all'⟩ zu zn h' su fs pd;have F:=loop_fin0 pd;cases fv' <;> (refine finD ⟨ss',_,nm',T',d'',S'',at'',cur'',all'⟩ [] all' [] rfl ?_ rfl ?_ ?_ ?_ (su [] Sup.nil).left fs rfl F <;> kernel_rfl)
noncomputable def o_bt_end_0_1:List Nat:=[0,3,0,3,3,3,3,25]
theorem bt_end_0 {w:World} {b1 b2 b3:Bool} (hP:Rows w b1 b2 b3) (a:Nat->Nat) (W:LW) (l:List Int) (L it:Nat) (T:Ty) (nm:Str) (d:DT) (S:Str) (at_ cur:Nat) (hT:T=d.sh.ty):LoopC w a W l L it T .v0 nm d S at_ cur 0:=by
  refine ct_start (tx:=tx0) (pre:=[(L,lawFr a W nm (tyA a T) d.addr S .v0),(W.st,stO W.row at_),(it,rItO cur 0)]) (ro:=loopRo a W) (sup:=[(W.row,rowO l)]) hP tx0_ok (by decide) fun A' s R zs ta' N C U D' hR=>?_;refine sg C 4000 o_bt_end_0_1 ?_;intro _;exact finishC trId D' hR ⟨[],.v0,nm,T,d,S,at_,cur,[]⟩ [] [] [] (by kernel_rfl) (by kernel_rfl) rfl (by kernel_rfl) rfl rfl Sup.nil (fun _ h=>nomatch h) rfl ⟨Nat.le_refl _,rfl,(List.append_nil _).symm,rfl,List.Perm.refl _,hT⟩
theorem bt_end_1 {w:World} {b1 b2 b3:Bool} (hP:Rows w b1 b2 b3) (a:Nat->Nat) (W:LW) (l:List Int) (L it:Nat) (T:Ty) (go sp:Nat) (nm:Str) (d:DT) (S:Str) (at_ cur:Nat) (hT:T=d.sh.ty):LoopC w a W l L it T (.v1 go sp) nm d S at_ cur 0:=by
  refine ct_start (tx:=tx0) (pre:=[(L,lawFr a W nm (tyA a T) d.addr S (.v1 go sp)),(W.st,stO W.row at_),(it,rItO cur 0)]) (ro:=loopRo a W) (sup:=[(W.row,rowO l)]) hP tx0_ok (by decide) fun A' s R zs ta' N C U D' hR=>?_;refine sg C 4000 o_bt_end_0_1 ?_;intro _;exact finishC trId D' hR ⟨[],(.v1 go sp),nm,T,d,S,at_,cur,[]⟩ [] [] [] (by kernel_rfl) (by kernel_rfl) rfl (by kernel_rfl) rfl rfl Sup.nil (fun _ h=>nomatch h) rfl ⟨Nat.le_refl _,rfl,(List.append_nil _).symm,rfl,List.Perm.refl _,hT⟩
theorem bt_end_2 {w:World} {b1 b2 b3:Bool} (hP:Rows w b1 b2 b3) (a:Nat->Nat) (W:LW) (l:List Int) (L it:Nat) (T:Ty) (go sp fg:Nat) (nm:Str) (d:DT) (S:Str) (at_ cur:Nat) (hT:T=d.sh.ty):LoopC w a W l L it T (.v2 go sp fg) nm d S at_ cur 0:=by
  refine ct_start (tx:=tx0) (pre:=[(L,lawFr a W nm (tyA a T) d.addr S (.v2 go sp fg)),(W.st,stO W.row at_),(it,rItO cur 0)]) (ro:=loopRo a W) (sup:=[(W.row,rowO l)]) hP tx0_ok (by decide) fun A' s R zs ta' N C U D' hR=>?_;refine sg C 4000 o_bt_end_0_1 ?_;intro _;exact finishC trId D' hR ⟨[],(.v2 go sp fg),nm,T,d,S,at_,cur,[]⟩ [] [] [] (by kernel_rfl) (by kernel_rfl) rfl (by kernel_rfl) rfl rfl Sup.nil (fun _ h=>nomatch h) rfl ⟨Nat.le_refl _,rfl,(List.append_nil _).symm,rfl,List.Perm.refl _,hT⟩
theorem loop_all {w:World} {b1 b2 b3:Bool} (hP:Rows w b1 b2 b3) (a:Nat->Nat) (W:LW) (l:List Int) (hl:l.length < 100) (L it:Nat):∀ (rem:Nat) (fv:FV) (nm:Str) (d:DT) (S:Str) (at_ cur:Nat) (T:Ty),T=d.sh.ty->fvOk fv T=true->S.length+6*rem<=900->at_+3*rem < 90->rem<=7->LoopC w a W l L it T fv nm d S at_ cur rem
  | 0,fv,nm,d,S,at_,cur,T,hT,hf,hS,ha,hr=>by
    cases fv with
    | v0=>exact bt_end_0 hP a W l L it T nm d S at_ cur hT
    | v1 go sp=>exact bt_end_1 hP a W l L it T go sp nm d S at_ cur hT
    | v2 go sp fg=>exact bt_end_2 hP a W l L it T go sp fg nm d S at_ cur hT
  | rem+1,fv,nm,d,S,at_,cur,T,hT,hf,hS,ha,hr=>by
    have I:=fun (fv:FV) (nm:Str) (d':DT) (S':Str) (at' cur':Nat) (T':Ty) (h1:T' = d'.sh.ty) (h2:fvOk fv T' = true) (h3:S'.length<=(894 - 6*rem)+6) (h4:at' <= at_+3)=>loop_all hP a W l hl L it rem fv nm d' S' at' cur' T' h1 h2 (by omega) (by omega) (by omega);cases T with
    | it =>
      cases fv with
      | v0=>cases hf
      | v1 go sp=>exact bt_it_1 hP a W l hl L it go sp nm d S at_ cur rem hT (by omega) (894 - 6*rem) (by omega) (by omega) (by omega) I
      | v2 go sp fg=>exact bt_it_2 hP a W l hl L it go sp fg nm d S at_ cur rem hT (by omega) (894 - 6*rem) (by omega) (by omega) (by omega) I
    | th =>
      cases fv with
      | v0=>cases hf
      | v1 go sp=>exact bt_th_1 hP a W l hl L it go sp nm d S at_ cur rem hT (by omega) (894 - 6*rem) (by omega) (by omega) (by omega) I
      | v2 go sp fg=>exact bt_th_2 hP a W l hl L it go sp fg nm d S at_ cur rem hT (by omega) (894 - 6*rem) (by omega) (by omega) (by omega) I
    | pa =>
      cases fv with
      | v0=>cases hf
      | v1 go sp=>exact bt_pa_1 hP a W l hl L it go sp nm d S at_ cur rem hT (by omega) (894 - 6*rem) (by omega) (by omega) (by omega) I
      | v2 go sp fg=>exact bt_pa_2 hP a W l hl L it go sp fg nm d S at_ cur rem hT (by omega) (894 - 6*rem) (by omega) (by omega) (by omega) I
    | rc =>
      cases fv with
      | v0=>exact bt_rc_0 hP a W l hl L it nm d S at_ cur rem hT (by omega) (894 - 6*rem) (by omega) (by omega) (by omega) I
      | v1 go sp=>exact bt_rc_1 hP a W l hl L it go sp nm d S at_ cur rem hT (by omega) (894 - 6*rem) (by omega) (by omega) (by omega) I
      | v2 go sp fg=>exact bt_rc_2 hP a W l hl L it go sp fg nm d S at_ cur rem hT (by omega) (894 - 6*rem) (by omega) (by omega) (by omega) I
    | pt =>
      cases fv with
      | v0=>exact bt_pt_0 hP a W l hl L it nm d S at_ cur rem hT (by omega) (894 - 6*rem) (by omega) (by omega) (by omega) I
      | v1 go sp=>exact bt_pt_1 hP a W l hl L it go sp nm d S at_ cur rem hT (by omega) (894 - 6*rem) (by omega) (by omega) (by omega) I
      | v2 go sp fg=>exact bt_pt_2 hP a W l hl L it go sp fg nm d S at_ cur rem hT (by omega) (894 - 6*rem) (by omega) (by omega) (by omega) I
end Mine
section
open SeqAt
namespace Mine
theorem ct_listin {w:World} (l:List Str) (x:Str) (ad:Nat) :
    Ct w 0 100 (.call (.builtin "list.__contains__") ⟨[.ref ad,.str x 0],[]⟩) [] [(ad,listO (strsL l))] (β:=Unit) (fun _=>⟨.ret (.bool (l.any (· == x))),[],[],[]⟩) (fun _=>True):=by
  intro A s R c hb hc hp hn hR;obtain ⟨f,e⟩:=un_code c;rw [hc] at e;subst e;obtain ⟨_,o,ho,q⟩:=hp.1;obtain ⟨z,rfl⟩:=un_nz _ _ q;have hs:StrsAre (unL z.v 0 (strsL l)) l:=by rw [strsL_eq]; exact strsAre_of l z.v 0
  show codeAny (model pz w) A (.call (.builtin "list.__contains__") ⟨[.ref ad,.str x (f 1)],[]⟩) R s;refine codeAny_call_builtin F.slot_list_contains.plain F.entry_list_contains (F.slot_list_contains.check _ _ _ _ _ _ _ _ ⟨_,ho,rfl⟩ (F.args_list_contains_2 _ _) ?_);have hu:A.in1.units+1 < cLine:=by have:=hb.uni; show A.units+1+1 < cLine; omega
  refine list_containsAt ad ⟨unL z.v 0 (strsL l)⟩ z.n none #[] (.str x (f 1)) (fun v=>match v with | .str y _=>y == x | _=>false) pz w A R s ⟨ho,fun y hy=>?_,?_⟩
  · have key:∀ {vs:List Value} {ms:List Str},StrsAre vs ms->∀ y ∈ vs,∃ m t,y = .str m t:=by
      intro vs ms h
      induction h with
      | nil=>intro y h; cases h
      | cons m t _ ih =>
        intro y h;cases h with
        | head=>exact ⟨m,t,rfl⟩
        | tail _ h=>exact ih y h
    obtain ⟨m,t,rfl⟩:=key hs y (Array.mem_toList_iff.mpr hy);intro prog w' E Q hq;refine wpAny_eqBool_str ?_;have e3:(m == x)=decide (m=x):=by
      by_cases hm:m=x
      · subst hm; simp
      · rw [decide_eq_false hm]; exact beq_eq_false_iff_ne.mpr hm
    rw [<- e3]; exact hq
  · have key:∀ {vs:List Value} {ms:List Str},StrsAre vs ms->vs.any (fun v=>match v with | .str y _=>y == x | _=>false)=ms.any (· == x):=by
      intro vs ms h
      induction h with
      | nil=>rfl
      | cons m t _ ih=>rw [List.any_cons,List.any_cons,ih]
    have e2:(⟨unL z.v 0 (strsL l)⟩:Array Value).any (fun v=>match v with | .str y _=>y == x | _=>false)=l.any (· == x):=by
      rw [<- Array.any_toList]; exact key hs
    rw [e2];exact hR () _ s rfl ⟨rfl,rfl,rfl,Nat.le_refl _,fun _ _ h _=>h⟩ trivial rfl trivial List.nodup_nil (fun _ h=>nomatch h) trivial
noncomputable def opD (s:Str):PyData:=.str s
noncomputable def Sh.data:Sh->PyData
  | .var p=>.list [.str v_var,.int 1,.int (Int.ofNat (tyNo (match p with | true=>.pt | false=>.rc))),.str v_v,.list []]
  | .fld pl f kid=>.list [.str v_field,.int (Int.ofNat pl),.int (Int.ofNat (tyNo f.ty)),.str f.name,.list [kid.data]]
  | .drf pl kid=>.list [.str v_deref,.int (Int.ofNat pl),.int (Int.ofNat 8),.none,.list [kid.data]]
  | .grd pl kid=>.list [.str v_guard,.int (Int.ofNat pl),.int (Int.ofNat 9),.int 9,.list [kid.data]]
  | .idx pl two v cpl kid=>.list [.str v_index,.int (Int.ofNat pl),.int (Int.ofNat (tyNo (match two with | true=>.pa | false=>.it))),.none,.list [kid.data,.list [.str v_const,.int (Int.ofNat cpl),.int (Int.ofNat 4),.int (Int.ofNat v),.list []]]]
noncomputable def Sh.size:Sh->Nat
  | .var _=>1
  | .fld _ _ kid=>kid.size+1
  | .drf _ kid=>kid.size+1
  | .grd _ kid=>kid.size+1
  | .idx _ _ _ _ kid=>kid.size+1
inductive Like:Value->PyData->Prop
  | none:Like .none .none
  | int (i:Int):Like (.int i 0) (.int i)
  | str (s:Str):Like (.str s 0) (.str s)
theorem like_reads {h:Heap} {v:Value} {d:PyData} (H:Like v d) (t:Tok):Reads h (un t v) d []:=by
  cases H with
  | none=>exact .none
  | int i=>exact .int i t
  | str s=>exact .str s t
theorem reads_l5 {h:Heap} {A K:Nat} {op:Str} {pl no:Nat} {v:Value} {vd:PyData} {kids:List Value} {kd:List PyData} (H:HasAll h (l5 A K op pl no v kids)) (hv:Like v vd) (hk:∀ f:Nat->Tok,∃ bs,ReadsAll h (unL f 0 kids) kd bs) :
    ∃ as,Reads h (.ref A) (.list [.str op,.int (Int.ofNat pl),.int (Int.ofNat no),vd,.list kd]) as:=by
  obtain ⟨⟨_,o,ho,q⟩,⟨_,o2,ho2,q2⟩,_⟩:=H;obtain ⟨z,rfl⟩:=un_nz _ _ q;obtain ⟨z2,rfl⟩:=un_nz _ _ q2;obtain ⟨bs,hb⟩:=hk z2.v;exact ⟨_,.list ho rfl rfl (.cons (.str _ _) (.cons (.int _ _) (.cons (.int _ _) (.cons (like_reads hv _) (.cons (.list ho2 rfl rfl hb) .nil)))))⟩
theorem hasAll_mem {h:Heap}:∀ {l:List (Nat×Obj)},HasAll h l ↔ ∀ q ∈ l,Has h q.1 q.2
  | []=>by simp [HasAll]
  | p::l=>by simp only [HasAll,hasAll_mem (l:=l),List.mem_cons,forall_eq_or_imp]
theorem dt_reads {h:Heap}:∀ d:DT,HasAll h d.flat->∃ as,Reads h (.ref d.addr) d.sh.data as
  | .var A K p,H=>reads_l5 H (.str _) fun f=>⟨_,.nil⟩
  | .fld A K pl f kid,H=>by
    obtain ⟨H1,H2⟩:=has_append.mp H;obtain ⟨as,hr⟩:=dt_reads kid H2;exact reads_l5 H1 (.str _) fun f=>⟨_,.cons hr .nil⟩
  | .drf A K pl kid,H=>by
    obtain ⟨H1,H2⟩:=has_append.mp H;obtain ⟨as,hr⟩:=dt_reads kid H2;exact reads_l5 H1 .none fun f=>⟨_,.cons hr .nil⟩
  | .grd A K pl kid,H=>by
    obtain ⟨H1,H2⟩:=has_append.mp H;obtain ⟨as,hr⟩:=dt_reads kid H2;exact reads_l5 H1 (.int _) fun f=>⟨_,.cons hr .nil⟩
  | .idx A K pl two v C CK cpl kid,H=>by
    obtain ⟨H1,H2⟩:=has_append.mp H;obtain ⟨H3,H4⟩:=has_append.mp H1;obtain ⟨as,hr⟩:=dt_reads kid H2;obtain ⟨bs,hc⟩:=reads_l5 H4 (.int _) fun f=>⟨_,.nil⟩;exact reads_l5 H3 .none fun f=>⟨_,.cons hr (.cons hc .nil)⟩
theorem oks:PyData.strOk v_var=true∧PyData.strOk v_v=true∧PyData.strOk v_field=true∧PyData.strOk v_deref=true∧PyData.strOk v_guard=true∧PyData.strOk v_index=true∧PyData.strOk v_const=true∧PyData.strOk v_n=true∧PyData.strOk v_m=true∧PyData.strOk v_q=true∧PyData.strOk v_assign=true:=by decide +kernel
theorem ok_fld (f:Fld):PyData.strOk f.name=true:=by cases f <;> decide +kernel
theorem data_lay:∀ s:Sh,s.data.canLay0=true∧s.data.depth<=2*s.size+3
  | .var p=>by
    obtain ⟨h1,h2,h3,h4,h5,h6,h7,h8,h9,h10,_⟩:=oks;simp [Sh.data,PyData.canLay0,PyData.canLayAll0,PyData.depth,PyData.depthAll,Sh.size,h1,h2]
  | .fld pl f kid=>by
    obtain ⟨h1,h2,h3,h4,h5,h6,h7,h8,h9,h10,_⟩:=oks;obtain ⟨q1,q2⟩:=data_lay kid;simp [Sh.data,PyData.canLay0,PyData.canLayAll0,PyData.depth,PyData.depthAll,Sh.size,h3,ok_fld,q1]
    omega
  | .drf pl kid=>by
    obtain ⟨h1,h2,h3,h4,h5,h6,h7,h8,h9,h10,_⟩:=oks;obtain ⟨q1,q2⟩:=data_lay kid;simp [Sh.data,PyData.canLay0,PyData.canLayAll0,PyData.depth,PyData.depthAll,Sh.size,h4,q1]
    omega
  | .grd pl kid=>by
    obtain ⟨h1,h2,h3,h4,h5,h6,h7,h8,h9,h10,_⟩:=oks;obtain ⟨q1,q2⟩:=data_lay kid;simp [Sh.data,PyData.canLay0,PyData.canLayAll0,PyData.depth,PyData.depthAll,Sh.size,h5,q1]
    omega
  | .idx pl two v cpl kid=>by
    obtain ⟨h1,h2,h3,h4,h5,h6,h7,h8,h9,h10,_⟩:=oks;obtain ⟨q1,q2⟩:=data_lay kid;simp [Sh.data,PyData.canLay0,PyData.canLayAll0,PyData.depth,PyData.depthAll,Sh.size,h6,h7,q1]
    omega
theorem data_list (s:Sh):∃ xs,s.data = .list xs:=by cases s <;> exact ⟨_,rfl⟩
theorem list_eq_same {w:World} {A:Around} {s:Shared} {R:Result->Shared->Prop} {x y:Nat} {d:PyData} {as bs:List Addr} (hx:Reads s.heap (.ref x) d as) (hy:Reads s.heap (.ref y) d bs) (hd:∃ xs,d = .list xs) (hl:d.canLay0=true) (hu:A.units+d.depth+2 < cLine) (hR:R (.ok (.ret (.bool true))) s):codeAny (model pz w) A (.call (.builtin "list.__eq__") ⟨[.ref x,.ref y],[]⟩) R s:=by
  obtain ⟨xs,rfl⟩:=hd;cases hx with
  | @list _ o vs n _ as₁ h1 h2 h3 h4 =>
    cases hy with
    | @list _ o' vs' n' _ bs₁ k1 k2 k3 k4 =>
      obtain ⟨c,dd,dt,sl⟩:=o;obtain ⟨c',dd',dt',sl'⟩:=o'
      dsimp only at h2 h3 k2 k3
      subst h2 h3 k2 k3;have n1:vs.size=xs.length:=by simpa using ReadsAll.length _ _ _ h4
      have n2:vs'.size=xs.length:=by simpa using ReadsAll.length _ _ _ k4
      have hroom:A.in1.units+min (PyData.depthAll xs) (PyData.depthAll xs) < cLine:=by
        have e:(PyData.list xs).depth=PyData.depthAll xs+1:=by simp [PyData.depth]
        rw [e] at hu;show A.units+1+min _ _ < cLine;rw [Nat.min_self]; omega
      have hll:PyData.canLayAll0 xs=true:=by simpa [PyData.canLay0] using hl
      have he:∀ j (j1:j < vs.size) (j2:j < vs'.size),EqAt A.in1 s vs[j] vs'[j] (pairEq xs xs j):=fun j j1 j2=>by
        have:=eqAt_readsAll xs xs A.in1 s vs.toList vs'.toList _ _ h4 k4 hll hll hroom j (by simpa using j1) (by simpa using j2)
        simpa using this
      refine codeAny_call_builtin F.slot_list_eq.plain F.entry_list_eq (F.slot_list_eq.check _ _ _ _ _ _ _ _ ⟨_,h1,rfl⟩ (F.args_list_eq_2 _ _) ?_);refine list_eqAt x y vs vs' n n' dd dd' sl sl' (by rw [n1,n2]) (pairEq xs xs) pz w A R s ⟨h1,k1,?_,?_⟩
      · exact he
      · rw [n1,eqvAll_same_length rfl,eqvAll_refl xs hll];exact hR
theorem has_plain {h:Heap} {x:Nat} {o:Obj} {e:Obj} (H:Has h x e) (ho:h.get? x=some o):o.dict=e.dict∧o.slots=e.slots:=by
  obtain ⟨_,o',ho',q⟩:=H;rw [ho] at ho';cases ho';obtain ⟨c,d,dt,sl⟩:=o;rw [<- q];exact ⟨rfl,rfl⟩
theorem ct_eqdt {w:World} (d d':DT) (h:d.sh=d'.sh) (hs:d.sh.size<=40):Ct w 0 200 (.call (.builtin "list.__eq__") ⟨[.ref d.addr,.ref d'.addr],[]⟩) [] (d.flat++d'.flat) (β:=Unit) (fun _=>⟨.ret (.bool true),[],[],[]⟩) (fun _=>True):=by
  intro A s R c hb hc hp hn hR;obtain ⟨f,e⟩:=un_code c;rw [hc] at e;subst e;obtain ⟨H1,H2⟩:=has_append.mp (show HasAll s.heap (d.flat++d'.flat) from hp);obtain ⟨as,r1⟩:=dt_reads d H1;obtain ⟨bs,r2⟩:=dt_reads d' H2;rw [<- h] at r2;obtain ⟨q1,q2⟩:=data_lay d.sh;refine list_eq_same r1 r2 (data_list d.sh) q1 (by have:=hb.uni; omega) ?_;exact hR () _ s rfl ⟨rfl,rfl,rfl,Nat.le_refl _,fun _ _ h _=>h⟩ trivial rfl trivial List.nodup_nil (fun _ h=>nomatch h) trivial
theorem ct_eqnil {w:World} (x y:Nat):Ct w 0 200 (.call (.builtin "list.__eq__") ⟨[.ref x,.ref y],[]⟩) [] [(x,listO []),(y,listO [])] (β:=Unit) (fun _=>⟨.ret (.bool true),[],[],[]⟩) (fun _=>True):=by
  intro A s R c hb hc hp hn hR;obtain ⟨f,e⟩:=un_code c;rw [hc] at e;subst e;obtain ⟨_,o,ho,q⟩:=hp.1;obtain ⟨z,rfl⟩:=un_nz _ _ q;obtain ⟨_,o2,ho2,q2⟩:=hp.2.1;obtain ⟨z2,rfl⟩:=un_nz _ _ q2;refine list_eq_same (d:=.list []) (.list ho rfl rfl .nil) (.list ho2 rfl rfl .nil) ⟨_,rfl⟩ (by simp [PyData.canLay0,PyData.canLayAll0]) (by have:=hb.uni; simp only [PyData.depth,PyData.depthAll]; omega) ?_;exact hR () _ s rfl ⟨rfl,rfl,rfl,Nat.le_refl _,fun _ _ h _=>h⟩ trivial rfl trivial List.nodup_nil (fun _ h=>nomatch h) trivial
theorem ct_eqtup {w:World} (x y:Nat) (k:Str) (i:Int) (hk:PyData.strOk k=true):Ct w 0 200 (.call (.builtin "tuple.__eq__") ⟨[.ref x,.ref y],[]⟩) [] [(x,tupO [.str k 0,.int i 0]),(y,tupO [.str k 0,.int i 0])] (β:=Unit) (fun _=>⟨.ret (.bool true),[],[],[]⟩) (fun _=>True):=by
  intro A s R c hb hc hp hn hR;obtain ⟨f,e⟩:=un_code c;rw [hc] at e;subst e;obtain ⟨_,o,ho,q⟩:=hp.1;obtain ⟨z,rfl⟩:=un_nz _ _ q;obtain ⟨_,o2,ho2,q2⟩:=hp.2.1;obtain ⟨z2,rfl⟩:=un_nz _ _ q2;have rr:∀ z:Nz,ReadsAll s.heap (unL z.v 0 [.str k 0,.int i 0]) [.str k,.int i] []:=fun z=>.cons (.str _ _) (.cons (.int _ _) .nil);have hll:PyData.canLayAll0 [.str k,.int i]=true:=by simp [PyData.canLayAll0,PyData.canLay0,hk]
  have hroom:A.in1.units+min (PyData.depthAll [.str k,.int i]) (PyData.depthAll [.str k,.int i]) < cLine:=by
    have:=hb.uni;show A.units+1+min _ _ < cLine;simp only [PyData.depthAll,PyData.depth]
    omega
  show codeAny (model pz w) A (.call (.builtin "tuple.__eq__") ⟨[.ref x,.ref y],[]⟩) R s;refine codeAny_call_builtin F.slot_tuple_eq.plain F.entry_tuple_eq (F.slot_tuple_eq.check _ _ _ _ _ _ _ _ ⟨_,ho,rfl⟩ (F.args_tuple_eq_2 _ _) ?_);refine tuple_eqAt x y ⟨unL z.v 0 [.str k 0,.int i 0]⟩ ⟨unL z2.v 0 [.str k 0,.int i 0]⟩ z.n z2.n none none #[] #[] (pairEq [.str k,.int i] [.str k,.int i]) pz w A R s ⟨ho,ho2,fun j j1 j2=>?_,?_⟩
  · have:=eqAt_readsAll [.str k,.int i] [.str k,.int i] A.in1 s _ _ _ _ (rr z) (rr z2) hll hll hroom j (by simpa using j1) (by simpa using j2)
    simpa using this
  · have e:((List.range (min (⟨unL z.v 0 [.str k 0,.int i 0]⟩:Array Value).size (⟨unL z2.v 0 [.str k 0,.int i 0]⟩:Array Value).size)).all (pairEq [.str k,.int i] [.str k,.int i]) && (⟨unL z.v 0 [.str k 0,.int i 0]⟩:Array Value).size == (⟨unL z2.v 0 [.str k 0,.int i 0]⟩:Array Value).size)=true:=by
      have q:=eqvAll_eq [.str k,.int i] [.str k,.int i];rw [eqvAll_refl _ hll] at q;exact q
    rw [e];exact hR () _ s rfl ⟨rfl,rfl,rfl,Nat.le_refl _,fun _ _ h _=>h⟩ trivial rfl trivial List.nodup_nil (fun _ h=>nomatch h) trivial
end Mine
end
namespace Mine
theorem ble_le {W D' D n:Nat} (h:Nat.ble W n=true) (h2:n+D' <= D):Nat.ble (Nat.add W D') D=true:=
  Nat.ble_eq_true_of_le (Nat.le_trans (Nat.add_le_add_right (Nat.le_of_ble_eq_true h) D') h2)
noncomputable def ToldC (w:World) (a:Nat->Nat) (t:NT):Prop:=Ct w (20*t.sh.size+100) (40*t.sh.size+200) (.call (.ref 653) ⟨[.ref t.addr],[]⟩) [] (w_ty a++t.flat a) (fun b:DT=>⟨.ret (.ref b.addr),[],[],b.flat⟩) (fun b=>b.sh=t.sh)
noncomputable def conL (a:Nat->Nat) (CA CD CK cpl v:Nat):List (Nat×Obj):=[(CA,instO 39 CD),(CD,nodD v_const cpl (a 15) CK (.int (Int.ofNat v) 0)),(CK,listO [])]
noncomputable def ConC (w:World) (a:Nat->Nat) (CA CD CK cpl v:Nat):Prop:=Ct w 100 200 (.call (.ref 653) ⟨[.ref CA],[]⟩) [] (w_ty a++conL a CA CD CK cpl v) (fun b:Nat×Nat=>⟨.ret (.ref b.1),[],l5 b.1 b.2 v_const cpl 4 (.int (Int.ofNat v) 0) [],[]⟩) (fun _=>True)
noncomputable def o_told_con_1:List Nat:=[1,0,21,21,21,1,0,0,0,0,1,0,0,0,1,1,0,2,21,21,21,1,0,0,0,0,1,0,0,0,1,1,0,2,22,22]
noncomputable def o_told_con_2:List Nat:=[21,1,0,0,0,0,1,0,0,0,1,1,0,2,0,21,1,0,0,0,0,1,0,0,0,1,1,0,2,21,1,0,0,0,0,1,0,0,0,1,1,0,2,21,1,0,0,0,0,1,0,0,0,1,1,0,2,4,0,0,0,0,4,0,0,0,4,4,0,5,0,21,21,1,0,0,0,0,1,0,0,0,1,1,0,2,3,3,0,3,23,23,23,0,23,23,23,0,23,23,23,3,23,23,27,25]
noncomputable def o_toldt_con_2:List Nat:=[21,1,0,0,0,0,1,0,0,0,1,1,0,2,0,21,1,0,0,0,0,1,0,0,0,1,1,0,2,21,1,0,0,0,0,1,0,0,0,1,1,0,2,21,1,0,0,0,0,1,0,0,0,1,1,0,2,4,0,0,0,0,4,0,0,0,4,4,0,5,0,21,21,1,0,0,0,0,1,0,0,0,1,1,0,2,3,3,0,3,23,23,0,23,23,23,3,23,23,27,25]
noncomputable def o_told_var_rc_1:List Nat:=[1,0,23,23,23,1,0,0,0,0,1,0,0,0,1,1,0,2,23,23,23,1,0,0,0,0,1,0,0,0,1,1,0,2,24,24]
noncomputable def o_told_var_rc_2:List Nat:=[23,1,0,0,0,0,1,0,0,0,1,1,0,2,4,0,0,0,0,4,0,0,0,4,4,0,5,0,23,23,23,1,0,0,0,0,1,0,0,0,1,1,0,2,23,1,0,0,0,0,1,0,0,0,1,1,0,2,23,1,0,0,0,0,1,0,0,0,1,1,0,2,12,0,0,0,0,12,0,0,0,12,12,0,13,0,23,23,1,0,0,0,0,1,0,0,0,1,1,0,2,3,3,0,3,25,25,25,0,25,25,25,0,25,25,25,3,25,25,29,27]
noncomputable def o_toldt_var_rc_2:List Nat:=[23,1,0,0,0,0,1,0,0,0,1,1,0,2,4,0,0,0,0,4,0,0,0,4,4,0,5,0,23,23,23,1,0,0,0,0,1,0,0,0,1,1,0,2,23,1,0,0,0,0,1,0,0,0,1,1,0,2,23,1,0,0,0,0,1,0,0,0,1,1,0,2,12,0,0,0,0,12,0,0,0,12,12,0,13,0,23,23,1,0,0,0,0,1,0,0,0,1,1,0,2,3,3,0,3,25,25,0,25,25,25,3,25,25,29,27]
noncomputable def o_told_var_pt_2:List Nat:=[23,1,0,0,0,0,1,0,0,0,1,1,0,2,4,0,0,0,0,4,0,0,0,4,4,0,5,0,23,23,23,1,0,0,0,0,1,0,0,0,1,1,0,2,23,1,0,0,0,0,1,0,0,0,1,1,0,2,23,1,0,0,0,0,1,0,0,0,1,1,0,2,14,0,0,0,0,14,0,0,0,14,14,0,15,0,23,23,1,0,0,0,0,1,0,0,0,1,1,0,2,3,3,0,3,25,25,25,0,25,25,25,0,25,25,25,3,25,25,29,27]
noncomputable def o_toldt_var_pt_2:List Nat:=[23,1,0,0,0,0,1,0,0,0,1,1,0,2,4,0,0,0,0,4,0,0,0,4,4,0,5,0,23,23,23,1,0,0,0,0,1,0,0,0,1,1,0,2,23,1,0,0,0,0,1,0,0,0,1,1,0,2,23,1,0,0,0,0,1,0,0,0,1,1,0,2,14,0,0,0,0,14,0,0,0,14,14,0,15,0,23,23,1,0,0,0,0,1,0,0,0,1,1,0,2,3,3,0,3,25,25,0,25,25,25,3,25,25,29,27]
noncomputable def o_told_fld_n_2:List Nat:=[21,1,0,0,0,0,1,0,0,0,1,1,0,2,15,0,0,0,0,15,0,0,0,15,15,0,16,0,21,21,21,1,0,0,0,0,1,0,0,0,1,1,0,2,21,1,0,0,0,0,1,0,0,0,1,1,0,2,21,1,0,0,0,0,1,0,0,0,1,1,0,2,4,0,0,0,0,4,0,0,0,4,4,0,5,0,21,21,1,0,0,0,0,1,0,0,0,1,1,0,2,3,3,0,3,23,23,23,0,23,23,23,0,23,23,23,3,23,23,25,25,0,25,0]
noncomputable def o_told_fld_n_3:List Nat:=[0,24,24,24,24,23,0,23,23,23,3,23,23,27,25,25,25]
noncomputable def o_toldt_fld_n_2:List Nat:=[21,1,0,0,0,0,1,0,0,0,1,1,0,2,15,0,0,0,0,15,0,0,0,15,15,0,16,0,21,21,21,1,0,0,0,0,1,0,0,0,1,1,0,2,21,1,0,0,0,0,1,0,0,0,1,1,0,2,21,1,0,0,0,0,1,0,0,0,1,1,0,2,4,0,0,0,0,4,0,0,0,4,4,0,5,0,21,21,1,0,0,0,0,1,0,0,0,1,1,0,2,3,3,0,3,23,23,0,23,23,23,3,23,23,25,25,0,25,0]
noncomputable def o_told_fld_m_2:List Nat:=[21,1,0,0,0,0,1,0,0,0,1,1,0,2,17,0,0,0,0,17,0,0,0,17,17,0,18,0,21,21,21,1,0,0,0,0,1,0,0,0,1,1,0,2,21,1,0,0,0,0,1,0,0,0,1,1,0,2,21,1,0,0,0,0,1,0,0,0,1,1,0,2,6,0,0,0,0,6,0,0,0,6,6,0,7,0,21,21,1,0,0,0,0,1,0,0,0,1,1,0,2,3,3,0,3,23,23,23,0,23,23,23,0,23,23,23,3,23,23,25,25,0,25,0]
noncomputable def o_toldt_fld_m_2:List Nat:=[21,1,0,0,0,0,1,0,0,0,1,1,0,2,17,0,0,0,0,17,0,0,0,17,17,0,18,0,21,21,21,1,0,0,0,0,1,0,0,0,1,1,0,2,21,1,0,0,0,0,1,0,0,0,1,1,0,2,21,1,0,0,0,0,1,0,0,0,1,1,0,2,6,0,0,0,0,6,0,0,0,6,6,0,7,0,21,21,1,0,0,0,0,1,0,0,0,1,1,0,2,3,3,0,3,23,23,0,23,23,23,3,23,23,25,25,0,25,0]
noncomputable def o_told_fld_q_2:List Nat:=[21,1,0,0,0,0,1,0,0,0,1,1,0,2,19,0,0,0,0,19,0,0,0,19,19,0,20,0,21,21,21,1,0,0,0,0,1,0,0,0,1,1,0,2,21,1,0,0,0,0,1,0,0,0,1,1,0,2,21,1,0,0,0,0,1,0,0,0,1,1,0,2,12,0,0,0,0,12,0,0,0,12,12,0,13,0,21,21,1,0,0,0,0,1,0,0,0,1,1,0,2,3,3,0,3,23,23,23,0,23,23,23,0,23,23,23,3,23,23,25,25,0,25,0]
noncomputable def o_toldt_fld_q_2:List Nat:=[21,1,0,0,0,0,1,0,0,0,1,1,0,2,19,0,0,0,0,19,0,0,0,19,19,0,20,0,21,21,21,1,0,0,0,0,1,0,0,0,1,1,0,2,21,1,0,0,0,0,1,0,0,0,1,1,0,2,21,1,0,0,0,0,1,0,0,0,1,1,0,2,12,0,0,0,0,12,0,0,0,12,12,0,13,0,21,21,1,0,0,0,0,1,0,0,0,1,1,0,2,3,3,0,3,23,23,0,23,23,23,3,23,23,25,25,0,25,0]
noncomputable def o_told_drf_2:List Nat:=[21,1,0,0,0,0,1,0,0,0,1,1,0,2,0,21,1,0,0,0,0,1,0,0,0,1,1,0,2,21,1,0,0,0,0,1,0,0,0,1,1,0,2,21,1,0,0,0,0,1,0,0,0,1,1,0,2,10,0,0,0,0,10,0,0,0,10,10,0,11,0,21,21,1,0,0,0,0,1,0,0,0,1,1,0,2,3,3,0,3,23,23,23,0,23,23,23,0,23,23,23,3,23,23,25,25,0,25,0]
noncomputable def o_toldt_drf_2:List Nat:=[21,1,0,0,0,0,1,0,0,0,1,1,0,2,0,21,1,0,0,0,0,1,0,0,0,1,1,0,2,21,1,0,0,0,0,1,0,0,0,1,1,0,2,21,1,0,0,0,0,1,0,0,0,1,1,0,2,10,0,0,0,0,10,0,0,0,10,10,0,11,0,21,21,1,0,0,0,0,1,0,0,0,1,1,0,2,3,3,0,3,23,23,0,23,23,23,3,23,23,25,25,0,25,0]
noncomputable def o_told_grd_2:List Nat:=[21,1,0,0,0,0,1,0,0,0,1,1,0,2,0,21,1,0,0,0,0,1,0,0,0,1,1,0,2,12,0,0,0,0,12,0,0,0,12,12,0,13,0,21,21,21,1,0,0,0,0,1,0,0,0,1,1,0,2,21,1,0,0,0,0,1,0,0,0,1,1,0,2,21,1,0,0,0,0,1,0,0,0,1,1,0,2,12,0,0,0,0,12,0,0,0,12,12,0,13,0,21,21,1,0,0,0,0,1,0,0,0,1,1,0,2,3,3,0,3,23,23,23,0,23,23,23,0,23,23,23,3,23,23,25,25,0,25,0]
noncomputable def o_toldt_grd_2:List Nat:=[21,1,0,0,0,0,1,0,0,0,1,1,0,2,0,21,1,0,0,0,0,1,0,0,0,1,1,0,2,12,0,0,0,0,12,0,0,0,12,12,0,13,0,21,21,21,1,0,0,0,0,1,0,0,0,1,1,0,2,21,1,0,0,0,0,1,0,0,0,1,1,0,2,21,1,0,0,0,0,1,0,0,0,1,1,0,2,12,0,0,0,0,12,0,0,0,12,12,0,13,0,21,21,1,0,0,0,0,1,0,0,0,1,1,0,2,3,3,0,3,23,23,0,23,23,23,3,23,23,25,25,0,25,0]
noncomputable def o_told_idx_th_1:List Nat:=[1,0,24,24,24,1,0,0,0,0,1,0,0,0,1,1,0,2,24,24,24,1,0,0,0,0,1,0,0,0,1,1,0,2,25,25]
noncomputable def o_told_idx_th_2:List Nat:=[24,1,0,0,0,0,1,0,0,0,1,1,0,2,0,24,1,0,0,0,0,1,0,0,0,1,1,0,2,24,1,0,0,0,0,1,0,0,0,1,1,0,2,24,1,0,0,0,0,1,0,0,0,1,1,0,2,11,0,0,0,0,11,0,0,0,11,11,0,12,0,24,24,1,0,0,0,0,1,0,0,0,1,1,0,2,3,3,0,3,26,26,26,0,26,26,26,0,26,26,26,3,26,26,28,28,0,28,0]
noncomputable def o_told_idx_th_3:List Nat:=[0,27,27,27,27,26,0,26,26,26,3,26,26,28,28,0,28,0]
noncomputable def o_told_idx_th_4:List Nat:=[0,27,27,27,27,26,0,26,26,26,3,26,26,32,28,28,28]
noncomputable def o_toldt_idx_th_2:List Nat:=[24,1,0,0,0,0,1,0,0,0,1,1,0,2,0,24,1,0,0,0,0,1,0,0,0,1,1,0,2,24,1,0,0,0,0,1,0,0,0,1,1,0,2,24,1,0,0,0,0,1,0,0,0,1,1,0,2,11,0,0,0,0,11,0,0,0,11,11,0,12,0,24,24,1,0,0,0,0,1,0,0,0,1,1,0,2,3,3,0,3,26,26,0,26,26,26,3,26,26,28,28,0,28,0]
noncomputable def o_told_idx_pa_2:List Nat:=[24,1,0,0,0,0,1,0,0,0,1,1,0,2,0,24,1,0,0,0,0,1,0,0,0,1,1,0,2,24,1,0,0,0,0,1,0,0,0,1,1,0,2,24,1,0,0,0,0,1,0,0,0,1,1,0,2,7,0,0,0,0,7,0,0,0,7,7,0,8,0,24,24,1,0,0,0,0,1,0,0,0,1,1,0,2,3,3,0,3,26,26,26,0,26,26,26,0,26,26,26,3,26,26,28,28,0,28,0]
noncomputable def o_toldt_idx_pa_2:List Nat:=[24,1,0,0,0,0,1,0,0,0,1,1,0,2,0,24,1,0,0,0,0,1,0,0,0,1,1,0,2,24,1,0,0,0,0,1,0,0,0,1,1,0,2,24,1,0,0,0,0,1,0,0,0,1,1,0,2,7,0,0,0,0,7,0,0,0,7,7,0,8,0,24,24,1,0,0,0,0,1,0,0,0,1,1,0,2,3,3,0,3,26,26,0,26,26,26,3,26,26,28,28,0,28,0]
theorem told_con {w:World} {b1 b2 b3:Bool} (hP:Rows w b1 b2 b3) (a:Nat->Nat) (CA CD CK cpl v:Nat):ConC w a CA CD CK cpl v:=by
  refine Ct.perm (perm_w (w_ty a) (r:=[]) (List.Perm.refl (conL a CA CD CK cpl v++[]))) ?_;refine ct_start (tx:=tx0) (pre:=[]) (ro:=(conL a CA CD CK cpl v++w_ty a)) (sup:=[]) hP tx0_ok (by decide) fun A' s R zs ta N C U D' hR=>?_;cases b2
  · refine sg C 4000 o_told_con_1 ?_;intro _;have K_1:=sN s R C trId [((N+21),listO (strsL [(⟨⟨[118,97,114]⟩⟩:Str),(⟨⟨[102,105,101,108,100]⟩⟩:Str)]))] (ct_listin [(⟨⟨[118,97,114]⟩⟩:Str),(⟨⟨[102,105,101,108,100]⟩⟩:Str)] (⟨⟨[99,111,110,115,116]⟩⟩:Str) (N+21)) [] [21];refine K_1 ?_;intro _ _ _ _ N_1 _ _ _ C_1 tr_1 su_1 _ _ _;have U_1:=su_1 _ U;refine sg C_1 4000 o_told_con_2 ?_;intro _;exact finishC (Pd:=fun _=>True) tr_1 D' hR ((N_1+27),(N_1+23)) _ [] [27,23] (by kernel_rfl) (by kernel_rfl) rfl (by kernel_rfl) (by kernel_rfl) rfl Sup.nil (fun _ h=>nomatch h) rfl trivial
  · refine sg C 4000 o_told_con_1 ?_;intro _;have K_1:=sN s R C trId [((N+21),listO (strsL [(⟨⟨[118,97,114]⟩⟩:Str),(⟨⟨[102,105,101,108,100]⟩⟩:Str)]))] (ct_listin [(⟨⟨[118,97,114]⟩⟩:Str),(⟨⟨[102,105,101,108,100]⟩⟩:Str)] (⟨⟨[99,111,110,115,116]⟩⟩:Str) (N+21)) [] [21];refine K_1 ?_;intro _ _ _ _ N_1 _ _ _ C_1 tr_1 su_1 _ _ _;have U_1:=su_1 _ U;refine sg C_1 4000 o_toldt_con_2 ?_;intro _;exact finishC (Pd:=fun _=>True) tr_1 D' hR ((N_1+27),(N_1+23)) _ [] [27,23] (by kernel_rfl) (by kernel_rfl) rfl (by kernel_rfl) (by kernel_rfl) rfl Sup.nil (fun _ h=>nomatch h) rfl trivial
theorem told_var_rc {w:World} {b1 b2 b3:Bool} (hP:Rows w b1 b2 b3) (a:Nat->Nat) (A D K vo vod:Nat):ToldC w a (.var A D K false vo vod):=by
  refine Ct.perm (perm_w (w_ty a) (r:=[]) (List.Perm.refl ([(A,instO 39 D),(D,nodD v_var 1 (a 30) K (.ref vo)),(K,listO []),(vo,instO 390 vod),(vod,objD v_v v_var (a 30) v_empty 0)]++[]))) ?_;refine ct_start (tx:=tx0) (pre:=[]) (ro:=([(A,instO 39 D),(D,nodD v_var 1 (a 30) K (.ref vo)),(K,listO []),(vo,instO 390 vod),(vod,objD v_v v_var (a 30) v_empty 0)]++w_ty a)) (sup:=[]) hP tx0_ok (Nat.le_add_left _ _) fun A' s R zs ta N C U D' hR=>?_;cases b2
  · refine sg C 4000 o_told_var_rc_1 ?_;intro _;have K_1:=sN s R C trId [((N+23),listO (strsL [(⟨⟨[118,97,114]⟩⟩:Str),(⟨⟨[102,105,101,108,100]⟩⟩:Str)]))] (ct_listin [(⟨⟨[118,97,114]⟩⟩:Str),(⟨⟨[102,105,101,108,100]⟩⟩:Str)] (⟨⟨[118,97,114]⟩⟩:Str) (N+23)) [] [23];refine K_1 ?_;intro _ _ _ _ N_1 _ _ _ C_1 tr_1 su_1 _ _ _;have U_1:=su_1 _ U;refine sg C_1 4000 o_told_var_rc_2 ?_;intro _;exact finishC tr_1 D' hR (.var (N_1+29) (N_1+25) false) (l5 (N_1+29) (N_1+25) v_var 1 (tyNo .rc) (.str v_v 0) []) [] [29,25] (by kernel_rfl) (by kernel_rfl) rfl (by kernel_rfl) (by kernel_rfl) rfl Sup.nil (fun _ h=>nomatch h) rfl rfl
  · refine sg C 4000 o_told_var_rc_1 ?_;intro _;have K_1:=sN s R C trId [((N+23),listO (strsL [(⟨⟨[118,97,114]⟩⟩:Str),(⟨⟨[102,105,101,108,100]⟩⟩:Str)]))] (ct_listin [(⟨⟨[118,97,114]⟩⟩:Str),(⟨⟨[102,105,101,108,100]⟩⟩:Str)] (⟨⟨[118,97,114]⟩⟩:Str) (N+23)) [] [23];refine K_1 ?_;intro _ _ _ _ N_1 _ _ _ C_1 tr_1 su_1 _ _ _;have U_1:=su_1 _ U;refine sg C_1 4000 o_toldt_var_rc_2 ?_;intro _;exact finishC tr_1 D' hR (.var (N_1+29) (N_1+25) false) (l5 (N_1+29) (N_1+25) v_var 1 (tyNo .rc) (.str v_v 0) []) [] [29,25] (by kernel_rfl) (by kernel_rfl) rfl (by kernel_rfl) (by kernel_rfl) rfl Sup.nil (fun _ h=>nomatch h) rfl rfl
theorem told_var_pt {w:World} {b1 b2 b3:Bool} (hP:Rows w b1 b2 b3) (a:Nat->Nat) (A D K vo vod:Nat):ToldC w a (.var A D K true vo vod):=by
  refine Ct.perm (perm_w (w_ty a) (r:=[]) (List.Perm.refl ([(A,instO 39 D),(D,nodD v_var 1 (a 35) K (.ref vo)),(K,listO []),(vo,instO 390 vod),(vod,objD v_v v_var (a 35) v_empty 0)]++[]))) ?_;refine ct_start (tx:=tx0) (pre:=[]) (ro:=([(A,instO 39 D),(D,nodD v_var 1 (a 35) K (.ref vo)),(K,listO []),(vo,instO 390 vod),(vod,objD v_v v_var (a 35) v_empty 0)]++w_ty a)) (sup:=[]) hP tx0_ok (Nat.le_add_left _ _) fun A' s R zs ta N C U D' hR=>?_;cases b2
  · refine sg C 4000 o_told_var_rc_1 ?_;intro _;have K_1:=sN s R C trId [((N+23),listO (strsL [(⟨⟨[118,97,114]⟩⟩:Str),(⟨⟨[102,105,101,108,100]⟩⟩:Str)]))] (ct_listin [(⟨⟨[118,97,114]⟩⟩:Str),(⟨⟨[102,105,101,108,100]⟩⟩:Str)] (⟨⟨[118,97,114]⟩⟩:Str) (N+23)) [] [23];refine K_1 ?_;intro _ _ _ _ N_1 _ _ _ C_1 tr_1 su_1 _ _ _;have U_1:=su_1 _ U;refine sg C_1 4000 o_told_var_pt_2 ?_;intro _;exact finishC tr_1 D' hR (.var (N_1+29) (N_1+25) true) (l5 (N_1+29) (N_1+25) v_var 1 (tyNo .pt) (.str v_v 0) []) [] [29,25] (by kernel_rfl) (by kernel_rfl) rfl (by kernel_rfl) (by kernel_rfl) rfl Sup.nil (fun _ h=>nomatch h) rfl rfl
  · refine sg C 4000 o_told_var_rc_1 ?_;intro _;have K_1:=sN s R C trId [((N+23),listO (strsL [(⟨⟨[118,97,114]⟩⟩:Str),(⟨⟨[102,105,101,108,100]⟩⟩:Str)]))] (ct_listin [(⟨⟨[118,97,114]⟩⟩:Str),(⟨⟨[102,105,101,108,100]⟩⟩:Str)] (⟨⟨[118,97,114]⟩⟩:Str) (N+23)) [] [23];refine K_1 ?_;intro _ _ _ _ N_1 _ _ _ C_1 tr_1 su_1 _ _ _;have U_1:=su_1 _ U;refine sg C_1 4000 o_toldt_var_pt_2 ?_;intro _;exact finishC tr_1 D' hR (.var (N_1+29) (N_1+25) true) (l5 (N_1+29) (N_1+25) v_var 1 (tyNo .pt) (.str v_v 0) []) [] [29,25] (by kernel_rfl) (by kernel_rfl) rfl (by kernel_rfl) (by kernel_rfl) rfl Sup.nil (fun _ h=>nomatch h) rfl rfl
theorem told_fld_n {w:World} {b1 b2 b3:Bool} (hP:Rows w b1 b2 b3) (a:Nat->Nat) (A D K pl:Nat) (kid:NT) (K':ToldC w a kid):ToldC w a (.fld A D K pl .n kid):=by
  refine Ct.perm (perm_w (w_ty a) (r:=kid.flat a) (List.Perm.refl ([(A,instO 39 D),(D,nodD v_field pl (a 15) K (.ref (a 40))),(K,listO [.ref kid.addr])]++kid.flat a))) ?_;refine ct_start (tx:=tx0) (pre:=[]) (ro:=([(A,instO 39 D),(D,nodD v_field pl (a 15) K (.ref (a 40))),(K,listO [.ref kid.addr])]++w_ty a)) (sup:=kid.flat a) hP tx0_ok (Nat.le_add_left _ _) fun A' s R zs ta N C U D' hR=>?_;cases b2
  · refine sg C 4000 o_told_con_1 ?_;intro _;have K_1:=sN s R C trId [((N+21),listO (strsL [(⟨⟨[118,97,114]⟩⟩:Str),(⟨⟨[102,105,101,108,100]⟩⟩:Str)]))] (ct_listin [(⟨⟨[118,97,114]⟩⟩:Str),(⟨⟨[102,105,101,108,100]⟩⟩:Str)] (⟨⟨[102,105,101,108,100]⟩⟩:Str) (N+21)) [] [21];refine K_1 ?_;intro _ _ _ _ N_1 _ _ _ C_1 tr_1 su_1 _ _ _;have U_1:=su_1 _ U;refine sg C_1 4000 o_told_fld_n_2 ?_;intro _;have K_2:=sK s R C_1 tr_1 (w_ty a) (kid.flat a) (K') [] [3,4,5,6,7,8,9,10,11,12,13,14,15,16,17,18,19] U_1;refine K_2 (hd:=by exact ble_le (n:=15) (by kernel_rfl) (by show 15+(20*kid.sh.size+100)<=20*(kid.sh.size+1)+100; omega)) (hu:=by exact ble_le (n:=30) (by kernel_rfl) (by show 30+(40*kid.sh.size+200)<=40*(kid.sh.size+1)+200; omega)) ?_;intro b_2 _ _ _ N_2 _ _ _ C_2 tr_2 su_2 fs_2 pd_2 _;have U_2:=su_2 _ U_1;refine sg C_2 4000 o_told_fld_n_3 ?_;intro _;exact finishC tr_2 D' hR (DT.fld (N_2+27) (N_1+23) pl .n b_2) (l5 (N_2+27) (N_1+23) v_field pl (tyNo (Fld.ty .n)) (.str (Fld.name .n) 0) [.ref b_2.addr]) b_2.flat [27,23] (by kernel_rfl) (by kernel_rfl) rfl (by kernel_rfl) (by kernel_rfl) rfl ((su_2 [] Sup.nil).left) fs_2 rfl (by show (DT.fld (N_2+27) (N_1+23) pl .n b_2).sh=_; simp only [DT.sh,NT.sh]; rw [show b_2.sh=kid.sh from pd_2])
  · refine sg C 4000 o_told_con_1 ?_;intro _;have K_1:=sN s R C trId [((N+21),listO (strsL [(⟨⟨[118,97,114]⟩⟩:Str),(⟨⟨[102,105,101,108,100]⟩⟩:Str)]))] (ct_listin [(⟨⟨[118,97,114]⟩⟩:Str),(⟨⟨[102,105,101,108,100]⟩⟩:Str)] (⟨⟨[102,105,101,108,100]⟩⟩:Str) (N+21)) [] [21];refine K_1 ?_;intro _ _ _ _ N_1 _ _ _ C_1 tr_1 su_1 _ _ _;have U_1:=su_1 _ U;refine sg C_1 4000 o_toldt_fld_n_2 ?_;intro _;have K_2:=sK s R C_1 tr_1 (w_ty a) (kid.flat a) (K') [] [3,4,5,6,7,8,9,10,11,12,13,14,15,16,17,18,19] U_1;refine K_2 (hd:=by exact ble_le (n:=15) (by kernel_rfl) (by show 15+(20*kid.sh.size+100)<=20*(kid.sh.size+1)+100; omega)) (hu:=by exact ble_le (n:=30) (by kernel_rfl) (by show 30+(40*kid.sh.size+200)<=40*(kid.sh.size+1)+200; omega)) ?_;intro b_2 _ _ _ N_2 _ _ _ C_2 tr_2 su_2 fs_2 pd_2 _;have U_2:=su_2 _ U_1;refine sg C_2 4000 o_told_fld_n_3 ?_;intro _;exact finishC tr_2 D' hR (DT.fld (N_2+27) (N_1+23) pl .n b_2) (l5 (N_2+27) (N_1+23) v_field pl (tyNo (Fld.ty .n)) (.str (Fld.name .n) 0) [.ref b_2.addr]) b_2.flat [27,23] (by kernel_rfl) (by kernel_rfl) rfl (by kernel_rfl) (by kernel_rfl) rfl ((su_2 [] Sup.nil).left) fs_2 rfl (by show (DT.fld (N_2+27) (N_1+23) pl .n b_2).sh=_; simp only [DT.sh,NT.sh]; rw [show b_2.sh=kid.sh from pd_2])
theorem told_fld_m {w:World} {b1 b2 b3:Bool} (hP:Rows w b1 b2 b3) (a:Nat->Nat) (A D K pl:Nat) (kid:NT) (K':ToldC w a kid):ToldC w a (.fld A D K pl .m kid):=by
  refine Ct.perm (perm_w (w_ty a) (r:=kid.flat a) (List.Perm.refl ([(A,instO 39 D),(D,nodD v_field pl (a 20) K (.ref (a 42))),(K,listO [.ref kid.addr])]++kid.flat a))) ?_;refine ct_start (tx:=tx0) (pre:=[]) (ro:=([(A,instO 39 D),(D,nodD v_field pl (a 20) K (.ref (a 42))),(K,listO [.ref kid.addr])]++w_ty a)) (sup:=kid.flat a) hP tx0_ok (Nat.le_add_left _ _) fun A' s R zs ta N C U D' hR=>?_;cases b2
  · refine sg C 4000 o_told_con_1 ?_;intro _;have K_1:=sN s R C trId [((N+21),listO (strsL [(⟨⟨[118,97,114]⟩⟩:Str),(⟨⟨[102,105,101,108,100]⟩⟩:Str)]))] (ct_listin [(⟨⟨[118,97,114]⟩⟩:Str),(⟨⟨[102,105,101,108,100]⟩⟩:Str)] (⟨⟨[102,105,101,108,100]⟩⟩:Str) (N+21)) [] [21];refine K_1 ?_;intro _ _ _ _ N_1 _ _ _ C_1 tr_1 su_1 _ _ _;have U_1:=su_1 _ U;refine sg C_1 4000 o_told_fld_m_2 ?_;intro _;have K_2:=sK s R C_1 tr_1 (w_ty a) (kid.flat a) (K') [] [3,4,5,6,7,8,9,10,11,12,13,14,15,16,17,18,19] U_1;refine K_2 (hd:=by exact ble_le (n:=15) (by kernel_rfl) (by show 15+(20*kid.sh.size+100)<=20*(kid.sh.size+1)+100; omega)) (hu:=by exact ble_le (n:=30) (by kernel_rfl) (by show 30+(40*kid.sh.size+200)<=40*(kid.sh.size+1)+200; omega)) ?_;intro b_2 _ _ _ N_2 _ _ _ C_2 tr_2 su_2 fs_2 pd_2 _;have U_2:=su_2 _ U_1;refine sg C_2 4000 o_told_fld_n_3 ?_;intro _;exact finishC tr_2 D' hR (DT.fld (N_2+27) (N_1+23) pl .m b_2) (l5 (N_2+27) (N_1+23) v_field pl (tyNo (Fld.ty .m)) (.str (Fld.name .m) 0) [.ref b_2.addr]) b_2.flat [27,23] (by kernel_rfl) (by kernel_rfl) rfl (by kernel_rfl) (by kernel_rfl) rfl ((su_2 [] Sup.nil).left) fs_2 rfl (by show (DT.fld (N_2+27) (N_1+23) pl .m b_2).sh=_; simp only [DT.sh,NT.sh]; rw [show b_2.sh=kid.sh from pd_2])
  · refine sg C 4000 o_told_con_1 ?_;intro _;have K_1:=sN s R C trId [((N+21),listO (strsL [(⟨⟨[118,97,114]⟩⟩:Str),(⟨⟨[102,105,101,108,100]⟩⟩:Str)]))] (ct_listin [(⟨⟨[118,97,114]⟩⟩:Str),(⟨⟨[102,105,101,108,100]⟩⟩:Str)] (⟨⟨[102,105,101,108,100]⟩⟩:Str) (N+21)) [] [21];refine K_1 ?_;intro _ _ _ _ N_1 _ _ _ C_1 tr_1 su_1 _ _ _;have U_1:=su_1 _ U;refine sg C_1 4000 o_toldt_fld_m_2 ?_;intro _;have K_2:=sK s R C_1 tr_1 (w_ty a) (kid.flat a) (K') [] [3,4,5,6,7,8,9,10,11,12,13,14,15,16,17,18,19] U_1;refine K_2 (hd:=by exact ble_le (n:=15) (by kernel_rfl) (by show 15+(20*kid.sh.size+100)<=20*(kid.sh.size+1)+100; omega)) (hu:=by exact ble_le (n:=30) (by kernel_rfl) (by show 30+(40*kid.sh.size+200)<=40*(kid.sh.size+1)+200; omega)) ?_;intro b_2 _ _ _ N_2 _ _ _ C_2 tr_2 su_2 fs_2 pd_2 _;have U_2:=su_2 _ U_1;refine sg C_2 4000 o_told_fld_n_3 ?_;intro _;exact finishC tr_2 D' hR (DT.fld (N_2+27) (N_1+23) pl .m b_2) (l5 (N_2+27) (N_1+23) v_field pl (tyNo (Fld.ty .m)) (.str (Fld.name .m) 0) [.ref b_2.addr]) b_2.flat [27,23] (by kernel_rfl) (by kernel_rfl) rfl (by kernel_rfl) (by kernel_rfl) rfl ((su_2 [] Sup.nil).left) fs_2 rfl (by show (DT.fld (N_2+27) (N_1+23) pl .m b_2).sh=_; simp only [DT.sh,NT.sh]; rw [show b_2.sh=kid.sh from pd_2])
theorem told_fld_q {w:World} {b1 b2 b3:Bool} (hP:Rows w b1 b2 b3) (a:Nat->Nat) (A D K pl:Nat) (kid:NT) (K':ToldC w a kid):ToldC w a (.fld A D K pl .q kid):=by
  refine Ct.perm (perm_w (w_ty a) (r:=kid.flat a) (List.Perm.refl ([(A,instO 39 D),(D,nodD v_field pl (a 35) K (.ref (a 44))),(K,listO [.ref kid.addr])]++kid.flat a))) ?_;refine ct_start (tx:=tx0) (pre:=[]) (ro:=([(A,instO 39 D),(D,nodD v_field pl (a 35) K (.ref (a 44))),(K,listO [.ref kid.addr])]++w_ty a)) (sup:=kid.flat a) hP tx0_ok (Nat.le_add_left _ _) fun A' s R zs ta N C U D' hR=>?_;cases b2
  · refine sg C 4000 o_told_con_1 ?_;intro _;have K_1:=sN s R C trId [((N+21),listO (strsL [(⟨⟨[118,97,114]⟩⟩:Str),(⟨⟨[102,105,101,108,100]⟩⟩:Str)]))] (ct_listin [(⟨⟨[118,97,114]⟩⟩:Str),(⟨⟨[102,105,101,108,100]⟩⟩:Str)] (⟨⟨[102,105,101,108,100]⟩⟩:Str) (N+21)) [] [21];refine K_1 ?_;intro _ _ _ _ N_1 _ _ _ C_1 tr_1 su_1 _ _ _;have U_1:=su_1 _ U;refine sg C_1 4000 o_told_fld_q_2 ?_;intro _;have K_2:=sK s R C_1 tr_1 (w_ty a) (kid.flat a) (K') [] [3,4,5,6,7,8,9,10,11,12,13,14,15,16,17,18,19] U_1;refine K_2 (hd:=by exact ble_le (n:=15) (by kernel_rfl) (by show 15+(20*kid.sh.size+100)<=20*(kid.sh.size+1)+100; omega)) (hu:=by exact ble_le (n:=30) (by kernel_rfl) (by show 30+(40*kid.sh.size+200)<=40*(kid.sh.size+1)+200; omega)) ?_;intro b_2 _ _ _ N_2 _ _ _ C_2 tr_2 su_2 fs_2 pd_2 _;have U_2:=su_2 _ U_1;refine sg C_2 4000 o_told_fld_n_3 ?_;intro _;exact finishC tr_2 D' hR (DT.fld (N_2+27) (N_1+23) pl .q b_2) (l5 (N_2+27) (N_1+23) v_field pl (tyNo (Fld.ty .q)) (.str (Fld.name .q) 0) [.ref b_2.addr]) b_2.flat [27,23] (by kernel_rfl) (by kernel_rfl) rfl (by kernel_rfl) (by kernel_rfl) rfl ((su_2 [] Sup.nil).left) fs_2 rfl (by show (DT.fld (N_2+27) (N_1+23) pl .q b_2).sh=_; simp only [DT.sh,NT.sh]; rw [show b_2.sh=kid.sh from pd_2])
  · refine sg C 4000 o_told_con_1 ?_;intro _;have K_1:=sN s R C trId [((N+21),listO (strsL [(⟨⟨[118,97,114]⟩⟩:Str),(⟨⟨[102,105,101,108,100]⟩⟩:Str)]))] (ct_listin [(⟨⟨[118,97,114]⟩⟩:Str),(⟨⟨[102,105,101,108,100]⟩⟩:Str)] (⟨⟨[102,105,101,108,100]⟩⟩:Str) (N+21)) [] [21];refine K_1 ?_;intro _ _ _ _ N_1 _ _ _ C_1 tr_1 su_1 _ _ _;have U_1:=su_1 _ U;refine sg C_1 4000 o_toldt_fld_q_2 ?_;intro _;have K_2:=sK s R C_1 tr_1 (w_ty a) (kid.flat a) (K') [] [3,4,5,6,7,8,9,10,11,12,13,14,15,16,17,18,19] U_1;refine K_2 (hd:=by exact ble_le (n:=15) (by kernel_rfl) (by show 15+(20*kid.sh.size+100)<=20*(kid.sh.size+1)+100; omega)) (hu:=by exact ble_le (n:=30) (by kernel_rfl) (by show 30+(40*kid.sh.size+200)<=40*(kid.sh.size+1)+200; omega)) ?_;intro b_2 _ _ _ N_2 _ _ _ C_2 tr_2 su_2 fs_2 pd_2 _;have U_2:=su_2 _ U_1;refine sg C_2 4000 o_told_fld_n_3 ?_;intro _;exact finishC tr_2 D' hR (DT.fld (N_2+27) (N_1+23) pl .q b_2) (l5 (N_2+27) (N_1+23) v_field pl (tyNo (Fld.ty .q)) (.str (Fld.name .q) 0) [.ref b_2.addr]) b_2.flat [27,23] (by kernel_rfl) (by kernel_rfl) rfl (by kernel_rfl) (by kernel_rfl) rfl ((su_2 [] Sup.nil).left) fs_2 rfl (by show (DT.fld (N_2+27) (N_1+23) pl .q b_2).sh=_; simp only [DT.sh,NT.sh]; rw [show b_2.sh=kid.sh from pd_2])
theorem told_drf {w:World} {b1 b2 b3:Bool} (hP:Rows w b1 b2 b3) (a:Nat->Nat) (A D K pl:Nat) (kid:NT) (K':ToldC w a kid):ToldC w a (.drf A D K pl kid):=by
  refine Ct.perm (perm_w (w_ty a) (r:=kid.flat a) (List.Perm.refl ([(A,instO 39 D),(D,nodD v_deref pl (a 30) K .none),(K,listO [.ref kid.addr])]++kid.flat a))) ?_;refine ct_start (tx:=tx0) (pre:=[]) (ro:=([(A,instO 39 D),(D,nodD v_deref pl (a 30) K .none),(K,listO [.ref kid.addr])]++w_ty a)) (sup:=kid.flat a) hP tx0_ok (Nat.le_add_left _ _) fun A' s R zs ta N C U D' hR=>?_;cases b2
  · refine sg C 4000 o_told_con_1 ?_;intro _;have K_1:=sN s R C trId [((N+21),listO (strsL [(⟨⟨[118,97,114]⟩⟩:Str),(⟨⟨[102,105,101,108,100]⟩⟩:Str)]))] (ct_listin [(⟨⟨[118,97,114]⟩⟩:Str),(⟨⟨[102,105,101,108,100]⟩⟩:Str)] (⟨⟨[100,101,114,101,102]⟩⟩:Str) (N+21)) [] [21];refine K_1 ?_;intro _ _ _ _ N_1 _ _ _ C_1 tr_1 su_1 _ _ _;have U_1:=su_1 _ U;refine sg C_1 4000 o_told_drf_2 ?_;intro _;have K_2:=sK s R C_1 tr_1 (w_ty a) (kid.flat a) (K') [] [3,4,5,6,7,8,9,10,11,12,13,14,15,16,17,18,19] U_1;refine K_2 (hd:=by exact ble_le (n:=15) (by kernel_rfl) (by show 15+(20*kid.sh.size+100)<=20*(kid.sh.size+1)+100; omega)) (hu:=by exact ble_le (n:=30) (by kernel_rfl) (by show 30+(40*kid.sh.size+200)<=40*(kid.sh.size+1)+200; omega)) ?_;intro b_2 _ _ _ N_2 _ _ _ C_2 tr_2 su_2 fs_2 pd_2 _;have U_2:=su_2 _ U_1;refine sg C_2 4000 o_told_fld_n_3 ?_;intro _;exact finishC tr_2 D' hR (DT.drf (N_2+27) (N_1+23) pl b_2) (l5 (N_2+27) (N_1+23) v_deref pl 8 .none [.ref b_2.addr]) b_2.flat [27,23] (by kernel_rfl) (by kernel_rfl) rfl (by kernel_rfl) (by kernel_rfl) rfl ((su_2 [] Sup.nil).left) fs_2 rfl (by show (DT.drf (N_2+27) (N_1+23) pl b_2).sh=_; simp only [DT.sh,NT.sh]; rw [show b_2.sh=kid.sh from pd_2])
  · refine sg C 4000 o_told_con_1 ?_;intro _;have K_1:=sN s R C trId [((N+21),listO (strsL [(⟨⟨[118,97,114]⟩⟩:Str),(⟨⟨[102,105,101,108,100]⟩⟩:Str)]))] (ct_listin [(⟨⟨[118,97,114]⟩⟩:Str),(⟨⟨[102,105,101,108,100]⟩⟩:Str)] (⟨⟨[100,101,114,101,102]⟩⟩:Str) (N+21)) [] [21];refine K_1 ?_;intro _ _ _ _ N_1 _ _ _ C_1 tr_1 su_1 _ _ _;have U_1:=su_1 _ U;refine sg C_1 4000 o_toldt_drf_2 ?_;intro _;have K_2:=sK s R C_1 tr_1 (w_ty a) (kid.flat a) (K') [] [3,4,5,6,7,8,9,10,11,12,13,14,15,16,17,18,19] U_1;refine K_2 (hd:=by exact ble_le (n:=15) (by kernel_rfl) (by show 15+(20*kid.sh.size+100)<=20*(kid.sh.size+1)+100; omega)) (hu:=by exact ble_le (n:=30) (by kernel_rfl) (by show 30+(40*kid.sh.size+200)<=40*(kid.sh.size+1)+200; omega)) ?_;intro b_2 _ _ _ N_2 _ _ _ C_2 tr_2 su_2 fs_2 pd_2 _;have U_2:=su_2 _ U_1;refine sg C_2 4000 o_told_fld_n_3 ?_;intro _;exact finishC tr_2 D' hR (DT.drf (N_2+27) (N_1+23) pl b_2) (l5 (N_2+27) (N_1+23) v_deref pl 8 .none [.ref b_2.addr]) b_2.flat [27,23] (by kernel_rfl) (by kernel_rfl) rfl (by kernel_rfl) (by kernel_rfl) rfl ((su_2 [] Sup.nil).left) fs_2 rfl (by show (DT.drf (N_2+27) (N_1+23) pl b_2).sh=_; simp only [DT.sh,NT.sh]; rw [show b_2.sh=kid.sh from pd_2])
theorem told_grd {w:World} {b1 b2 b3:Bool} (hP:Rows w b1 b2 b3) (a:Nat->Nat) (A D K pl:Nat) (kid:NT) (K':ToldC w a kid):ToldC w a (.grd A D K pl kid):=by
  refine Ct.perm (perm_w (w_ty a) (r:=kid.flat a) (List.Perm.refl ([(A,instO 39 D),(D,nodD v_guard pl (a 35) K (.ref (a 35))),(K,listO [.ref kid.addr])]++kid.flat a))) ?_;refine ct_start (tx:=tx0) (pre:=[]) (ro:=([(A,instO 39 D),(D,nodD v_guard pl (a 35) K (.ref (a 35))),(K,listO [.ref kid.addr])]++w_ty a)) (sup:=kid.flat a) hP tx0_ok (Nat.le_add_left _ _) fun A' s R zs ta N C U D' hR=>?_;cases b2
  · refine sg C 4000 o_told_con_1 ?_;intro _;have K_1:=sN s R C trId [((N+21),listO (strsL [(⟨⟨[118,97,114]⟩⟩:Str),(⟨⟨[102,105,101,108,100]⟩⟩:Str)]))] (ct_listin [(⟨⟨[118,97,114]⟩⟩:Str),(⟨⟨[102,105,101,108,100]⟩⟩:Str)] (⟨⟨[103,117,97,114,100]⟩⟩:Str) (N+21)) [] [21];refine K_1 ?_;intro _ _ _ _ N_1 _ _ _ C_1 tr_1 su_1 _ _ _;have U_1:=su_1 _ U;refine sg C_1 4000 o_told_grd_2 ?_;intro _;have K_2:=sK s R C_1 tr_1 (w_ty a) (kid.flat a) (K') [] [3,4,5,6,7,8,9,10,11,12,13,14,15,16,17,18,19] U_1;refine K_2 (hd:=by exact ble_le (n:=15) (by kernel_rfl) (by show 15+(20*kid.sh.size+100)<=20*(kid.sh.size+1)+100; omega)) (hu:=by exact ble_le (n:=30) (by kernel_rfl) (by show 30+(40*kid.sh.size+200)<=40*(kid.sh.size+1)+200; omega)) ?_;intro b_2 _ _ _ N_2 _ _ _ C_2 tr_2 su_2 fs_2 pd_2 _;have U_2:=su_2 _ U_1;refine sg C_2 4000 o_told_fld_n_3 ?_;intro _;exact finishC tr_2 D' hR (DT.grd (N_2+27) (N_1+23) pl b_2) (l5 (N_2+27) (N_1+23) v_guard pl 9 (.int 9 0) [.ref b_2.addr]) b_2.flat [27,23] (by kernel_rfl) (by kernel_rfl) rfl (by kernel_rfl) (by kernel_rfl) rfl ((su_2 [] Sup.nil).left) fs_2 rfl (by show (DT.grd (N_2+27) (N_1+23) pl b_2).sh=_; simp only [DT.sh,NT.sh]; rw [show b_2.sh=kid.sh from pd_2])
  · refine sg C 4000 o_told_con_1 ?_;intro _;have K_1:=sN s R C trId [((N+21),listO (strsL [(⟨⟨[118,97,114]⟩⟩:Str),(⟨⟨[102,105,101,108,100]⟩⟩:Str)]))] (ct_listin [(⟨⟨[118,97,114]⟩⟩:Str),(⟨⟨[102,105,101,108,100]⟩⟩:Str)] (⟨⟨[103,117,97,114,100]⟩⟩:Str) (N+21)) [] [21];refine K_1 ?_;intro _ _ _ _ N_1 _ _ _ C_1 tr_1 su_1 _ _ _;have U_1:=su_1 _ U;refine sg C_1 4000 o_toldt_grd_2 ?_;intro _;have K_2:=sK s R C_1 tr_1 (w_ty a) (kid.flat a) (K') [] [3,4,5,6,7,8,9,10,11,12,13,14,15,16,17,18,19] U_1;refine K_2 (hd:=by exact ble_le (n:=15) (by kernel_rfl) (by show 15+(20*kid.sh.size+100)<=20*(kid.sh.size+1)+100; omega)) (hu:=by exact ble_le (n:=30) (by kernel_rfl) (by show 30+(40*kid.sh.size+200)<=40*(kid.sh.size+1)+200; omega)) ?_;intro b_2 _ _ _ N_2 _ _ _ C_2 tr_2 su_2 fs_2 pd_2 _;have U_2:=su_2 _ U_1;refine sg C_2 4000 o_told_fld_n_3 ?_;intro _;exact finishC tr_2 D' hR (DT.grd (N_2+27) (N_1+23) pl b_2) (l5 (N_2+27) (N_1+23) v_guard pl 9 (.int 9 0) [.ref b_2.addr]) b_2.flat [27,23] (by kernel_rfl) (by kernel_rfl) rfl (by kernel_rfl) (by kernel_rfl) rfl ((su_2 [] Sup.nil).left) fs_2 rfl (by show (DT.grd (N_2+27) (N_1+23) pl b_2).sh=_; simp only [DT.sh,NT.sh]; rw [show b_2.sh=kid.sh from pd_2])
theorem told_idx_th {w:World} {b1 b2 b3:Bool} (hP:Rows w b1 b2 b3) (a:Nat->Nat) (A D K pl v CA CD CK cpl:Nat) (kid:NT) (K':ToldC w a kid) (KC:ConC w a CA CD CK cpl v):ToldC w a (.idx A D K pl true v CA CD CK cpl kid):=by
  refine Ct.perm (perm_w (w_ty a) (r:=kid.flat a) (List.Perm.refl ([(A,instO 39 D),(D,nodD v_index pl (a 25) K .none),(K,listO [.ref kid.addr,.ref CA]),(CA,instO 39 CD),(CD,nodD v_const cpl (a 15) CK (.int (Int.ofNat v) 0)),(CK,listO [])]++kid.flat a))) ?_;refine ct_start (tx:=tx0) (pre:=[]) (ro:=([(A,instO 39 D),(D,nodD v_index pl (a 25) K .none),(K,listO [.ref kid.addr,.ref CA]),(CA,instO 39 CD),(CD,nodD v_const cpl (a 15) CK (.int (Int.ofNat v) 0)),(CK,listO [])]++w_ty a)) (sup:=kid.flat a) hP tx0_ok (Nat.le_add_left _ _) fun A' s R zs ta N C U D' hR=>?_;cases b2
  · refine sg C 4000 o_told_idx_th_1 ?_;intro _;have K_1:=sN s R C trId [((N+24),listO (strsL [(⟨⟨[118,97,114]⟩⟩:Str),(⟨⟨[102,105,101,108,100]⟩⟩:Str)]))] (ct_listin [(⟨⟨[118,97,114]⟩⟩:Str),(⟨⟨[102,105,101,108,100]⟩⟩:Str)] (⟨⟨[105,110,100,101,120]⟩⟩:Str) (N+24)) [] [24];refine K_1 ?_;intro _ _ _ _ N_1 _ _ _ C_1 tr_1 su_1 _ _ _;have U_1:=su_1 _ U;refine sg C_1 4000 o_told_idx_th_2 ?_;intro _;have K_2:=sK s R C_1 tr_1 (w_ty a) (kid.flat a) (K') [] [6,7,8,9,10,11,12,13,14,15,16,17,18,19,20,21,22] U_1;refine K_2 (hd:=by exact ble_le (n:=15) (by kernel_rfl) (by show 15+(20*kid.sh.size+100)<=20*(kid.sh.size+1)+100; omega)) (hu:=by exact ble_le (n:=30) (by kernel_rfl) (by show 30+(40*kid.sh.size+200)<=40*(kid.sh.size+1)+200; omega)) ?_;intro b_2 _ _ _ _ _ _ _ C_2 tr_2 su_2 fs_2 pd_2 _;have U_2:=su_2 _ U_1;refine sg C_2 4000 o_told_idx_th_3 ?_;intro _;have K_3:=sN s R C_2 tr_2 (w_ty a++conL a CA CD CK cpl v) (KC) [] [6,7,8,9,10,11,12,13,14,15,16,17,18,19,20,21,22,3,4,5];refine K_3 ?_;intro b_3 _ _ _ N_3 _ _ _ C_3 tr_3 su_3 _ _ _;have U_3:=su_3 _ U_2;refine sg C_3 4000 o_told_idx_th_4 ?_;intro _;exact finishC tr_3 D' hR (DT.idx (N_3+32) (N_1+26) pl true v b_3.1 b_3.2 cpl b_2) (l5 (N_3+32) (N_1+26) v_index pl (tyNo (match true with | true=>Ty.pa | false=>Ty.it)) .none [.ref b_2.addr,.ref b_3.1]++l5 b_3.1 b_3.2 v_const cpl 4 (.int (Int.ofNat v) 0) []) b_2.flat [32,26,28,29] (by kernel_rfl) (by kernel_rfl) rfl (by kernel_rfl) (by kernel_rfl) rfl (su_3 _ (su_2 [] Sup.nil).left) fs_2 rfl (by show (DT.idx (N_3+32) (N_1+26) pl true v b_3.1 b_3.2 cpl b_2).sh=_; simp only [DT.sh,NT.sh]; rw [show b_2.sh=kid.sh from pd_2])
  · refine sg C 4000 o_told_idx_th_1 ?_;intro _;have K_1:=sN s R C trId [((N+24),listO (strsL [(⟨⟨[118,97,114]⟩⟩:Str),(⟨⟨[102,105,101,108,100]⟩⟩:Str)]))] (ct_listin [(⟨⟨[118,97,114]⟩⟩:Str),(⟨⟨[102,105,101,108,100]⟩⟩:Str)] (⟨⟨[105,110,100,101,120]⟩⟩:Str) (N+24)) [] [24];refine K_1 ?_;intro _ _ _ _ N_1 _ _ _ C_1 tr_1 su_1 _ _ _;have U_1:=su_1 _ U;refine sg C_1 4000 o_toldt_idx_th_2 ?_;intro _;have K_2:=sK s R C_1 tr_1 (w_ty a) (kid.flat a) (K') [] [6,7,8,9,10,11,12,13,14,15,16,17,18,19,20,21,22] U_1;refine K_2 (hd:=by exact ble_le (n:=15) (by kernel_rfl) (by show 15+(20*kid.sh.size+100)<=20*(kid.sh.size+1)+100; omega)) (hu:=by exact ble_le (n:=30) (by kernel_rfl) (by show 30+(40*kid.sh.size+200)<=40*(kid.sh.size+1)+200; omega)) ?_;intro b_2 _ _ _ _ _ _ _ C_2 tr_2 su_2 fs_2 pd_2 _;have U_2:=su_2 _ U_1;refine sg C_2 4000 o_told_idx_th_3 ?_;intro _;have K_3:=sN s R C_2 tr_2 (w_ty a++conL a CA CD CK cpl v) (KC) [] [6,7,8,9,10,11,12,13,14,15,16,17,18,19,20,21,22,3,4,5];refine K_3 ?_;intro b_3 _ _ _ N_3 _ _ _ C_3 tr_3 su_3 _ _ _;have U_3:=su_3 _ U_2;refine sg C_3 4000 o_told_idx_th_4 ?_;intro _;exact finishC tr_3 D' hR (DT.idx (N_3+32) (N_1+26) pl true v b_3.1 b_3.2 cpl b_2) (l5 (N_3+32) (N_1+26) v_index pl (tyNo (match true with | true=>Ty.pa | false=>Ty.it)) .none [.ref b_2.addr,.ref b_3.1]++l5 b_3.1 b_3.2 v_const cpl 4 (.int (Int.ofNat v) 0) []) b_2.flat [32,26,28,29] (by kernel_rfl) (by kernel_rfl) rfl (by kernel_rfl) (by kernel_rfl) rfl (su_3 _ (su_2 [] Sup.nil).left) fs_2 rfl (by show (DT.idx (N_3+32) (N_1+26) pl true v b_3.1 b_3.2 cpl b_2).sh=_; simp only [DT.sh,NT.sh]; rw [show b_2.sh=kid.sh from pd_2])
theorem told_idx_pa {w:World} {b1 b2 b3:Bool} (hP:Rows w b1 b2 b3) (a:Nat->Nat) (A D K pl v CA CD CK cpl:Nat) (kid:NT) (K':ToldC w a kid) (KC:ConC w a CA CD CK cpl v):ToldC w a (.idx A D K pl false v CA CD CK cpl kid):=by
  refine Ct.perm (perm_w (w_ty a) (r:=kid.flat a) (List.Perm.refl ([(A,instO 39 D),(D,nodD v_index pl (a 15) K .none),(K,listO [.ref kid.addr,.ref CA]),(CA,instO 39 CD),(CD,nodD v_const cpl (a 15) CK (.int (Int.ofNat v) 0)),(CK,listO [])]++kid.flat a))) ?_;refine ct_start (tx:=tx0) (pre:=[]) (ro:=([(A,instO 39 D),(D,nodD v_index pl (a 15) K .none),(K,listO [.ref kid.addr,.ref CA]),(CA,instO 39 CD),(CD,nodD v_const cpl (a 15) CK (.int (Int.ofNat v) 0)),(CK,listO [])]++w_ty a)) (sup:=kid.flat a) hP tx0_ok (Nat.le_add_left _ _) fun A' s R zs ta N C U D' hR=>?_;cases b2
  · refine sg C 4000 o_told_idx_th_1 ?_;intro _;have K_1:=sN s R C trId [((N+24),listO (strsL [(⟨⟨[118,97,114]⟩⟩:Str),(⟨⟨[102,105,101,108,100]⟩⟩:Str)]))] (ct_listin [(⟨⟨[118,97,114]⟩⟩:Str),(⟨⟨[102,105,101,108,100]⟩⟩:Str)] (⟨⟨[105,110,100,101,120]⟩⟩:Str) (N+24)) [] [24];refine K_1 ?_;intro _ _ _ _ N_1 _ _ _ C_1 tr_1 su_1 _ _ _;have U_1:=su_1 _ U;refine sg C_1 4000 o_told_idx_pa_2 ?_;intro _;have K_2:=sK s R C_1 tr_1 (w_ty a) (kid.flat a) (K') [] [6,7,8,9,10,11,12,13,14,15,16,17,18,19,20,21,22] U_1;refine K_2 (hd:=by exact ble_le (n:=15) (by kernel_rfl) (by show 15+(20*kid.sh.size+100)<=20*(kid.sh.size+1)+100; omega)) (hu:=by exact ble_le (n:=30) (by kernel_rfl) (by show 30+(40*kid.sh.size+200)<=40*(kid.sh.size+1)+200; omega)) ?_;intro b_2 _ _ _ _ _ _ _ C_2 tr_2 su_2 fs_2 pd_2 _;have U_2:=su_2 _ U_1;refine sg C_2 4000 o_told_idx_th_3 ?_;intro _;have K_3:=sN s R C_2 tr_2 (w_ty a++conL a CA CD CK cpl v) (KC) [] [6,7,8,9,10,11,12,13,14,15,16,17,18,19,20,21,22,3,4,5];refine K_3 ?_;intro b_3 _ _ _ N_3 _ _ _ C_3 tr_3 su_3 _ _ _;have U_3:=su_3 _ U_2;refine sg C_3 4000 o_told_idx_th_4 ?_;intro _;exact finishC tr_3 D' hR (DT.idx (N_3+32) (N_1+26) pl false v b_3.1 b_3.2 cpl b_2) (l5 (N_3+32) (N_1+26) v_index pl (tyNo (match false with | true=>Ty.pa | false=>Ty.it)) .none [.ref b_2.addr,.ref b_3.1]++l5 b_3.1 b_3.2 v_const cpl 4 (.int (Int.ofNat v) 0) []) b_2.flat [32,26,28,29] (by kernel_rfl) (by kernel_rfl) rfl (by kernel_rfl) (by kernel_rfl) rfl (su_3 _ (su_2 [] Sup.nil).left) fs_2 rfl (by show (DT.idx (N_3+32) (N_1+26) pl false v b_3.1 b_3.2 cpl b_2).sh=_; simp only [DT.sh,NT.sh]; rw [show b_2.sh=kid.sh from pd_2])
  · refine sg C 4000 o_told_idx_th_1 ?_;intro _;have K_1:=sN s R C trId [((N+24),listO (strsL [(⟨⟨[118,97,114]⟩⟩:Str),(⟨⟨[102,105,101,108,100]⟩⟩:Str)]))] (ct_listin [(⟨⟨[118,97,114]⟩⟩:Str),(⟨⟨[102,105,101,108,100]⟩⟩:Str)] (⟨⟨[105,110,100,101,120]⟩⟩:Str) (N+24)) [] [24];refine K_1 ?_;intro _ _ _ _ N_1 _ _ _ C_1 tr_1 su_1 _ _ _;have U_1:=su_1 _ U;refine sg C_1 4000 o_toldt_idx_pa_2 ?_;intro _;have K_2:=sK s R C_1 tr_1 (w_ty a) (kid.flat a) (K') [] [6,7,8,9,10,11,12,13,14,15,16,17,18,19,20,21,22] U_1;refine K_2 (hd:=by exact ble_le (n:=15) (by kernel_rfl) (by show 15+(20*kid.sh.size+100)<=20*(kid.sh.size+1)+100; omega)) (hu:=by exact ble_le (n:=30) (by kernel_rfl) (by show 30+(40*kid.sh.size+200)<=40*(kid.sh.size+1)+200; omega)) ?_;intro b_2 _ _ _ _ _ _ _ C_2 tr_2 su_2 fs_2 pd_2 _;have U_2:=su_2 _ U_1;refine sg C_2 4000 o_told_idx_th_3 ?_;intro _;have K_3:=sN s R C_2 tr_2 (w_ty a++conL a CA CD CK cpl v) (KC) [] [6,7,8,9,10,11,12,13,14,15,16,17,18,19,20,21,22,3,4,5];refine K_3 ?_;intro b_3 _ _ _ N_3 _ _ _ C_3 tr_3 su_3 _ _ _;have U_3:=su_3 _ U_2;refine sg C_3 4000 o_told_idx_th_4 ?_;intro _;exact finishC tr_3 D' hR (DT.idx (N_3+32) (N_1+26) pl false v b_3.1 b_3.2 cpl b_2) (l5 (N_3+32) (N_1+26) v_index pl (tyNo (match false with | true=>Ty.pa | false=>Ty.it)) .none [.ref b_2.addr,.ref b_3.1]++l5 b_3.1 b_3.2 v_const cpl 4 (.int (Int.ofNat v) 0) []) b_2.flat [32,26,28,29] (by kernel_rfl) (by kernel_rfl) rfl (by kernel_rfl) (by kernel_rfl) rfl (su_3 _ (su_2 [] Sup.nil).left) fs_2 rfl (by show (DT.idx (N_3+32) (N_1+26) pl false v b_3.1 b_3.2 cpl b_2).sh=_; simp only [DT.sh,NT.sh]; rw [show b_2.sh=kid.sh from pd_2])
theorem told_all {w:World} {b1 b2 b3:Bool} (hP:Rows w b1 b2 b3) (a:Nat->Nat):∀ t:NT,ToldC w a t
  | .var A D K false vo vod=>told_var_rc hP a A D K vo vod
  | .var A D K true vo vod=>told_var_pt hP a A D K vo vod
  | .fld A D K pl .n kid=>told_fld_n hP a A D K pl kid (told_all hP a kid)
  | .fld A D K pl .m kid=>told_fld_m hP a A D K pl kid (told_all hP a kid)
  | .fld A D K pl .q kid=>told_fld_q hP a A D K pl kid (told_all hP a kid)
  | .drf A D K pl kid=>told_drf hP a A D K pl kid (told_all hP a kid)
  | .grd A D K pl kid=>told_grd hP a A D K pl kid (told_all hP a kid)
  | .idx A D K pl true v CA CD CK cpl kid=>told_idx_th hP a A D K pl v CA CD CK cpl kid (told_all hP a kid) (told_con hP a CA CD CK cpl v)
  | .idx A D K pl false v CA CD CK cpl kid=>told_idx_pa hP a A D K pl v CA CD CK cpl kid (told_all hP a kid) (told_con hP a CA CD CK cpl v)
noncomputable def erV:List (Str×Value)->Prop
  | []=>True
  | p::l=>er p.2=p.2∧erV l
theorem er_dict:∀ {l:List (Str×Value)},erV l->erE (dE l)=dE l
  | [],_=>rfl
  | p::l,h=>by
    show (⟨0,.str p.1 0,er p.2⟩:DictEntry)::erE (dE l)=⟨0,.str p.1 0,p.2⟩::dE l;rw [h.1,er_dict h.2]
theorem erV_app:∀ {l r:List (Str×Value)},erV l->erV r->erV (l++r)
  | [],_,_,h=>h
  | _::_,_,h,q=>⟨h.1,erV_app h.2 q⟩
theorem er_dictO {l:List (Str×Value)} (h:erV l):erO (dictO l)=dictO l:=congrArg (fun x=>Obj.mk (.type "dict") none (Data.dict ⟨x⟩ 0) #[]) (er_dict h)
theorem er_listO {l:List Value} (h:erL l=l):erO (listO l)=listO l:=congrArg (fun x=>Obj.mk (.type "list") none (Data.seq ⟨x⟩ 0) #[]) h
theorem look_obj {T:LT} {o:Obj} {a j:Nat} (z:Nz) (h:T.get j=some (a,unO z o)) (e:erO o=o):lookA T [j]=someA [(a,o)]:=by
  unfold lookA
  rw [h];show [some (a,erO (unO z o))]=_;rw [erO_un,e]; rfl
section
variable {w:World}
theorem ct_dictmiss (l:List (Str×Value)) (x:Str) (ad:Nat) (hv:hitV l x=none) (h661:661<=ad) :
    Ct w 0 0 (.call (.builtin "dict.__contains__") ⟨[.ref ad,.str x 0],[]⟩) [] [(ad,dictO l)] (β:=Unit) (fun _=>⟨.ret (.bool false),[],[],[]⟩) (fun _=>True):=by
  intro A s R c hb hc hp hn hR;obtain ⟨f,e⟩:=un_code c;rw [hc] at e;subst e;obtain ⟨o,es,ep,ho,hd,hx,hk,hh⟩:=has_dict hp.1;show codeAny (model pz w) A (.call (.builtin "dict.__contains__") ⟨[.ref ad,.str x (f 1)],[]⟩) R s;refine codeAny_call_builtin F.slot_dict_contains.plain F.entry_dict_contains (F.slot_dict_contains.check _ _ _ _ _ _ _ _ ⟨o,ho,hx.1⟩ (F.args_dict_contains_2 _ _) ?_);show wpAny _ _ (dictGet ad (.str x (f 1)) >>= _) _ _ s;refine wpAny_bind (get_str ho hd hk ?_);have q:=hh x;rw [hv] at q;cases hf:(es.find? fun e=>e.key.isStr x).map (·.val) with
  | some u=>rw [hf] at q; cases q
  | none =>
    show wpAny _ _ (Builtin.Dict.pendingKey? ad (.str x (f 1)) >>= _) _ _ _;refine wpAny_bind (wpAny_pendingKey_other ?_ (wpAny_pure ?_))
    · exact beq_eq_false_iff_ne.mpr fun q=>absurd h661 (by rw [show ad=sysModules from q]; decide)
    · exact hR () (.ret (.bool false)) _ rfl ⟨rfl,rfl,rfl,Nat.le_refl _,fun _ _ h _=>h⟩ trivial rfl trivial List.nodup_nil (fun _ h=>nomatch h) trivial
theorem idx_none {es:Array DictEntry} {x:Str} (h:(es.find? fun e=>e.key.isStr x).map (·.val)=none):es.findIdx? (fun e=>e.key.isStr x)=none:=by
  rw [Option.map_eq_none_iff] at h;rw [Array.findIdx?_eq_none_iff];intro e he;have:=Array.find?_eq_none.mp h e he
  simpa using this
theorem ct_dictset (l:List (Str×Value)) (x:Str) (v:Value) (ad:Nat) (hv:hitV l x=none) (hl:erV l) (hve:er v=v) (hn:l.length < 1000) (hvr:∀ t,un t v=v) :
    Ct w 0 0 (.call (.builtin "dict.__setitem__") ⟨[.ref ad,.str x 0,v],[]⟩) [(ad,dictO l)] [] (β:=Unit) (fun _=>⟨.ret .none,[dictO (l++[(x,v)])],[],[]⟩) (fun _=>True):=by
  intro A s R c hb hc hp hnd hR;obtain ⟨f,e⟩:=un_code c;rw [hc] at e;subst e;obtain ⟨h661,o,ho,q⟩:=hp.1;obtain ⟨z,rfl⟩:=un_nz _ _ q;have hx:(unO z (dictO l)).ExactDict:=⟨rfl,rfl,rfl⟩;have hk:((⟨unE z 0 (dE l)⟩:Array DictEntry).all fun e=>isExactStrKey e.key)=true:=by rw [<- Array.all_toList]; exact all_un z l 0
  have hh:((⟨unE z 0 (dE l)⟩:Array DictEntry).find? fun e=>e.key.isStr x).map (·.val)=none:=by
    have q:=hit_un z x l 0;rw [hv] at q;rw [<- Array.find?_toList];cases hf:(((unE z 0 (dE l)).find? fun e=>e.key.isStr x).map (·.val)) with
    | none=>rfl
    | some u=>rw [hf] at q; cases q
  have hv2:un (f 2) v=v:=hvr _;show codeAny (model pz w) A (.call (.builtin "dict.__setitem__") ⟨[.ref ad,.str x (f 1),un (f 2) v],[]⟩) R s;rw [hv2];have hT:s.TypeIs (.ref ad) "dict":=⟨_,ho,rfl⟩;refine codeAny_call_builtin F.slot_dict_setitem.plain F.entry_dict_setitem (F.slot_dict_setitem.check _ _ _ _ _ _ _ _ hT (F.args_dict_setitem_3 _ _ _) ?_);show wpAny _ _ (Builtin.Dict.notOrdered "__setitem__" ⟨[.ref ad,.str x (f 1),v],[]⟩ >>= _) _ _ s;refine wpAny_bind (wpAny_notOrdered_dict hT ?_);show wpAny _ _ (dictSet ad (.str x (f 1)) v >>= _) _ _ s;have hlen:∀ (l:List (Str×Value)) (i:Nat),(unE z i (dE l)).length=l.length:=by
    intro l
    induction l with
    | nil=>intro i; rfl
    | cons p l ih=>intro i; exact congrArg Nat.succ (ih (Nat.succ i))
  refine wpAny_bind ?_
  unfold dictSet
  try with_reducible refine wpAny_holding ?_
  refine wpAny_bind (wpAny_pyHash_str ?_)
  unfold dictSetHashed
  try with_reducible refine wpAny_holding ?_
  refine wpAny_bind (find_str (s:={ s with toks:=s.toks+1 }) ho (es:=⟨unE z 0 (dE l)⟩) rfl hk ?_);rw [idx_none hh];refine wpAny_bind (wpAny_rule ?_);have hz:(⟨unE z 0 (dE l)⟩:Array DictEntry).size<=sizeLine:=by
    show (unE z 0 (dE l)).length<=sizeLine;rw [hlen]; exact Nat.le_trans (Nat.le_of_lt hn) (by decide +kernel)
  refine wpAny_updateDictKeys (hz:=hz) (s:={ s with toks:=s.toks+1 }) ho (es:=⟨unE z 0 (dE l)⟩) rfl (wpAny_pure ?_);have hs:Heap.SameBut ad s.heap (s.heap.update ad (Obj.mapDictKeys (·.push ⟨hashStr w x,.str x (f 1),v⟩))):=Heap.SameBut.update ..;refine hR () (.ret .none) { s with heap:=s.heap.update ad (Obj.mapDictKeys (·.push ⟨hashStr w x,.str x (f 1),v⟩)),toks:=s.toks+1 } rfl ⟨rfl,rfl,rfl,Nat.le_of_eq hs.1.symm,fun b o hb' hm=>(hs.2 b fun q=>hm (by rw [q]; exact .head _)).trans hb'⟩ ?_ rfl trivial List.nodup_nil (fun _ h=>nomatch h) trivial;refine ⟨⟨h661,_,Heap.get?_update_self _ ho rfl,?_⟩,trivial⟩;have eapp:∀ (a b:List DictEntry),erE (a++b)=erE a++erE b:=by
    intro a b
    induction a with
    | nil=>rfl
    | cons e a ih=>show _::erE (a++b)=_::(erE a++erE b); rw [ih]
  have dapp:∀ (a b:List (Str×Value)),dE (a++b)=dE a++dE b:=by
    intro a b
    induction a with
    | nil=>rfl
    | cons e a ih=>show _::dE (a++b)=_::(dE a++dE b); rw [ih]
  have e1:erE ((⟨unE z 0 (dE l)⟩:Array DictEntry).push ⟨hashStr w x,.str x (f 1),v⟩).toList=dE (l++[(x,v)]):=by
    rw [Array.toList_push,eapp,erE_un,er_dict hl,dapp];show dE l++[⟨0,.str x 0,er v⟩]=dE l++[⟨0,.str x 0,v⟩];rw [hve]
  exact congrArg (fun y=>Obj.mk (.type "dict") none (Data.dict ⟨y⟩ 0) #[]) e1
theorem ct_append (l:List Value) (v ad:Nat) (hl:erL l=l) (hn:l.length < 1000) :
    Ct w 0 0 (.call (.builtin "list.append") ⟨[.ref ad,.ref v],[]⟩) [(ad,listO l)] [] (β:=Unit) (fun _=>⟨.ret .none,[listO (l++[.ref v])],[],[]⟩) (fun _=>True):=by
  intro A s R c hb hc hp hnd hR;obtain ⟨f,e⟩:=un_code c;rw [hc] at e;subst e;obtain ⟨h661,o,ho,q⟩:=hp.1;obtain ⟨z,rfl⟩:=un_nz _ _ q;show codeAny (model pz w) A (.call (.builtin "list.append") ⟨[.ref ad,.ref v],[]⟩) R s;have hlen:∀ (l:List Value) (i:Nat),(unL z.v i l).length=l.length:=by
    intro l
    induction l with
    | nil=>intro i; rfl
    | cons p l ih=>intro i; exact congrArg Nat.succ (ih (Nat.succ i))
  have hz:(⟨unL z.v 0 l⟩:Array Value).size<=sizeLine:=by
    show (unL z.v 0 l).length<=sizeLine;rw [hlen]; exact Nat.le_trans (Nat.le_of_lt hn) (by decide +kernel)
  refine codeAny_call_builtin F.slot_list_append.plain F.entry_list_append (F.slot_list_append.check _ _ _ _ _ _ _ _ ⟨_,ho,rfl⟩ (F.args_list_append_2 _ _) ?_);refine AutoListH.list_append_list_val_0 ad ⟨unL z.v 0 l⟩ z.n (.ref v) hz pz w A R s ⟨ho,?_⟩;have hs:Heap.SameBut ad s.heap (s.heap.update ad (Obj.mapSeq fun y=>y.push (.ref v))):=Heap.SameBut.update ..;refine hR () (.ret .none) { s with heap:=s.heap.update ad (Obj.mapSeq fun y=>y.push (.ref v)),toks:=s.toks } rfl ⟨rfl,rfl,rfl,Nat.le_of_eq hs.1.symm,fun b o hb' hm=>(hs.2 b fun q=>hm (by rw [q]; exact .head _)).trans hb'⟩ ?_ rfl trivial List.nodup_nil (fun _ h=>nomatch h) trivial;refine ⟨⟨h661,_,Heap.get?_update_self _ ho rfl,?_⟩,trivial⟩;have lapp:∀ (a b:List Value),erL (a++b)=erL a++erL b:=by
    intro a b
    induction a with
    | nil=>rfl
    | cons e a ih=>show _::erL (a++b)=_::(erL a++erL b); rw [ih]
  have e1:erL ((⟨unL z.v 0 l⟩:Array Value).push (.ref v)).toList=l++[.ref v]:=by
    rw [Array.toList_push,lapp,erL_un,hl]; rfl
  exact congrArg (fun y=>Obj.mk (.type "list") none (Data.seq ⟨y⟩ 0) #[]) e1
end
noncomputable def o_mkobj_1:List Nat:=[0,0,0,0,0,0,0,0,0,0,0,0,0,0,0,0,0,0,0,0,0,0,0,0,0,0,0,0,0,2,0,2,0,0,0,0,1,0,3,3,3,3,3,3,3,3,3,3,3,3,2,0,0,0,0,2,0,2,0,2,0,0,0,2,0,1,1,1,3,3,2,0,0,0,0,2,0,2,0,2,0,0,0,2,0,1,1,1,3,3,2,0,0,0,0,2,0,2,0,2,0,0,0,2,0,1,1,1,3,3,2,0,0,0,0,2,0,2,0,2,0,0,0,2,0,1,1,1,3,2,0,0,0,0,2,0,2,0,2,0,0,0,2,0,1,1,1,3,2,0,0,0,0,2,0,2,0,2,0,0,0,2,0,1,1,1,3,2,0,0,0,0,2,0,2,0,2,0,0,0,2,0,1,1,1,3,2,0,0,0,0,2,0,2,0,2,0,0,0,2,0,1,1,1,3,2,0,0,0,0,2,0,2,0,2,0,0,0,2,0,1,1,1,3,2,0,0,0,0,2,0,2,0,2,0,0,0,2,0,1,1,1,3,2,0,0,0,0,2,0,2,0,2,0,0,0,2,0,1,1,1,3,2,0,0,0,0,2,0,2,0,2,0,0,0,2,0,1,1,1,3,2,0,0,0,0,2,0,2,0,2,0,0,0,2,0,1,1,1,3,2,0,0,0,0,2,0,2,0,2,0,0,0,2,0,1,1,1]
noncomputable def o_mktype_1:List Nat:=[0,0,0,0,0,0,0,0,0,0,0,0,0,0,0,0,0,0,0,0,0,0,0,0,0,0,0,0,0,2,0,2,0,0,0,0,1,0,3,3,3,3,3,3,3,3,3,3,2,0,0,0,0,2,0,2,0,2,0,0,0,2,0,1,1,1,3,3,2,0,0,0,0,2,0,2,0,2,0,0,0,2,0,1,1,1,3,3,2,0,0,0,0,2,0,2,0,2,0,0,0,2,0,1,1,1,3,2,0,0,0,0,2,0,2,0,2,0,0,0,2,0,1,1,1,3,2,0,0,0,0,2,0,2,0,2,0,0,0,2,0,1,1,1,3,2,0,0,0,0,2,0,2,0,2,0,0,0,2,0,1,1,1,3,2,0,0,0,0,2,0,2,0,2,0,0,0,2,0,1,1,1,3,2,0,0,0,0,2,0,2,0,2,0,0,0,2,0,1,1,1,3,2,0,0,0,0,2,0,2,0,2,0,0,0,2,0,1,1,1,3,2,0,0,0,0,2,0,2,0,2,0,0,0,2,0,1,1,1,3,2,0,0,0,0,2,0,2,0,2,0,0,0,2,0,1,1,1,3,2,0,0,0,0,2,0,2,0,2,0,0,0,2,0,1,1,1]
noncomputable def o_mknode_1:List Nat:=[0,0,0,0,0,0,0,0,0,0,0,0,0,0,0,0,0,0,0,0,0,0,0,0,0,0,0,0,0,2,0,2,0,0,0,0,1,0,0,3,3,3,3,3,3,3,3,3,3,3,3,3,3,2,0,0,0,0,2,0,2,0,2,0,0,0,2,0,1,1,1,3,3,2,0,0,0,0,2,0,2,0,2,0,0,0,2,0,1,1,1,3,3,2,0,0,0,0,2,0,2,0,2,0,0,0,2,0,1,1,1,3,3,2,0,0,0,0,2,0,2,0,2,0,0,0,2,0,1,1,1,3,3,2,0,0,0,0,2,0,2,0,2,0,0,0,2,0,1,1,1,3,2,0,0,0,0,2,0,2,0,2,0,0,0,2,0,1,1,1]
theorem mk_obj {w:World} {b1 b2 b3:Bool} (hP:Rows w b1 b2 b3) (x k:Str) (t:Nat):Ct w 100 100 (.call (.ref 390) ⟨[.str x 0,.str k 0,.ref t,.int 0 0],[]⟩) [] [] (fun b:Nat×Nat=>⟨.ret (.ref b.1),[],[(b.1,instO 390 b.2),(b.2,objD x k t v_empty 0)],[]⟩) (fun _=>True):=by
  refine ct_start (tx:=tx0) (pre:=[]) (ro:=[]) (sup:=[]) hP tx0_ok (by decide) fun A' s R zs ta N C U D' hR=>?_;refine sg C 4000 o_mkobj_1 ?_;intro _;exact finishC (Pd:=fun _=>True) trId D' hR ((N+1),(N+0)) _ [] [1,0] (by kernel_rfl) (by kernel_rfl) rfl (by kernel_rfl) (by kernel_rfl) rfl Sup.nil (fun _ h=>nomatch h) rfl trivial
theorem mk_type {w:World} {b1 b2 b3:Bool} (hP:Rows w b1 b2 b3) (nb sz:Nat) (f:Str):Ct w 100 100 (.call (.ref 369) ⟨[.int (Int.ofNat nb) 0,.str f 0,.int (Int.ofNat sz) 0],[]⟩) [] [] (fun b:Nat×Nat×Nat×Nat×Nat=>⟨.ret (.ref b.1),[],[(b.1,instO 369 b.2.1),(b.2.1,typD nb f sz .none 0 b.2.2.1 b.2.2.2.1 b.2.2.2.2 v_empty v_empty),(b.2.2.1,listO [])],[]⟩) (fun _=>True):=by
  refine ct_start (tx:=tx0) (pre:=[]) (ro:=[]) (sup:=[]) hP tx0_ok (by decide) fun A' s R zs ta N C U D' hR=>?_;refine sg C 4000 o_mktype_1 ?_;intro _;exact finishC (Pd:=fun _=>True) trId D' hR ((N+1),(N+0),(N+3),(N+4),(N+5)) _ [] [1,0,3] (by kernel_rfl) (by kernel_rfl) rfl (by kernel_rfl) (by kernel_rfl) rfl Sup.nil (fun _ h=>nomatch h) rfl trivial
theorem mk_node {w:World} {b1 b2 b3:Bool} (hP:Rows w b1 b2 b3) (op:Str) (pl t ks v:Nat):Ct w 100 100 (.call (.ref 39) ⟨[.str op 0,.int (Int.ofNat pl) 0,.ref t,.ref ks,.ref v],[]⟩) [] [] (fun b:Nat×Nat=>⟨.ret (.ref b.1),[],[(b.1,instO 39 b.2),(b.2,nodD op pl t ks (.ref v))],[]⟩) (fun _=>True):=by
  refine ct_start (tx:=tx0) (pre:=[]) (ro:=[]) (sup:=[]) hP tx0_ok (by decide) fun A' s R zs ta N C U D' hR=>?_;refine sg C 4000 o_mknode_1 ?_;intro _;exact finishC (Pd:=fun _=>True) trId D' hR ((N+1),(N+0)) _ [] [1,0] (by kernel_rfl) (by kernel_rfl) rfl (by kernel_rfl) (by kernel_rfl) rfl Sup.nil (fun _ h=>nomatch h) rfl trivial
theorem erL_app:∀ {l r:List Value},erL l=l->erL r=r->erL (l++r)=l++r
  | [],_,_,h=>h
  | v::l,r,h,q=>by
    injection h with h1 h2
    show er v::erL (l++r)=v::(l++r);rw [h1,erL_app h2 q]
noncomputable def scopesO (a6 stk:Nat) (lv:Int):Obj:=dictO [(k_types,.ref a6),(k_module,.str v_empty 0),(k_stack,.ref stk),(k_level,.int lv 0)]
noncomputable def scopeO (lv:Int) (nm od:Nat):Obj:=dictO [(k_level,.int lv 0),(k_label,.str v_empty 0),(k_names,.ref nm),(k_order,.ref od),(k_slots,.int 0 0)]
noncomputable def insRo (a6 so sd stk g gd nm od:Nat):List (Nat×Obj):=[(so,instO 510 sd),(sd,scopesO a6 stk (-1)),(stk,listO [.ref g]),(g,instO 447 gd),(gd,scopeO (-1) nm od)]
noncomputable def v_std:Str:=⟨⟨[115,116,100]⟩⟩
noncomputable def InsC (w:World) (kind:Str) (x:Str) (t:Nat) (l:List (Str×Value)) (L:List Value) (a6 so sd stk g gd nm od:Nat):Prop:=Ct w 200 200 (.call (.ref 500) ⟨[.ref so,.str x 0,.str kind 0,.ref t,.int 0 0],[]⟩) [(nm,dictO l),(od,listO L)] (insRo a6 so sd stk g gd nm od)
  (fun b:Nat×Nat=>⟨.ret (.ref b.1),[dictO (l++[(x,.ref b.1)]),listO (L++[.ref b.1])],[(b.1,instO 390 b.2),(b.2,objD x kind t v_empty 0)],[]⟩) (fun _=>True)
noncomputable def o_ins_type_1:List Nat:=[1,0,8,8,8,8,8,8,8,8,8,8,0,8,8,8,8,0,0]
noncomputable def o_ins_type_2:List Nat:=[8,8,0,0,8,3,0,0,0,0,3,0,0,0,3,3,0,4,0,11,11,0,11,12,13,12,0,12,12,12,11,12,12,13,13,13,13,12,0,12,12,12,11,12,12,0,13,13,13,13,12,0,12,12,12,11,12,12,15,13,13,13,8,9,0,0,0,0,9,0,9,0,9,0,0,0,9,0,10,10,10,8,3,0,0,0,0,3,0,0,0,3,3,0,4,0,8,3,0,0,0,3,0,0,0,3,0,0,0,0,3,4,8,0,1,0,16,16,16,16,16,3,0,0,0,0,3,0,0,0,3,3,0,4,0,5,5,5,0,5,5,0,16,16,16,9,0,0,0,0,9,0,0,0,9,9,0,10,16,6,0,0,0,0,6,0,0,0,6,6,0,7,1,1]
noncomputable def o_ins_type_3:List Nat:=[16,16,6,0,0,0,0,6,0,0,0,6,6,0,7,16,9,0,0,0,0,9,0,0,0,9,9,0,10,1,1]
noncomputable def o_ins_type_4:List Nat:=[16,6,0,0,0,0,6,0,0,0,6,6,0,7,2,2,2,2,16]
noncomputable def o_ins_type_5:List Nat:=[16,9,0,0,0,0,9,0,0,0,9,9,0,10,0,16,9,0,0,0,0,9,0,0,0,9,9,0,10,0,8]
theorem ins_type {w:World} {b1 b2 b3:Bool} (hP:Rows w b1 b2 b3) (x:Str) (t:Nat) (l:List (Str×Value)) (L:List Value) (a6 so sd stk g gd nm od:Nat) (hv:hitV l x=none) (hl:erV l) (hn:l.length < 1000) (hL:erL L=L) (hn2:L.length < 1000):InsC w v_type x t l L a6 so sd stk g gd nm od:=by
  refine Ct.cast (List.append_nil _) ?_;refine ct_start (tx:=tx0) (pre:=[(nm,dictO l),(od,listO L)]) (ro:=insRo a6 so sd stk g gd nm od) (sup:=[]) hP tx0_ok (by decide) fun A' s R zs ta N C U D' hR=>?_;have h661:661<=nm:=(D'.own 0 nm (unO (zs 0) (dictO l)) (by kernel_rfl)).2.2.1;refine sg C 4000 o_ins_type_1 ?_;intro _;have K_1:=sN s R C trId [] (mk_obj hP x v_type t) [] [];refine K_1 ?_;intro b_1 _ _ _ _ _ _ _ C_1 tr_1 _ _ _ _;refine sg C_1 4000 o_ins_type_2 ?_;intro _;have K_2:=sN s R C_1 tr_1 [(nm,dictO l)] (ct_dictmiss l x nm hv h661) [] [0];refine K_2 (hl2:=by exact (look_obj (zs 0) (by kernel_rfl) (er_dictO hl))) ?_;intro _ _ _ _ _ _ _ _ C_2 tr_2 _ _ _ _;refine sg C_2 4000 o_ins_type_3 ?_;intro _;have K_3:=sN s R C_2 tr_2 [] (ct_dictset l x (.ref b_1.1) nm hv hl rfl hn (fun _=>rfl)) [0] [];refine K_3 (hl:=by exact (look_obj (zs 0) (by kernel_rfl) (er_dictO hl))) ?_;intro _ _ zu_3 _ _ _ _ _ C_3 tr_3 _ _ _ _;refine sg C_3 4000 o_ins_type_4 ?_;intro _;have K_4:=sN s R C_3 tr_3 [] (ct_append L b_1.1 od hL hn2) [1] [];refine K_4 (hl:=by exact (look_obj (zs 1) (by kernel_rfl) (er_listO hL))) ?_;intro _ _ zu_4 _ _ _ _ _ C_4 tr_4 _ _ _ _;refine sg C_4 4000 o_ins_type_5 ?_;intro _;exact finishC (Pd:=fun _=>True) tr_4 D' hR b_1 _ [] [8,9] (by kernel_rfl) (look_append (i:=[0]) (j:=[1]) (look_obj (zu_3 0) (by kernel_rfl) (er_dictO (l:=l++[(x,.ref b_1.1)]) (erV_app hl (show erV [(x,.ref b_1.1)] from ⟨rfl,trivial⟩)))) (look_obj (zu_4 0) (by kernel_rfl) (er_listO (l:=L++[.ref b_1.1]) (erL_app hL rfl)))) rfl (by kernel_rfl) (by kernel_rfl) rfl Sup.nil (fun _ h=>nomatch h) rfl trivial
theorem ins_const {w:World} {b1 b2 b3:Bool} (hP:Rows w b1 b2 b3) (x:Str) (t:Nat) (l:List (Str×Value)) (L:List Value) (a6 so sd stk g gd nm od:Nat) (hv:hitV l x=none) (hl:erV l) (hn:l.length < 1000) (hL:erL L=L) (hn2:L.length < 1000):InsC w v_const x t l L a6 so sd stk g gd nm od:=by
  refine Ct.cast (List.append_nil _) ?_;refine ct_start (tx:=tx0) (pre:=[(nm,dictO l),(od,listO L)]) (ro:=insRo a6 so sd stk g gd nm od) (sup:=[]) hP tx0_ok (by decide) fun A' s R zs ta N C U D' hR=>?_;have h661:661<=nm:=(D'.own 0 nm (unO (zs 0) (dictO l)) (by kernel_rfl)).2.2.1;refine sg C 4000 o_ins_type_1 ?_;intro _;have K_1:=sN s R C trId [] (mk_obj hP x v_const t) [] [];refine K_1 ?_;intro b_1 _ _ _ _ _ _ _ C_1 tr_1 _ _ _ _;refine sg C_1 4000 o_ins_type_2 ?_;intro _;have K_2:=sN s R C_1 tr_1 [(nm,dictO l)] (ct_dictmiss l x nm hv h661) [] [0];refine K_2 (hl2:=by exact (look_obj (zs 0) (by kernel_rfl) (er_dictO hl))) ?_;intro _ _ _ _ _ _ _ _ C_2 tr_2 _ _ _ _;refine sg C_2 4000 o_ins_type_3 ?_;intro _;have K_3:=sN s R C_2 tr_2 [] (ct_dictset l x (.ref b_1.1) nm hv hl rfl hn (fun _=>rfl)) [0] [];refine K_3 (hl:=by exact (look_obj (zs 0) (by kernel_rfl) (er_dictO hl))) ?_;intro _ _ zu_3 _ _ _ _ _ C_3 tr_3 _ _ _ _;refine sg C_3 4000 o_ins_type_4 ?_;intro _;have K_4:=sN s R C_3 tr_3 [] (ct_append L b_1.1 od hL hn2) [1] [];refine K_4 (hl:=by exact (look_obj (zs 1) (by kernel_rfl) (er_listO hL))) ?_;intro _ _ zu_4 _ _ _ _ _ C_4 tr_4 _ _ _ _;refine sg C_4 4000 o_ins_type_5 ?_;intro _;exact finishC (Pd:=fun _=>True) tr_4 D' hR b_1 _ [] [8,9] (by kernel_rfl) (look_append (i:=[0]) (j:=[1]) (look_obj (zu_3 0) (by kernel_rfl) (er_dictO (l:=l++[(x,.ref b_1.1)]) (erV_app hl (show erV [(x,.ref b_1.1)] from ⟨rfl,trivial⟩)))) (look_obj (zu_4 0) (by kernel_rfl) (er_listO (l:=L++[.ref b_1.1]) (erL_app hL rfl)))) rfl (by kernel_rfl) (by kernel_rfl) rfl Sup.nil (fun _ h=>nomatch h) rfl trivial
theorem ins_std {w:World} {b1 b2 b3:Bool} (hP:Rows w b1 b2 b3) (x:Str) (t:Nat) (l:List (Str×Value)) (L:List Value) (a6 so sd stk g gd nm od:Nat) (hv:hitV l x=none) (hl:erV l) (hn:l.length < 1000) (hL:erL L=L) (hn2:L.length < 1000):InsC w v_std x t l L a6 so sd stk g gd nm od:=by
  refine Ct.cast (List.append_nil _) ?_;refine ct_start (tx:=tx0) (pre:=[(nm,dictO l),(od,listO L)]) (ro:=insRo a6 so sd stk g gd nm od) (sup:=[]) hP tx0_ok (by decide) fun A' s R zs ta N C U D' hR=>?_;have h661:661<=nm:=(D'.own 0 nm (unO (zs 0) (dictO l)) (by kernel_rfl)).2.2.1;refine sg C 4000 o_ins_type_1 ?_;intro _;have K_1:=sN s R C trId [] (mk_obj hP x v_std t) [] [];refine K_1 ?_;intro b_1 _ _ _ _ _ _ _ C_1 tr_1 _ _ _ _;refine sg C_1 4000 o_ins_type_2 ?_;intro _;have K_2:=sN s R C_1 tr_1 [(nm,dictO l)] (ct_dictmiss l x nm hv h661) [] [0];refine K_2 (hl2:=by exact (look_obj (zs 0) (by kernel_rfl) (er_dictO hl))) ?_;intro _ _ _ _ _ _ _ _ C_2 tr_2 _ _ _ _;refine sg C_2 4000 o_ins_type_3 ?_;intro _;have K_3:=sN s R C_2 tr_2 [] (ct_dictset l x (.ref b_1.1) nm hv hl rfl hn (fun _=>rfl)) [0] [];refine K_3 (hl:=by exact (look_obj (zs 0) (by kernel_rfl) (er_dictO hl))) ?_;intro _ _ zu_3 _ _ _ _ _ C_3 tr_3 _ _ _ _;refine sg C_3 4000 o_ins_type_4 ?_;intro _;have K_4:=sN s R C_3 tr_3 [] (ct_append L b_1.1 od hL hn2) [1] [];refine K_4 (hl:=by exact (look_obj (zs 1) (by kernel_rfl) (er_listO hL))) ?_;intro _ _ zu_4 _ _ _ _ _ C_4 tr_4 _ _ _ _;refine sg C_4 4000 o_ins_type_5 ?_;intro _;exact finishC (Pd:=fun _=>True) tr_4 D' hR b_1 _ [] [8,9] (by kernel_rfl) (look_append (i:=[0]) (j:=[1]) (look_obj (zu_3 0) (by kernel_rfl) (er_dictO (l:=l++[(x,.ref b_1.1)]) (erV_app hl (show erV [(x,.ref b_1.1)] from ⟨rfl,trivial⟩)))) (look_obj (zu_4 0) (by kernel_rfl) (er_listO (l:=L++[.ref b_1.1]) (erL_app hL rfl)))) rfl (by kernel_rfl) (by kernel_rfl) rfl Sup.nil (fun _ h=>nomatch h) rfl trivial
noncomputable def refsL:List (Str×Nat)->List (Str×Value)
  | []=>[]
  | p::l=>(p.1,.ref p.2)::refsL l
noncomputable def refsV:List Nat->List Value
  | []=>[]
  | p::l=>.ref p::refsV l
theorem er_refsL:∀ l,erV (refsL l)
  | []=>trivial
  | p::l=>⟨rfl,er_refsL l⟩
theorem er_refsV:∀ l,erL (refsV l)=refsV l
  | []=>rfl
  | p::l=>congrArg (Value.ref p::·) (er_refsV l)
structure RB where
  r:Nat
  rd:Nat
  sc:Nat
  scd:Nat
  wa:Nat
  ta:Nat
  td:Nat
  so:Nat
  sod:Nat
  stk:Nat
  g:Nat
  p1:Nat
  p2:Nat
  p3:Nat
noncomputable def aR (a:Nat->Nat) (b:RB):Nat->Nat
  | 0=>b.sc
  | 1=>b.scd
  | 3=>b.wa
  | 4=>b.r
  | 5=>b.rd
  | 46=>b.so
  | 47=>b.sod
  | 48=>b.stk
  | 49=>b.g
  | 56=>b.p1
  | 57=>b.p2
  | 58=>b.p3
  | i=>a i
noncomputable def aT (x0 x1 x2 x3:Nat):Nat->Nat
  | 0=>x0
  | 1=>x1
  | 2=>x2
  | 3=>x3
  | _=>0
noncomputable def RdC (w:World) (a:Nat->Nat) (S:Str) (ss:List Sl):Prop:=Ct w 300 300 (.call (.ref 630) ⟨[.str S 0,.ref (a 6),.ref (a 2),.none],[]⟩) [] [(a 6,instO 426 (a 7)),(a 7,typesD a)]
  (fun b:RB=>⟨.ret (.ref b.r),[],[(b.r,instO 630 b.rd),(b.rd,rdD (aR a b) 0 b.ta),(b.sc,instO 348 b.scd),(b.scd,scD S (a 2) b.wa (0+adv ss)),(b.wa,wordsO),(b.ta,instO 200 b.td),(b.td,tokD (kindOf ss) (.str v_empty 0) (0+off ss)),(b.so,instO 510 b.sod),(b.sod,scopesO (a 6) b.stk (-1)),(b.stk,listO [.ref b.g])],[]⟩) (fun _=>True)
noncomputable def o_rd_1:List Nat:=[0,0,0,0,0,0,0,0,0,0,0,0,0,0,0,0,0,0,0,0,0,0,0,0,0,0,0,0,0,4,0,4,0,0,0,0,1,0,0,5,5,5,5,5,5,5,5,5,5,0,5,5,0,0,0,0,0,0,0,0,0,0,0,0,0,0,0,0,0,0,0,0,0,0,0,0,0,0,0,0,0,0,0,7,0,7,0,0,0,0,1,0,8,8,8,8,8,8,8,8,7,0,0,0,0,7,0,7,0,7,0,0,0,7,0,6,6,6,8,8,7,0,0,0,0,7,0,7,0,7,0,0,0,7,0,6,6,6,8,7,0,0,0,0,7,0,7,0,7,0,0,0,7,0,6,6,6,0,0,1,0,8,7,0,0,0,0,7,0,7,0,7,0,0,0,7,0,6,6,6,5,4,0,0,0,0,4,0,4,0,4,0,0,0,4,0,3,3,3,5,5,4,0,0,0,0,4,0,4,0,4,0,0,0,4,0,3,3,3,5,5,4,0,0,0,0,4,0,4,0,4,0,0,0,4,0,3,3,3,5,5,4,0,0,0,0,4,0,4,0,4,0,0,0,4,0,3,3,3,0,5,0,0,0,0,0,0,0,0,0,0,0,0,0,0,0,0,0,0,0,0,0,0,0,0,0,0,0,0,0,0,0,12,0,12,0,0,0,0,1,0,13,13,13,13,13,13,13,13,12,0,0,0,0,12,0,12,0,12,0,0,0,12,0,11,11,11,13,13,12,0,0,0,0,12,0,12,0,12,0,0,0,12,0,11,11,11,0,0,0,0,0,0,0,0,0,0,0,0,0,0,0,0,0,0,0,0,0,0,0,0,0,0,0,0,0,0,0,0,0,15,0,15,0,0,0,0,1,0,16,16,16,16,16,16,16,16,15,0,0,0,0,15,0,15,0,15,0,0,0,15,0,14,14,14,16,16,15,0,0,0,0,15,0,15,0,15,0,0,0,15,0,14,14,14,16,15,0,0,0,0,15,0,15,0,15,0,0,0,15,0,14,14,14,16,15,0,0,0,0,15,0,15,0,15,0,0,0,15,0,14,14,14,16,15,0,0,0,0,15,0,15,0,15,0,0,0,15,0,14,14,14,13,12,0,0,0,0,12,0,12,0,12,0,0,0,12,0,11,11,11,0,13,12,0,0,0,0,12,0,12,0,12,0,0,0,12,0,11,11,11,5,4,0,0,0,0,4,0,4,0,4,0,0,0,4,0,3,3,3,0,5,4,0,0,0,0,4,0,0,0,4,4,0,3,0,1,0,20,20,20,12,0,0,0,0,12,0,0,0,12,12,0,11,20,20,20,12,0,0,0,12,0,0,0,12,0,0,0,0,12,11,20,1,0,0,0,0,1,0,0,0,1,1,0,2,0]
noncomputable def o_rd_2:List Nat:=[0,20,12,0,0,0,12,0,0,0,12,0,0,0,0,12,11,20,1,0,0,0,0,1,0,0,0,1,1,0,2,0]
noncomputable def o_rd_7:List Nat:=[31,0,0,0,0,31,0,31,0,31,0,0,0,31,0,32,32,32,20,12,0,0,0,12,0,0,0,12,0,0,0,0,12,11,20,1,0,0,0,0,1,0,0,0,1,1,0,2,0]
noncomputable def o_rd_8:List Nat:=[33,0,0,0,0,33,0,33,0,33,0,0,0,33,0,34,34,34,0,0,1,0,0,0,1,0,36,38,36,0,36,38,36,38,39,39,0,39,40,0,40,0,40,40,40,39,40,40,20,20,20,20,12,0,0,0,12,0,0,0,12,0,0,0,0,12,11,20,20,1,0,0,0,0,1,0,0,0,1,1,0,2,0]
noncomputable def o_rd_9:List Nat:=[41,0,0,0,0,41,0,41,0,41,0,0,0,41,0,42,42,42,0,40,0,40,40,40,39,40,40,20,20,20,20,12,0,0,0,12,0,0,0,12,0,0,0,0,12,11,20,20,1,0,0,0,0,1,0,0,0,1,1,0,2,0]
noncomputable def o_rd_10:List Nat:=[43,0,0,0,0,43,0,43,0,43,0,0,0,43,0,44,44,44,0,40,0,40,40,40,39,40,40,20,20,20,20,12,0,0,0,12,0,0,0,12,0,0,0,0,12,11,20,20,1,0,0,0,0,1,0,0,0,1,1,0,2,0]
noncomputable def o_rd_11:List Nat:=[45,0,0,0,0,45,0,45,0,45,0,0,0,45,0,46,46,46,0,40,0,40,40,40,39,40,40,20,20,20,20,12,0,0,0,12,0,0,0,12,0,0,0,0,12,11,20,20,1,0,0,0,0,1,0,0,0,1,1,0,2,0]
noncomputable def o_rd_12:List Nat:=[47,0,0,0,0,47,0,47,0,47,0,0,0,47,0,48,48,48,0,40,0,40,40,40,39,40,40,20,20,20,20,12,0,0,0,12,0,0,0,12,0,0,0,0,12,11,20,20,1,0,0,0,0,1,0,0,0,1,1,0,2,0]
noncomputable def o_rd_13:List Nat:=[49,0,0,0,0,49,0,49,0,49,0,0,0,49,0,50,50,50,0,40,0,40,40,40,39,40,40,20,20,20,20,12,0,0,0,12,0,0,0,12,0,0,0,0,12,11,20,20,1,0,0,0,0,1,0,0,0,1,1,0,2,0]
noncomputable def o_rd_14:List Nat:=[51,0,0,0,0,51,0,51,0,51,0,0,0,51,0,52,52,52,0,40,0,40,40,40,39,40,40,20,20,20,20,12,0,0,0,12,0,0,0,12,0,0,0,0,12,11,20,20,1,0,0,0,0,1,0,0,0,1,1,0,2,0]
noncomputable def o_rd_15:List Nat:=[53,0,0,0,0,53,0,53,0,53,0,0,0,53,0,54,54,54,0,40,0,40,40,40,39,40,40,20,20,20,20,12,0,0,0,12,0,0,0,12,0,0,0,0,12,11,20,20,1,0,0,0,0,1,0,0,0,1,1,0,2,0]
noncomputable def o_rd_16:List Nat:=[55,0,0,0,0,55,0,55,0,55,0,0,0,55,0,56,56,56,0,40,0,40,40,40,39,40,40,20,20,20,20,12,0,0,0,12,0,0,0,12,0,0,0,0,12,11,20,20,1,0,0,0,0,1,0,0,0,1,1,0,2,0]
noncomputable def o_rd_17:List Nat:=[57,0,0,0,0,57,0,57,0,57,0,0,0,57,0,58,58,58,0,40,0,40,40,40,39,40,40,20,20,20,20,12,0,0,0,12,0,0,0,12,0,0,0,0,12,11,20,20,1,0,0,0,0,1,0,0,0,1,1,0,2,0]
noncomputable def o_rd_18:List Nat:=[59,0,0,0,0,59,0,59,0,59,0,0,0,59,0,60,60,60,0,40,0,40,40,40,39,40,40,20,20,20,20,12,0,0,0,12,0,0,0,12,0,0,0,0,12,11,20,20,1,0,0,0,0,1,0,0,0,1,1,0,2,0]
noncomputable def o_rd_19:List Nat:=[61,0,0,0,0,61,0,61,0,61,0,0,0,61,0,62,62,62,0,40,0,40,40,40,39,40,40,20,20,20,20,12,0,0,0,12,0,0,0,12,0,0,0,0,12,11,20,20,1,0,0,0,0,1,0,0,0,1,1,0,2,0]
noncomputable def o_rd_20:List Nat:=[63,0,0,0,0,63,0,63,0,63,0,0,0,63,0,64,64,64,0,40,0,40,40,40,39,40,40,20,20,20,20,12,0,0,0,12,0,0,0,12,0,0,0,0,12,11,20,20,1,0,0,0,0,1,0,0,0,1,1,0,2,0]
noncomputable def o_rd_21:List Nat:=[65,0,0,0,0,65,0,65,0,65,0,0,0,65,0,66,66,66,0,40,0,40,40,40,39,40,40,20,20,20,20,12,0,0,0,12,0,0,0,12,0,0,0,0,12,11,20,20,1,0,0,0,0,1,0,0,0,1,1,0,2,0]
noncomputable def o_rd_22:List Nat:=[67,0,0,0,0,67,0,67,0,67,0,0,0,67,0,68,68,68,0,40,0,40,40,40,39,40,40,70,5,4,0,0,0,0,4,0,4,0,4,0,0,0,4,0,3,3,3,5,4,0,0,0,0,4,0,4,0,4,0,0,0,4,0,3,3,3,5,4,0,0,0,0,4,0,4,0,4,0,0,0,4,0,3,3,3,5,4,0,0,0,0,4,0,4,0,4,0,0,0,4,0,3,3,3,5,4,0,0,0,0,4,0,4,0,4,0,0,0,4,0,3,3,3,5,4,0,0,0,0,4,0,4,0,4,0,0,0,4,0,3,3,3,5,4,0,0,0,0,4,0,4,0,4,0,0,0,4,0,3,3,3,5,4,0,0,0,0,4,0,0,0,4,4,0,3,7,0,0,0,7,0,0,0,7,0,0,0,0,7,6,0]
noncomputable def o_rd_23:List Nat:=[5,4,0,0,0,0,4,0,4,0,4,0,0,0,4,0,3,3,3]
theorem rd_new {w:World} {b1 b2 b3:Bool} (hP:Rows w b1 b2 b3) (a:Nat->Nat) (S:Str) (ss:List Sl) (hA:At S 0 (txts ss++tailT)):RdC w a S ss:=by
  refine Ct.cast (List.append_nil _) ?_;refine ct_start (tx:=tx0) (pre:=[]) (ro:=[(a 6,instO 426 (a 7)),(a 7,typesD a)]) (sup:=[]) hP tx0_ok (by decide) fun A' s R zs ta N C U D' hR=>?_;refine sg C 20000 o_rd_1 ?_;intro _;have K_1:=sN s R C trId (insRo (a 6) (N+11) (N+10) (N+18) (N+14) (N+13) (N+16) (N+17)) (ins_type hP (⟨⟨[66,79,79,76,69,65,78]⟩⟩:Str) (a 9) (refsL []) (refsV []) (a 6) (N+11) (N+10) (N+18) (N+14) (N+13) (N+16) (N+17) (by kernel_rfl) (er_refsL _) (by show 0 < 1000; decide) (er_refsV _) (by show 0 < 1000; decide)) [16,17] [11,10,18,14,13];refine K_1 ?_;intro b_1 _ _ _ _ _ _ _ C_1 tr_1 _ _ _ _;refine sg C_1 20000 o_rd_2 ?_;intro _;have K_2:=sN s R C_1 tr_1 (insRo (a 6) (N+11) (N+10) (N+18) (N+14) (N+13) (N+16) (N+17)) (ins_type hP (⟨⟨[67,72,65,82]⟩⟩:Str) (a 10) (refsL [((⟨⟨[66,79,79,76,69,65,78]⟩⟩:Str),b_1.1)]) (refsV [b_1.1]) (a 6) (N+11) (N+10) (N+18) (N+14) (N+13) (N+16) (N+17) (by kernel_rfl) (er_refsL _) (by show 1 < 1000; decide) (er_refsV _) (by show 1 < 1000; decide)) [16,17] [11,10,18,14,13];refine K_2 ?_;intro b_2 _ _ _ _ _ _ _ C_2 tr_2 _ _ _ _;refine sg C_2 20000 o_rd_2 ?_;intro _;have K_3:=sN s R C_2 tr_2 (insRo (a 6) (N+11) (N+10) (N+18) (N+14) (N+13) (N+16) (N+17)) (ins_type hP (⟨⟨[66,89,84,69]⟩⟩:Str) (a 11) (refsL [((⟨⟨[66,79,79,76,69,65,78]⟩⟩:Str),b_1.1),((⟨⟨[67,72,65,82]⟩⟩:Str),b_2.1)]) (refsV [b_1.1,b_2.1]) (a 6) (N+11) (N+10) (N+18) (N+14) (N+13) (N+16) (N+17) (by kernel_rfl) (er_refsL _) (by show 2 < 1000; decide) (er_refsV _) (by show 2 < 1000; decide)) [16,17] [11,10,18,14,13];refine K_3 ?_;intro b_3 _ _ _ _ _ _ _ C_3 tr_3 _ _ _ _;refine sg C_3 20000 o_rd_2 ?_;intro _;have K_4:=sN s R C_3 tr_3 (insRo (a 6) (N+11) (N+10) (N+18) (N+14) (N+13) (N+16) (N+17)) (ins_type hP (⟨⟨[73,78,84,69,71,69,82]⟩⟩:Str) (a 15) (refsL [((⟨⟨[66,79,79,76,69,65,78]⟩⟩:Str),b_1.1),((⟨⟨[67,72,65,82]⟩⟩:Str),b_2.1),((⟨⟨[66,89,84,69]⟩⟩:Str),b_3.1)]) (refsV [b_1.1,b_2.1,b_3.1]) (a 6) (N+11) (N+10) (N+18) (N+14) (N+13) (N+16) (N+17) (by kernel_rfl) (er_refsL _) (by show 3 < 1000; decide) (er_refsV _) (by show 3 < 1000; decide)) [16,17] [11,10,18,14,13];refine K_4 ?_;intro b_4 _ _ _ _ _ _ _ C_4 tr_4 _ _ _ _;refine sg C_4 20000 o_rd_2 ?_;intro _;have K_5:=sN s R C_4 tr_4 (insRo (a 6) (N+11) (N+10) (N+18) (N+14) (N+13) (N+16) (N+17)) (ins_type hP (⟨⟨[83,69,84]⟩⟩:Str) (a 12) (refsL [((⟨⟨[66,79,79,76,69,65,78]⟩⟩:Str),b_1.1),((⟨⟨[67,72,65,82]⟩⟩:Str),b_2.1),((⟨⟨[66,89,84,69]⟩⟩:Str),b_3.1),((⟨⟨[73,78,84,69,71,69,82]⟩⟩:Str),b_4.1)]) (refsV [b_1.1,b_2.1,b_3.1,b_4.1]) (a 6) (N+11) (N+10) (N+18) (N+14) (N+13) (N+16) (N+17) (by kernel_rfl) (er_refsL _) (by show 4 < 1000; decide) (er_refsV _) (by show 4 < 1000; decide)) [16,17] [11,10,18,14,13];refine K_5 ?_;intro b_5 _ _ _ _ _ _ _ C_5 tr_5 _ _ _ _;refine sg C_5 20000 o_rd_2 ?_;intro _;have K_6:=sN s R C_5 tr_5 (insRo (a 6) (N+11) (N+10) (N+18) (N+14) (N+13) (N+16) (N+17)) (ins_const hP (⟨⟨[70,65,76,83,69]⟩⟩:Str) (a 9) (refsL [((⟨⟨[66,79,79,76,69,65,78]⟩⟩:Str),b_1.1),((⟨⟨[67,72,65,82]⟩⟩:Str),b_2.1),((⟨⟨[66,89,84,69]⟩⟩:Str),b_3.1),((⟨⟨[73,78,84,69,71,69,82]⟩⟩:Str),b_4.1),((⟨⟨[83,69,84]⟩⟩:Str),b_5.1)]) (refsV [b_1.1,b_2.1,b_3.1,b_4.1,b_5.1]) (a 6) (N+11) (N+10) (N+18) (N+14) (N+13) (N+16) (N+17) (by kernel_rfl) (er_refsL _) (by show 5 < 1000; decide) (er_refsV _) (by show 5 < 1000; decide)) [16,17] [11,10,18,14,13];refine K_6 ?_;intro b_6 _ _ _ _ _ _ _ C_6 tr_6 _ _ _ _;refine sg C_6 20000 o_rd_7 ?_;intro _;have K_7:=sN s R C_6 tr_6 (insRo (a 6) (N+11) (N+10) (N+18) (N+14) (N+13) (N+16) (N+17)) (ins_const hP (⟨⟨[84,82,85,69]⟩⟩:Str) (a 9) (refsL [((⟨⟨[66,79,79,76,69,65,78]⟩⟩:Str),b_1.1),((⟨⟨[67,72,65,82]⟩⟩:Str),b_2.1),((⟨⟨[66,89,84,69]⟩⟩:Str),b_3.1),((⟨⟨[73,78,84,69,71,69,82]⟩⟩:Str),b_4.1),((⟨⟨[83,69,84]⟩⟩:Str),b_5.1),((⟨⟨[70,65,76,83,69]⟩⟩:Str),b_6.1)]) (refsV [b_1.1,b_2.1,b_3.1,b_4.1,b_5.1,b_6.1]) (a 6) (N+11) (N+10) (N+18) (N+14) (N+13) (N+16) (N+17) (by kernel_rfl) (er_refsL _) (by show 6 < 1000; decide) (er_refsV _) (by show 6 < 1000; decide)) [16,17] [11,10,18,14,13];refine K_7 ?_;intro b_7 _ _ _ _ _ _ _ C_7 tr_7 _ _ _ _;refine sg C_7 20000 o_rd_8 ?_;intro _;have K_8:=sN s R C_7 tr_7 (insRo (a 6) (N+11) (N+10) (N+18) (N+14) (N+13) (N+16) (N+17)) (ins_std hP (⟨⟨[65,66,83]⟩⟩:Str) (a 14) (refsL [((⟨⟨[66,79,79,76,69,65,78]⟩⟩:Str),b_1.1),((⟨⟨[67,72,65,82]⟩⟩:Str),b_2.1),((⟨⟨[66,89,84,69]⟩⟩:Str),b_3.1),((⟨⟨[73,78,84,69,71,69,82]⟩⟩:Str),b_4.1),((⟨⟨[83,69,84]⟩⟩:Str),b_5.1),((⟨⟨[70,65,76,83,69]⟩⟩:Str),b_6.1),((⟨⟨[84,82,85,69]⟩⟩:Str),b_7.1)]) (refsV [b_1.1,b_2.1,b_3.1,b_4.1,b_5.1,b_6.1,b_7.1]) (a 6) (N+11) (N+10) (N+18) (N+14) (N+13) (N+16) (N+17) (by kernel_rfl) (er_refsL _) (by show 7 < 1000; decide) (er_refsV _) (by show 7 < 1000; decide)) [16,17] [11,10,18,14,13];refine K_8 ?_;intro b_8 _ _ _ _ _ _ _ C_8 tr_8 _ _ _ _;refine sg C_8 20000 o_rd_9 ?_;intro _;have K_9:=sN s R C_8 tr_8 (insRo (a 6) (N+11) (N+10) (N+18) (N+14) (N+13) (N+16) (N+17)) (ins_std hP (⟨⟨[79,68,68]⟩⟩:Str) (a 14) (refsL [((⟨⟨[66,79,79,76,69,65,78]⟩⟩:Str),b_1.1),((⟨⟨[67,72,65,82]⟩⟩:Str),b_2.1),((⟨⟨[66,89,84,69]⟩⟩:Str),b_3.1),((⟨⟨[73,78,84,69,71,69,82]⟩⟩:Str),b_4.1),((⟨⟨[83,69,84]⟩⟩:Str),b_5.1),((⟨⟨[70,65,76,83,69]⟩⟩:Str),b_6.1),((⟨⟨[84,82,85,69]⟩⟩:Str),b_7.1),((⟨⟨[65,66,83]⟩⟩:Str),b_8.1)]) (refsV [b_1.1,b_2.1,b_3.1,b_4.1,b_5.1,b_6.1,b_7.1,b_8.1]) (a 6) (N+11) (N+10) (N+18) (N+14) (N+13) (N+16) (N+17) (by kernel_rfl) (er_refsL _) (by show 8 < 1000; decide) (er_refsV _) (by show 8 < 1000; decide)) [16,17] [11,10,18,14,13];refine K_9 ?_;intro b_9 _ _ _ _ _ _ _ C_9 tr_9 _ _ _ _;refine sg C_9 20000 o_rd_10 ?_;intro _;have K_10:=sN s R C_9 tr_9 (insRo (a 6) (N+11) (N+10) (N+18) (N+14) (N+13) (N+16) (N+17)) (ins_std hP (⟨⟨[76,69,78]⟩⟩:Str) (a 14) (refsL [((⟨⟨[66,79,79,76,69,65,78]⟩⟩:Str),b_1.1),((⟨⟨[67,72,65,82]⟩⟩:Str),b_2.1),((⟨⟨[66,89,84,69]⟩⟩:Str),b_3.1),((⟨⟨[73,78,84,69,71,69,82]⟩⟩:Str),b_4.1),((⟨⟨[83,69,84]⟩⟩:Str),b_5.1),((⟨⟨[70,65,76,83,69]⟩⟩:Str),b_6.1),((⟨⟨[84,82,85,69]⟩⟩:Str),b_7.1),((⟨⟨[65,66,83]⟩⟩:Str),b_8.1),((⟨⟨[79,68,68]⟩⟩:Str),b_9.1)]) (refsV [b_1.1,b_2.1,b_3.1,b_4.1,b_5.1,b_6.1,b_7.1,b_8.1,b_9.1]) (a 6) (N+11) (N+10) (N+18) (N+14) (N+13) (N+16) (N+17) (by kernel_rfl) (er_refsL _) (by show 9 < 1000; decide) (er_refsV _) (by show 9 < 1000; decide)) [16,17] [11,10,18,14,13];refine K_10 ?_;intro b_10 _ _ _ _ _ _ _ C_10 tr_10 _ _ _ _;refine sg C_10 20000 o_rd_11 ?_;intro _;have K_11:=sN s R C_10 tr_10 (insRo (a 6) (N+11) (N+10) (N+18) (N+14) (N+13) (N+16) (N+17)) (ins_std hP (⟨⟨[76,83,76]⟩⟩:Str) (a 14) (refsL [((⟨⟨[66,79,79,76,69,65,78]⟩⟩:Str),b_1.1),((⟨⟨[67,72,65,82]⟩⟩:Str),b_2.1),((⟨⟨[66,89,84,69]⟩⟩:Str),b_3.1),((⟨⟨[73,78,84,69,71,69,82]⟩⟩:Str),b_4.1),((⟨⟨[83,69,84]⟩⟩:Str),b_5.1),((⟨⟨[70,65,76,83,69]⟩⟩:Str),b_6.1),((⟨⟨[84,82,85,69]⟩⟩:Str),b_7.1),((⟨⟨[65,66,83]⟩⟩:Str),b_8.1),((⟨⟨[79,68,68]⟩⟩:Str),b_9.1),((⟨⟨[76,69,78]⟩⟩:Str),b_10.1)]) (refsV [b_1.1,b_2.1,b_3.1,b_4.1,b_5.1,b_6.1,b_7.1,b_8.1,b_9.1,b_10.1]) (a 6) (N+11) (N+10) (N+18) (N+14) (N+13) (N+16) (N+17) (by kernel_rfl) (er_refsL _) (by show 10 < 1000; decide) (er_refsV _) (by show 10 < 1000; decide)) [16,17] [11,10,18,14,13];refine K_11 ?_;intro b_11 _ _ _ _ _ _ _ C_11 tr_11 _ _ _ _;refine sg C_11 20000 o_rd_12 ?_;intro _;have K_12:=sN s R C_11 tr_11 (insRo (a 6) (N+11) (N+10) (N+18) (N+14) (N+13) (N+16) (N+17)) (ins_std hP (⟨⟨[65,83,82]⟩⟩:Str) (a 14) (refsL [((⟨⟨[66,79,79,76,69,65,78]⟩⟩:Str),b_1.1),((⟨⟨[67,72,65,82]⟩⟩:Str),b_2.1),((⟨⟨[66,89,84,69]⟩⟩:Str),b_3.1),((⟨⟨[73,78,84,69,71,69,82]⟩⟩:Str),b_4.1),((⟨⟨[83,69,84]⟩⟩:Str),b_5.1),((⟨⟨[70,65,76,83,69]⟩⟩:Str),b_6.1),((⟨⟨[84,82,85,69]⟩⟩:Str),b_7.1),((⟨⟨[65,66,83]⟩⟩:Str),b_8.1),((⟨⟨[79,68,68]⟩⟩:Str),b_9.1),((⟨⟨[76,69,78]⟩⟩:Str),b_10.1),((⟨⟨[76,83,76]⟩⟩:Str),b_11.1)]) (refsV [b_1.1,b_2.1,b_3.1,b_4.1,b_5.1,b_6.1,b_7.1,b_8.1,b_9.1,b_10.1,b_11.1]) (a 6) (N+11) (N+10) (N+18) (N+14) (N+13) (N+16) (N+17) (by kernel_rfl) (er_refsL _) (by show 11 < 1000; decide) (er_refsV _) (by show 11 < 1000; decide)) [16,17] [11,10,18,14,13];refine K_12 ?_;intro b_12 _ _ _ _ _ _ _ C_12 tr_12 _ _ _ _;refine sg C_12 20000 o_rd_13 ?_;intro _;have K_13:=sN s R C_12 tr_12 (insRo (a 6) (N+11) (N+10) (N+18) (N+14) (N+13) (N+16) (N+17)) (ins_std hP (⟨⟨[82,79,82]⟩⟩:Str) (a 14) (refsL [((⟨⟨[66,79,79,76,69,65,78]⟩⟩:Str),b_1.1),((⟨⟨[67,72,65,82]⟩⟩:Str),b_2.1),((⟨⟨[66,89,84,69]⟩⟩:Str),b_3.1),((⟨⟨[73,78,84,69,71,69,82]⟩⟩:Str),b_4.1),((⟨⟨[83,69,84]⟩⟩:Str),b_5.1),((⟨⟨[70,65,76,83,69]⟩⟩:Str),b_6.1),((⟨⟨[84,82,85,69]⟩⟩:Str),b_7.1),((⟨⟨[65,66,83]⟩⟩:Str),b_8.1),((⟨⟨[79,68,68]⟩⟩:Str),b_9.1),((⟨⟨[76,69,78]⟩⟩:Str),b_10.1),((⟨⟨[76,83,76]⟩⟩:Str),b_11.1),((⟨⟨[65,83,82]⟩⟩:Str),b_12.1)]) (refsV [b_1.1,b_2.1,b_3.1,b_4.1,b_5.1,b_6.1,b_7.1,b_8.1,b_9.1,b_10.1,b_11.1,b_12.1]) (a 6) (N+11) (N+10) (N+18) (N+14) (N+13) (N+16) (N+17) (by kernel_rfl) (er_refsL _) (by show 12 < 1000; decide) (er_refsV _) (by show 12 < 1000; decide)) [16,17] [11,10,18,14,13];refine K_13 ?_;intro b_13 _ _ _ _ _ _ _ C_13 tr_13 _ _ _ _;refine sg C_13 20000 o_rd_14 ?_;intro _;have K_14:=sN s R C_13 tr_13 (insRo (a 6) (N+11) (N+10) (N+18) (N+14) (N+13) (N+16) (N+17)) (ins_std hP (⟨⟨[79,82,68]⟩⟩:Str) (a 14) (refsL [((⟨⟨[66,79,79,76,69,65,78]⟩⟩:Str),b_1.1),((⟨⟨[67,72,65,82]⟩⟩:Str),b_2.1),((⟨⟨[66,89,84,69]⟩⟩:Str),b_3.1),((⟨⟨[73,78,84,69,71,69,82]⟩⟩:Str),b_4.1),((⟨⟨[83,69,84]⟩⟩:Str),b_5.1),((⟨⟨[70,65,76,83,69]⟩⟩:Str),b_6.1),((⟨⟨[84,82,85,69]⟩⟩:Str),b_7.1),((⟨⟨[65,66,83]⟩⟩:Str),b_8.1),((⟨⟨[79,68,68]⟩⟩:Str),b_9.1),((⟨⟨[76,69,78]⟩⟩:Str),b_10.1),((⟨⟨[76,83,76]⟩⟩:Str),b_11.1),((⟨⟨[65,83,82]⟩⟩:Str),b_12.1),((⟨⟨[82,79,82]⟩⟩:Str),b_13.1)]) (refsV [b_1.1,b_2.1,b_3.1,b_4.1,b_5.1,b_6.1,b_7.1,b_8.1,b_9.1,b_10.1,b_11.1,b_12.1,b_13.1]) (a 6) (N+11) (N+10) (N+18) (N+14) (N+13) (N+16) (N+17) (by kernel_rfl) (er_refsL _) (by show 13 < 1000; decide) (er_refsV _) (by show 13 < 1000; decide)) [16,17] [11,10,18,14,13];refine K_14 ?_;intro b_14 _ _ _ _ _ _ _ C_14 tr_14 _ _ _ _;refine sg C_14 20000 o_rd_15 ?_;intro _;have K_15:=sN s R C_14 tr_14 (insRo (a 6) (N+11) (N+10) (N+18) (N+14) (N+13) (N+16) (N+17)) (ins_std hP (⟨⟨[67,72,82]⟩⟩:Str) (a 14) (refsL [((⟨⟨[66,79,79,76,69,65,78]⟩⟩:Str),b_1.1),((⟨⟨[67,72,65,82]⟩⟩:Str),b_2.1),((⟨⟨[66,89,84,69]⟩⟩:Str),b_3.1),((⟨⟨[73,78,84,69,71,69,82]⟩⟩:Str),b_4.1),((⟨⟨[83,69,84]⟩⟩:Str),b_5.1),((⟨⟨[70,65,76,83,69]⟩⟩:Str),b_6.1),((⟨⟨[84,82,85,69]⟩⟩:Str),b_7.1),((⟨⟨[65,66,83]⟩⟩:Str),b_8.1),((⟨⟨[79,68,68]⟩⟩:Str),b_9.1),((⟨⟨[76,69,78]⟩⟩:Str),b_10.1),((⟨⟨[76,83,76]⟩⟩:Str),b_11.1),((⟨⟨[65,83,82]⟩⟩:Str),b_12.1),((⟨⟨[82,79,82]⟩⟩:Str),b_13.1),((⟨⟨[79,82,68]⟩⟩:Str),b_14.1)]) (refsV [b_1.1,b_2.1,b_3.1,b_4.1,b_5.1,b_6.1,b_7.1,b_8.1,b_9.1,b_10.1,b_11.1,b_12.1,b_13.1,b_14.1]) (a 6) (N+11) (N+10) (N+18) (N+14) (N+13) (N+16) (N+17) (by kernel_rfl) (er_refsL _) (by show 14 < 1000; decide) (er_refsV _) (by show 14 < 1000; decide)) [16,17] [11,10,18,14,13];refine K_15 ?_;intro b_15 _ _ _ _ _ _ _ C_15 tr_15 _ _ _ _;refine sg C_15 20000 o_rd_16 ?_;intro _;have K_16:=sN s R C_15 tr_15 (insRo (a 6) (N+11) (N+10) (N+18) (N+14) (N+13) (N+16) (N+17)) (ins_std hP (⟨⟨[73,78,67]⟩⟩:Str) (a 14) (refsL [((⟨⟨[66,79,79,76,69,65,78]⟩⟩:Str),b_1.1),((⟨⟨[67,72,65,82]⟩⟩:Str),b_2.1),((⟨⟨[66,89,84,69]⟩⟩:Str),b_3.1),((⟨⟨[73,78,84,69,71,69,82]⟩⟩:Str),b_4.1),((⟨⟨[83,69,84]⟩⟩:Str),b_5.1),((⟨⟨[70,65,76,83,69]⟩⟩:Str),b_6.1),((⟨⟨[84,82,85,69]⟩⟩:Str),b_7.1),((⟨⟨[65,66,83]⟩⟩:Str),b_8.1),((⟨⟨[79,68,68]⟩⟩:Str),b_9.1),((⟨⟨[76,69,78]⟩⟩:Str),b_10.1),((⟨⟨[76,83,76]⟩⟩:Str),b_11.1),((⟨⟨[65,83,82]⟩⟩:Str),b_12.1),((⟨⟨[82,79,82]⟩⟩:Str),b_13.1),((⟨⟨[79,82,68]⟩⟩:Str),b_14.1),((⟨⟨[67,72,82]⟩⟩:Str),b_15.1)]) (refsV [b_1.1,b_2.1,b_3.1,b_4.1,b_5.1,b_6.1,b_7.1,b_8.1,b_9.1,b_10.1,b_11.1,b_12.1,b_13.1,b_14.1,b_15.1]) (a 6) (N+11) (N+10) (N+18) (N+14) (N+13) (N+16) (N+17) (by kernel_rfl) (er_refsL _) (by show 15 < 1000; decide) (er_refsV _) (by show 15 < 1000; decide)) [16,17] [11,10,18,14,13];refine K_16 ?_;intro b_16 _ _ _ _ _ _ _ C_16 tr_16 _ _ _ _;refine sg C_16 20000 o_rd_17 ?_;intro _;have K_17:=sN s R C_16 tr_16 (insRo (a 6) (N+11) (N+10) (N+18) (N+14) (N+13) (N+16) (N+17)) (ins_std hP (⟨⟨[68,69,67]⟩⟩:Str) (a 14) (refsL [((⟨⟨[66,79,79,76,69,65,78]⟩⟩:Str),b_1.1),((⟨⟨[67,72,65,82]⟩⟩:Str),b_2.1),((⟨⟨[66,89,84,69]⟩⟩:Str),b_3.1),((⟨⟨[73,78,84,69,71,69,82]⟩⟩:Str),b_4.1),((⟨⟨[83,69,84]⟩⟩:Str),b_5.1),((⟨⟨[70,65,76,83,69]⟩⟩:Str),b_6.1),((⟨⟨[84,82,85,69]⟩⟩:Str),b_7.1),((⟨⟨[65,66,83]⟩⟩:Str),b_8.1),((⟨⟨[79,68,68]⟩⟩:Str),b_9.1),((⟨⟨[76,69,78]⟩⟩:Str),b_10.1),((⟨⟨[76,83,76]⟩⟩:Str),b_11.1),((⟨⟨[65,83,82]⟩⟩:Str),b_12.1),((⟨⟨[82,79,82]⟩⟩:Str),b_13.1),((⟨⟨[79,82,68]⟩⟩:Str),b_14.1),((⟨⟨[67,72,82]⟩⟩:Str),b_15.1),((⟨⟨[73,78,67]⟩⟩:Str),b_16.1)]) (refsV [b_1.1,b_2.1,b_3.1,b_4.1,b_5.1,b_6.1,b_7.1,b_8.1,b_9.1,b_10.1,b_11.1,b_12.1,b_13.1,b_14.1,b_15.1,b_16.1]) (a 6) (N+11) (N+10) (N+18) (N+14) (N+13) (N+16) (N+17) (by kernel_rfl) (er_refsL _) (by show 16 < 1000; decide) (er_refsV _) (by show 16 < 1000; decide)) [16,17] [11,10,18,14,13];refine K_17 ?_;intro b_17 _ _ _ _ _ _ _ C_17 tr_17 _ _ _ _;refine sg C_17 20000 o_rd_18 ?_;intro _;have K_18:=sN s R C_17 tr_17 (insRo (a 6) (N+11) (N+10) (N+18) (N+14) (N+13) (N+16) (N+17)) (ins_std hP (⟨⟨[73,78,67,76]⟩⟩:Str) (a 14) (refsL [((⟨⟨[66,79,79,76,69,65,78]⟩⟩:Str),b_1.1),((⟨⟨[67,72,65,82]⟩⟩:Str),b_2.1),((⟨⟨[66,89,84,69]⟩⟩:Str),b_3.1),((⟨⟨[73,78,84,69,71,69,82]⟩⟩:Str),b_4.1),((⟨⟨[83,69,84]⟩⟩:Str),b_5.1),((⟨⟨[70,65,76,83,69]⟩⟩:Str),b_6.1),((⟨⟨[84,82,85,69]⟩⟩:Str),b_7.1),((⟨⟨[65,66,83]⟩⟩:Str),b_8.1),((⟨⟨[79,68,68]⟩⟩:Str),b_9.1),((⟨⟨[76,69,78]⟩⟩:Str),b_10.1),((⟨⟨[76,83,76]⟩⟩:Str),b_11.1),((⟨⟨[65,83,82]⟩⟩:Str),b_12.1),((⟨⟨[82,79,82]⟩⟩:Str),b_13.1),((⟨⟨[79,82,68]⟩⟩:Str),b_14.1),((⟨⟨[67,72,82]⟩⟩:Str),b_15.1),((⟨⟨[73,78,67]⟩⟩:Str),b_16.1),((⟨⟨[68,69,67]⟩⟩:Str),b_17.1)]) (refsV [b_1.1,b_2.1,b_3.1,b_4.1,b_5.1,b_6.1,b_7.1,b_8.1,b_9.1,b_10.1,b_11.1,b_12.1,b_13.1,b_14.1,b_15.1,b_16.1,b_17.1]) (a 6) (N+11) (N+10) (N+18) (N+14) (N+13) (N+16) (N+17) (by kernel_rfl) (er_refsL _) (by show 17 < 1000; decide) (er_refsV _) (by show 17 < 1000; decide)) [16,17] [11,10,18,14,13];refine K_18 ?_;intro b_18 _ _ _ _ _ _ _ C_18 tr_18 _ _ _ _;refine sg C_18 20000 o_rd_19 ?_;intro _;have K_19:=sN s R C_18 tr_18 (insRo (a 6) (N+11) (N+10) (N+18) (N+14) (N+13) (N+16) (N+17)) (ins_std hP (⟨⟨[69,88,67,76]⟩⟩:Str) (a 14) (refsL [((⟨⟨[66,79,79,76,69,65,78]⟩⟩:Str),b_1.1),((⟨⟨[67,72,65,82]⟩⟩:Str),b_2.1),((⟨⟨[66,89,84,69]⟩⟩:Str),b_3.1),((⟨⟨[73,78,84,69,71,69,82]⟩⟩:Str),b_4.1),((⟨⟨[83,69,84]⟩⟩:Str),b_5.1),((⟨⟨[70,65,76,83,69]⟩⟩:Str),b_6.1),((⟨⟨[84,82,85,69]⟩⟩:Str),b_7.1),((⟨⟨[65,66,83]⟩⟩:Str),b_8.1),((⟨⟨[79,68,68]⟩⟩:Str),b_9.1),((⟨⟨[76,69,78]⟩⟩:Str),b_10.1),((⟨⟨[76,83,76]⟩⟩:Str),b_11.1),((⟨⟨[65,83,82]⟩⟩:Str),b_12.1),((⟨⟨[82,79,82]⟩⟩:Str),b_13.1),((⟨⟨[79,82,68]⟩⟩:Str),b_14.1),((⟨⟨[67,72,82]⟩⟩:Str),b_15.1),((⟨⟨[73,78,67]⟩⟩:Str),b_16.1),((⟨⟨[68,69,67]⟩⟩:Str),b_17.1),((⟨⟨[73,78,67,76]⟩⟩:Str),b_18.1)]) (refsV [b_1.1,b_2.1,b_3.1,b_4.1,b_5.1,b_6.1,b_7.1,b_8.1,b_9.1,b_10.1,b_11.1,b_12.1,b_13.1,b_14.1,b_15.1,b_16.1,b_17.1,b_18.1]) (a 6) (N+11) (N+10) (N+18) (N+14) (N+13) (N+16) (N+17) (by kernel_rfl) (er_refsL _) (by show 18 < 1000; decide) (er_refsV _) (by show 18 < 1000; decide)) [16,17] [11,10,18,14,13];refine K_19 ?_;intro b_19 _ _ _ _ _ _ _ C_19 tr_19 _ _ _ _;refine sg C_19 20000 o_rd_20 ?_;intro _;have K_20:=sN s R C_19 tr_19 (insRo (a 6) (N+11) (N+10) (N+18) (N+14) (N+13) (N+16) (N+17)) (ins_std hP (⟨⟨[78,69,87]⟩⟩:Str) (a 14) (refsL [((⟨⟨[66,79,79,76,69,65,78]⟩⟩:Str),b_1.1),((⟨⟨[67,72,65,82]⟩⟩:Str),b_2.1),((⟨⟨[66,89,84,69]⟩⟩:Str),b_3.1),((⟨⟨[73,78,84,69,71,69,82]⟩⟩:Str),b_4.1),((⟨⟨[83,69,84]⟩⟩:Str),b_5.1),((⟨⟨[70,65,76,83,69]⟩⟩:Str),b_6.1),((⟨⟨[84,82,85,69]⟩⟩:Str),b_7.1),((⟨⟨[65,66,83]⟩⟩:Str),b_8.1),((⟨⟨[79,68,68]⟩⟩:Str),b_9.1),((⟨⟨[76,69,78]⟩⟩:Str),b_10.1),((⟨⟨[76,83,76]⟩⟩:Str),b_11.1),((⟨⟨[65,83,82]⟩⟩:Str),b_12.1),((⟨⟨[82,79,82]⟩⟩:Str),b_13.1),((⟨⟨[79,82,68]⟩⟩:Str),b_14.1),((⟨⟨[67,72,82]⟩⟩:Str),b_15.1),((⟨⟨[73,78,67]⟩⟩:Str),b_16.1),((⟨⟨[68,69,67]⟩⟩:Str),b_17.1),((⟨⟨[73,78,67,76]⟩⟩:Str),b_18.1),((⟨⟨[69,88,67,76]⟩⟩:Str),b_19.1)]) (refsV [b_1.1,b_2.1,b_3.1,b_4.1,b_5.1,b_6.1,b_7.1,b_8.1,b_9.1,b_10.1,b_11.1,b_12.1,b_13.1,b_14.1,b_15.1,b_16.1,b_17.1,b_18.1,b_19.1]) (a 6) (N+11) (N+10) (N+18) (N+14) (N+13) (N+16) (N+17) (by kernel_rfl) (er_refsL _) (by show 19 < 1000; decide) (er_refsV _) (by show 19 < 1000; decide)) [16,17] [11,10,18,14,13];refine K_20 ?_;intro b_20 _ _ _ _ _ _ _ C_20 tr_20 _ _ _ _;refine sg C_20 20000 o_rd_21 ?_;intro _;have K_21:=sN s R C_20 tr_20 (insRo (a 6) (N+11) (N+10) (N+18) (N+14) (N+13) (N+16) (N+17)) (ins_std hP (⟨⟨[65,83,83,69,82,84]⟩⟩:Str) (a 14) (refsL [((⟨⟨[66,79,79,76,69,65,78]⟩⟩:Str),b_1.1),((⟨⟨[67,72,65,82]⟩⟩:Str),b_2.1),((⟨⟨[66,89,84,69]⟩⟩:Str),b_3.1),((⟨⟨[73,78,84,69,71,69,82]⟩⟩:Str),b_4.1),((⟨⟨[83,69,84]⟩⟩:Str),b_5.1),((⟨⟨[70,65,76,83,69]⟩⟩:Str),b_6.1),((⟨⟨[84,82,85,69]⟩⟩:Str),b_7.1),((⟨⟨[65,66,83]⟩⟩:Str),b_8.1),((⟨⟨[79,68,68]⟩⟩:Str),b_9.1),((⟨⟨[76,69,78]⟩⟩:Str),b_10.1),((⟨⟨[76,83,76]⟩⟩:Str),b_11.1),((⟨⟨[65,83,82]⟩⟩:Str),b_12.1),((⟨⟨[82,79,82]⟩⟩:Str),b_13.1),((⟨⟨[79,82,68]⟩⟩:Str),b_14.1),((⟨⟨[67,72,82]⟩⟩:Str),b_15.1),((⟨⟨[73,78,67]⟩⟩:Str),b_16.1),((⟨⟨[68,69,67]⟩⟩:Str),b_17.1),((⟨⟨[73,78,67,76]⟩⟩:Str),b_18.1),((⟨⟨[69,88,67,76]⟩⟩:Str),b_19.1),((⟨⟨[78,69,87]⟩⟩:Str),b_20.1)]) (refsV [b_1.1,b_2.1,b_3.1,b_4.1,b_5.1,b_6.1,b_7.1,b_8.1,b_9.1,b_10.1,b_11.1,b_12.1,b_13.1,b_14.1,b_15.1,b_16.1,b_17.1,b_18.1,b_19.1,b_20.1]) (a 6) (N+11) (N+10) (N+18) (N+14) (N+13) (N+16) (N+17) (by kernel_rfl) (er_refsL _) (by show 20 < 1000; decide) (er_refsV _) (by show 20 < 1000; decide)) [16,17] [11,10,18,14,13];refine K_21 ?_;intro b_21 _ _ _ N_21 _ _ _ C_21 tr_21 _ _ _ _;refine sg C_21 20000 o_rd_22 ?_;intro _;have K_22:=sN s R C_21 tr_21 (w_sc (aT (N+6) (N+5) (a 2) (N+9))) (next_take0 hP (aT (N+6) (N+5) (a 2) (N+9)) S (ss:=ss) (P:=0) hA) [5] [6,9];refine K_22 ?_;intro b_22 _ _ _ _ _ _ _ C_22 tr_22 _ _ _ _;refine sg C_22 20000 o_rd_23 ?_;intro _;exact finishC (Pd:=fun _=>True) tr_22 D' hR ⟨(N+3),(N+2),(N+6),(N+5),(N+9),b_22.1,b_22.2,(N+11),(N+10),(N+18),(N+14),(N_21+70),(N_21+71),(N_21+72)⟩ _ [] [3,2,6,5,9,73,74,11,10,18] (by kernel_rfl) (by kernel_rfl) rfl (by kernel_rfl) (by kernel_rfl) rfl Sup.nil (fun _ h=>nomatch h) rfl trivial
section
variable {w:World} {b1 b2 b3:Bool} {tx:Tx} {A:Around} {R:Result->Shared->Prop} {s:Shared} {fr:Nat->Prop} {h₀:Heap} {Dp Un:Nat}
theorem has_perm {h:Heap} {l r:List (Nat×Obj)} (p:l.Perm r) (H:HasAll h l):HasAll h r:=hasAll_mem.mpr fun q hq=>hasAll_mem.mp H q (p.mem_iff.mpr hq)
theorem restart {pre₀:List (Nat×Obj)} {zs₀:Nat->Nz} (C:Cx w b1 b2 b3 Dp Un tx A fr h₀) (tr:Tr w (frOf (mkT zs₀ 0 .nil pre₀) s.heap.objs.size) s.heap fr h₀) {X:MS} (kept sup:List (Nat×Obj))
    (H:∃ (idx:List Nat) (led supL:List (Nat×Obj)),lookA X.T idx=someA led∧idx.Nodup∧Sup fr h₀ supL∧(∀ a ∈ keys supL,s.heap.objs.size<=a)∧(led++supL).Perm (kept++sup))
    (x:∀ (zs:Nat->Nz) (N:Nat) (h:Heap),Cx w b1 b2 b3 Dp Un tx A (frOf (mkT zs 0 .nil kept) h.objs.size) h->Tr w (frOf (mkT zs₀ 0 .nil pre₀) s.heap.objs.size) s.heap (frOf (mkT zs 0 .nil kept) h.objs.size) h->Sup (frOf (mkT zs 0 .nil kept) h.objs.size) h sup ->
      GoodC w b1 b2 b3 tx A R s (frOf (mkT zs 0 .nil kept) h.objs.size) h ⟨X.pd,X.c,X.κ,X.t,mkT zs 0 .nil kept,kept.length,N,X.tk,[],[]⟩):GoodC w b1 b2 b3 tx A R s fr h₀ X:=by
  obtain ⟨idx,led,supL,hl,hn,hs,hge,hperm⟩:=H;refine ⟨?_⟩;intro h D;have D0:=tr _ _ _ _ D;have hall:HasAll h (kept++sup):=has_perm hperm (has_append.mpr ⟨look_has D hl,sup_has D hs⟩);have hnd:(keys (kept++sup)).Nodup:=(List.Perm.nodup_iff (hperm.map _)).mp (nodup_join D hl hn hs);have hnf:∀ a ∈ keys (kept++sup),¬ frOf (mkT zs₀ 0 .nil pre₀) s.heap.objs.size a:=by
    intro a ha;have ha':a ∈ keys (led++supL):=(hperm.map _).mem_iff.mpr ha;rw [keys_append,List.mem_append] at ha';rcases ha' with q | q
    · exact ledger_not D0 hl a q
    · exact fun z=>absurd z.1 (Nat.not_lt.mpr (hge a q))
  obtain ⟨hk,hsp⟩:=has_append.mp hall;rw [keys_append] at hnd hnf;have hnd':=List.nodup_append.mp hnd;obtain ⟨zs,hz⟩:=has_nz kept hk;have hle:=length_le_size kept hk hnd'.1;have hN:h.objs.size=(h.objs.size - kept.length)+kept.length:=by omega
  have D1:Rep (ktop w.params) (frOf (mkT zs 0 .nil kept) h.objs.size) h (mkT zs 0 .nil kept) kept.length (h.objs.size - kept.length) h:=rep_start hz hnd'.1 D.top hN;have big:661<=h.objs.size:=by have:=C.st.big; have:=D.grow; have:=D.size; omega
  have C':Cx w b1 b2 b3 Dp Un tx A (frOf (mkT zs 0 .nil kept) h.objs.size) h:=⟨C.rows,C.hh,C.dep,C.uni,⟨fun _ q=>q.1,C.st.ktlt,big⟩,C.tx,C.dp⟩;have U:Sup (frOf (mkT zs 0 .nil kept) h.objs.size) h sup:=⟨hsp,hnd'.2.1,fun a ha=>by
    obtain ⟨j,p,hj,e⟩:=mem_keys.mp ha;exact sub_keys (e ▸ (hsp.get hj).lt) fun q=>hnd'.2.2 a q a ha rfl⟩
  have tr':Tr w (frOf (mkT zs₀ 0 .nil pre₀) s.heap.objs.size) s.heap (frOf (mkT zs 0 .nil kept) h.objs.size) h:=by
    intro T'' m'' N'' h'' D'';refine ⟨D''.size,fun j a o e=>⟨(D''.own j a o e).1,(D''.own j a o e).2.1,(D''.own j a o e).2.2.1,fun q=>?_⟩,D''.inj,D''.top,fun b o q e=>D''.keep b o ⟨?_,fun j a o' e' z=>?_⟩ (D0.keep b o q e),?_,D''.full⟩
    · by_cases hka:a ∈ keys kept
      · exact hnf a (List.mem_append_left _ hka) q
      · have hlt:a < h.objs.size:=Nat.lt_of_lt_of_le q.1 (by have:=D0.grow; have:=D0.size; omega);exact (D''.own j a o e).2.2.2 (sub_keys hlt hka)
    · have:=q.1; have:=D0.grow; have:=D0.size; omega
    · rw [mkT_get zs kept 0 .nil full_nil,if_neg (Nat.not_lt_zero _),Nat.sub_zero] at e';cases hq:kept[j]? with
      | none=>rw [hq] at e'; cases e'
      | some p =>
        rw [hq] at e';cases e';exact hnf p.1 (List.mem_append_left _ (mem_keys.mpr ⟨j,p,hq,rfl⟩)) (z ▸ q)
    · have h1:=D''.grow;have h2:=D0.grow;have h3:=D0.size
      omega
  exact (x zs _ h C' tr' U).val h D1
end
noncomputable def pb:Nat->Bool
  | 0=>false
  | _=>true
noncomputable def tb (b:Nat):Ty:=match pb b with
  | true=>.pt
  | false=>.rc
namespace DT
noncomputable def hdV:DT->List Value
  | var _ K p=>[.str v_var 0,.int (Int.ofNat 1) 0,.int (Int.ofNat (tyNo (match p with | true=>.pt | false=>.rc))) 0,.str v_v 0,.ref K]
  | fld _ K pl f _=>[.str v_field 0,.int (Int.ofNat pl) 0,.int (Int.ofNat (tyNo f.ty)) 0,.str f.name 0,.ref K]
  | drf _ K pl _=>[.str v_deref 0,.int (Int.ofNat pl) 0,.int (Int.ofNat 8) 0,.none,.ref K]
  | grd _ K pl _=>[.str v_guard 0,.int (Int.ofNat pl) 0,.int (Int.ofNat 9) 0,.int 9 0,.ref K]
  | idx _ K pl two _ _ _ _ _=>[.str v_index 0,.int (Int.ofNat pl) 0,.int (Int.ofNat (tyNo (match two with | true=>.pa | false=>.it))) 0,.none,.ref K]
noncomputable def tl:DT->List (Nat×Obj)
  | var _ K _=>[(K,listO [])]
  | fld _ K _ _ kid=>(K,listO [.ref kid.addr])::kid.flat
  | drf _ K _ kid=>(K,listO [.ref kid.addr])::kid.flat
  | grd _ K _ kid=>(K,listO [.ref kid.addr])::kid.flat
  | idx _ K _ _ v C CK cpl kid=>(K,listO [.ref kid.addr,.ref C])::(l5 C CK v_const cpl 4 (.int (Int.ofNat v) 0) []++kid.flat)
theorem split:∀ d:DT,d.flat=(d.addr,listO d.hdV)::d.tl
  | var ..=>rfl
  | fld ..=>rfl
  | drf ..=>rfl
  | grd ..=>rfl
  | idx ..=>rfl
theorem er_hd:∀ d:DT,erL d.hdV=d.hdV
  | var ..=>rfl
  | fld ..=>rfl
  | drf ..=>rfl
  | grd ..=>rfl
  | idx ..=>rfl
end DT
theorem endP_len:∀ (ss:List Sl) (P:Nat),endP ss P=P+(txts ss).length
  | [],P=>rfl
  | s::l,P=>by
    show endP l (P+s.txt.length)=P+(s.txt++txts l).length;rw [endP_len l,List.length_append]; omega
theorem grow_size:∀ (ss:List Sl) (t:Sh) (P:Nat),(grow t ss P).size<=t.size+2*ss.length
  | [],t,P=>Nat.le_refl _
  | s::l,t,P=>by
    have h1:=grow_size l (growS t s P) (P+s.txt.length);have h2:(growS t s P).size<=t.size+2:=by
      cases s with
      | f x =>
        show (match isPt t.ty with | true=>Sh.fld P x (.drf P t) | false=>.fld P x t).size<=_
        cases isPt t.ty <;> simp only [Sh.size] <;> omega
      | h=>show t.size+1<=_; omega
      | g=>show t.size+1<=_; omega
      | i v=>show t.size+1<=_; omega
      | ij u v=>show t.size+1+1<=_; omega
    show (grow (growS t s P) l (P+s.txt.length)).size<=t.size+2*(l.length+1)
    omega
noncomputable def rangeO (n:Nat):Obj:=⟨.type "range",none,.fields ⟨[.int 0 0,.int (Int.ofNat n) 0,.int 1 0]⟩,#[]⟩
theorem ct_eqtup2 {w:World} (x y:Nat) (k:Str) (i j:Int) (h:i=j) (hk:PyData.strOk k=true):Ct w 0 200 (.call (.builtin "tuple.__eq__") ⟨[.ref x,.ref y],[]⟩) [] [(x,tupO [.str k 0,.int i 0]),(y,tupO [.str k 0,.int j 0])] (β:=Unit) (fun _=>⟨.ret (.bool true),[],[],[]⟩) (fun _=>True):=by
  subst h; exact ct_eqtup x y k i hk
noncomputable def o_range_1:List Nat:=[0,0,1,1,0,1,1]
noncomputable def o_rit_1:List Nat:=[0,1,1,1,1]
noncomputable def o_pick_0_1:List Nat:=[0,1,1]
noncomputable def o_num_rc_1:List Nat:=[7,0,0,0,7,7,0,8]
noncomputable def o_num_pt_1:List Nat:=[9,0,0,0,9,9,0,10]
theorem ct_range {w:World} {b1 b2 b3:Bool} (hP:Rows w b1 b2 b3) (b:Nat) (hb:b < 7):Ct w 100 100 (.call (.type "range") ⟨[.int (Int.ofNat b) 0],[]⟩) [] [] (fun r:Nat=>⟨.ret (.ref r),[],[(r,rangeO b)],[]⟩) (fun _=>True):=by
  match b,hb with
  | 0,_ | 1,_ | 2,_ | 3,_ | 4,_ | 5,_ | 6,_ =>
    refine ct_start (tx:=tx0) (pre:=[]) (ro:=[]) (sup:=[]) hP tx0_ok (by decide) fun A' s R zs ta N C U D' hR=>?_;refine sg C 4000 o_range_1 ?_;intro _;exact finishC (Pd:=fun _=>True) trId D' hR (N+0) _ [] [0] (by kernel_rfl) (by kernel_rfl) rfl (by kernel_rfl) (by kernel_rfl) rfl Sup.nil (fun _ h=>nomatch h) rfl trivial
theorem ct_rit {w:World} {b1 b2 b3:Bool} (hP:Rows w b1 b2 b3) (r b:Nat) (hb:b < 7):Ct w 100 100 (.call (.builtin "range.__iter__") ⟨[.ref r],[]⟩) [] [(r,rangeO b)] (fun it:Nat=>⟨.ret (.ref it),[],[(it,rItO 0 b)],[]⟩) (fun _=>True):=by
  match b,hb with
  | 0,_ | 1,_ | 2,_ | 3,_ | 4,_ | 5,_ | 6,_ =>
    refine ct_start (tx:=tx0) (pre:=[]) (ro:=[(r,rangeO _)]) (sup:=[]) hP tx0_ok (by decide) fun A' s R zs ta N C U D' hR=>?_;refine sg C 4000 o_rit_1 ?_;intro _;exact finishC (Pd:=fun _=>True) trId D' hR (N+1) _ [] [1] (by kernel_rfl) (by kernel_rfl) rfl (by kernel_rfl) (by kernel_rfl) rfl Sup.nil (fun _ h=>nomatch h) rfl trivial
theorem ct_pick {w:World} {b1 b2 b3:Bool} (hP:Rows w b1 b2 b3) (a:Nat->Nat) (x b:Nat) (hb:b < 2):Ct w 100 100 (.call (.builtin "list.__getitem__") ⟨[.ref x,.int (Int.ofNat b) 0],[]⟩) [] [(x,listO [.ref (a 30),.ref (a 35)])] (fun _:Unit=>⟨.ret (.ref (tyA a (tb b))),[],[],[]⟩) (fun _=>True):=by
  rcases lt2 hb with rfl | rfl
  · refine ct_start (tx:=tx0) (pre:=[]) (ro:=[(x,listO [.ref (a 30),.ref (a 35)])]) (sup:=[]) hP tx0_ok (by decide) fun A' s R zs ta N C U D' hR=>?_;refine sg C 4000 o_pick_0_1 ?_;intro _;exact finishC (Pd:=fun _=>True) trId D' hR () [] [] [] (by kernel_rfl) (by kernel_rfl) rfl (by kernel_rfl) rfl rfl Sup.nil (fun _ h=>nomatch h) rfl trivial
  · refine ct_start (tx:=tx0) (pre:=[]) (ro:=[(x,listO [.ref (a 30),.ref (a 35)])]) (sup:=[]) hP tx0_ok (by decide) fun A' s R zs ta N C U D' hR=>?_;refine sg C 4000 o_pick_0_1 ?_;intro _;exact finishC (Pd:=fun _=>True) trId D' hR () [] [] [] (by kernel_rfl) (by kernel_rfl) rfl (by kernel_rfl) rfl rfl Sup.nil (fun _ h=>nomatch h) rfl trivial
theorem ct_num {w:World} {b1 b2 b3:Bool} (hP:Rows w b1 b2 b3) (a:Nat->Nat) (b:Nat) (hb:b < 2):Ct w 100 100 (.builtin "proto.getattr_hooked" ⟨[.ref (tyA a (tb b)),.str k_number 0],[]⟩) [] (w_ty a++[]) (fun _:Unit=>⟨.ret (.int (Int.ofNat (tyNo (tb b))) 0),[],[],[]⟩) (fun _=>True):=by
  rcases lt2 hb with rfl | rfl
  · refine ct_start (tx:=tx0) (pre:=[]) (ro:=w_ty a) (sup:=[]) hP tx0_ok (by decide) fun A' s R zs ta N C U D' hR=>?_;refine sg C 4000 o_num_rc_1 ?_;intro _;exact finishC (Pd:=fun _=>True) trId D' hR () [] [] [] (by kernel_rfl) (by kernel_rfl) rfl (by kernel_rfl) rfl rfl Sup.nil (fun _ h=>nomatch h) rfl trivial
  · refine ct_start (tx:=tx0) (pre:=[]) (ro:=w_ty a) (sup:=[]) hP tx0_ok (by decide) fun A' s R zs ta N C U D' hR=>?_;refine sg C 4000 o_num_pt_1 ?_;intro _;exact finishC (Pd:=fun _=>True) trId D' hR () [] [] [] (by kernel_rfl) (by kernel_rfl) rfl (by kernel_rfl) rfl rfl Sup.nil (fun _ h=>nomatch h) rfl trivial
noncomputable def nth:List Nat->Nat->Nat
  | [],_=>0
  | x::l,n=>match n with
    | 0=>x
    | n+1=>nth l n
noncomputable def lawFrE (a:Nat->Nat) (W:LW) (nm:Str) (t du:Nat) (S:Str) (er r n:Nat):FV->Obj
  | .v0=>frameO [(k_script,.ref W.sc),(k_state,.ref W.st),(k_types,.ref (a 6)),(k_record,.ref (a 30)),(k_pointer,.ref (a 35)),(k_pair,.ref (a 25)),(k_three,.ref (a 20)),(k_sorts,.ref W.so),(k_name,.str nm 0),(k_t,.ref t),(k_variable,.ref W.vo),(k_start,.ref W.sn),(k_due,.ref du),(k_said,.str S 0),(k_errors,.ref er),(k_rd,.ref r),(k_node,.ref n)]
  | .v1 go sp=>frameO [(k_script,.ref W.sc),(k_state,.ref W.st),(k_types,.ref (a 6)),(k_record,.ref (a 30)),(k_pointer,.ref (a 35)),(k_pair,.ref (a 25)),(k_three,.ref (a 20)),(k_sorts,.ref W.so),(k_name,.str nm 0),(k_t,.ref t),(k_variable,.ref W.vo),(k_start,.ref W.sn),(k_due,.ref du),(k_said,.str S 0),(k_go_of,.int (Int.ofNat go) 0),(k_spot_of,.int (Int.ofNat sp) 0),(k_errors,.ref er),(k_rd,.ref r),(k_node,.ref n)]
  | .v2 go sp fg=>frameO [(k_script,.ref W.sc),(k_state,.ref W.st),(k_types,.ref (a 6)),(k_record,.ref (a 30)),(k_pointer,.ref (a 35)),(k_pair,.ref (a 25)),(k_three,.ref (a 20)),(k_sorts,.ref W.so),(k_name,.str nm 0),(k_t,.ref t),(k_variable,.ref W.vo),(k_start,.ref W.sn),(k_due,.ref du),(k_said,.str S 0),(k_go_of,.int (Int.ofNat go) 0),(k_spot_of,.int (Int.ofNat sp) 0),(k_figure,.int (Int.ofNat fg) 0),(k_errors,.ref er),(k_rd,.ref r),(k_node,.ref n)]
theorem perm_nil' {α:Type} {B K2 d0 df tf all tl tl':List α} {hd hd':α} (h1:df.Perm (all++d0)) (h2:df=hd::tl) (h3:tf=hd'::tl'):(((B++K2)++d0)++(tf++all)).Perm ((B++(K2++[hd,hd']))++(tl++tl')):=by
  subst h2 h3;have e1:((B++(K2++[hd,hd']))++(tl++tl'))=(B++K2)++(hd::(hd'::(tl++tl'))):=by simp
  have e2:(((B++K2)++d0)++(hd'::tl'++all))=(B++K2)++(d0++(hd'::tl'++all)):=by simp
  rw [e1,e2];refine List.Perm.append_left _ ?_;have p1:(d0++((hd'::tl')++all)).Perm ((hd'::tl')++(all++d0)):=by
    refine (NT.perm_mid _ _ _).trans ?_;exact List.Perm.append_left _ List.perm_append_comm
  refine p1.trans ((List.Perm.append_left _ h1.symm).trans ?_);have p2:((hd'::tl')++(hd::tl)).Perm ((hd::tl)++(hd'::tl')):=List.perm_append_comm;refine p2.trans ?_;show (hd::(tl++(hd'::tl'))).Perm (hd::(hd'::(tl++tl')));exact List.Perm.cons _ List.perm_middle
theorem perm_cons' {α:Type} {B K2 d0 df tf all tl tl':List α} {hd hd':α} (h1:df.Perm (all++d0)) (h2:df=hd::tl) (h3:tf=hd'::tl'):((B++d0)++(tf++(K2++all))).Perm ((B++(K2++[hd,hd']))++(tl++tl')):=by
  refine List.Perm.trans ?_ (perm_nil' h1 h2 h3);rw [List.append_assoc,List.append_assoc,List.append_assoc];refine List.Perm.append_left _ ?_;refine (List.Perm.append_left _ (NT.perm_mid _ _ _)).trans ?_;exact NT.perm_mid _ _ _
theorem sup_ns {fr:Nat->Prop} {h:Heap} {ss:List Sl} {P ta td tab tdb:Nat} {allb ns junk:List (Nat×Obj)} (H:TokFin ss P ta td tab tdb allb ns junk) (S:Sup fr h allb):Sup fr h ns:=by
  cases ss with
  | nil=>obtain ⟨_,_,rfl⟩:=H; exact Sup.nil
  | cons s l=>exact (S.perm H).left.right
theorem sup_nil {fr:Nat->Prop} {h:Heap} {tf sall all:List (Nat×Obj)} (S:Sup fr h (tf++(sall++all))):Sup fr h (tf++all):=by
  have p:(tf++(sall++all)).Perm ((tf++all)++sall):=by
    rw [List.append_assoc];exact List.Perm.append_left _ List.perm_append_comm
  exact (S.perm p).left
theorem sup_cons {fr:Nat->Prop} {h:Heap} {tf sall all K2 ns junk:List (Nat×Obj)} (q:sall.Perm ((K2++ns)++junk)) (S:Sup fr h (tf++(sall++all))):Sup fr h (tf++(K2++all)):=by
  have p:(tf++(sall++all)).Perm ((tf++(K2++all))++(ns++junk)):=by
    rw [List.append_assoc];refine List.Perm.append_left _ ?_;refine (List.Perm.append_right _ q).trans ?_;rw [List.append_assoc,List.append_assoc,List.append_assoc];exact List.Perm.append_left _ ((List.append_assoc _ _ _ ▸ List.perm_append_comm:(ns++(junk++all)).Perm (all++(ns++junk))))
  exact (S.perm p).left
theorem mem_keys_app {l r:List (Nat×Obj)} {a:Nat}:a ∈ keys (l++r) ↔ a ∈ keys l∨a ∈ keys r:=by rw [keys_append,List.mem_append]
theorem At_of {S:Str} {l:List Nat} (h:S.cps.toList=l):At S 0 l:=⟨[],h,rfl⟩
theorem fv0_ok (b:Nat):fvOk .v0 (tb b)=true:=by unfold tb; cases pb b <;> rfl
theorem eq_perm {α:Type} {d t dtl ttl:List α} {dh th:α} (h1:t=th::ttl) (h2:d=dh::dtl):(t++d).Perm ([th,dh]++(dtl++ttl)):=by
  subst h1 h2;show (th::(ttl++dh::dtl)).Perm (th::dh::(dtl++ttl));refine List.Perm.cons _ ?_;exact List.perm_middle.trans (List.Perm.cons _ List.perm_append_comm)
theorem txts_le6:∀ ss:List Sl,(txts ss).length<=6*ss.length
  | []=>Nat.le_refl _
  | s::l=>by
    have h1:=txts_len_le s;have h2:=txts_le6 l;show (s.txt++txts l).length<=6*(l.length+1);rw [List.length_append]; omega
theorem txts_le (ss:List Sl) (h:ss.length<=7):(txts ss).length<=900:=by
  have:=txts_le6 ss
  omega
theorem look_led {T:LT} {i1 i2:Nat} {j:List Nat} {p q:Nat×Obj} {r:List (Nat×Obj)} (h1:lookA T [i1]=someA [p]) (h2:lookA T [i2]=someA [q]) (h3:lookA T j=someA r):lookA T (i1::i2::j)=someA (p::q::r):=
  look_append (i:=[i1]) h1 (look_append (i:=[i2]) h2 h3)
noncomputable def w_tyB (a:Nat->Nat):List (Nat×Obj):=[(a 15,instO 369 (a 16)),(a 16,o_it a),(a 20,instO 369 (a 21)),(a 21,o_th a),(a 25,instO 369 (a 26)),(a 26,o_pa a),(a 31,o_rc a),(a 36,o_pt a),
  (a 32,listO [.ref (a 40),.ref (a 42),.ref (a 44)]),(a 40,instO 390 (a 41)),(a 41,objD v_n v_field (a 15) v_empty 0),(a 42,instO 390 (a 43)),(a 43,objD v_m v_field (a 20) v_empty 0),(a 44,instO 390 (a 45)),(a 45,objD v_q v_field (a 35) v_empty 0)]
noncomputable def tdA (a:Nat->Nat) (b:Nat):Nat:=match pb b with
  | true=>a 36
  | false=>a 31
noncomputable def toA (a:Nat->Nat) (b:Nat):Nat:=match pb b with
  | true=>a 30
  | false=>a 35
noncomputable def toD (a:Nat->Nat) (b:Nat):Nat:=match pb b with
  | true=>a 31
  | false=>a 36
noncomputable def two (a:Nat->Nat):List (Nat×Obj):=[(a 30,instO 369 (a 31)),(a 35,instO 369 (a 36))]
noncomputable def twoB (a:Nat->Nat) (b:Nat):List (Nat×Obj):=[(tyA a (tb b),instO 369 (tdA a b)),(toA a b,instO 369 (toD a b))]
theorem two_perm (a:Nat->Nat) (b:Nat):(two a).Perm (twoB a b):=by
  unfold two twoB tdA toA toD tb
  cases pb b
  · exact List.Perm.refl _
  · exact List.Perm.swap _ _ _
theorem perm_two {α:Type} (P M Q:List α) (x y:α):(P++(x::(M++(y::Q)))).Perm ((P++(M++Q))++[x,y]):=by
  rw [List.append_assoc];refine List.Perm.append_left _ ?_;have p1:(M++(y::Q)).Perm (y::(M++Q)):=List.perm_middle;refine (List.Perm.cons x p1).trans ?_;show ([x,y]++(M++Q)).Perm ((M++Q)++[x,y]);exact List.perm_append_comm
theorem w_ty_perm (a:Nat->Nat):(w_ty a).Perm (w_tyB a++two a):=
  perm_two [(a 15,instO 369 (a 16)),(a 16,o_it a),(a 20,instO 369 (a 21)),(a 21,o_th a),(a 25,instO 369 (a 26)),(a 26,o_pa a)] [(a 31,o_rc a)]
    [(a 36,o_pt a),(a 32,listO [.ref (a 40),.ref (a 42),.ref (a 44)]),(a 40,instO 390 (a 41)),(a 41,objD v_n v_field (a 15) v_empty 0),(a 42,instO 390 (a 43)),(a 43,objD v_m v_field (a 20) v_empty 0),(a 44,instO 390 (a 45)),(a 45,objD v_q v_field (a 35) v_empty 0)] _ _
theorem ct_numB {w:World} {b1 b2 b3:Bool} (hP:Rows w b1 b2 b3) (a:Nat->Nat) (b:Nat) (hb:b < 2):Ct w 100 100 (.builtin "proto.getattr_hooked" ⟨[.ref (tyA a (tb b)),.str k_number 0],[]⟩) [] (w_tyB a++twoB a b) (fun _:Unit=>⟨.ret (.int (Int.ofNat (tyNo (tb b))) 0),[],[],[]⟩) (fun _=>True):=
  Ct.perm ((w_ty_perm a).trans (List.Perm.append_left _ (two_perm a b))) (Ct.cast (List.append_nil _) (ct_num hP a b hb))
theorem nodup_of {l:List Nat} (h:l.Nodup):l.Nodup:=h
theorem look_led3 {T:LT} {i1 i2 i3:Nat} {j:List Nat} {p q q':Nat×Obj} {r:List (Nat×Obj)} (h1:lookA T [i1]=someA [p]) (h2:lookA T [i2]=someA [q]) (h2':lookA T [i3]=someA [q']) (h3:lookA T j=someA r):lookA T (i1::i2::i3::j)=someA (p::q::q'::r):=
  look_append (i:=[i1]) h1 (look_append (i:=[i2]) h2 (look_append (i:=[i3]) h2' h3))
theorem frOf_iff {zs:Nat->Nz} {l:List (Nat×Obj)} {n b:Nat}:frOf (mkT zs 0 .nil l) n b ↔ b < n∧b ∉ keys l:=by
  constructor
  · intro h;refine ⟨h.1,fun hb=>?_⟩;obtain ⟨j,p,hj,e⟩:=mem_keys.mp hb;refine h.2 j p.1 (unO (zs j) p.2) ?_ e;rw [mkT_get zs l 0 .nil full_nil,if_neg (Nat.not_lt_zero _),Nat.sub_zero,hj]; rfl
  · intro h;exact sub_keys h.1 h.2
section
variable {w:World} {b1 b2 b3:Bool} {tx:Tx} {A:Around} {R:Result->Shared->Prop} {s:Shared} {fr:Nat->Prop} {h₀:Heap} {Dp Un:Nat}
theorem restartF {pre ro:List (Nat×Obj)} {zs₀:Nat->Nz} {N₀:Nat} (C:Cx w b1 b2 b3 Dp Un tx A fr h₀) (tr:Tr w (frOf (mkT zs₀ 0 .nil (pre++ro)) s.heap.objs.size) s.heap fr h₀)
    (D₀:Rep (ktop w.params) (frOf (mkT zs₀ 0 .nil (pre++ro)) s.heap.objs.size) s.heap (mkT zs₀ 0 .nil (pre++ro)) (pre++ro).length N₀ s.heap) {X:MS} (kept sup:List (Nat×Obj))
    (hro:lookO X.T (upto pre.length ro.length)=lookO (mkT zs₀ 0 .nil (pre++ro)) (upto pre.length ro.length))
    (idx jr:List Nat) (led supL:List (Nat×Obj)) (hl:lookA X.T idx=someA led) (hlr:(lookA X.T jr).map (·.map (·.1))=(keys ro).map some) (hn:(idx++jr).Nodup) (hs:Sup fr h₀ supL) (hge:∀ a ∈ keys supL,s.heap.objs.size<=a) (hperm:(led++supL).Perm (kept++sup))
    (x:∀ (zs:Nat->Nz) (N N₁:Nat) (h:Heap),Cx w b1 b2 b3 Dp Un tx A (frOf (mkT zs 0 .nil kept) h.objs.size) h->Tr w (frOf (mkT zs₀ 0 .nil (pre++[])) s.heap.objs.size) s.heap (frOf (mkT zs 0 .nil kept) h.objs.size) h->Sup (frOf (mkT zs 0 .nil kept) h.objs.size) h sup ->
      Rep (ktop w.params) (frOf (mkT zs₀ 0 .nil (pre++[])) s.heap.objs.size) s.heap (mkT zs₀ 0 .nil (pre++[])) (pre++[]).length N₁ s.heap ->
      GoodC w b1 b2 b3 tx A R s (frOf (mkT zs 0 .nil kept) h.objs.size) h ⟨X.pd,X.c,X.κ,X.t,mkT zs 0 .nil kept,kept.length,N,X.tk,[],[]⟩):GoodC w b1 b2 b3 tx A R s fr h₀ X:=by
  rw [List.append_nil] at x;refine ⟨?_⟩;intro h D;have D0:=tr _ _ _ _ D;have hn':=List.nodup_append.mp hn;have hall:HasAll h (kept++sup):=has_perm hperm (has_append.mpr ⟨look_has D hl,sup_has D hs⟩);have hnd:(keys (kept++sup)).Nodup:=(List.Perm.nodup_iff (hperm.map _)).mp (nodup_join D hl hn'.1 hs);have get0:∀ j p,(pre++ro)[j]? = some p->(mkT zs₀ 0 .nil (pre++ro)).get j=some (p.1,unO (zs₀ j) p.2):=fun j p e=>by
    rw [mkT_get zs₀ (pre++ro) 0 .nil full_nil,if_neg (Nat.not_lt_zero _),Nat.sub_zero,e]; rfl
  have roNow:∀ a ∈ keys ro,∃ j o,j ∈ jr∧X.T.get j=some (a,o):=by
    intro a ha;have hm:some a ∈ (keys ro).map some:=List.mem_map_of_mem ha;rw [<- hlr] at hm;obtain ⟨y,hy,e⟩:=List.mem_map.mp hm;have key:∀ (l:List Nat),y ∈ lookA X.T l->∃ j,j ∈ l∧y=(match X.T.get j with | some p=>some (p.1,erO p.2) | none=>none):=by
      intro l
      induction l with
      | nil=>intro h; cases h
      | cons i l ih =>
        intro h;cases h with
        | head=>exact ⟨i,.head _,rfl⟩
        | tail _ h=>obtain ⟨j,h1,h2⟩:=ih h; exact ⟨j,.tail _ h1,h2⟩
    obtain ⟨j,hj,rfl⟩:=key jr hy;cases hT:X.T.get j with
    | none=>rw [hT] at e; cases e
    | some p =>
      rw [hT] at e;have:p.1=a:=Option.some.inj e;exact ⟨j,p.2,hj,by rw [<- this]; first | exact hT | rfl⟩
  have hdis:∀ a ∈ keys (kept++sup),a ∉ keys ro:=by
    intro a ha hr;have ha':a ∈ keys (led++supL):=(hperm.map _).mem_iff.mpr ha;obtain ⟨j,o,hj,hT⟩:=roNow a hr;rw [keys_append,List.mem_append] at ha';rcases ha' with q | q
    · obtain ⟨i,p,hi,e⟩:=mem_keys.mp q;obtain ⟨j',o',h1,h2,_⟩:=look_get hl i p hi;rw [e] at h2;have:=D.inj _ _ _ _ _ hT h2;subst this;exact hn'.2.2 j (List.mem_of_getElem? h1) j hj rfl
    · exact (D.own j a o hT).2.2.2 (hs.fr a q)
  have hnf:∀ a ∈ keys (kept++sup),¬ frOf (mkT zs₀ 0 .nil pre) s.heap.objs.size a:=by
    intro a ha hfr;have ha':a ∈ keys (led++supL):=(hperm.map _).mem_iff.mpr ha;have hfr2:frOf (mkT zs₀ 0 .nil (pre++ro)) s.heap.objs.size a:=by
      rw [frOf_iff] at hfr ⊢;refine ⟨hfr.1,fun q=>?_⟩;rw [keys_append,List.mem_append] at q;exact q.elim hfr.2 (hdis a ha)
    rw [keys_append,List.mem_append] at ha';rcases ha' with q | q
    · exact ledger_not D0 hl a q hfr2
    · exact absurd hfr.1 (Nat.not_lt.mpr (hge a q))
  have hkeep:∀ b o,frOf (mkT zs₀ 0 .nil pre) s.heap.objs.size b->s.heap.get? b=some o->h.get? b=some o:=by
    intro b o q e
    by_cases hb:b ∈ keys ro
    · obtain ⟨k,p,hp,rfl⟩:=mem_keys.mp hb;have hkl:k < ro.length:=(List.getElem?_eq_some_iff.mp hp).1;have hget:=get0 (pre.length+k) p (by rw [List.getElem?_append_right (by omega),show pre.length+k - pre.length=k from by omega]; exact hp);have z1:=(D₀.own _ _ _ hget).2.1;have hmem:pre.length+k ∈ upto pre.length ro.length:=List.mem_of_getElem? (upto_get _ _ _ hkl);rw [<- lookO_get hro _ hmem] at hget;have z2:=(D0.own _ _ _ hget).2.1;rw [e] at z1;rw [z2,z1]
    · refine D0.keep b o ?_ e;rw [frOf_iff] at q ⊢;refine ⟨q.1,fun z=>?_⟩;rw [keys_append,List.mem_append] at z;exact z.elim q.2 hb
  obtain ⟨hk,hsp⟩:=has_append.mp hall;rw [keys_append] at hnd hnf hdis;have hnd':=List.nodup_append.mp hnd;obtain ⟨zs,hz⟩:=has_nz kept hk;have hle:=length_le_size kept hk hnd'.1;have hN:h.objs.size=(h.objs.size - kept.length)+kept.length:=by omega
  have D1:Rep (ktop w.params) (frOf (mkT zs 0 .nil kept) h.objs.size) h (mkT zs 0 .nil kept) kept.length (h.objs.size - kept.length) h:=rep_start hz hnd'.1 D.top hN;have big:661<=h.objs.size:=by have:=C.st.big; have:=D.grow; have:=D.size; omega
  have C':Cx w b1 b2 b3 Dp Un tx A (frOf (mkT zs 0 .nil kept) h.objs.size) h:=⟨C.rows,C.hh,C.dep,C.uni,⟨fun _ q=>q.1,C.st.ktlt,big⟩,C.tx,C.dp⟩;have U:Sup (frOf (mkT zs 0 .nil kept) h.objs.size) h sup:=⟨hsp,hnd'.2.1,fun a ha=>by
    obtain ⟨j,p,hj,e⟩:=mem_keys.mp ha;exact sub_keys (e ▸ (hsp.get hj).lt) fun q=>hnd'.2.2 a q a ha rfl⟩
  have hsz:s.heap.objs.size<=h.objs.size:=by have:=D0.grow; have:=D0.size; omega
  have tr':Tr w (frOf (mkT zs₀ 0 .nil pre) s.heap.objs.size) s.heap (frOf (mkT zs 0 .nil kept) h.objs.size) h:=by
    intro T'' m'' N'' h'' D'';refine ⟨D''.size,fun j a o e=>⟨(D''.own j a o e).1,(D''.own j a o e).2.1,(D''.own j a o e).2.2.1,fun q=>?_⟩,D''.inj,D''.top,fun b o q e=>D''.keep b o ?_ (hkeep b o q e),?_,D''.full⟩
    · by_cases hka:a ∈ keys kept
      · exact hnf a (List.mem_append_left _ hka) q
      · exact (D''.own j a o e).2.2.2 (sub_keys (Nat.lt_of_lt_of_le q.1 hsz) hka)
    · exact sub_keys (Nat.lt_of_lt_of_le q.1 hsz) fun hka=>hnf b (List.mem_append_left _ hka) q
    · have h1:=D''.grow
      omega
  have hz0:∀ j p,pre[j]? = some p->661<=p.1∧s.heap.get? p.1=some (unO (zs₀ j) p.2):=fun j p e=>by
    have hj:j < pre.length:=(List.getElem?_eq_some_iff.mp e).1;have z:=D₀.own _ _ _ (get0 j p (by rw [List.getElem?_append_left hj]; exact e));exact ⟨z.2.2.1,z.2.1⟩
  have hnp:(keys pre).Nodup:=by
    rw [List.nodup_iff_pairwise_ne,List.pairwise_iff_getElem];intro i i' hi hi' lt q;have hl1:i < pre.length:=by simpa [keys] using hi
    have hl2:i' < pre.length:=by simpa [keys] using hi'
    have g1:=get0 i pre[i] (by rw [List.getElem?_append_left hl1]; exact List.getElem?_eq_getElem hl1);have g2:=get0 i' pre[i'] (by rw [List.getElem?_append_left hl2]; exact List.getElem?_eq_getElem hl2);have q':pre[i].1=pre[i'].1:=by simpa [keys] using q
    rw [q'] at g1;have:=D₀.inj _ _ _ _ _ g1 g2
    omega
  have hlen:pre.length<=s.heap.objs.size:=by
    have h1:=D₀.size;rw [List.length_append] at h1
    omega
  have D2:=rep_start hz0 hnp D₀.top (N:=s.heap.objs.size - pre.length) (by omega);exact (x zs _ _ h C' tr' U D2).val h D1
end
noncomputable def adB (N_1:Nat) (b_2 b_3 b_4 b_6 b_7 b_8 b_5 b_14 b_13 b_9 b_11:Nat×Nat×Nat×Nat×Nat) (b_16 b_18 b_20:Nat×Nat):Nat->Nat:=nth [0,0,0,0,0,0,(N_1+6),(N_1+5),(N_1+8),b_2.1,b_3.1,b_4.1,b_6.1,b_7.1,b_8.1,b_5.1,b_5.2.1,b_5.2.2.1,b_5.2.2.2.1,b_5.2.2.2.2,b_14.1,b_14.2.1,b_14.2.2.1,b_14.2.2.2.1,b_14.2.2.2.2,b_13.1,b_13.2.1,b_13.2.2.1,b_13.2.2.2.1,b_13.2.2.2.2,b_9.1,b_9.2.1,b_9.2.2.1,b_9.2.2.2.1,b_9.2.2.2.2,b_11.1,b_11.2.1,b_11.2.2.1,b_11.2.2.2.1,b_11.2.2.2.2,b_16.1,b_16.2,b_18.1,b_18.2,b_20.1,b_20.2,0,0,0,0,0,0,0,0,0,0,0,0,0]
noncomputable def adD (N_1 N_29:Nat) (b_2 b_3 b_4 b_6 b_7 b_8 b_5 b_14 b_13 b_9 b_11:Nat×Nat×Nat×Nat×Nat) (b_16 b_18 b_20:Nat×Nat):Nat->Nat:=nth [0,0,(N_29+33),0,0,0,(N_1+6),(N_1+5),(N_1+8),b_2.1,b_3.1,b_4.1,b_6.1,b_7.1,b_8.1,b_5.1,b_5.2.1,b_5.2.2.1,b_5.2.2.2.1,b_5.2.2.2.2,b_14.1,b_14.2.1,b_14.2.2.1,b_14.2.2.2.1,b_14.2.2.2.2,b_13.1,b_13.2.1,b_13.2.2.1,b_13.2.2.2.1,b_13.2.2.2.2,b_9.1,b_9.2.1,b_9.2.2.1,b_9.2.2.2.1,b_9.2.2.2.2,b_11.1,b_11.2.1,b_11.2.2.1,b_11.2.2.2.1,b_11.2.2.2.2,b_16.1,b_16.2,b_18.1,b_18.2,b_20.1,b_20.2,0,0,0,0,0,0,0,0,0,0,0,0,0]
noncomputable def adR (N_1 N_29 N_31:Nat) (b_2 b_3 b_4 b_6 b_7 b_8 b_5 b_14 b_13 b_9 b_11:Nat×Nat×Nat×Nat×Nat) (b_16 b_18 b_20:Nat×Nat) (b_31:RB) (b_32:Nat×Nat):Nat->Nat:=nth [b_31.sc,b_31.scd,(N_29+33),b_31.wa,b_31.r,b_31.rd,(N_1+6),(N_1+5),(N_1+8),b_2.1,b_3.1,b_4.1,b_6.1,b_7.1,b_8.1,b_5.1,b_5.2.1,b_5.2.2.1,b_5.2.2.2.1,b_5.2.2.2.2,b_14.1,b_14.2.1,b_14.2.2.1,b_14.2.2.2.1,b_14.2.2.2.2,b_13.1,b_13.2.1,b_13.2.2.1,b_13.2.2.2.1,b_13.2.2.2.2,b_9.1,b_9.2.1,b_9.2.2.1,b_9.2.2.2.1,b_9.2.2.2.2,b_11.1,b_11.2.1,b_11.2.2.1,b_11.2.2.2.1,b_11.2.2.2.2,b_16.1,b_16.2,b_18.1,b_18.2,b_20.1,b_20.2,b_31.so,b_31.sod,b_31.stk,b_31.g,(N_31+49),(N_31+48),(N_31+51),(N_31+52),b_32.1,b_32.2,b_31.p1,b_31.p2,b_31.p3]
noncomputable def LawBC (w:World) (L sc:Nat) (l0:List Int):Prop:=Ct w 600 900 (lawCode w.params L) [(L,frameO [(k_script,.ref sc)])] ([(sc,rowO l0)]++[]) (fun b:Obj=>⟨.ret (.bool true),[b],[],[]⟩) (fun _=>True)
theorem law_code (P:Params) (L:Nat):lawCode P L = .func (bodyOf (lawCode P L)) (envOf (lawCode P L)):=by kernel_rfl
noncomputable def o_law_1:List Nat:=[1,2,2,2]
noncomputable def o_law_2:List Nat:=[1,1,0,0,0,0,0,0,0,0,0,0,0,0,0,0,0,0,0,0,0,0,0,0,0,0,0,0,0,7,0,7,0,0,0,0,1,0,8,8,8,7,0,0,0,0,7,0,7,0,7,0,0,0,7,0,6,6,6,8,7,0,0,0,0,7,0,7,0,7,0,0,0,7,0,6,6,6,8,7,0,0,0,7,0,0,0,7,0,0,0,0,7,6,0,1,0,0,10,10,10,10,10,10,10,10,10,10,10,7,0,0,0,0,7,0,0,0,7,7,0,6,0,7,0,0,0,0,7,0,7,0,7,0,0,0,7,0,6,6,6,0,10,7,0,0,0,0,7,0,0,0,7,7,0,6,10,10,0,0]
noncomputable def o_law_3:List Nat:=[10,10,10,10,11,0,0,0,0,11,0,11,0,11,0,0,0,11,0,12,12,12,10,10,11,0,0,0,0,11,0,11,0,11,0,0,0,11,0,12,12,12,10,0,10,8,7,0,0,0,0,7,0,7,0,7,0,0,0,7,0,6,6,6,8,7,0,0,0,7,0,0,0,7,0,0,0,0,7,6,0,1,0,0,14,14,14,14,14,14,14,14,14,14,14,7,0,0,0,0,7,0,0,0,7,7,0,6,0,7,0,0,0,0,7,0,7,0,7,0,0,0,7,0,6,6,6,0,14,7,0,0,0,0,7,0,0,0,7,7,0,6,14,14,0,0]
noncomputable def o_law_4:List Nat:=[14,14,14,14,15,0,0,0,0,15,0,15,0,15,0,0,0,15,0,16,16,16,14,14,15,0,0,0,0,15,0,15,0,15,0,0,0,15,0,16,16,16,14,0,14,8,7,0,0,0,0,7,0,7,0,7,0,0,0,7,0,6,6,6,8,7,0,0,0,7,0,0,0,7,0,0,0,0,7,6,0,1,0,0,18,18,18,18,18,18,18,18,18,18,18,7,0,0,0,0,7,0,0,0,7,7,0,6,0,7,0,0,0,0,7,0,7,0,7,0,0,0,7,0,6,6,6,0,18,7,0,0,0,0,7,0,0,0,7,7,0,6,18,18,0,0]
noncomputable def o_law_5:List Nat:=[18,18,18,18,19,0,0,0,0,19,0,19,0,19,0,0,0,19,0,20,20,20,18,18,19,0,0,0,0,19,0,19,0,19,0,0,0,19,0,20,20,20,18,0,18,8,7,0,0,0,0,7,0,7,0,7,0,0,0,7,0,6,6,6,8,7,0,0,0,7,0,0,0,7,0,0,0,0,7,6,0,1,0,0,22,22,22,22,22,22,22,22,22,22,22,7,0,0,0,0,7,0,0,0,7,7,0,6,0,7,0,0,0,0,7,0,7,0,7,0,0,0,7,0,6,6,6,0,22,7,0,0,0,0,7,0,0,0,7,7,0,6,22,22,0,0]
noncomputable def o_law_6:List Nat:=[22,22,22,22,23,0,0,0,0,23,0,23,0,23,0,0,0,23,0,24,24,24,22,22,23,0,0,0,0,23,0,23,0,23,0,0,0,23,0,24,24,24,22,0,22,8,7,0,0,0,0,7,0,7,0,7,0,0,0,7,0,6,6,6,8,7,0,0,0,7,0,0,0,7,0,0,0,0,7,6,0,1,0,0,26,26,26,26,26,26,26,26,26,26,26,7,0,0,0,0,7,0,0,0,7,7,0,6,0,7,0,0,0,0,7,0,7,0,7,0,0,0,7,0,6,6,6,0,26,7,0,0,0,0,7,0,0,0,7,7,0,6,26,26,0,0]
noncomputable def o_law_7:List Nat:=[26,26,26,26,27,0,0,0,0,27,0,27,0,27,0,0,0,27,0,28,28,28,26,26,27,0,0,0,0,27,0,27,0,27,0,0,0,27,0,28,28,28,26,0,26,8,7,0,0,0,0,7,0,7,0,7,0,0,0,7,0,6,6,6,8,7,0,0,0,7,0,0,0,7,0,0,0,0,7,6,0,1,0,0,30,30,30,30,30,30,30,30,30,30,30,7,0,0,0,0,7,0,0,0,7,7,0,6,0,7,0,0,0,0,7,0,7,0,7,0,0,0,7,0,6,6,6,0,30,7,0,0,0,0,7,0,0,0,7,7,0,6,30,30,0,0]
noncomputable def o_law_8:List Nat:=[30,30,30,30,31,0,0,0,0,31,0,31,0,31,0,0,0,31,0,32,32,32,30,30,31,0,0,0,0,31,0,31,0,31,0,0,0,31,0,32,32,32,30,0,30,8,7,0,0,0,0,7,0,7,0,7,0,0,0,7,0,6,6,6,8,7,0,0,0,7,0,0,0,7,0,0,0,0,7,6,0,1,0,0,34,34,34,34,34,34,34,34,34,34,34,7,0,0,0,0,7,0,0,0,7,7,0,6,0,7,0,0,0,0,7,0,7,0,7,0,0,0,7,0,6,6,6,0,34,7,0,0,0,0,7,0,0,0,7,7,0,6,34,34,0,0]
noncomputable def o_law_9:List Nat:=[34,34,34,34,35,0,0,0,0,35,0,35,0,35,0,0,0,35,0,36,36,36,34,34,35,0,0,0,0,35,0,35,0,35,0,0,0,35,0,36,36,36,34,0,34,8,7,0,0,0,0,7,0,7,0,7,0,0,0,7,0,6,6,6,1,1,1,7,0,0,0,7,0,0,0,7,0,0,0,0,7,6,0,1,0,0,38,38,38,38,38,38,38,38,38,38,38,7,0,0,0,0,7,0,0,0,7,7,0,6,0,7,0,0,0,0,7,0,7,0,7,0,0,0,7,0,6,6,6,0,38,7,0,0,0,0,7,0,0,0,7,7,0,6,38,38,0,0]
noncomputable def o_law_10:List Nat:=[38,38,38,38,39,0,0,0,0,39,0,39,0,39,0,0,0,39,0,40,40,40,38,38,39,0,0,0,0,39,0,39,0,39,0,0,0,39,0,40,40,40,38,0,38,38,7,0,0,0,0,7,0,0,0,7,7,0,6,38,38,9,9]
noncomputable def o_law_11:List Nat:=[38,1,1,1,7,0,0,0,7,0,0,0,7,0,0,0,0,7,6,0,1,0,0,43,43,43,43,43,43,43,43,43,43,43,7,0,0,0,0,7,0,0,0,7,7,0,6,0,7,0,0,0,0,7,0,7,0,7,0,0,0,7,0,6,6,6,0,43,7,0,0,0,0,7,0,0,0,7,7,0,6,43,43,0,0]
noncomputable def o_law_12:List Nat:=[43,43,43,43,44,0,0,0,0,44,0,44,0,44,0,0,0,44,0,45,45,45,43,43,44,0,0,0,0,44,0,44,0,44,0,0,0,44,0,45,45,45,43,0,43,43,7,0,0,0,0,7,0,0,0,7,7,0,6,43,43,9,9]
noncomputable def o_law_13:List Nat:=[43,1,1,1,1,44,0,0,0,0,44,0,44,0,44,0,0,0,44,0,45,45,45,1,7,0,0,0,7,0,0,0,7,0,0,0,0,7,6,0,1,0,0,48,48,48,48,48,48,48,48,48,48,48,7,0,0,0,0,7,0,0,0,7,7,0,6,0,7,0,0,0,0,7,0,7,0,7,0,0,0,7,0,6,6,6,0,48,7,0,0,0,0,7,0,0,0,7,7,0,6,48,48,0,0]
noncomputable def o_law_14:List Nat:=[48,48,48,48,49,0,0,0,0,49,0,49,0,49,0,0,0,49,0,50,50,50,48,48,49,0,0,0,0,49,0,49,0,49,0,0,0,49,0,50,50,50,48,0,48,1,1,1,7,0,0,0,0,7,0,0,0,7,7,0,6,1,49,0,0,0,0,49,0,49,0,49,0,0,0,49,0,50,50,50,1,49,0,0,0,0,49,0,49,0,49,0,0,0,49,0,50,50,50,1,7,0,0,0,7,0,0,0,7,0,0,0,0,7,6,0,1,0,0,52,52,52,52,52,52,52,52,52,52,52,7,0,0,0,0,7,0,0,0,7,7,0,6,0,7,0,0,0,0,7,0,7,0,7,0,0,0,7,0,6,6,6,0,52,7,0,0,0,0,7,0,0,0,7,7,0,6,52,52,0,0]
noncomputable def o_law_15:List Nat:=[52,52,52,52,53,0,0,0,0,53,0,53,0,53,0,0,0,53,0,54,54,54,52,52,53,0,0,0,0,53,0,53,0,53,0,0,0,53,0,54,54,54,52,0,52,1,1,1,1,53,0,0,0,0,53,0,53,0,53,0,0,0,53,0,54,54,54,1,53,0,0,0,0,53,0,53,0,53,0,0,0,53,0,54,54,54,1,7,0,0,0,0,7,0,0,0,7,7,0,6,1,1,0,56,56,56,56,0,56,56,56,56,0,56,56,56,56,1,1,0,57,0,57,0,57,57,57,57,57,1,1,1,39,0,0,0,0,39,0,0,0,39,39,0,40,41,41,41,41,0,1,1,1,56,56,56]
noncomputable def o_law_16:List Nat:=[0,0]
noncomputable def o_law_17:List Nat:=[0,41,41,41,41,0,57,0,57,57,57,57,57,1,1,1,39,0,0,0,0,39,0,0,0,39,39,0,40,41,41,41,41,0,1,1,1,56,56,56]
noncomputable def o_law_21:List Nat:=[0,41,41,41,41,0,57,0,57,57,57,57,57,65,1,1,0,1,0]
noncomputable def o_law_22:List Nat:=[66,66,66]
noncomputable def o_law_23:List Nat:=[0,1,1,0,1,0,0]
noncomputable def o_law_24:List Nat:=[1,1,0,1,1,0,0]
noncomputable def o_law_25:List Nat:=[1,1,1,27,0,0,0]
noncomputable def o_law_26:List Nat:=[1,1,1,1,0,0,0,1,0]
noncomputable def o_law_27:List Nat:=[]
noncomputable def o_law_28:List Nat:=[31,31]
noncomputable def o_law_29:List Nat:=[32]
noncomputable def o_law_30:List Nat:=[0,0,0,0,0,0,0,0,0,0,0,0,0,0,0,0,0,0,0,0,0,0,0,0,0,0,0,34,0,34,0,0,0,0,1,0,35,35,35,34,0,0,0,0,34,0,34,0,34,0,0,0,34,0,33,33,33,35,34,0,0,0,0,34,0,34,0,34,0,0,0,34,0,33,33,33,1,1,0,1]
noncomputable def o_law_31:List Nat:=[1,1,0,0]
noncomputable def o_law_32:List Nat:=[1,1,1,38,0,0,0,0,38,0,0,0,38,38,0,39,45,0,0,0,45,0,0,0,45,0,0,0,0,45,46,0,1,0,48,48,48,48,0,48,45,0,0,0,0,45,0,0,0,45,45,0,46,0,48,0,0,0,0,0,0,0,0,0,0,0,0,0,0,0,0,0,0,0,0,0,0,0,0,0,0,0,0,0,0,0,50,0,50,0,0,0,0,1,0,51,51,51,51,51,51,51,51,50,0,0,0,0,50,0,50,0,50,0,0,0,50,0,49,49,49,51,51,50,0,0,0,0,50,0,50,0,50,0,0,0,50,0,49,49,49,51,50,0,0,0,0,50,0,50,0,50,0,0,0,50,0,49,49,49,51,50,0,0,0,0,50,0,50,0,50,0,0,0,50,0,49,49,49,51,50,0,0,0,0,50,0,50,0,50,0,0,0,50,0,49,49,49,48,48,48,45,0,0,0,0,45,0,0,0,45,45,0,46,47,47,47,47,48,0,47,47,47,47,48,50,0,0,0,0,50,0,0,0,50,50,0,49,48,45,0,0,0,0,45,0,45,0,45,0,0,0,45,0,46,46,46,48,0,1,38,0,0,0,0,38,0,0,0,38,38,0,39,45,0,0,0,45,0,0,0,45,0,0,0,0,45,46,1,0,1,0,54,54,54,54,54,54,54,54,54,54,0,54,54,54,54,0,0]
noncomputable def o_law_33:List Nat:=[54,54,0,0,54,45,0,0,0,0,45,0,0,0,45,45,0,46,0,57,57,0,57,58,59,58,0,58,58,58,57,58,58,59,59,59,59,58,0,58,58,58,57,58,58,0,59,58,0,58,58,58,57,58,58,61,59,59,59,54,55,0,0,0,0,55,0,55,0,55,0,0,0,55,0,56,56,56,54,45,0,0,0,0,45,0,0,0,45,45,0,46,0,54,45,0,0,0,0,45,0,0,0,45,45,0,46,54,55,0,0,0,0,55,0,55,0,55,0,0,0,55,0,56,56,56,54,45,0,0,0,45,0,0,0,45,0,0,0,0,45,46,54,0,1,0,62,62,62,62,62,45,0,0,0,0,45,0,0,0,45,45,0,46,0,47,47,47,0,47,47,0,62,62,62,55,0,0,0,0,55,0,0,0,55,55,0,56,62,50,0,0,0,0,50,0,0,0,50,50,0,49,52,52,0,52,0,52,62,62,50,0,0,0,0,50,0,0,0,50,50,0,49,62,55,0,0,0,0,55,0,0,0,55,55,0,56,52,52,0,52,52,0,52,52,52,52,62,50,0,0,0,0,50,0,0,0,50,50,0,49,53,53,53,53,62,0,53,53,53,53,62,55,0,0,0,0,55,0,0,0,55,55,0,56,0,62,55,0,0,0,0,55,0,0,0,55,55,0,56,0,54,0,0,1,1,0,0]
noncomputable def o_law_34:List Nat:=[1,1,0,1,0]
noncomputable def o_law_35:List Nat:=[1,10,9,10]
noncomputable def o_law_36:List Nat:=[1,2,0,0,0,0,2,0,0,0,2,2,0,3,4,11,4]
noncomputable def o_law_37:List Nat:=[1,5,0,0,0,0,5,0,0,0,5,5,0,6,7,0,0,0,0,7,0,0,0,7,7,0,8,0,1,5,0,0,0,0,5,0,0,0,5,5,0,6,7,0,0,0,0,7,0,0,0,7,7,0,8,0,0,0,1]
noncomputable def o_law_38:List Nat:=[0,12,13,12]
theorem law_body {w:World} {b1 b2 b3:Bool} (hP:Rows w b1 b2 b3) (L sc:Nat) (l0:List Int) (hl0:l0.length < 1000):LawBC w L sc l0:=by
  unfold LawBC
  rw [law_code];refine ct_startF (tx:=tx0) (pre:=[(L,frameO [(k_script,.ref sc)])]) (ro:=[(sc,rowO l0)]) (sup:=[]) hP tx0_ok (by decide) (by decide) fun A' s R zs N C U D' hR=>?_;refine sg C 20000 o_law_1 ?_;intro _;have K_1:=sN s R C trId [(sc,rowO l0),((N+2),sliceO 40)] (ct_slice40 l0 sc (N+2) hl0) [] [1,2];refine K_1 (hl2:=by exact (look_append (i:=[1]) (j:=[2]) (look_row (zs 1) (by kernel_rfl)) (by kernel_rfl))) ?_;rintro b_1 _ _ zn_1 N_1 _ _ _ C_1 tr_1 _ _ _ _;have hl40:(l0.take 40).length < 100:=Nat.lt_of_le_of_lt (List.length_take_le _ _) (by decide);refine sg C_1 20000 o_law_2 ?_;intro _;have K_2:=sN s R C_1 tr_1 [] (mk_type hP 1 1 (⟨⟨[98,111,111,108,101,97,110]⟩⟩:Str)) [] [];refine K_2 ?_;rintro b_2 _ _ _ _ _ _ _ C_2 tr_2 _ _ _ _;refine sg C_2 20000 o_law_3 ?_;intro _;have K_3:=sN s R C_2 tr_2 [] (mk_type hP 2 1 (⟨⟨[99,104,97,114]⟩⟩:Str)) [] [];refine K_3 ?_;rintro b_3 _ _ _ _ _ _ _ C_3 tr_3 _ _ _ _;refine sg C_3 20000 o_law_4 ?_;intro _;have K_4:=sN s R C_3 tr_3 [] (mk_type hP 3 1 (⟨⟨[98,121,116,101]⟩⟩:Str)) [] [];refine K_4 ?_;rintro b_4 _ _ _ _ _ _ _ C_4 tr_4 _ _ _ _;refine sg C_4 20000 o_law_5 ?_;intro _;have K_5:=sN s R C_4 tr_4 [] (mk_type hP 4 4 (⟨⟨[105,110,116,101,103,101,114]⟩⟩:Str)) [] [];refine K_5 ?_;rintro b_5 _ _ _ _ _ _ _ C_5 tr_5 _ _ _ _;refine sg C_5 20000 o_law_6 ?_;intro _;have K_6:=sN s R C_5 tr_5 [] (mk_type hP 5 4 (⟨⟨[115,101,116]⟩⟩:Str)) [] [];refine K_6 ?_;rintro b_6 _ _ _ _ _ _ _ C_6 tr_6 _ _ _ _;refine sg C_6 20000 o_law_7 ?_;intro _;have K_7:=sN s R C_6 tr_6 [] (mk_type hP 6 4 (⟨⟨[110,105,108]⟩⟩:Str)) [] [];refine K_7 ?_;rintro b_7 _ _ _ _ _ _ _ C_7 tr_7 _ _ _ _;refine sg C_7 20000 o_law_8 ?_;intro _;have K_8:=sN s R C_7 tr_7 [] (mk_type hP 7 0 (⟨⟨[110,111,110,101]⟩⟩:Str)) [] [];refine K_8 ?_;rintro b_8 _ _ _ _ _ _ _ C_8 tr_8 _ _ _ _;refine sg C_8 20000 o_law_9 ?_;intro _;have K_9:=sN s R C_8 tr_8 [] (mk_type hP 8 36 (⟨⟨[114,101,99,111,114,100]⟩⟩:Str)) [] [];refine K_9 ?_;rintro b_9 _ _ _ N_9 _ _ _ C_9 tr_9 _ _ _ _;refine sg C_9 20000 o_law_10 ?_;intro _;have K_10:=sN s R C_9 tr_9 [((N_9+41),tupO [.str v_M 0,.str v_R 0])] (ct_tupset0 (N_1+8) (N_9+41) b_9.1 v_M v_R) [8] [41];refine K_10 ?_;rintro _ _ _ _ _ _ _ _ C_10 tr_10 _ _ _ _;refine sg C_10 20000 o_law_11 ?_;intro _;have K_11:=sN s R C_10 tr_10 [] (mk_type hP 9 4 (⟨⟨[112,111,105,110,116,101,114]⟩⟩:Str)) [] [];refine K_11 ?_;rintro b_11 _ _ _ N_11 _ _ _ C_11 tr_11 _ _ _ _;refine sg C_11 20000 o_law_12 ?_;intro _;have K_12:=sN s R C_11 tr_11 [((N_11+46),tupO [.str v_M 0,.str v_P 0]),((N_9+41),tupO [.str v_M 0,.str v_R 0])] (ct_tupset1 (N_1+8) (N_11+46) b_11.1 (N_9+41) b_9.1 v_M v_P v_M v_R (by decide)) [8] [46,41];refine K_12 ?_;rintro _ _ _ _ _ _ _ _ C_12 tr_12 _ _ _ _;refine sg C_12 20000 o_law_13 ?_;intro _;have K_13:=sN s R C_12 tr_12 [] (mk_type hP 10 8 (⟨⟨[97,114,114,97,121]⟩⟩:Str)) [] [];refine K_13 ?_;rintro b_13 _ _ _ _ _ _ _ C_13 tr_13 _ _ _ _;refine sg C_13 20000 o_law_14 ?_;intro _;have K_14:=sN s R C_13 tr_13 [] (mk_type hP 11 24 (⟨⟨[97,114,114,97,121]⟩⟩:Str)) [] [];refine K_14 ?_;rintro b_14 _ _ _ N_14 _ _ _ C_14 tr_14 _ _ _ _;refine sg C_14 20000 o_law_15 ?_;intro _;have K_15:=sN s R C_14 tr_14 [((N_14+55),dictO [(v_n,.ref b_5.1),(v_m,.ref b_14.1),(v_q,.ref b_11.1)])] (ct_dictget [(v_n,.ref b_5.1),(v_m,.ref b_14.1),(v_q,.ref b_11.1)] v_n (.ref b_5.1) (N_14+55) rfl rfl) [] [55];refine K_15 ?_;rintro _ _ _ _ _ _ _ _ C_15 tr_15 _ _ _ _;refine sg C_15 20000 o_law_16 ?_;intro _;have K_16:=sN s R C_15 tr_15 [] (mk_obj hP v_n v_field b_5.1) [] [];refine K_16 ?_;rintro b_16 _ _ _ _ _ _ _ C_16 tr_16 _ _ _ _;refine sg C_16 20000 o_law_17 ?_;intro _;have K_17:=sN s R C_16 tr_16 [((N_14+55),dictO [(v_n,.ref b_5.1),(v_m,.ref b_14.1),(v_q,.ref b_11.1)])] (ct_dictget [(v_n,.ref b_5.1),(v_m,.ref b_14.1),(v_q,.ref b_11.1)] v_m (.ref b_14.1) (N_14+55) rfl rfl) [] [55];refine K_17 ?_;rintro _ _ _ _ _ _ _ _ C_17 tr_17 _ _ _ _;refine sg C_17 20000 o_law_16 ?_;intro _;have K_18:=sN s R C_17 tr_17 [] (mk_obj hP v_m v_field b_14.1) [] [];refine K_18 ?_;rintro b_18 _ _ _ _ _ _ _ C_18 tr_18 _ _ _ _;refine sg C_18 20000 o_law_17 ?_;intro _;have K_19:=sN s R C_18 tr_18 [((N_14+55),dictO [(v_n,.ref b_5.1),(v_m,.ref b_14.1),(v_q,.ref b_11.1)])] (ct_dictget [(v_n,.ref b_5.1),(v_m,.ref b_14.1),(v_q,.ref b_11.1)] v_q (.ref b_11.1) (N_14+55) rfl rfl) [] [55];refine K_19 ?_;rintro _ _ _ _ _ _ _ _ C_19 tr_19 _ _ _ _;refine sg C_19 20000 o_law_16 ?_;intro _;have K_20:=sN s R C_19 tr_19 [] (mk_obj hP v_q v_field b_11.1) [] [];refine K_20 ?_;rintro b_20 _ _ _ N_20 _ _ _ C_20 tr_20 _ _ _ _;refine sg C_20 20000 o_law_21 ?_;intro _;have K_21:=sN s R C_20 tr_20 [(b_1,rowO (l0.take 40))] (tk_call hP (N_1+4) b_1 (l0.take 40) hl40 0 2 (by decide) (by decide) (by decide)) [4] [3];refine K_21 (hl2:=by exact (look_row (zn_1 3) (by kernel_rfl))) ?_;rintro b_21 _ _ _ _ _ _ _ C_21 tr_21 _ _ pd_21 _;refine sg C_21 20000 o_law_22 ?_;intro _;have K_22:=sN s R C_21 tr_21 [((N_20+65),listO [.ref ((adB N_1 b_2 b_3 b_4 b_6 b_7 b_8 b_5 b_14 b_13 b_9 b_11 b_16 b_18 b_20) 30),.ref ((adB N_1 b_2 b_3 b_4 b_6 b_7 b_8 b_5 b_14 b_13 b_9 b_11 b_16 b_18 b_20) 35)])] (ct_pick hP (adB N_1 b_2 b_3 b_4 b_6 b_7 b_8 b_5 b_14 b_13 b_9 b_11 b_16 b_18 b_20) (N_20+65) b_21 pd_21) [] [65];refine K_22 ?_;rintro _ _ _ _ _ _ _ _ C_22 tr_22 _ _ _ _;refine sg C_22 20000 o_law_23 ?_;intro _;have K_23:=sN s R C_22 tr_22 [] (mk_obj hP v_v v_var (tyA (adB N_1 b_2 b_3 b_4 b_6 b_7 b_8 b_5 b_14 b_13 b_9 b_11 b_16 b_18 b_20) (tb b_21))) [] [];refine K_23 ?_;rintro b_23 _ _ _ N_23 _ _ _ C_23 tr_23 _ _ _ _;refine sg C_23 20000 o_law_24 ?_;intro _;have K_24:=sN s R C_23 tr_23 [] (mk_node hP v_var 1 (tyA (adB N_1 b_2 b_3 b_4 b_6 b_7 b_8 b_5 b_14 b_13 b_9 b_11 b_16 b_18 b_20) (tb b_21)) (N_23+68) b_23.1) [] [];refine K_24 ?_;rintro b_24 _ _ _ _ _ _ _ C_24 tr_24 _ _ _ _;refine restartF C_24 tr_24 D' (([(L,frameO [(k_script,.ref sc),(k_state,.ref (N_1+4)),(k_types,.ref (N_1+6)),(k_record,.ref b_9.1),(k_pointer,.ref b_11.1),(k_pair,.ref b_13.1),(k_three,.ref b_14.1),(k_sorts,.ref (N_14+55)),(k_name,.str v_q 0),(k_t,.ref (tyA (adB N_1 b_2 b_3 b_4 b_6 b_7 b_8 b_5 b_14 b_13 b_9 b_11 b_16 b_18 b_20) (tb b_21))),(k_variable,.ref b_23.1)]),(b_1,rowO (l0.take 40)),((N_1+4),stO b_1 1),((N_1+5),typesD (adB N_1 b_2 b_3 b_4 b_6 b_7 b_8 b_5 b_14 b_13 b_9 b_11 b_16 b_18 b_20)),((N_1+6),instO 426 (N_1+5)),((N_14+55),dictO [(v_n,.ref b_5.1),(v_m,.ref b_14.1),(v_q,.ref b_11.1)])]++w_tyB (adB N_1 b_2 b_3 b_4 b_6 b_7 b_8 b_5 b_14 b_13 b_9 b_11 b_16 b_18 b_20)++[(b_23.1,instO 390 b_23.2),(b_23.2,objD v_v v_var (tyA (adB N_1 b_2 b_3 b_4 b_6 b_7 b_8 b_5 b_14 b_13 b_9 b_11 b_16 b_18 b_20) (tb b_21)) v_empty 0),((N_23+68),listO []),(b_24.1,instO 39 b_24.2),(b_24.2,nodD v_var 1 (tyA (adB N_1 b_2 b_3 b_4 b_6 b_7 b_8 b_5 b_14 b_13 b_9 b_11 b_16 b_18 b_20) (tb b_21)) (N_23+68) (.ref b_23.1))])++twoB (adB N_1 b_2 b_3 b_4 b_6 b_7 b_8 b_5 b_14 b_13 b_9 b_11 b_16 b_18 b_20) b_21) [] (by kernel_rfl) [0,3,4,5,6,55,22,23,52,53,48,49,39,44,40,57,58,59,60,61,62,66,67,68,69,70,38,43] [1] (([(L,frameO [(k_script,.ref sc),(k_state,.ref (N_1+4)),(k_types,.ref (N_1+6)),(k_record,.ref b_9.1),(k_pointer,.ref b_11.1),(k_pair,.ref b_13.1),(k_three,.ref b_14.1),(k_sorts,.ref (N_14+55)),(k_name,.str v_q 0),(k_t,.ref (tyA (adB N_1 b_2 b_3 b_4 b_6 b_7 b_8 b_5 b_14 b_13 b_9 b_11 b_16 b_18 b_20) (tb b_21))),(k_variable,.ref b_23.1)]),(b_1,rowO (l0.take 40)),((N_1+4),stO b_1 1),((N_1+5),typesD (adB N_1 b_2 b_3 b_4 b_6 b_7 b_8 b_5 b_14 b_13 b_9 b_11 b_16 b_18 b_20)),((N_1+6),instO 426 (N_1+5)),((N_14+55),dictO [(v_n,.ref b_5.1),(v_m,.ref b_14.1),(v_q,.ref b_11.1)])]++w_tyB (adB N_1 b_2 b_3 b_4 b_6 b_7 b_8 b_5 b_14 b_13 b_9 b_11 b_16 b_18 b_20)++[(b_23.1,instO 390 b_23.2),(b_23.2,objD v_v v_var (tyA (adB N_1 b_2 b_3 b_4 b_6 b_7 b_8 b_5 b_14 b_13 b_9 b_11 b_16 b_18 b_20) (tb b_21)) v_empty 0),((N_23+68),listO []),(b_24.1,instO 39 b_24.2),(b_24.2,nodD v_var 1 (tyA (adB N_1 b_2 b_3 b_4 b_6 b_7 b_8 b_5 b_14 b_13 b_9 b_11 b_16 b_18 b_20) (tb b_21)) (N_23+68) (.ref b_23.1))])++two (adB N_1 b_2 b_3 b_4 b_6 b_7 b_8 b_5 b_14 b_13 b_9 b_11 b_16 b_18 b_20)) [] (look_led (by kernel_rfl) (look_row (zn_1 3) (by kernel_rfl)) (by kernel_rfl)) (by kernel_rfl) (by decide) Sup.nil (fun _ h=>nomatch h) (List.Perm.append_right [] (List.Perm.append_left _ (two_perm (adB N_1 b_2 b_3 b_4 b_6 b_7 b_8 b_5 b_14 b_13 b_9 b_11 b_16 b_18 b_20) b_21))) ?_;intro zsA NA N1 hA CA trA UA D2;refine sg CA 20000 o_law_25 ?_;intro _;have K_25:=sN s R CA trA (w_tyB (adB N_1 b_2 b_3 b_4 b_6 b_7 b_8 b_5 b_14 b_13 b_9 b_11 b_16 b_18 b_20)++twoB (adB N_1 b_2 b_3 b_4 b_6 b_7 b_8 b_5 b_14 b_13 b_9 b_11 b_16 b_18 b_20) b_21) (ct_numB hP (adB N_1 b_2 b_3 b_4 b_6 b_7 b_8 b_5 b_14 b_13 b_9 b_11 b_16 b_18 b_20) b_21 pd_21) [] [6,7,8,9,10,11,12,13,14,15,16,17,18,19,20,26,27];refine K_25 ?_;rintro _ _ _ _ _ _ _ _ C_25 tr_25 _ _ _ _;refine restart C_25 tr_25 (([(L,frameO [(k_script,.ref sc),(k_state,.ref (N_1+4)),(k_types,.ref (N_1+6)),(k_record,.ref b_9.1),(k_pointer,.ref b_11.1),(k_pair,.ref b_13.1),(k_three,.ref b_14.1),(k_sorts,.ref (N_14+55)),(k_name,.str v_q 0),(k_t,.ref (tyA (adB N_1 b_2 b_3 b_4 b_6 b_7 b_8 b_5 b_14 b_13 b_9 b_11 b_16 b_18 b_20) (tb b_21))),(k_variable,.ref b_23.1),(k_start,.ref b_24.1)]),(b_1,rowO (l0.take 40)),((N_1+4),stO b_1 1),((N_1+5),typesD (adB N_1 b_2 b_3 b_4 b_6 b_7 b_8 b_5 b_14 b_13 b_9 b_11 b_16 b_18 b_20)),((N_1+6),instO 426 (N_1+5)),((N_14+55),dictO [(v_n,.ref b_5.1),(v_m,.ref b_14.1),(v_q,.ref b_11.1)])]++w_tyB (adB N_1 b_2 b_3 b_4 b_6 b_7 b_8 b_5 b_14 b_13 b_9 b_11 b_16 b_18 b_20)++[(b_23.1,instO 390 b_23.2),(b_23.2,objD v_v v_var (tyA (adB N_1 b_2 b_3 b_4 b_6 b_7 b_8 b_5 b_14 b_13 b_9 b_11 b_16 b_18 b_20) (tb b_21)) v_empty 0),((N_23+68),listO []),(b_24.1,instO 39 b_24.2),(b_24.2,nodD v_var 1 (tyA (adB N_1 b_2 b_3 b_4 b_6 b_7 b_8 b_5 b_14 b_13 b_9 b_11 b_16 b_18 b_20) (tb b_21)) (N_23+68) (.ref b_23.1))])++two (adB N_1 b_2 b_3 b_4 b_6 b_7 b_8 b_5 b_14 b_13 b_9 b_11 b_16 b_18 b_20)) [] ⟨[0,1,2,3,4,5,6,7,8,9,10,11,12,13,14,15,16,17,18,19,20,21,22,23,24,25,26,27],([(L,frameO [(k_script,.ref sc),(k_state,.ref (N_1+4)),(k_types,.ref (N_1+6)),(k_record,.ref b_9.1),(k_pointer,.ref b_11.1),(k_pair,.ref b_13.1),(k_three,.ref b_14.1),(k_sorts,.ref (N_14+55)),(k_name,.str v_q 0),(k_t,.ref (tyA (adB N_1 b_2 b_3 b_4 b_6 b_7 b_8 b_5 b_14 b_13 b_9 b_11 b_16 b_18 b_20) (tb b_21))),(k_variable,.ref b_23.1),(k_start,.ref b_24.1)]),(b_1,rowO (l0.take 40)),((N_1+4),stO b_1 1),((N_1+5),typesD (adB N_1 b_2 b_3 b_4 b_6 b_7 b_8 b_5 b_14 b_13 b_9 b_11 b_16 b_18 b_20)),((N_1+6),instO 426 (N_1+5)),((N_14+55),dictO [(v_n,.ref b_5.1),(v_m,.ref b_14.1),(v_q,.ref b_11.1)])]++w_tyB (adB N_1 b_2 b_3 b_4 b_6 b_7 b_8 b_5 b_14 b_13 b_9 b_11 b_16 b_18 b_20)++[(b_23.1,instO 390 b_23.2),(b_23.2,objD v_v v_var (tyA (adB N_1 b_2 b_3 b_4 b_6 b_7 b_8 b_5 b_14 b_13 b_9 b_11 b_16 b_18 b_20) (tb b_21)) v_empty 0),((N_23+68),listO []),(b_24.1,instO 39 b_24.2),(b_24.2,nodD v_var 1 (tyA (adB N_1 b_2 b_3 b_4 b_6 b_7 b_8 b_5 b_14 b_13 b_9 b_11 b_16 b_18 b_20) (tb b_21)) (N_23+68) (.ref b_23.1))])++twoB (adB N_1 b_2 b_3 b_4 b_6 b_7 b_8 b_5 b_14 b_13 b_9 b_11 b_16 b_18 b_20) b_21,[],look_led (by kernel_rfl) (look_row (zsA 1) (by kernel_rfl)) (by kernel_rfl),by decide,Sup.nil,(fun _ h=>nomatch h),List.Perm.append_right [] (List.Perm.append_left _ (two_perm (adB N_1 b_2 b_3 b_4 b_6 b_7 b_8 b_5 b_14 b_13 b_9 b_11 b_16 b_18 b_20) b_21).symm)⟩ ?_;intro zsB NB hB CB trB UB;refine sg CB 20000 o_law_26 ?_;intro _;have K_26:=sN s R CB trB [(b_1,rowO (l0.take 40))] (tk_call hP (N_1+4) b_1 (l0.take 40) hl40 1 7 (by decide) (by decide) (by decide)) [2] [1];refine K_26 (hl2:=by exact (look_row (zsB 1) (by kernel_rfl))) ?_;rintro b_26 _ _ _ _ _ _ _ C_26 tr_26 _ _ pd_26 _;refine sg C_26 20000 o_law_27 ?_;intro _;have K_27:=sN s R C_26 tr_26 [] (ct_range hP b_26 pd_26) [] [];refine K_27 ?_;rintro b_27 _ _ _ _ _ _ _ C_27 tr_27 _ _ _ _;refine sg C_27 20000 o_law_28 ?_;intro _;have K_28:=sN s R C_27 tr_27 [(b_27,rangeO b_26)] (ct_rit hP b_27 b_26 pd_26) [] [30];refine K_28 ?_;rintro b_28 _ _ _ _ _ _ _ C_28 tr_28 _ _ _ _;refine sg C_28 20000 o_law_29 ?_;intro _;have K_29:=sN s R C_28 tr_28 (loopRo (adB N_1 b_2 b_3 b_4 b_6 b_7 b_8 b_5 b_14 b_13 b_9 b_11 b_16 b_18 b_20) ⟨sc,(N_1+4),b_1,(N_14+55),b_23.1,b_24.1⟩++[(b_1,rowO (l0.take 40))]) (loop_all hP (adB N_1 b_2 b_3 b_4 b_6 b_7 b_8 b_5 b_14 b_13 b_9 b_11 b_16 b_18 b_20) ⟨sc,(N_1+4),b_1,(N_14+55),b_23.1,b_24.1⟩ (l0.take 40) hl40 L b_28 b_26 .v0 v_q (DT.var (NB+29) (NB+28) (pb b_21)) v_empty 2 0 (tb b_21) rfl (fv0_ok b_21) (by show 0+6*b_26<=900; omega) (by omega) (by omega)) [0,2,31] [5,4,3,6,7,8,9,10,11,26,12,27,13,14,15,16,17,18,19,20,1];refine K_29 (hl2:=by exact (look_append (i:=[5,4,3,6,7,8,9,10,11,26,12,27,13,14,15,16,17,18,19,20]) (j:=[1]) (by kernel_rfl) (look_row (zsB 1) (by kernel_rfl)))) ?_;rintro ⟨ss,fv,nm,T,d,S',at_,cur,all⟩ _ _ _ N_29 _ _ _ C_29 tr_29 su_29 fs_29 pd_29 _;have Vd_29:=(su_29 [] Sup.nil).left;obtain ⟨q1,q2,q3,q4,q5,q6⟩:=pd_29
  replace q1:ss.length<=b_26:=q1
  have hTx:(S'++⟨⟨[32,58,61,32,55]⟩⟩:Str).cps.toList=txts ss++tailT:=by rw [app_list,q3]; rfl
  have hA:=At_of hTx;have hSl:S'.length=(txts ss).length:=by rw [len_list,q3]; rfl
  have hS:S'.length<=900:=by rw [hSl]; exact txts_le ss (Nat.le_trans q1 (Nat.le_of_lt pd_26))
  have hij:Int.ofNat (endP ss 0+1)=Int.ofNat (S'.length+1):=by rw [endP_len,hSl,Nat.zero_add]
  cases fv with
  | v0 =>
    refine sg C_29 20000 o_law_30 ?_;intro _;have K_30:=sN s R C_29 tr_29 [] (ct_sadd S' [32,58,61,32,55] 900 hS (by decide)) [] [];refine K_30 ?_;rintro _ _ _ _ _ _ _ _ C_30 tr_30 su_30 _ _ _;have Vd_30:=su_30 _ Vd_29;refine sg C_30 20000 o_law_31 ?_;intro _;have K_31:=sN s R C_30 tr_30 [((adD N_1 N_29 b_2 b_3 b_4 b_6 b_7 b_8 b_5 b_14 b_13 b_9 b_11 b_16 b_18 b_20) 6,instO 426 ((adD N_1 N_29 b_2 b_3 b_4 b_6 b_7 b_8 b_5 b_14 b_13 b_9 b_11 b_16 b_18 b_20) 7)),((adD N_1 N_29 b_2 b_3 b_4 b_6 b_7 b_8 b_5 b_14 b_13 b_9 b_11 b_16 b_18 b_20) 7,typesD (adD N_1 N_29 b_2 b_3 b_4 b_6 b_7 b_8 b_5 b_14 b_13 b_9 b_11 b_16 b_18 b_20))] (rd_new hP (adD N_1 N_29 b_2 b_3 b_4 b_6 b_7 b_8 b_5 b_14 b_13 b_9 b_11 b_16 b_18 b_20) (S'++⟨⟨[32,58,61,32,55]⟩⟩) ss hA) [] [4,3];refine K_31 ?_;rintro b_31 _ _ _ N_31 _ _ _ C_31 tr_31 su_31 _ _ _;have Vd_31:=su_31 _ Vd_30;refine sg C_31 20000 o_law_32 ?_;intro _;have K_32:=sN s R C_31 tr_31 [] (mk_obj hP v_P v_type b_11.1) [] [];refine K_32 ?_;rintro b_32 _ _ _ _ _ _ _ C_32 tr_32 su_32 _ _ _;have Vd_32:=su_32 _ Vd_31;refine sg C_32 20000 o_law_33 ?_;intro _;have K_33:=sN s R C_32 tr_32 ((w_sc (adR N_1 N_29 N_31 b_2 b_3 b_4 b_6 b_7 b_8 b_5 b_14 b_13 b_9 b_11 b_16 b_18 b_20 b_31 b_32)++tokO b_31.ta b_31.td (kindOf ss) (0+off ss)++w_rd (adR N_1 N_29 N_31 b_2 b_3 b_4 b_6 b_7 b_8 b_5 b_14 b_13 b_9 b_11 b_16 b_18 b_20 b_31 b_32))++(w_ty (adR N_1 N_29 N_31 b_2 b_3 b_4 b_6 b_7 b_8 b_5 b_14 b_13 b_9 b_11 b_16 b_18 b_20 b_31 b_32)++(NT.var b_24.1 b_24.2 (N_23+68) (pb b_21) b_23.1 b_23.2).flat (adR N_1 N_29 N_31 b_2 b_3 b_4 b_6 b_7 b_8 b_5 b_14 b_13 b_9 b_11 b_16 b_18 b_20 b_31 b_32))) (sel_fun hP (adR N_1 N_29 N_31 b_2 b_3 b_4 b_6 b_7 b_8 b_5 b_14 b_13 b_9 b_11 b_16 b_18 b_20 b_31 b_32) (S'++⟨⟨[32,58,61,32,55]⟩⟩) ss 0 0 b_31.ta b_31.td (NT.var b_24.1 b_24.2 (N_23+68) (pb b_21) b_23.1 b_23.2) q2 hA (by omega)) [38,40] [39,41,42,43,37,4,3,44,45,46,49,48,51,54,55,6,7,8,9,10,11,26,12,27,13,14,15,16,17,18,19,20,24,25,23,21,22];refine K_33 ?_;rintro ⟨tn,frb,tab,tdb,sall⟩ _ _ _ _ _ _ _ C_33 tr_33 su_33 fs_33 pd_33 _;obtain ⟨g1,ns,junk,g2,g3⟩:=pd_33
    replace g1:tn.sh=grow (NT.var b_24.1 b_24.2 (N_23+68) (pb b_21) b_23.1 b_23.2).sh ss 0:=g1
    have Vs_33:=(su_33 [] Sup.nil).left;have J_33:=su_33 _ Vd_32;have hsz:tn.sh.size<=13:=by
      have z:=grow_size ss (NT.var b_24.1 b_24.2 (N_23+68) (pb b_21) b_23.1 b_23.2).sh 0;rw [<- g1] at z;have z2:(NT.var b_24.1 b_24.2 (N_23+68) (pb b_21) b_23.1 b_23.2).sh.size=1:=rfl
      omega
    refine sg C_33 20000 o_law_34 ?_;intro _;have K_34:=sK s R C_33 tr_33 (w_ty (adR N_1 N_29 N_31 b_2 b_3 b_4 b_6 b_7 b_8 b_5 b_14 b_13 b_9 b_11 b_16 b_18 b_20 b_31 b_32)++(NT.var b_24.1 b_24.2 (N_23+68) (pb b_21) b_23.1 b_23.2).flat (adR N_1 N_29 N_31 b_2 b_3 b_4 b_6 b_7 b_8 b_5 b_14 b_13 b_9 b_11 b_16 b_18 b_20 b_31 b_32)) ns (Ct.perm ((List.Perm.append_left (w_ty (adR N_1 N_29 N_31 b_2 b_3 b_4 b_6 b_7 b_8 b_5 b_14 b_13 b_9 b_11 b_16 b_18 b_20 b_31 b_32)) (g2.trans List.perm_append_comm)).trans (List.Perm.of_eq (List.append_assoc _ _ _).symm)) (told_all hP (adR N_1 N_29 N_31 b_2 b_3 b_4 b_6 b_7 b_8 b_5 b_14 b_13 b_9 b_11 b_16 b_18 b_20 b_31 b_32) tn)) [] [6,7,8,9,10,11,26,12,27,13,14,15,16,17,18,19,20,24,25,23,21,22] (sup_ns g3 Vs_33);refine K_34 (hd:=by exact ble_le (n:=15) (by kernel_rfl) (by omega)) (hu:=by exact ble_le (n:=30) (by kernel_rfl) (by omega)) ?_;rintro tt _ _ _ _ _ _ _ C_34 tr_34 su_34 fs_34 pd_34 _;have J_34:=su_34 _ J_33;refine restart C_34 tr_34 ([(L,lawFrE (adB N_1 b_2 b_3 b_4 b_6 b_7 b_8 b_5 b_14 b_13 b_9 b_11 b_16 b_18 b_20) ⟨sc,(N_1+4),b_1,(N_14+55),b_23.1,b_24.1⟩ nm (tyA (adB N_1 b_2 b_3 b_4 b_6 b_7 b_8 b_5 b_14 b_13 b_9 b_11 b_16 b_18 b_20) T) d.addr S' (N_29+33) b_31.r tn.addr .v0),((N_29+33),instO 179 (N_29+32)),((N_29+32),dictO [(k_rows,.ref (N_29+35)),(k_places,.ref (N_29+36))]),((N_29+35),listO []),(b_31.r,instO 630 b_31.rd),(b_31.rd,rdD (adR N_1 N_29 N_31 b_2 b_3 b_4 b_6 b_7 b_8 b_5 b_14 b_13 b_9 b_11 b_16 b_18 b_20 b_31 b_32) (kk ss 0) tab)]++(tokO tab tdb v_assign (endP ss 0+1)++[(d.addr,listO d.hdV),(tt.addr,listO tt.hdV)])) (d.tl++tt.tl) ?_ ?_
    · have hf:∀ a ∈ keys (tt.flat++(sall++all)),s.heap.objs.size<=a:=fun a ha=>(mem_keys_app.mp ha).elim (fs_34 a) fun ha=>(mem_keys_app.mp ha).elim (fs_33 a) (fs_29 a);cases ss with
      | nil =>
        obtain ⟨rfl,rfl,rfl⟩:=g3;refine ⟨[0,33,32,35,37,38,42,43,29,28],([(L,lawFrE (adB N_1 b_2 b_3 b_4 b_6 b_7 b_8 b_5 b_14 b_13 b_9 b_11 b_16 b_18 b_20) ⟨sc,(N_1+4),b_1,(N_14+55),b_23.1,b_24.1⟩ nm (tyA (adB N_1 b_2 b_3 b_4 b_6 b_7 b_8 b_5 b_14 b_13 b_9 b_11 b_16 b_18 b_20) T) d.addr S' (N_29+33) b_31.r tn.addr .v0),((N_29+33),instO 179 (N_29+32)),((N_29+32),dictO [(k_rows,.ref (N_29+35)),(k_places,.ref (N_29+36))]),((N_29+35),listO []),(b_31.r,instO 630 b_31.rd),(b_31.rd,rdD (adR N_1 N_29 N_31 b_2 b_3 b_4 b_6 b_7 b_8 b_5 b_14 b_13 b_9 b_11 b_16 b_18 b_20 b_31 b_32) (kk [] 0) b_31.ta)]++tokO b_31.ta b_31.td v_assign (endP [] 0+1))++(DT.var (NB+29) (NB+28) (pb b_21)).flat,tt.flat++all,by kernel_rfl,by decide,sup_nil J_34,fun a ha=>hf a ?_,perm_nil' q5 d.split tt.split⟩;exact mem_keys_app.mpr ((mem_keys_app.mp ha).imp id fun z=>mem_keys_app.mpr (.inr z))
      | cons c1 c2 =>
        refine ⟨[0,33,32,35,37,38,29,28],[(L,lawFrE (adB N_1 b_2 b_3 b_4 b_6 b_7 b_8 b_5 b_14 b_13 b_9 b_11 b_16 b_18 b_20) ⟨sc,(N_1+4),b_1,(N_14+55),b_23.1,b_24.1⟩ nm (tyA (adB N_1 b_2 b_3 b_4 b_6 b_7 b_8 b_5 b_14 b_13 b_9 b_11 b_16 b_18 b_20) T) d.addr S' (N_29+33) b_31.r tn.addr .v0),((N_29+33),instO 179 (N_29+32)),((N_29+32),dictO [(k_rows,.ref (N_29+35)),(k_places,.ref (N_29+36))]),((N_29+35),listO []),(b_31.r,instO 630 b_31.rd),(b_31.rd,rdD (adR N_1 N_29 N_31 b_2 b_3 b_4 b_6 b_7 b_8 b_5 b_14 b_13 b_9 b_11 b_16 b_18 b_20 b_31 b_32) (kk (c1::c2) 0) tab)]++(DT.var (NB+29) (NB+28) (pb b_21)).flat,tt.flat++(tokO tab tdb v_assign (endP (c1::c2) 0+1)++all),by kernel_rfl,by decide,sup_cons g3 J_34,fun a ha=>hf a ?_,perm_cons' q5 d.split tt.split⟩;refine mem_keys_app.mpr ((mem_keys_app.mp ha).imp id fun z=>mem_keys_app.mpr ((mem_keys_app.mp z).imp (fun y=>?_) id));exact ((g3.map _).mem_iff.mpr (mem_keys_app.mpr (.inl (mem_keys_app.mpr (.inl y)))):a ∈ keys sall)
    intro zs' N' h' C' tr' U';refine seg C' 20000 o_law_35 (by kernel_rfl) (by kernel_rfl) ?_;have K_35:=sK s R C' tr' [(tt.addr,listO tt.hdV),(d.addr,listO d.hdV)] (d.tl++tt.tl) (Ct.perm (eq_perm tt.split d.split) (ct_eqdt tt d (by rw [pd_34,g1,q4]; rfl) (by rw [pd_34]; omega))) [] [9,8] (U');refine K_35 (hl2:=by exact (look_append (i:=[9]) (j:=[8]) (look_obj (zs' 9) (by kernel_rfl) (er_listO tt.er_hd)) (look_obj (zs' 8) (by kernel_rfl) (er_listO d.er_hd)))) ?_;rintro _ _ _ _ N_35 _ _ _ C_35 tr_35 _ _ _ _;refine sg C_35 20000 o_law_36 ?_;intro _;have K_36:=sN s R C_35 tr_35 [((N_29+35),listO []),((N_35+10),listO [])] (ct_eqnil (N_29+35) (N_35+10)) [] [3,10];refine K_36 ?_;rintro _ _ _ _ N_36 _ _ _ C_36 tr_36 _ _ _ _;refine sg C_36 20000 o_law_37 ?_;intro _;have K_37:=sN s R C_36 tr_36 [] (ct_slen S' 900 hS (by decide)) [] [];refine K_37 ?_;rintro _ _ _ _ N_37 _ _ _ C_37 tr_37 _ _ _ _;refine sg C_37 20000 o_law_38 ?_;intro _;have K_38:=sN s R C_37 tr_37 [((N_36+11),tupO [.str v_assign 0,.int (Int.ofNat (endP ss 0+1)) 0]),((N_37+12),tupO [.str v_assign 0,.int (Int.ofNat (S'.length+1)) 0])] (ct_eqtup2 (N_36+11) (N_37+12) v_assign (Int.ofNat (endP ss 0+1)) (Int.ofNat (S'.length+1)) hij oks.2.2.2.2.2.2.2.2.2.2) [] [11,12];refine K_38 ?_;rintro _ _ _ _ _ _ _ _ C_38 tr_38 _ _ _ _;refine sg C_38 20000 o_law_27 ?_;intro _;exact finishC (ro:=[]) (Pd:=fun _=>True) tr_38 D2 hR (lawFrE (adB N_1 b_2 b_3 b_4 b_6 b_7 b_8 b_5 b_14 b_13 b_9 b_11 b_16 b_18 b_20) ⟨sc,(N_1+4),b_1,(N_14+55),b_23.1,b_24.1⟩ nm (tyA (adB N_1 b_2 b_3 b_4 b_6 b_7 b_8 b_5 b_14 b_13 b_9 b_11 b_16 b_18 b_20) T) d.addr S' (N_29+33) b_31.r tn.addr .v0) [] [] [] (by kernel_rfl) (by kernel_rfl) rfl rfl rfl rfl Sup.nil (fun _ h=>nomatch h) rfl trivial
  | v1 go sp =>
    refine sg C_29 20000 o_law_30 ?_;intro _;have K_30:=sN s R C_29 tr_29 [] (ct_sadd S' [32,58,61,32,55] 900 hS (by decide)) [] [];refine K_30 ?_;rintro _ _ _ _ _ _ _ _ C_30 tr_30 su_30 _ _ _;have Vd_30:=su_30 _ Vd_29;refine sg C_30 20000 o_law_31 ?_;intro _;have K_31:=sN s R C_30 tr_30 [((adD N_1 N_29 b_2 b_3 b_4 b_6 b_7 b_8 b_5 b_14 b_13 b_9 b_11 b_16 b_18 b_20) 6,instO 426 ((adD N_1 N_29 b_2 b_3 b_4 b_6 b_7 b_8 b_5 b_14 b_13 b_9 b_11 b_16 b_18 b_20) 7)),((adD N_1 N_29 b_2 b_3 b_4 b_6 b_7 b_8 b_5 b_14 b_13 b_9 b_11 b_16 b_18 b_20) 7,typesD (adD N_1 N_29 b_2 b_3 b_4 b_6 b_7 b_8 b_5 b_14 b_13 b_9 b_11 b_16 b_18 b_20))] (rd_new hP (adD N_1 N_29 b_2 b_3 b_4 b_6 b_7 b_8 b_5 b_14 b_13 b_9 b_11 b_16 b_18 b_20) (S'++⟨⟨[32,58,61,32,55]⟩⟩) ss hA) [] [4,3];refine K_31 ?_;rintro b_31 _ _ _ N_31 _ _ _ C_31 tr_31 su_31 _ _ _;have Vd_31:=su_31 _ Vd_30;refine sg C_31 20000 o_law_32 ?_;intro _;have K_32:=sN s R C_31 tr_31 [] (mk_obj hP v_P v_type b_11.1) [] [];refine K_32 ?_;rintro b_32 _ _ _ _ _ _ _ C_32 tr_32 su_32 _ _ _;have Vd_32:=su_32 _ Vd_31;refine sg C_32 20000 o_law_33 ?_;intro _;have K_33:=sN s R C_32 tr_32 ((w_sc (adR N_1 N_29 N_31 b_2 b_3 b_4 b_6 b_7 b_8 b_5 b_14 b_13 b_9 b_11 b_16 b_18 b_20 b_31 b_32)++tokO b_31.ta b_31.td (kindOf ss) (0+off ss)++w_rd (adR N_1 N_29 N_31 b_2 b_3 b_4 b_6 b_7 b_8 b_5 b_14 b_13 b_9 b_11 b_16 b_18 b_20 b_31 b_32))++(w_ty (adR N_1 N_29 N_31 b_2 b_3 b_4 b_6 b_7 b_8 b_5 b_14 b_13 b_9 b_11 b_16 b_18 b_20 b_31 b_32)++(NT.var b_24.1 b_24.2 (N_23+68) (pb b_21) b_23.1 b_23.2).flat (adR N_1 N_29 N_31 b_2 b_3 b_4 b_6 b_7 b_8 b_5 b_14 b_13 b_9 b_11 b_16 b_18 b_20 b_31 b_32))) (sel_fun hP (adR N_1 N_29 N_31 b_2 b_3 b_4 b_6 b_7 b_8 b_5 b_14 b_13 b_9 b_11 b_16 b_18 b_20 b_31 b_32) (S'++⟨⟨[32,58,61,32,55]⟩⟩) ss 0 0 b_31.ta b_31.td (NT.var b_24.1 b_24.2 (N_23+68) (pb b_21) b_23.1 b_23.2) q2 hA (by omega)) [38,40] [39,41,42,43,37,4,3,44,45,46,49,48,51,54,55,6,7,8,9,10,11,26,12,27,13,14,15,16,17,18,19,20,24,25,23,21,22];refine K_33 ?_;rintro ⟨tn,frb,tab,tdb,sall⟩ _ _ _ _ _ _ _ C_33 tr_33 su_33 fs_33 pd_33 _;obtain ⟨g1,ns,junk,g2,g3⟩:=pd_33
    replace g1:tn.sh=grow (NT.var b_24.1 b_24.2 (N_23+68) (pb b_21) b_23.1 b_23.2).sh ss 0:=g1
    have Vs_33:=(su_33 [] Sup.nil).left;have J_33:=su_33 _ Vd_32;have hsz:tn.sh.size<=13:=by
      have z:=grow_size ss (NT.var b_24.1 b_24.2 (N_23+68) (pb b_21) b_23.1 b_23.2).sh 0;rw [<- g1] at z;have z2:(NT.var b_24.1 b_24.2 (N_23+68) (pb b_21) b_23.1 b_23.2).sh.size=1:=rfl
      omega
    refine sg C_33 20000 o_law_34 ?_;intro _;have K_34:=sK s R C_33 tr_33 (w_ty (adR N_1 N_29 N_31 b_2 b_3 b_4 b_6 b_7 b_8 b_5 b_14 b_13 b_9 b_11 b_16 b_18 b_20 b_31 b_32)++(NT.var b_24.1 b_24.2 (N_23+68) (pb b_21) b_23.1 b_23.2).flat (adR N_1 N_29 N_31 b_2 b_3 b_4 b_6 b_7 b_8 b_5 b_14 b_13 b_9 b_11 b_16 b_18 b_20 b_31 b_32)) ns (Ct.perm ((List.Perm.append_left (w_ty (adR N_1 N_29 N_31 b_2 b_3 b_4 b_6 b_7 b_8 b_5 b_14 b_13 b_9 b_11 b_16 b_18 b_20 b_31 b_32)) (g2.trans List.perm_append_comm)).trans (List.Perm.of_eq (List.append_assoc _ _ _).symm)) (told_all hP (adR N_1 N_29 N_31 b_2 b_3 b_4 b_6 b_7 b_8 b_5 b_14 b_13 b_9 b_11 b_16 b_18 b_20 b_31 b_32) tn)) [] [6,7,8,9,10,11,26,12,27,13,14,15,16,17,18,19,20,24,25,23,21,22] (sup_ns g3 Vs_33);refine K_34 (hd:=by exact ble_le (n:=15) (by kernel_rfl) (by omega)) (hu:=by exact ble_le (n:=30) (by kernel_rfl) (by omega)) ?_;rintro tt _ _ _ _ _ _ _ C_34 tr_34 su_34 fs_34 pd_34 _;have J_34:=su_34 _ J_33;refine restart C_34 tr_34 ([(L,lawFrE (adB N_1 b_2 b_3 b_4 b_6 b_7 b_8 b_5 b_14 b_13 b_9 b_11 b_16 b_18 b_20) ⟨sc,(N_1+4),b_1,(N_14+55),b_23.1,b_24.1⟩ nm (tyA (adB N_1 b_2 b_3 b_4 b_6 b_7 b_8 b_5 b_14 b_13 b_9 b_11 b_16 b_18 b_20) T) d.addr S' (N_29+33) b_31.r tn.addr (.v1 go sp)),((N_29+33),instO 179 (N_29+32)),((N_29+32),dictO [(k_rows,.ref (N_29+35)),(k_places,.ref (N_29+36))]),((N_29+35),listO []),(b_31.r,instO 630 b_31.rd),(b_31.rd,rdD (adR N_1 N_29 N_31 b_2 b_3 b_4 b_6 b_7 b_8 b_5 b_14 b_13 b_9 b_11 b_16 b_18 b_20 b_31 b_32) (kk ss 0) tab)]++(tokO tab tdb v_assign (endP ss 0+1)++[(d.addr,listO d.hdV),(tt.addr,listO tt.hdV)])) (d.tl++tt.tl) ?_ ?_
    · have hf:∀ a ∈ keys (tt.flat++(sall++all)),s.heap.objs.size<=a:=fun a ha=>(mem_keys_app.mp ha).elim (fs_34 a) fun ha=>(mem_keys_app.mp ha).elim (fs_33 a) (fs_29 a);cases ss with
      | nil =>
        obtain ⟨rfl,rfl,rfl⟩:=g3;refine ⟨[0,33,32,35,37,38,42,43,29,28],([(L,lawFrE (adB N_1 b_2 b_3 b_4 b_6 b_7 b_8 b_5 b_14 b_13 b_9 b_11 b_16 b_18 b_20) ⟨sc,(N_1+4),b_1,(N_14+55),b_23.1,b_24.1⟩ nm (tyA (adB N_1 b_2 b_3 b_4 b_6 b_7 b_8 b_5 b_14 b_13 b_9 b_11 b_16 b_18 b_20) T) d.addr S' (N_29+33) b_31.r tn.addr (.v1 go sp)),((N_29+33),instO 179 (N_29+32)),((N_29+32),dictO [(k_rows,.ref (N_29+35)),(k_places,.ref (N_29+36))]),((N_29+35),listO []),(b_31.r,instO 630 b_31.rd),(b_31.rd,rdD (adR N_1 N_29 N_31 b_2 b_3 b_4 b_6 b_7 b_8 b_5 b_14 b_13 b_9 b_11 b_16 b_18 b_20 b_31 b_32) (kk [] 0) b_31.ta)]++tokO b_31.ta b_31.td v_assign (endP [] 0+1))++(DT.var (NB+29) (NB+28) (pb b_21)).flat,tt.flat++all,by kernel_rfl,by decide,sup_nil J_34,fun a ha=>hf a ?_,perm_nil' q5 d.split tt.split⟩;exact mem_keys_app.mpr ((mem_keys_app.mp ha).imp id fun z=>mem_keys_app.mpr (.inr z))
      | cons c1 c2 =>
        refine ⟨[0,33,32,35,37,38,29,28],[(L,lawFrE (adB N_1 b_2 b_3 b_4 b_6 b_7 b_8 b_5 b_14 b_13 b_9 b_11 b_16 b_18 b_20) ⟨sc,(N_1+4),b_1,(N_14+55),b_23.1,b_24.1⟩ nm (tyA (adB N_1 b_2 b_3 b_4 b_6 b_7 b_8 b_5 b_14 b_13 b_9 b_11 b_16 b_18 b_20) T) d.addr S' (N_29+33) b_31.r tn.addr (.v1 go sp)),((N_29+33),instO 179 (N_29+32)),((N_29+32),dictO [(k_rows,.ref (N_29+35)),(k_places,.ref (N_29+36))]),((N_29+35),listO []),(b_31.r,instO 630 b_31.rd),(b_31.rd,rdD (adR N_1 N_29 N_31 b_2 b_3 b_4 b_6 b_7 b_8 b_5 b_14 b_13 b_9 b_11 b_16 b_18 b_20 b_31 b_32) (kk (c1::c2) 0) tab)]++(DT.var (NB+29) (NB+28) (pb b_21)).flat,tt.flat++(tokO tab tdb v_assign (endP (c1::c2) 0+1)++all),by kernel_rfl,by decide,sup_cons g3 J_34,fun a ha=>hf a ?_,perm_cons' q5 d.split tt.split⟩;refine mem_keys_app.mpr ((mem_keys_app.mp ha).imp id fun z=>mem_keys_app.mpr ((mem_keys_app.mp z).imp (fun y=>?_) id));exact ((g3.map _).mem_iff.mpr (mem_keys_app.mpr (.inl (mem_keys_app.mpr (.inl y)))):a ∈ keys sall)
    intro zs' N' h' C' tr' U';refine seg C' 20000 o_law_35 (by kernel_rfl) (by kernel_rfl) ?_;have K_35:=sK s R C' tr' [(tt.addr,listO tt.hdV),(d.addr,listO d.hdV)] (d.tl++tt.tl) (Ct.perm (eq_perm tt.split d.split) (ct_eqdt tt d (by rw [pd_34,g1,q4]; rfl) (by rw [pd_34]; omega))) [] [9,8] (U');refine K_35 (hl2:=by exact (look_append (i:=[9]) (j:=[8]) (look_obj (zs' 9) (by kernel_rfl) (er_listO tt.er_hd)) (look_obj (zs' 8) (by kernel_rfl) (er_listO d.er_hd)))) ?_;rintro _ _ _ _ N_35 _ _ _ C_35 tr_35 _ _ _ _;refine sg C_35 20000 o_law_36 ?_;intro _;have K_36:=sN s R C_35 tr_35 [((N_29+35),listO []),((N_35+10),listO [])] (ct_eqnil (N_29+35) (N_35+10)) [] [3,10];refine K_36 ?_;rintro _ _ _ _ N_36 _ _ _ C_36 tr_36 _ _ _ _;refine sg C_36 20000 o_law_37 ?_;intro _;have K_37:=sN s R C_36 tr_36 [] (ct_slen S' 900 hS (by decide)) [] [];refine K_37 ?_;rintro _ _ _ _ N_37 _ _ _ C_37 tr_37 _ _ _ _;refine sg C_37 20000 o_law_38 ?_;intro _;have K_38:=sN s R C_37 tr_37 [((N_36+11),tupO [.str v_assign 0,.int (Int.ofNat (endP ss 0+1)) 0]),((N_37+12),tupO [.str v_assign 0,.int (Int.ofNat (S'.length+1)) 0])] (ct_eqtup2 (N_36+11) (N_37+12) v_assign (Int.ofNat (endP ss 0+1)) (Int.ofNat (S'.length+1)) hij oks.2.2.2.2.2.2.2.2.2.2) [] [11,12];refine K_38 ?_;rintro _ _ _ _ _ _ _ _ C_38 tr_38 _ _ _ _;refine sg C_38 20000 o_law_27 ?_;intro _;exact finishC (ro:=[]) (Pd:=fun _=>True) tr_38 D2 hR (lawFrE (adB N_1 b_2 b_3 b_4 b_6 b_7 b_8 b_5 b_14 b_13 b_9 b_11 b_16 b_18 b_20) ⟨sc,(N_1+4),b_1,(N_14+55),b_23.1,b_24.1⟩ nm (tyA (adB N_1 b_2 b_3 b_4 b_6 b_7 b_8 b_5 b_14 b_13 b_9 b_11 b_16 b_18 b_20) T) d.addr S' (N_29+33) b_31.r tn.addr (.v1 go sp)) [] [] [] (by kernel_rfl) (by kernel_rfl) rfl rfl rfl rfl Sup.nil (fun _ h=>nomatch h) rfl trivial
  | v2 go sp fg =>
    refine sg C_29 20000 o_law_30 ?_;intro _;have K_30:=sN s R C_29 tr_29 [] (ct_sadd S' [32,58,61,32,55] 900 hS (by decide)) [] [];refine K_30 ?_;rintro _ _ _ _ _ _ _ _ C_30 tr_30 su_30 _ _ _;have Vd_30:=su_30 _ Vd_29;refine sg C_30 20000 o_law_31 ?_;intro _;have K_31:=sN s R C_30 tr_30 [((adD N_1 N_29 b_2 b_3 b_4 b_6 b_7 b_8 b_5 b_14 b_13 b_9 b_11 b_16 b_18 b_20) 6,instO 426 ((adD N_1 N_29 b_2 b_3 b_4 b_6 b_7 b_8 b_5 b_14 b_13 b_9 b_11 b_16 b_18 b_20) 7)),((adD N_1 N_29 b_2 b_3 b_4 b_6 b_7 b_8 b_5 b_14 b_13 b_9 b_11 b_16 b_18 b_20) 7,typesD (adD N_1 N_29 b_2 b_3 b_4 b_6 b_7 b_8 b_5 b_14 b_13 b_9 b_11 b_16 b_18 b_20))] (rd_new hP (adD N_1 N_29 b_2 b_3 b_4 b_6 b_7 b_8 b_5 b_14 b_13 b_9 b_11 b_16 b_18 b_20) (S'++⟨⟨[32,58,61,32,55]⟩⟩) ss hA) [] [4,3];refine K_31 ?_;rintro b_31 _ _ _ N_31 _ _ _ C_31 tr_31 su_31 _ _ _;have Vd_31:=su_31 _ Vd_30;refine sg C_31 20000 o_law_32 ?_;intro _;have K_32:=sN s R C_31 tr_31 [] (mk_obj hP v_P v_type b_11.1) [] [];refine K_32 ?_;rintro b_32 _ _ _ _ _ _ _ C_32 tr_32 su_32 _ _ _;have Vd_32:=su_32 _ Vd_31;refine sg C_32 20000 o_law_33 ?_;intro _;have K_33:=sN s R C_32 tr_32 ((w_sc (adR N_1 N_29 N_31 b_2 b_3 b_4 b_6 b_7 b_8 b_5 b_14 b_13 b_9 b_11 b_16 b_18 b_20 b_31 b_32)++tokO b_31.ta b_31.td (kindOf ss) (0+off ss)++w_rd (adR N_1 N_29 N_31 b_2 b_3 b_4 b_6 b_7 b_8 b_5 b_14 b_13 b_9 b_11 b_16 b_18 b_20 b_31 b_32))++(w_ty (adR N_1 N_29 N_31 b_2 b_3 b_4 b_6 b_7 b_8 b_5 b_14 b_13 b_9 b_11 b_16 b_18 b_20 b_31 b_32)++(NT.var b_24.1 b_24.2 (N_23+68) (pb b_21) b_23.1 b_23.2).flat (adR N_1 N_29 N_31 b_2 b_3 b_4 b_6 b_7 b_8 b_5 b_14 b_13 b_9 b_11 b_16 b_18 b_20 b_31 b_32))) (sel_fun hP (adR N_1 N_29 N_31 b_2 b_3 b_4 b_6 b_7 b_8 b_5 b_14 b_13 b_9 b_11 b_16 b_18 b_20 b_31 b_32) (S'++⟨⟨[32,58,61,32,55]⟩⟩) ss 0 0 b_31.ta b_31.td (NT.var b_24.1 b_24.2 (N_23+68) (pb b_21) b_23.1 b_23.2) q2 hA (by omega)) [38,40] [39,41,42,43,37,4,3,44,45,46,49,48,51,54,55,6,7,8,9,10,11,26,12,27,13,14,15,16,17,18,19,20,24,25,23,21,22];refine K_33 ?_;rintro ⟨tn,frb,tab,tdb,sall⟩ _ _ _ _ _ _ _ C_33 tr_33 su_33 fs_33 pd_33 _;obtain ⟨g1,ns,junk,g2,g3⟩:=pd_33
    replace g1:tn.sh=grow (NT.var b_24.1 b_24.2 (N_23+68) (pb b_21) b_23.1 b_23.2).sh ss 0:=g1
    have Vs_33:=(su_33 [] Sup.nil).left;have J_33:=su_33 _ Vd_32;have hsz:tn.sh.size<=13:=by
      have z:=grow_size ss (NT.var b_24.1 b_24.2 (N_23+68) (pb b_21) b_23.1 b_23.2).sh 0;rw [<- g1] at z;have z2:(NT.var b_24.1 b_24.2 (N_23+68) (pb b_21) b_23.1 b_23.2).sh.size=1:=rfl
      omega
    refine sg C_33 20000 o_law_34 ?_;intro _;have K_34:=sK s R C_33 tr_33 (w_ty (adR N_1 N_29 N_31 b_2 b_3 b_4 b_6 b_7 b_8 b_5 b_14 b_13 b_9 b_11 b_16 b_18 b_20 b_31 b_32)++(NT.var b_24.1 b_24.2 (N_23+68) (pb b_21) b_23.1 b_23.2).flat (adR N_1 N_29 N_31 b_2 b_3 b_4 b_6 b_7 b_8 b_5 b_14 b_13 b_9 b_11 b_16 b_18 b_20 b_31 b_32)) ns (Ct.perm ((List.Perm.append_left (w_ty (adR N_1 N_29 N_31 b_2 b_3 b_4 b_6 b_7 b_8 b_5 b_14 b_13 b_9 b_11 b_16 b_18 b_20 b_31 b_32)) (g2.trans List.perm_append_comm)).trans (List.Perm.of_eq (List.append_assoc _ _ _).symm)) (told_all hP (adR N_1 N_29 N_31 b_2 b_3 b_4 b_6 b_7 b_8 b_5 b_14 b_13 b_9 b_11 b_16 b_18 b_20 b_31 b_32) tn)) [] [6,7,8,9,10,11,26,12,27,13,14,15,16,17,18,19,20,24,25,23,21,22] (sup_ns g3 Vs_33);refine K_34 (hd:=by exact ble_le (n:=15) (by kernel_rfl) (by omega)) (hu:=by exact ble_le (n:=30) (by kernel_rfl) (by omega)) ?_;rintro tt _ _ _ _ _ _ _ C_34 tr_34 su_34 fs_34 pd_34 _;have J_34:=su_34 _ J_33;refine restart C_34 tr_34 ([(L,lawFrE (adB N_1 b_2 b_3 b_4 b_6 b_7 b_8 b_5 b_14 b_13 b_9 b_11 b_16 b_18 b_20) ⟨sc,(N_1+4),b_1,(N_14+55),b_23.1,b_24.1⟩ nm (tyA (adB N_1 b_2 b_3 b_4 b_6 b_7 b_8 b_5 b_14 b_13 b_9 b_11 b_16 b_18 b_20) T) d.addr S' (N_29+33) b_31.r tn.addr (.v2 go sp fg)),((N_29+33),instO 179 (N_29+32)),((N_29+32),dictO [(k_rows,.ref (N_29+35)),(k_places,.ref (N_29+36))]),((N_29+35),listO []),(b_31.r,instO 630 b_31.rd),(b_31.rd,rdD (adR N_1 N_29 N_31 b_2 b_3 b_4 b_6 b_7 b_8 b_5 b_14 b_13 b_9 b_11 b_16 b_18 b_20 b_31 b_32) (kk ss 0) tab)]++(tokO tab tdb v_assign (endP ss 0+1)++[(d.addr,listO d.hdV),(tt.addr,listO tt.hdV)])) (d.tl++tt.tl) ?_ ?_
    · have hf:∀ a ∈ keys (tt.flat++(sall++all)),s.heap.objs.size<=a:=fun a ha=>(mem_keys_app.mp ha).elim (fs_34 a) fun ha=>(mem_keys_app.mp ha).elim (fs_33 a) (fs_29 a);cases ss with
      | nil =>
        obtain ⟨rfl,rfl,rfl⟩:=g3;refine ⟨[0,33,32,35,37,38,42,43,29,28],([(L,lawFrE (adB N_1 b_2 b_3 b_4 b_6 b_7 b_8 b_5 b_14 b_13 b_9 b_11 b_16 b_18 b_20) ⟨sc,(N_1+4),b_1,(N_14+55),b_23.1,b_24.1⟩ nm (tyA (adB N_1 b_2 b_3 b_4 b_6 b_7 b_8 b_5 b_14 b_13 b_9 b_11 b_16 b_18 b_20) T) d.addr S' (N_29+33) b_31.r tn.addr (.v2 go sp fg)),((N_29+33),instO 179 (N_29+32)),((N_29+32),dictO [(k_rows,.ref (N_29+35)),(k_places,.ref (N_29+36))]),((N_29+35),listO []),(b_31.r,instO 630 b_31.rd),(b_31.rd,rdD (adR N_1 N_29 N_31 b_2 b_3 b_4 b_6 b_7 b_8 b_5 b_14 b_13 b_9 b_11 b_16 b_18 b_20 b_31 b_32) (kk [] 0) b_31.ta)]++tokO b_31.ta b_31.td v_assign (endP [] 0+1))++(DT.var (NB+29) (NB+28) (pb b_21)).flat,tt.flat++all,by kernel_rfl,by decide,sup_nil J_34,fun a ha=>hf a ?_,perm_nil' q5 d.split tt.split⟩;exact mem_keys_app.mpr ((mem_keys_app.mp ha).imp id fun z=>mem_keys_app.mpr (.inr z))
      | cons c1 c2 =>
        refine ⟨[0,33,32,35,37,38,29,28],[(L,lawFrE (adB N_1 b_2 b_3 b_4 b_6 b_7 b_8 b_5 b_14 b_13 b_9 b_11 b_16 b_18 b_20) ⟨sc,(N_1+4),b_1,(N_14+55),b_23.1,b_24.1⟩ nm (tyA (adB N_1 b_2 b_3 b_4 b_6 b_7 b_8 b_5 b_14 b_13 b_9 b_11 b_16 b_18 b_20) T) d.addr S' (N_29+33) b_31.r tn.addr (.v2 go sp fg)),((N_29+33),instO 179 (N_29+32)),((N_29+32),dictO [(k_rows,.ref (N_29+35)),(k_places,.ref (N_29+36))]),((N_29+35),listO []),(b_31.r,instO 630 b_31.rd),(b_31.rd,rdD (adR N_1 N_29 N_31 b_2 b_3 b_4 b_6 b_7 b_8 b_5 b_14 b_13 b_9 b_11 b_16 b_18 b_20 b_31 b_32) (kk (c1::c2) 0) tab)]++(DT.var (NB+29) (NB+28) (pb b_21)).flat,tt.flat++(tokO tab tdb v_assign (endP (c1::c2) 0+1)++all),by kernel_rfl,by decide,sup_cons g3 J_34,fun a ha=>hf a ?_,perm_cons' q5 d.split tt.split⟩;refine mem_keys_app.mpr ((mem_keys_app.mp ha).imp id fun z=>mem_keys_app.mpr ((mem_keys_app.mp z).imp (fun y=>?_) id));exact ((g3.map _).mem_iff.mpr (mem_keys_app.mpr (.inl (mem_keys_app.mpr (.inl y)))):a ∈ keys sall)
    intro zs' N' h' C' tr' U';refine seg C' 20000 o_law_35 (by kernel_rfl) (by kernel_rfl) ?_;have K_35:=sK s R C' tr' [(tt.addr,listO tt.hdV),(d.addr,listO d.hdV)] (d.tl++tt.tl) (Ct.perm (eq_perm tt.split d.split) (ct_eqdt tt d (by rw [pd_34,g1,q4]; rfl) (by rw [pd_34]; omega))) [] [9,8] (U');refine K_35 (hl2:=by exact (look_append (i:=[9]) (j:=[8]) (look_obj (zs' 9) (by kernel_rfl) (er_listO tt.er_hd)) (look_obj (zs' 8) (by kernel_rfl) (er_listO d.er_hd)))) ?_;rintro _ _ _ _ N_35 _ _ _ C_35 tr_35 _ _ _ _;refine sg C_35 20000 o_law_36 ?_;intro _;have K_36:=sN s R C_35 tr_35 [((N_29+35),listO []),((N_35+10),listO [])] (ct_eqnil (N_29+35) (N_35+10)) [] [3,10];refine K_36 ?_;rintro _ _ _ _ N_36 _ _ _ C_36 tr_36 _ _ _ _;refine sg C_36 20000 o_law_37 ?_;intro _;have K_37:=sN s R C_36 tr_36 [] (ct_slen S' 900 hS (by decide)) [] [];refine K_37 ?_;rintro _ _ _ _ N_37 _ _ _ C_37 tr_37 _ _ _ _;refine sg C_37 20000 o_law_38 ?_;intro _;have K_38:=sN s R C_37 tr_37 [((N_36+11),tupO [.str v_assign 0,.int (Int.ofNat (endP ss 0+1)) 0]),((N_37+12),tupO [.str v_assign 0,.int (Int.ofNat (S'.length+1)) 0])] (ct_eqtup2 (N_36+11) (N_37+12) v_assign (Int.ofNat (endP ss 0+1)) (Int.ofNat (S'.length+1)) hij oks.2.2.2.2.2.2.2.2.2.2) [] [11,12];refine K_38 ?_;rintro _ _ _ _ _ _ _ _ C_38 tr_38 _ _ _ _;refine sg C_38 20000 o_law_27 ?_;intro _;exact finishC (ro:=[]) (Pd:=fun _=>True) tr_38 D2 hR (lawFrE (adB N_1 b_2 b_3 b_4 b_6 b_7 b_8 b_5 b_14 b_13 b_9 b_11 b_16 b_18 b_20) ⟨sc,(N_1+4),b_1,(N_14+55),b_23.1,b_24.1⟩ nm (tyA (adB N_1 b_2 b_3 b_4 b_6 b_7 b_8 b_5 b_14 b_13 b_9 b_11 b_16 b_18 b_20) T) d.addr S' (N_29+33) b_31.r tn.addr (.v2 go sp fg)) [] [] [] (by kernel_rfl) (by kernel_rfl) rfl rfl rfl rfl Sup.nil (fun _ h=>nomatch h) rfl trivial
noncomputable def LawF (w:World) (sc:Nat) (l0:List Int):Prop:=Ct w 650 950 (.call (.ref 660) ⟨[.ref sc],[]⟩) [] ([]++[(sc,rowO l0)]) (fun _:Unit=>⟨.ret (.bool true),[],[],[]⟩) (fun _=>True)
theorem law_call {w:World} {b1 b2 b3:Bool} (hP:Rows w b1 b2 b3) (sc:Nat) (l0:List Int) (hl0:l0.length < 1000):LawF w sc l0:=by
  unfold LawF
  refine ct_start (tx:=tx0) (pre:=[]) (ro:=[]) (sup:=[(sc,rowO l0)]) hP tx0_ok (by decide) fun A' s R zs ta' N C U D' hR=>?_;refine sg C 8 [1,0,1,1] ?_;intro _;have K_t:=tK C [] [(sc,rowO l0)] (law_body hP (N+0) sc l0 hl0) [0] [] U trId D' hR;refine K_t ?_;intro b zu zn h' su fs pd;exact ⟨(),[],[],[],rfl,by kernel_rfl,rfl,by kernel_rfl,rfl,rfl,Sup.nil,(fun _ h=>nomatch h),rfl,trivial⟩
theorem law_goes {w:World} (s:Shared) (sc:Nat) (l0:List Int) (hl0:l0.length<=63) (top:∀ (a:Nat) (o:Obj),(ktop w.params).get a=some o->s.heap.get? a=some o) (ho:Has s.heap sc (rowO l0))
    (A:Around) (hh:A.handled=none) (hd:A.depth+650 < recursionLimit) (hu:A.units+950 < cLine) (R:Result->Shared->Prop)
    (x:∀ s':Shared,OldK s.heap s'.heap->s'.gens=s.gens->s'.os=s.os->R (.ok (.ret (.bool true))) s'):codeAny (model pz w) A (.call (.ref 660) ⟨[.ref sc],[]⟩) R s:=by
  refine law_call (b1:=w.params.followText "special-get-raises") (b2:=w.params.followText "comprehension-iter-twice") (b3:=w.params.followText "for-iterable-display-folded") (pf_self w.params) sc l0 (Nat.lt_of_le_of_lt hl0 (by decide)) A s R _ ⟨hh,hd,hu,top⟩ rfl ⟨ho,trivial⟩ (List.nodup_cons.mpr ⟨fun h=>(nomatch h),List.nodup_nil⟩) fun b fl s' e F _ _ _ _ _ _=>?_;cases fl with
  | ret v =>
    have e1:er v = .bool true:=Flow.ret.inj e;cases v with
    | bool b =>
      have e2:b=true:=Value.bool.inj e1;subst e2;exact x s' (OldK.of_keep fun b o h=>F.keep b o h (fun q=>(nomatch q))) F.gens F.os
    | _=>exact absurd e1 (by intro q; cases q)
  | _=>exact absurd e (by intro q; cases q)
theorem law_any {w:World} {s:Shared} {vs:List Value} {l0:List Int} (hi:IntsAre vs l0) (hl0:l0.length<=63) (top:∀ (a:Nat) (o:Obj),(ktop w.params).get a=some o->s.heap.get? a=some o)
    (ho:s.heap.get? 661=some { cls:=.type "list",data:=.seq vs.toArray }) {Q:Value->Shared->Prop} {E:Value->Shared->Prop}
    (x:∀ s':Shared,OldK s.heap s'.heap->s'.gens=s.gens->s'.os=s.os->Q (.bool true) s'):wpAny (model pz w) callerA ((fun f vs=>call f vs) (Value.ref 660) [Value.ref 661]) Q E s:=by
  refine y_start _ pz w callerA Q E s (.call (.ref 660) ⟨[.ref 661],[]⟩) none _ _ _ (fun h=>nomatch h) ?_;refine law_goes s 661 l0 hl0 top ⟨Nat.le_refl _,_,ho,congrArg (fun l=>listO l) (are_ints hi)⟩ _ rfl (by decide) (by decide) _ fun s' K hgens hos=>?_;exact y_endOk _ _ _ _ _ _ _ _ _ (.bool true) rfl (x s' K hgens hos)
end Mine
section
open PySem PySem.W PyProof.Rows PySem.W.X
namespace Mine
theorem said2:PySem.W.Fast.tw17960256430627541270 (PySem.W.Fast.tw2368527892694137696 PySem.Challenge.rw_pq0771_01)=true:=by kernel_rfl
theorem said1:PySem.W.Fast.tw9446332074065402090 PySem.Challenge.rw_pq0771_01=true:=by
  unfold PySem.W.Fast.tw9446332074065402090
  rw [said2]
  kernel_rfl
theorem said0:PySem.Challenge.rw_pq0771_01.wellSaid=true:=(congrFun PySem.W.Fast.te9446332074065402090 _).trans said1
theorem ok0:(chainsOk qv && opensWell PySem.Challenge.rw_pq0771_01.row.toRowW.prog && (frees PySem.Challenge.rw_pq0771_01.row.toRowW && PySem.Challenge.rw_pq0771_01.row.toRowW.within.isEmpty))=true:=by kernel_rfl
end Mine
end
namespace Mine
end Mine
section
open PySem PySem.W PyProof.Rows PySem.W.X
namespace Mine
theorem bare1:pz.bare:=⟨by kernel_rfl,by kernel_rfl,by kernel_rfl,by kernel_rfl,by kernel_rfl,by decide +kernel⟩
theorem wit0:PySem.Challenge.rw_pq0771_01.row.toRowW.promised:=by w_witness2
noncomputable def lawS:Str:=⟨⟨[108,97,119]⟩⟩
theorem lawS_eq:PySem.Challenge.rw_pq0771_01.row.toRowW.name=lawS:=by kernel_rfl
noncomputable def dkZ:Option (DefRec×List (Str×Expr)):=defOf qv lawS
theorem dk1:dkZ.map (fun e=>(e.1.params,e.1.body,e.1.scope))=pz.theDef lawS:=by kernel_rfl
theorem dk2:dkZ.bind (fun e=>kwWritten? e.1.params.kwonlyargs e.1.params.kw_defaults)=dkZ.map (·.2):=by kernel_rfl
theorem dk3:dkZ.isSome=true:=by kernel_rfl
end Mine
end
namespace Mine
end Mine
section
open PySem PySem.W PyProof.Rows PySem.W.X
namespace Mine
theorem dk0:∃ d kwd,dkZ=some (d,kwd)∧pz.theDef lawS=some (d.params,d.body,d.scope)∧kwWritten? d.params.kwonlyargs d.params.kw_defaults=some kwd:=by
  have h1:=dk1;have h2:=dk2;have h3:=dk3
  generalize dkZ=x at h1 h2 h3
  cases x with
  | none=>cases h3
  | some e=>exact ⟨e.1,e.2,rfl,h1.symm,h2⟩
theorem hd0 (walk:∀ (d:DefRec) (kwd:List (Str×Expr)),d.name=lawS->WalkX qv [] (XL qv []) (obsZ kA) (valZ kL kN kTk) PySem.Challenge.rw_pq0771_01.row.toRowW d kwd fun f vs=>PySem.call f vs):PySem.Challenge.rw_pq0771_01.Holds:=by
  refine holds_law said0 fun said=>?_;obtain ⟨d,kwd,k1,k2,k3⟩:=dk0;exact holds_openX (r:=PySem.Challenge.rw_pq0771_01.row) (q:=qv) (loose:=[]) (Xt:=xtV) (XP:=XL qv []) (Yf:=obsZ kA) (Ya:=valZ kL kN kTk) (N:=8964) left0 (fun s e=>xl_of s (Bool.and_eq_true_iff.mp e).1) XL.keeps (lawS_eq ▸ k1) (lawS_eq ▸ k2) k3 (fun s e=>recFacts_of (R:=[]) (Bool.and_eq_true_iff.mp e).2) rfl said ok0 bare1 wit0 (walk d kwd (defOf_name k1))
end Mine
end
namespace Mine
end Mine
section
open PySem PySem.W PyProof.Rows PySem.W.X
namespace Mine
theorem nsLaw (P:Params):nsIn (kL P) mainGlobals lawS=some (some (.ref 660)):=by kernel_rfl
theorem atF {K:Frag} {t:KT} (e:KT.of K=t) {h h':Heap} (A:AllIn h K) (k:∀ b o,h.get? b=some o->h'.get? b=some o):∀ (a:Nat) (o:Obj),t.get a=some o->h'.get? a=some o:=by
  subst e;intro a o g;exact kt_at (KT.Holds.keeps k (holds_of A)) g
theorem topAt {w:World} {s s':Shared} (y:obsZ kA s=valZ kL kN kTk w) (k:∀ b o,s.heap.get? b=some o->s'.heap.get? b=some o):(∀ (a:Nat) (o:Obj),(ktop w.params).get a=some o->s'.heap.get? a=some o)∧s.heap.objs.size=kN∧s.toks=kTk∧(kL w.params).In s'.heap:=by
  obtain ⟨ZA,ZI,ZN,ZT⟩:=z_facts kA_eq y;exact ⟨atF (kT_eq w.params) ZA k,ZN,ZT,InK.keeps w s.heap s'.heap ZI k⟩
end Mine
end
namespace Mine
end Mine
section
open PySem PySem.W PyProof.Rows PySem.W.X
set_option maxRecDepth 1000000
set_option maxHeartbeats 0
theorem PySem.Challenge.cw_pq0771_01_holds : PySem.Challenge.rw_pq0771_01.Holds := by
  refine Mine.hd0 fun d kwd dn => ?_
  intro w s₀ s₁ mg mb G y fa o pm cd doc dV kV ho hd hcd hD hmg hg args vals as L hpre hlay hrd hwl hlo
  obtain ⟨ZA, ZN, ZT, KX⟩ := Mine.topAt y L.keeps
  have hfa := mg_of KX G.T.g (Mine.nsLaw w.params)
  rw [dn, hfa] at hmg
  have e0 : fa = 660 := (Value.ref.inj (Option.some.inj hmg)).symm
  clear hD hcd hd ho hfa hmg KX y G
  subst e0
  wrow_args hpre hlay hrd hwl hlo
  obtain ⟨hat, hsz⟩ := script_at L
  have htk := script_toks L ZT
  rw [ZN] at hat hsz
  subst hat
  all_lens
  rename IntsAre _ _ => hi
  rename Heap.IsList _ _ _ => hL
  rename (¬ (_ < _)) => hc
  have hol := script_obj L hL
  refine Mine.law_any hi (Int.ofNat_le.mp (Int.not_lt.mp hc)) ZA hol fun s' K hgens hos => ?_
  exact ⟨.inl ⟨_, _, [], rfl, fun _ => rfl, ReadsW.bool true, (by wrow_post), fun _ => ⟨List.nodup_nil, fun _ hm => (nomatch hm)⟩⟩, K, hos, AllBare.of_eq (hgens.trans hg)⟩
end
