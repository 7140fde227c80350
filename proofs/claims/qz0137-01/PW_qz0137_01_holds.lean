import PyProof.Rows.All
import Wide.All
import OpenK.AllK
import Wide.FinOn
import OpenK.ZGo
import Lean
import PySem.Challenge.RW_qz0137_01
set_option Elab.async false
set_option maxRecDepth 100000
set_option maxHeartbeats 0
set_option linter.unusedVariables false
set_option genInjectivity false
set_option genSizeOf false
namespace Mine
open PySem PySem.Spec PySem.Calls PyProof.Rows PySem.W PySem.W.X PySem.Challenge
theorem nble {a b:Nat} (h:Nat.ble a b=true):a≤b:=Nat.le_of_ble_eq_true h
noncomputable def z0:List Nat:=[47,99,108,97,105,109,47,99,117,116,46,112,121]
noncomputable def z1:List Nat:=[112,101,114,108,99,111,114,101,46,114,101,109,97,116,99,104]
noncomputable def z2:List Nat:=[95,95,115,116,97,116,105,99,95,97,116,116,114,105,98,117,116,101,115,95,95]
noncomputable def z3:List Nat:=[112,101,114,108,99,111,114,101,46,114,101,101,115,99,97,112,101]
noncomputable def z4:List Nat:=[95,95,102,105,114,115,116,108,105,110,101,110,111,95,95]
noncomputable def z5:List Nat:=[112,101,114,108,99,111,114,101,46,114,101,99,111,109,112,105,108,101]
noncomputable def z6:List Nat:=[95,95,105,110,105,116,95,95]
noncomputable def z7:List Nat:=[112,101,114,108,99,111,114,101,46,101,114,114,111,114,115]
noncomputable def z8:List Nat:=[112,101,114,108,99,111,114,101,46,114,101,112,97,116,116,101,114,110]
noncomputable def z9:List Nat:=[95,95,109,111,100,117,108,101,95,95]
noncomputable def z10:List Nat:=[112,101,114,108,99,111,114,101,46,114,101,112,105,101,99,101,115]
noncomputable def z11:List Nat:=[95,95,119,101,97,107,114,101,102,95,95]
noncomputable def z12:List Nat:=[112,101,114,108,99,111,114,101,46,115,105,103,110,99,108,97,115,115]
noncomputable def z13:List Nat:=[112,101,114,108,99,111,114,101,46,102,114,97,109,101,115]
noncomputable def z14:List Nat:=[95,95,113,117,97,108,110,97,109,101,95,95]
noncomputable def z15:List Nat:=[115,116,97,116,101]
noncomputable def z16:List Nat:=[80,101,114,108,69,114,114,111,114]
noncomputable def z17:List Nat:=[114,117,110]
noncomputable def z18:List Nat:=[114,101,97,100,95,110,117,109,98,101,114,101,100,95,98,97,99,107]
noncomputable def z19:List Nat:=[95,95,100,105,99,116,95,95]
noncomputable def z20:List Nat:=[80,97,116,116,101,114,110,84,101,120,116]
noncomputable def z21:List Nat:=[114,101,97,100,95,112,108,97,105,110,95,101,115,99,97,112,101]
noncomputable def z22:List Nat:=[114,101,97,100,95,97,108,116,101,114,110,97,116,105,111,110]
noncomputable def z23:List Nat:=[99,111,109,112,105,108,101,95,112,97,116,116,101,114,110]
noncomputable def z24:List Nat:=[114,101,97,100,95,110,97,109,101,100,95,115,105,103,110]
noncomputable def z25:List Nat:=[95,95,100,111,99,95,95]
noncomputable def z26:List Nat:=[114,101,97,100,95,111,99,116,97,108,95,115,105,103,110]
noncomputable def z27:List Nat:=[66,97,100,80,97,116,116,101,114,110]
noncomputable def z28:List Nat:=[114,101,97,100,95,110,97,109,101,100,95,98,97,99,107]
noncomputable def z29:List Nat:=[116,101,120,116]
noncomputable def z30:List Nat:=[114,101,97,100,95,114,97,110,103,101,95,101,110,100]
noncomputable def z31:List Nat:=[115,101,97,114,99,104,95,112,97,116,116,101,114,110]
noncomputable def z32:List Nat:=[108,97,119,95,113,122,48,49,51,55,95,48,49]
noncomputable def z33:List Nat:=[110,117,109,98,101,114,95,111,102,95,114,117,110]
noncomputable def z34:List Nat:=[114,101,97,100,95,104,101,120,95,115,105,103,110]
noncomputable def z35:List Nat:=[111,112,101,110,115,95,99,97,112,116,117,114,101]
noncomputable def z36:List Nat:=[112,97,114,115,101,95,112,97,116,116,101,114,110]
noncomputable def z37:List Nat:=[67,97,108,108,70,114,97,109,101]
noncomputable def z38:List Nat:=[112,101,114,108,99,111,114,101,46,108,105,109,105,116,115]
noncomputable def z39:List Nat:=[99,104,101,99,107,95,112,97,116,116,101,114,110]
noncomputable def z40:List Nat:=[115,101,116,95,114,101,103,105,115,116,101,114]
noncomputable def z41:List Nat:=[95,108,97,119,95,115,101,97,114,99,104,101,100]
noncomputable def z42:List Nat:=[99,111,109,112,105,108,101,95,116,114,101,101]
noncomputable def z43:List Nat:=[105,115,95,119,111,114,100,95,115,105,103,110]
noncomputable def z44:List Nat:=[99,111,117,110,116,95,103,114,111,117,112,115]
noncomputable def z45:List Nat:=[98,101,104,105,110,100,95,112,111,115,105,120]
noncomputable def z46:List Nat:=[105,115,95,115,105,103,110,95,116,111,108,100]
noncomputable def z47:List Nat:=[107,101,101,112,95,112,114,111,103,114,97,109]
noncomputable def z48:List Nat:=[108,97,115,116,95,112,97,116,116,101,114,110]
noncomputable def z49:List Nat:=[115,105,103,110,95,111,102,95,99,111,100,101]
noncomputable def z50:List Nat:=[114,101,97,100,95,99,111,110,116,114,111,108]
noncomputable def z51:List Nat:=[105,115,95,110,97,109,101,95,116,101,120,116]
noncomputable def z52:List Nat:=[114,101,97,100,95,99,111,117,110,116,101,100]
noncomputable def z53:List Nat:=[112,101,114,108,99,111,114,101,46,112,105,108,101,115]
noncomputable def z54:List Nat:=[115,101,108,102]
noncomputable def z55:List Nat:=[82,111,119,77,97,107,101,114]
noncomputable def z56:List Nat:=[114,101,97,100,95,99,97,112,116,117,114,101]
noncomputable def z57:List Nat:=[97,100,100,95,98,114,97,110,99,104,101,115]
noncomputable def z58:List Nat:=[112,111,115,105,120,95,105,116,101,109,115]
noncomputable def z59:List Nat:=[98,114,97,99,101,115,95,99,111,117,110,116]
noncomputable def z60:List Nat:=[115,107,105,112,95,117,110,115,101,101,110]
noncomputable def z61:List Nat:=[77,97,116,99,104,82,117,110]
noncomputable def z62:List Nat:=[114,111,119]
noncomputable def z63:List Nat:=[102,108,97,103,115]
noncomputable def z64:List Nat:=[105,115,95,111,110,101,95,115,105,103,110]
noncomputable def z65:List Nat:=[114,101,97,100,95,105,110,108,105,110,101]
noncomputable def z66:List Nat:=[112,114,111,103,114,97,109,95,102,111,114]
noncomputable def z67:List Nat:=[97,100,100,95,114,101,112,101,97,116,115]
noncomputable def z68:List Nat:=[114,101,97,100,95,109,101,109,98,101,114]
noncomputable def z69:List Nat:=[112,108,97,99,101,95,104,111,108,100,115]
noncomputable def z70:List Nat:=[105,115,95,102,111,108,100,101,100]
noncomputable def z71:List Nat:=[114,101,97,100,95,101,115,99,97,112,101]
noncomputable def z72:List Nat:=[84,111,111,76,111,110,103]
noncomputable def z73:List Nat:=[80,114,111,103,114,97,109]
noncomputable def z74:List Nat:=[105,116,101,109,95,104,111,108,100,115]
noncomputable def z75:List Nat:=[105,116,101,109,115,95,104,111,108,100]
noncomputable def z76:List Nat:=[117,110,116,105,108,95,115,105,103,110]
noncomputable def z77:List Nat:=[114,101,97,100,95,98,114,97,110,99,104]
noncomputable def z78:List Nat:=[117,110,100,111,95,101,110,116,114,121]
noncomputable def z79:List Nat:=[114,111,119,95,114,101,102,117,115,101]
noncomputable def z80:List Nat:=[114,111,119,95,114,101,116,117,114,110]
noncomputable def z81:List Nat:=[115,105,103,110]
noncomputable def z82:List Nat:=[114,101,97,100,95,112,111,115,105,120]
noncomputable def z83:List Nat:=[98,101,104,105,110,100,95,115,101,116]
noncomputable def z84:List Nat:=[114,101,97,100,95,105,110,110,101,114]
noncomputable def z85:List Nat:=[114,101,97,100,95,103,114,111,117,112]
noncomputable def z86:List Nat:=[114,111,119,95,98,101,104,105,110,100]
noncomputable def z87:List Nat:=[111,116,104,101,114,95,99,97,115,101]
noncomputable def z88:List Nat:=[116,97,107,101,95,99,111,117,110,116]
noncomputable def z89:List Nat:=[114,101,97,100,95,102,108,97,103,115]
noncomputable def z90:List Nat:=[109,97,116,99,104,95,102,114,111,109]
noncomputable def z91:List Nat:=[115,97,118,101,95,109,97,116,99,104]
noncomputable def z92:List Nat:=[97,100,100,95,97,116,111,109,105,99]
noncomputable def z93:List Nat:=[80,97,116,116,101,114,110,84,101,120,116,46,95,95,105,110,105,116,95,95]
noncomputable def z94:List Nat:=[115,101,116,95,104,111,108,100,115]
noncomputable def z95:List Nat:=[115,105,103,110,95,102,105,116,115]
noncomputable def z96:List Nat:=[115,105,103,110,115,95,101,110,100]
noncomputable def z97:List Nat:=[112,111,115,105,120,95,101,110,100]
noncomputable def z98:List Nat:=[76,105,109,105,116,115]
noncomputable def z99:List Nat:=[114,111,119,95,115,112,108,105,116]
noncomputable def z100:List Nat:=[114,111,119,95,119,111,114,100,115]
noncomputable def z101:List Nat:=[115,97,109,101,95,115,105,103,110]
noncomputable def z102:List Nat:=[114,101,97,100,95,108,111,111,107]
noncomputable def z103:List Nat:=[111,119,110,95,102,108,97,103,115]
noncomputable def z104:List Nat:=[114,111,119,95,99,108,111,115,101]
noncomputable def z105:List Nat:=[116,97,107,101,95,109,111,114,101]
noncomputable def z106:List Nat:=[115,101,116,95,109,97,116,99,104]
noncomputable def z107:List Nat:=[114,101,97,100,95,110,97,109,101]
noncomputable def z108:List Nat:=[114,101,97,100,95,97,116,111,109]
noncomputable def z109:List Nat:=[114,111,119,95,97,103,97,105,110]
noncomputable def z110:List Nat:=[114,111,119,95,112,108,97,99,101]
noncomputable def z111:List Nat:=[95,108,97,119,95,116,101,120,116]
noncomputable def z112:List Nat:=[66,97,100,80,97,116,116,101,114,110,46,95,95,105,110,105,116,95,95]
noncomputable def z113:List Nat:=[98,101,103,117,110]
noncomputable def z114:List Nat:=[99,108,111,115,101]
noncomputable def z115:List Nat:=[80,101,114,108,69,114,114,111,114,46,95,95,105,110,105,116,95,95]
noncomputable def z116:List Nat:=[105,115,95,110,101,103,97,116,101,100]
noncomputable def z117:List Nat:=[80,97,116,116,101,114,110,84,101,120,116,46,115,107,105,112,115]
noncomputable def z118:List Nat:=[112,101,114,108,99,111,114,101,46,109,97,116,99,104,105,110,103]
noncomputable def z119:List Nat:=[119,105,100,116,104,95,111,102]
noncomputable def z120:List Nat:=[114,111,119,95,116,101,115,116]
noncomputable def z121:List Nat:=[114,111,119,95,111,112,101,110]
noncomputable def z122:List Nat:=[114,111,119,95,106,117,109,112]
noncomputable def z123:List Nat:=[114,111,119,95,122,101,114,111]
noncomputable def z124:List Nat:=[114,111,119,95,108,111,111,112]
noncomputable def z125:List Nat:=[67,97,108,108,70,114,97,109,101,46,95,95,105,110,105,116,95,95]
noncomputable def z126:List Nat:=[102,111,117,110,100]
noncomputable def z127:List Nat:=[97,100,100,95,110,111,100,101]
noncomputable def z128:List Nat:=[97,100,100,95,108,111,111,112]
noncomputable def z129:List Nat:=[97,100,100,95,108,111,111,107]
noncomputable def z130:List Nat:=[114,101,97,100,95,115,101,116]
noncomputable def z131:List Nat:=[115,112,101,97,107,95,111,102]
noncomputable def z132:List Nat:=[114,111,119,95,109,97,114,107]
noncomputable def z133:List Nat:=[112,101,114,108,99,111,114,101,46,100,121,110,97,109,105,99]
noncomputable def z134:List Nat:=[82,111,119,77,97,107,101,114,46,95,95,105,110,105,116,95,95]
noncomputable def z135:List Nat:=[80,97,116,116,101,114,110,84,101,120,116,46,112,101,101,107]
noncomputable def z136:List Nat:=[105,110,95,99,108,97,115,115]
noncomputable def z137:List Nat:=[95,108,97,119,95,112,101,103]
noncomputable def z138:List Nat:=[77,97,116,99,104,82,117,110,46,95,95,105,110,105,116,95,95]
noncomputable def z139:List Nat:=[114,111,119,95,98,97,99,107]
noncomputable def z140:List Nat:=[84,111,111,76,111,110,103,46,95,95,105,110,105,116,95,95]
noncomputable def z141:List Nat:=[80,114,111,103,114,97,109,46,95,95,105,110,105,116,95,95]
noncomputable def z142:List Nat:=[70,114,97,109,101]
noncomputable def z143:List Nat:=[110,111,100,101]
noncomputable def z144:List Nat:=[114,117,110,95,101,110,100]
noncomputable def z145:List Nat:=[114,111,119,95,114,117,110]
noncomputable def z146:List Nat:=[112,114,111,103,114,97,109]
noncomputable def z147:List Nat:=[76,105,109,105,116,115,46,95,95,105,110,105,116,95,95]
noncomputable def z148:List Nat:=[114,111,119,95,99,117,116]
noncomputable def z149:List Nat:=[82,111,119,77,97,107,101,114,46,102,114,101,115,104]
noncomputable def z150:List Nat:=[119,111,114,100]
noncomputable def z151:List Nat:=[109,111,115,116]
noncomputable def z152:List Nat:=[98,97,99,107,95,117,112]
noncomputable def z153:List Nat:=[103,114,111,117,112,115]
noncomputable def z154:List Nat:=[70,114,97,109,101,46,95,95,105,110,105,116,95,95]
noncomputable def z155:List Nat:=[114,101,103,105,115,116,101,114,115]
noncomputable def z156:List Nat:=[115,116,101,112,115]
noncomputable def z157:List Nat:=[105,116,101,109,115]
noncomputable def z158:List Nat:=[114,117,110,95,111,102]
noncomputable def z159:List Nat:=[95,95,109,97,105,110,95,95]
noncomputable def z160:List Nat:=[109,97,107,101,114]
noncomputable def z161:List Nat:=[114,111,119,95,97,116]
noncomputable def z162:List Nat:=[82,111,119,77,97,107,101,114,46,97,100,100]
noncomputable def z163:List Nat:=[68,105,101,46,95,95,105,110,105,116,95,95]
noncomputable def z164:List Nat:=[82,117,110,46,95,95,105,110,105,116,95,95]
noncomputable def z165:List Nat:=[60,109,111,100,117,108,101,62]
noncomputable def z166:List Nat:=[103,111,95,111,110]
noncomputable def z167:List Nat:=[108,101,97,115,116]
noncomputable def z168:List Nat:=[68,105,101]
noncomputable def z169:List Nat:=[82,117,110]
noncomputable def z170:List Nat:=[105,115,95,98,101,104,105,110,100]
noncomputable def z171:List Nat:=[108,101,97,115,116,95,101,110,100]
noncomputable def z172:List Nat:=[110,97,109,101,115]
noncomputable def z173:List Nat:=[98,101,104,105,110,100]
noncomputable def z174:List Nat:=[119,105,100,116,104]
noncomputable def z175:List Nat:=[115,105,103,110,115]
noncomputable def z176:List Nat:=[105,115,95,108,97,122,121]
noncomputable def z177:List Nat:=[80,76,65,73,78,95,69,83,67,65,80,69,83]
noncomputable def z178:List Nat:=[79,67,84,65,76,95,70,73,71,85,82,69,83]
noncomputable def z179:List Nat:=[67,76,65,83,83,95,76,69,84,84,69,82,83]
noncomputable def z180:List Nat:=[98,101,103,105,110]
noncomputable def z181:List Nat:=[112,97,99,107,97,103,101]
noncomputable def z182:List Nat:=[95,95,112,97,99,107,97,103,101,95,95]
noncomputable def z183:List Nat:=[108,101,116,116,101,114]
noncomputable def z184:List Nat:=[108,105,109,105,116,115]
noncomputable def z185:List Nat:=[76,65,83,84,95,80,65,84,84,69,82,78]
noncomputable def z186:List Nat:=[80,79,83,73,88,95,82,65,78,71,69,83]
noncomputable def z187:List Nat:=[70,76,65,71,95,76,69,84,84,69,82,83]
noncomputable def z188:List Nat:=[66,82,65,67,75,69,84,95,67,79,83,84]
noncomputable def z189:List Nat:=[80,65,84,84,69,82,78,95,67,79,83,84]
noncomputable def z190:List Nat:=[95,95,108,111,97,100,101,114,95,95]
noncomputable def z191:List Nat:=[110,117,109,98,101,114]
noncomputable def z192:List Nat:=[72,69,88,95,70,73,71,85,82,69,83]
noncomputable def z193:List Nat:=[80,79,83,73,88,95,83,73,71,78,83]
noncomputable def z194:List Nat:=[67,79,85,78,84,95,83,73,71,78,83]
noncomputable def z195:List Nat:=[77,79,83,84,95,78,69,83,84,69,68]
noncomputable def z196:List Nat:=[83,84,69,80,95,71,82,79,85,80,83]
noncomputable def z197:List Nat:=[116,101,115,116]
noncomputable def z198:List Nat:=[114,101,103,105,115,116,101,114]
noncomputable def z199:List Nat:=[98,117,105,108,116,105,110,115]
noncomputable def z200:List Nat:=[99,111,100,101]
noncomputable def z201:List Nat:=[102,114,101,115,104]
noncomputable def z202:List Nat:=[105,110,110,101,114]
noncomputable def z203:List Nat:=[115,107,105,112,115]
noncomputable def z204:List Nat:=[100,101,112,116,104]
noncomputable def z205:List Nat:=[101,110,116,114,121]
noncomputable def z206:List Nat:=[77,79,83,84,95,67,79,85,78,84]
noncomputable def z207:List Nat:=[78,65,77,69,95,83,73,71,78,83]
noncomputable def z208:List Nat:=[77,79,83,84,95,80,73,76,69,68]
noncomputable def z209:List Nat:=[75,69,80,84,95,83,73,71,78,83]
noncomputable def z210:List Nat:=[77,65,68,69,95,83,73,71,78,83]
noncomputable def z211:List Nat:=[83,84,69,80,95,83,73,71,78,83]
noncomputable section
abbrev Led:=List (Addr × Obj)
structure Rep (g:Heap) (L:Led) (n:Nat) (h:Heap):Prop where
 size:h.objs.size=n
 own:∀ q∈L,h.get? q.1=some q.2∧g.get? q.1=none
 nd:(L.map (·.1)).Nodup
 keep:∀ b o,g.get? b=some o→h.get? b=some o
def nth:Led→Nat→Option (Addr × Obj)
 | [],_=>none
 | q::l,p=>match p with
  | 0=>some q
  | p+1=>nth l p
def put:Led→Nat→Obj→Led
 | [],_,_=>[]
 | q::l,p,o=>match p with
  | 0=>(q.1,o)::l
  | p+1=>q::put l p o
theorem nth_mem:∀ {L:Led} {p:Nat} {q:Addr × Obj},nth L p=some q→q∈L
 | [],_,_,e=>nomatch e
 | x::l,0,q,e=>by
  have:x=q:=Option.some.inj e
  subst this;exact .head _
 | x::l,p+1,q,e=>.tail _ (nth_mem (L:=l) (p:=p) e)
theorem put_keys:∀ (L:Led) (p:Nat) (o:Obj),(put L p o).map (·.1)=L.map (·.1)
 | [],_,_=>rfl
 | x::l,0,o=>rfl
 | x::l,p+1,o=>by
  show x.1::(put l p o).map (·.1)=x.1::l.map (·.1)
  rw [put_keys l p o]
theorem put_mem:∀ {L:Led} {p:Nat} {q:Addr × Obj} {o:Obj} {r:Addr × Obj},(L.map (·.1)).Nodup→nth L p=some q→r∈put L p o→(r=(q.1,o))∨(r∈L∧r.1≠q.1)
 | [],_,_,_,_,_,e,_=>nomatch e
 | x::l,0,q,o,r,hn,e,hr=>by
  have:x=q:=Option.some.inj e
  subst this
  rcases List.mem_cons.mp hr with rfl | hr
  ·exact .inl rfl
  ·refine .inr ⟨.tail _ hr,fun z=>?_⟩
   rw [List.map_cons,List.nodup_cons] at hn
   exact hn.1 (z ▸ List.mem_map_of_mem hr)
 | x::l,p+1,q,o,r,hn,e,hr=>by
  rw [List.map_cons,List.nodup_cons] at hn
  have hr':r∈x::put l p o:=hr
  rcases List.mem_cons.mp hr' with rfl | hr'
  ·refine .inr ⟨.head _,fun z=>?_⟩
   exact hn.1 (z ▸ List.mem_map_of_mem (nth_mem (L:=l) (p:=p) e))
  ·rcases put_mem (L:=l) (p:=p) hn.2 e hr' with h | ⟨h,k⟩
   ·exact .inl h
   ·exact .inr ⟨.tail _ h,k⟩
section
variable {g h:Heap} {L:Led} {n:Nat}
theorem Rep.at (D:Rep g L n h) {p:Nat} {q:Addr × Obj} (e:nth L p=some q):h.get? q.1=some q.2:=(D.own q (nth_mem e)).1
theorem Rep.alloc (D:Rep g L n h) {o:Obj} (hf:o.isFreed=false):Rep g ((h.objs.size,o)::L) (n+1) (h.push o):=by
 refine ⟨by rw [Heap.size_push,D.size],fun q hq=>?_,?_,fun b o' e=>Heap.get?_push_of_some _ (D.keep b o' e)⟩
 ·rcases List.mem_cons.mp hq with rfl | hq
  ·refine ⟨Heap.get?_push_size _ hf,?_⟩
   cases e:g.get? h.objs.size with
   | none=>rfl
   | some o'=>exact absurd (Heap.lt_size (D.keep _ _ e)) (Nat.lt_irrefl _)
  ·exact ⟨Heap.get?_push_of_some _ (D.own q hq).1,(D.own q hq).2⟩
 ·rw [List.map_cons,List.nodup_cons]
  refine ⟨fun hm=>?_,D.nd⟩
  obtain ⟨q,hq,e⟩:=List.mem_map.mp hm
  have:=Heap.lt_size (D.own q hq).1
  rw [e] at this
  exact Nat.lt_irrefl _ this
theorem Rep.update (D:Rep g L n h) {p:Nat} {q:Addr × Obj} {f:Obj→Obj} (e:nth L p=some q) (hf:(f q.2).isFreed=false):Rep g (put L p (f q.2)) n (h.update q.1 f):=by
 have hs:Heap.SameBut q.1 h (h.update q.1 f):=Heap.SameBut.update ..
 have ho:=D.at e
 have hg:=(D.own q (nth_mem e)).2
 refine ⟨by rw [hs.1,D.size],fun r hr=>?_,by rw [put_keys];exact D.nd,fun b o eb=>(hs.2 b fun z=>?_).trans (D.keep b o eb)⟩
 ·rcases put_mem D.nd e hr with rfl | ⟨hr,ne⟩
  ·exact ⟨by first | exact Heap.get?_update_self f ho hf | exact Heap.get?_update_self _ ho hf,hg⟩
  ·exact ⟨(hs.2 r.1 ne).trans (D.own r hr).1,(D.own r hr).2⟩
 ·rw [z,hg] at eb;cases eb
end
def sysLimitKey:List Nat:=[115,121,115,46,114,101,99,117,114,115,105,111,110,108,105,109,105,116]
theorem sysLimitKey_is:Str.ofString "sys.recursionlimit" = ⟨⟨sysLimitKey⟩⟩:=by
 exact Fast.ofString_ofList ['s','y','s','.','r','e','c','u','r','s','i','o','n','l','i','m','i','t']
def nlE (l:List DictEntry):Bool:=@List.rec DictEntry (fun _=>Bool) true (fun e _ ih=>match e.key with
 | .str x _=>@Bool.rec (fun _=>Bool) ih false (Fast.sEq x ⟨⟨sysLimitKey⟩⟩)
 | _=>false) l
def nl (o:Obj):Bool:=match o.data with
 | .dict es _=>nlE es.toList
 | _=>false
theorem nlE_spec {l:List DictEntry} (h:nlE l=true):∀ e∈l,∃ x t,e.key=.str x t∧x≠Str.ofString "sys.recursionlimit":=by
 revert h
 induction l with
 | nil=>exact fun _ e he=>(List.not_mem_nil he).elim
 | cons e l ih=>
  intro h e' hm
  have h':(match e.key with
   | .str x _=>@Bool.rec (fun _=>Bool) (nlE l) false (Fast.sEq x ⟨⟨sysLimitKey⟩⟩)
   | _=>false)=true:=h
  cases hk:e.key with
  | str x t=>
   rw [hk] at h'
   dsimp only at h'
   cases hs:Fast.sEq x ⟨⟨sysLimitKey⟩⟩ with
   | true=>rw [hs] at h';cases h'
   | false=>
    rw [hs] at h'
    rcases List.mem_cons.mp hm with rfl | hm
    ·refine ⟨x,t,hk,fun z=>?_⟩
     rw [sysLimitKey_is] at z
     rw [Fast.sEq_iff.mpr z] at hs
     cases hs
    ·exact ih h' e' hm
  | _=>rw [hk] at h';cases h'
theorem nl_spec {h:Heap} {o:Obj} (ho:h.get? cStatics=some o) (e:nl o=true):h.NoLimit:=by
 unfold nl at e
 split at e
 ·rename_i es ep hd
  have sp:=nlE_spec e
  have hn:h.isNs cStatics=true:=by
   unfold Heap.isNs
   rw [ho]
   show (match o.data with | .dict es _=>es.all (fun e=>match e.key with | .str _ _=>true | _=>false) | _=>false)=true
   rw [hd]
   show es.all _=true
   rw [← Array.all_toList,List.all_eq_true]
   intro y hy
   obtain ⟨x,t,hk,_⟩:=sp y hy
   rw [hk]
  refine ⟨_,.of_isNs hn,?_⟩
  obtain ⟨o',es',ep',ho',hd',hk',hf'⟩:=Heap.Ns.of_isNs hn
  rw [ho] at ho'
  cases ho'
  rw [hd] at hd'
  cases hd'
  rw [← hf']
  unfold nsFind findBy
  cases q:es.find? fun d=>d.key.isStr (Str.ofString "sys.recursionlimit") with
  | none=>rfl
  | some d=>
   exfalso
   have hp:=Array.find?_some q
   have hm:=Array.mem_of_find?_eq_some q
   obtain ⟨x,t,hk,hx⟩:=sp d (Array.mem_toList_iff.mpr hm)
   rw [hk] at hp
   unfold Value.isStr at hp
   exact hx (by simpa using hp)
 ·cases e
def chk:Sem Unit:=.load cStatics none fun o=>match nl o with
 | true=>.pure ()
 | false=>.unsupported ""
def callRest (self:Addr) (fd:FuncData) (args:Args) (body:List Stmt) (e:Sem Unit) (compiled:Str):Sem PySem.Fin:=
 Sem.bind (bindArgs fd args) fun b=>Sem.bind (newFunctionEnv fd.scope fd.globals fd.closure b (compiled++".<locals>.") (some self) fd.code none fd.builtins) fun env=>
  Sem.bind e fun _=>again (.func body env)
def callIn (self:Addr) (fd:FuncData) (args:Args):Sem PySem.Fin:=match fd.scope.isGenerator with
 | true=>.unsupported ""
 | false=>match fd.scope.isCoroutine with
  | true=>.unsupported ""
  | false=>match fd.body with
   | .expr _=>.unsupported ""
   | .stmts body=>match fd.code with
    | .ref c=>Sem.bind (field (.ref c) 1) fun v=>match v with
     | .str q _=>callRest self fd args body chk q
     | _=>.unsupported ""
    | _=>.unsupported ""
section
variable {M:Model} {Γ:PySem.Ctx}
theorem wp_chk {Q:Unit→Pos→Shared→Prop} {E:Value→Pos→Shared→Prop} {p:Pos} {s:Shared} (h:Sem.wp M Γ chk Q E p s):s.heap.NoLimit∧Q () p s:=by
 unfold chk at h
 rw [Sem.wp_load] at h
 obtain ⟨o,ho,h⟩:=h
 cases q:nl o with
 | true=>rw [q] at h;exact ⟨nl_spec ho q,h⟩
 | false=>rw [q] at h;exact h.elim
theorem wp_enter {A:Around} (hΓ:Γ.In A) (hd:A.depth < recursionLimit) {Q:Unit→Pos→Shared→Prop} {E:Value→Pos→Shared→Prop} {p:Pos} {s:Shared} (h:Sem.wp M Γ chk Q E p s):Sem.wp M Γ enterFrame Q E p s:=by
 obtain ⟨hl,hq⟩:=wp_chk h
 obtain ⟨mc,hns,hnone⟩:=hl
 have hge:=frameCount_ge ((Γ.code,p)::Γ.below)
 rw [frameCount_cons] at hge
 have hin:=hΓ.2.1
 have hsum:((((Γ.code,p)::Γ.below).map (·.1)).map (·.frames)).sum+((((Γ.code,p)::Γ.below).map (·.1)).filter Code.isCreation).length < recursionLimit:=by omega
 simp only [enterFrame,currentRecursionLimit,Sem.wp_bind']
 show Sem.wp M Γ (nsGet cStatics "sys.recursionlimit") _ _ p s
 rw [Sem.wp_nsGet M Γ _ p s hns,hnone]
 show Sem.wp M Γ (if nearTheLimitUnderAClaim (((Γ.code,p)::Γ.below).map (·.1)) (((((Γ.code,p)::Γ.below).map (·.1)).map (·.frames)).sum+((((Γ.code,p)::Γ.below).map (·.1)).filter Code.isCreation).length) recursionLimit=true then _ else _) _ _ p s
 rw [if_neg (by rw [not_nearTheLimit hΓ hd];exact Bool.false_ne_true)]
 show Sem.wp M Γ (if ((((Γ.code,p)::Γ.below).map (·.1)).map (·.frames)).sum ≥ recursionLimit then _ else _) _ _ p s
 rw [if_neg (by omega)]
 show Sem.wp M Γ (if ((((Γ.code,p)::Γ.below).map (·.1)).map (·.frames)).sum+((((Γ.code,p)::Γ.below).map (·.1)).filter Code.isCreation).length ≥ recursionLimit then _ else _) _ _ p s
 rw [if_neg (by omega)]
 exact hq
theorem wp_callRest {A:Around} (hΓ:Γ.In A) (hd:A.depth < recursionLimit) {a:Addr} {fd:FuncData} {args:Args} {body:List Stmt} {q:Str} {Q:PySem.Fin→Pos→Shared→Prop} {E:Value→Pos→Shared→Prop} {p:Pos} {s:Shared}
  (h:Sem.wp M Γ (callRest a fd args body chk q) Q E p s):Sem.wp M Γ (callRest a fd args body enterFrame q) Q E p s:=by
 unfold callRest at h ⊢
 rw [Sem.wp_bind] at h ⊢
 refine Sem.wp_mono M Γ _ (fun b p' s' h=>?_) (fun _ _ _ h=>h) p s h
 rw [Sem.wp_bind] at h ⊢
 refine Sem.wp_mono M Γ _ (fun env p' s' h=>?_) (fun _ _ _ h=>h) p' s' h
 rw [Sem.wp_bind] at h ⊢
 exact wp_enter hΓ hd h
theorem wp_callIn {A:Around} (hΓ:Γ.In A) (hd:A.depth < recursionLimit) {a:Addr} {fd:FuncData} {args:Args} {Q:PySem.Fin→Pos→Shared→Prop} {E:Value→Pos→Shared→Prop} {p:Pos} {s:Shared}
  (h:Sem.wp M Γ (callIn a fd args) Q E p s):Sem.wp M Γ (callFunction a fd args) Q E p s:=by
 unfold callIn at h
 cases hg:fd.scope.isGenerator with
 | true=>rw [hg] at h;exact h.elim
 | false=>
 rw [hg] at h
 cases hc:fd.scope.isCoroutine with
 | true=>rw [hc] at h;exact h.elim
 | false=>
 rw [hc] at h
 cases hb:fd.body with
 | expr _=>rw [hb] at h;exact h.elim
 | stmts body=>
 rw [hb] at h
 cases hcd:fd.code with
 | ref c=>
  rw [hcd] at h
  dsimp only at h
  rw [Sem.wp_bind] at h
  simp only [callFunction,hg,hc,hb,hcd]
  rw [Sem.wp_bind']
  refine Sem.wp_mono M Γ _ (fun v p' s' h=>?_) (fun _ _ _ h=>h) p s h
  cases v with
  | str q t=>
   have z:=wp_callRest hΓ hd h
   unfold callRest at z
   rw [hcd] at z
   exact z
  | _=>exact h.elim
 | _=>rw [hcd] at h;exact h.elim
end
def callDef (f:Addr) (args:Args):Sem PySem.Fin:=.load f none fun o=>match o.data with
 | .func fd=>callIn f fd args
 | _=>.unsupported ""
theorem wp_callDef {M:Model} {Γ:PySem.Ctx} {A:Around} (hΓ:Γ.In A) (hd:A.depth < recursionLimit) {f:Addr} {args:Args} {Q:PySem.Fin→Pos→Shared→Prop} {E:Value→Pos→Shared→Prop} {p:Pos} {s:Shared}
  (h:Sem.wp M Γ (callDef f args) Q E p s):Sem.wp M Γ (callAny (.ref f) args) Q E p s:=by
 unfold callDef at h
 rw [Sem.wp_load] at h
 obtain ⟨o,ho,h⟩:=h
 simp only [callAny]
 rw [Sem.wp_bind']
 show Sem.wp M Γ (.load f none .pure) _ _ p s
 rw [Sem.wp_load]
 refine ⟨o,ho,?_⟩
 rw [Sem.wp_pure]
 cases hdt:o.data with
 | func fd=>rw [hdt] at h;exact wp_callIn hΓ hd h
 | _=>rw [hdt] at h;exact h.elim
end
noncomputable section
inductive Ko where
 | base
 | ret (c:Code) (hd:Option Value) (k:Result→Sem PySem.Fin) (κ:Ko)
def Ko.handled:Ko→Option Value
 | .base=>none
 | .ret _ hd _ κ=>match hd with
  | some v=>some v
  | none=>κ.handled
def Ko.envs:Ko→List Env
 | .base=>[]
 | .ret c _ _ κ=>c.envs++κ.envs
def Ko.len:Ko→Nat
 | .base=>0
 | .ret _ _ _ κ=>Nat.succ κ.len
structure Shape where
 r:Result
 upd:List Obj
 new:Led
 x:Nat
 m:Nat
 t:Nat
 i:Nat
 tail:Led
inductive Scr:Type 1 where
 | nil
 | keep (ps:List Nat)
 | keepT (ps:List Nat) (k:Nat)
 | val (v:Nat→Value) (k:Nat) (rest:Scr)
 | ask (ps:List Nat) (k:Nat) (D:Nat) (P:Type) (sh:Nat→Nat→P→Shape) (rest:P→Scr)
 | askF (fe:List Env) (ps:List Nat) (k:Nat) (D:Nat) (P:Type) (sh:Nat→Nat→P→Shape) (rest:P→Scr)
 | gv (v:Value) (k:Nat) (rest:Scr)
 | ga (ps:List Nat) (sh:Shape) (rest:Scr)
inductive Asked where
 | fn (f:Addr) (args:List Value)
 | bi (n:Nat) (args:List Value)
 | code (c:Code)
structure HS where
 c:Code
 κ:Ko
 k:List (Code × Pos)→Sem PySem.Fin
 L:Led
 x:Nat
 m:Nat
 t:Nat
 i:Nat
inductive Out:Type 1 where
 | done (r:Result) (L:Led) (x m t i:Nat) (oa ob:List Nat)
 | again (c:Code) (L:Led) (x m t i:Nat) (oa ob:List Nat)
 | val (c:Asked) (v:Value) (k:Nat) (t:Nat) (len:Nat) (rest:Out)
 | ask (c:Asked) (l kn:Led) (x m t i:Nat) (len:Nat) (D:Nat) (P:Type) (sh:P→Shape) (rest:P→Out)
 | askF (c:Asked) (fe:List Env) (l kn:Led) (x m t i:Nat) (len:Nat) (D:Nat) (P:Type) (sh:P→Shape) (rest:P→Out)
 | halt (st:HS) (oa ob:List Nat)
 | giv (o:Out)
 | stuck (n:Nat)
def askedOf (c:Code):Asked:=match c with
 | .call f args=>match f with
  | .ref a=>match args.kw with
   | []=>.fn a args.pos
   | _::_=>.code c
  | _=>.code c
 | .builtin id args=>match args.kw with
  | []=>.bi (PySem.W.S.codeS id) args.pos
  | _::_=>.code c
 | _=>.code c
def notIn (p:Nat):List Nat→Bool
 | []=>true
 | q::l=>match Nat.beq p q with
  | true=>false
  | false=>notIn p l
def sel (L:Led):List Nat→Option Led
 | []=>some []
 | p::ps=>match notIn p ps with
  | false=>none
  | true=>match nth L p with
   | none=>none
   | some q=>match sel L ps with
    | none=>none
    | some l=>some (q::l)
def allLt (k:Nat):List Nat→Bool
 | []=>true
 | p::ps=>match Nat.blt p k with
  | true=>allLt k ps
  | false=>false
def dropK:Nat→Led→Led
 | 0,L=>L
 | k+1,L=>match L with
  | []=>[]
  | _::l=>dropK k l
def dropL (L:Led) (k:Nat):Led:=dropK k L
def puts (L:Led):List Nat→List Obj→Led
 | [],_=>L
 | p::ps,os=>match os with
  | []=>L
  | o::os=>puts (put L p o) ps os
def zipUp:Led→List Obj→Led
 | [],_=>[]
 | q::l,os=>match os with
  | []=>[]
  | o::os=>(q.1,o)::zipUp l os
structure Sys where
 kt:KT
 kl:Led
 P:Params
 prog:Program
 den:Code→Sem PySem.Fin
 qt:Code→Bool
 cl:Code→Bool
 cd:Addr→Args→Sem PySem.Fin
 D:Nat
abbrev Rest:=Led→Nat→Nat→Nat→Nat→List Nat→List Nat→List Nat→Scr→Out
abbrev ExTy:=Code→Ko→Sem PySem.Fin→Rest
def no (n:Nat):Rest:=fun _ _ _ _ _ _ _ _ _=>.stuck n
def retO (ih:ExTy) (r:Result) (κ:Ko):Rest:=match κ with
 | .base=>fun L x m t i oa ob _ sc=>match sc with
  | .keep ps=>match sel L ps with
   | some l=>.done r l x m t i oa ob
   | none=>.stuck 1
  | .keepT ps k=>match allLt k ps with
   | false=>.stuck 5
   | true=>match sel L ps with
    | some l=>.done r (l++dropL L k) x m t i oa ob
    | none=>.stuck 1
  | _=>.stuck 2
 | .ret c _ k κ=>ih c κ (k r)
def askO (ih:ExTy) (c':Code) (κ:Ko):Rest:=fun L x m t i oa ob ds sc=>match κ.handled with
 | some _=>.stuck 6
 | none=>match sc with
  | .val v k rest=>.val (askedOf c') (v (Nat.add t i)) k (Nat.add t i) κ.len (retO ih (.ok (.ret (v (Nat.add t i)))) κ L x m t (Nat.add i k) oa ob ds rest)
  | .ask ps k D P sh rest=>match allLt k ps with
   | false=>.stuck 5
   | true=>match sel L ps with
    | some l=>.ask (askedOf c') l (dropL L k) x m t i κ.len D P (sh (Nat.add x m) (Nat.add t i)) fun p=>retO ih (sh (Nat.add x m) (Nat.add t i) p).r κ ((sh (Nat.add x m) (Nat.add t i) p).new++puts L ps (sh (Nat.add x m) (Nat.add t i) p).upd++(sh (Nat.add x m) (Nat.add t i) p).tail) (sh (Nat.add x m) (Nat.add t i) p).x (sh (Nat.add x m) (Nat.add t i) p).m (sh (Nat.add x m) (Nat.add t i) p).t (sh (Nat.add x m) (Nat.add t i) p).i oa ob ds (rest p)
    | none=>.stuck 3
  | .askF _ ps k D P sh rest=>match allLt k ps with
   | false=>.stuck 5
   | true=>match sel L ps with
    | some l=>.askF (askedOf c') κ.envs l (dropL L k) x m t i κ.len D P (sh (Nat.add x m) (Nat.add t i)) fun p=>retO ih (sh (Nat.add x m) (Nat.add t i) p).r κ ((sh (Nat.add x m) (Nat.add t i) p).new++puts L ps (sh (Nat.add x m) (Nat.add t i) p).upd++(sh (Nat.add x m) (Nat.add t i) p).tail) (sh (Nat.add x m) (Nat.add t i) p).x (sh (Nat.add x m) (Nat.add t i) p).m (sh (Nat.add x m) (Nat.add t i) p).t (sh (Nat.add x m) (Nat.add t i) p).i oa ob ds (rest p)
    | none=>.stuck 3
  | .gv v k rest=>.giv (retO ih (.ok (.ret v)) κ L x m t (Nat.add i k) oa ob ds rest)
  | .ga ps sh rest=>.giv (retO ih sh.r κ (sh.new++puts L ps sh.upd++sh.tail) sh.x sh.m sh.t sh.i oa ob ds rest)
  | _=>.stuck 4
def enterO (S:Sys) (ih:ExTy) (c':Code) (κ:Ko):Rest:=fun L x m t i oa ob ds sc=>match ds with
 | []=>.stuck 7
 | d::ds=>match d with
  | 0=>match S.cl c' with
   | false=>ih c' κ (S.den c') L x m t i oa ob ds sc
   | true=>.stuck 8
  | 1=>match c' with
   | .call f args=>match f with
    | .ref a=>match Nat.blt (Nat.add S.D (Nat.mul 5 (Nat.succ κ.len))) 1000 with
     | true=>ih c' κ (S.cd a args) L x m t i oa ob ds sc
     | false=>.stuck 9
    | _=>.stuck 10
   | _=>.stuck 11
  | 2=>askO ih c' κ L x m t i oa ob ds sc
  | 3=>match κ with
   | .base=>match sc with
    | .keep ps=>match sel L ps with
     | some l=>.again c' l x m t i oa ob
     | none=>.stuck 12
    | .keepT ps k=>match allLt k ps with
     | false=>.stuck 5
     | true=>match sel L ps with
      | some l=>.again c' (l++dropL L k) x m t i oa ob
      | none=>.stuck 12
    | _=>.stuck 13
   | .ret ..=>.stuck 14
  | _=>.stuck 15
def stepO (S:Sys) (ih:ExTy) (c:Code) (κ:Ko) (tr:Sem PySem.Fin):Rest:=match tr with
 | .pure fin=>match fin with
  | .done f=>retO ih (.ok f) κ
  | .again c'=>match S.qt c' with
   | true=>enterO S ih c' κ
   | false=>no 16
 | .raise e=>retO ih (.error e) κ
 | .rule _ k=>ih c κ (k ())
 | .at _ k=>ih c κ (k ())
 | .point _ k=>ih c κ (k ())
 | .ask k=>ih c κ (k ⟨S.prog,S.P⟩)
 | .load a _ k=>fun L x m t i oa ob ds sc=>match ds with
  | []=>.stuck 17
  | d::ds=>match d with
   | 0=>match S.kt.get a with
    | some o=>ih c κ (k o) L x m t i oa ob ds sc
    | none=>.stuck 18
   | d+1=>match d with
    | 0=>match ds with
     | []=>.stuck 27
     | p::ds=>match nth S.kl p with
      | some q=>ih c κ (k q.2) L x m t i (a::oa) (q.1::ob) ds sc
      | none=>.stuck 28
    | p+1=>match nth L p with
     | some q=>ih c κ (k q.2) L x m t i (a::oa) (q.1::ob) ds sc
     | none=>.stuck 19
 | .loadIfAlive a k=>fun L x m t i oa ob ds sc=>match ds with
  | []=>.stuck 17
  | d::ds=>match d with
   | 0=>match S.kt.get a with
    | some o=>ih c κ (k (some o)) L x m t i oa ob ds sc
    | none=>.stuck 18
   | d+1=>match d with
    | 0=>match ds with
     | []=>.stuck 27
     | p::ds=>match nth S.kl p with
      | some q=>ih c κ (k (some q.2)) L x m t i (a::oa) (q.1::ob) ds sc
      | none=>.stuck 28
    | p+1=>match nth L p with
     | some q=>ih c κ (k (some q.2)) L x m t i (a::oa) (q.1::ob) ds sc
     | none=>.stuck 19
 | .update a _ f k=>fun L x m t i oa ob ds sc=>match ds with
  | []=>.stuck 21
  | p::ds=>match nth L p with
   | some q=>match (f q.2).isFreed with
    | false=>ih c κ (k ()) (put L p (f q.2)) x m t i (a::oa) (q.1::ob) ds sc
    | true=>.stuck 22
   | none=>.stuck 23
 | .alloc o k=>fun L x m t i oa ob ds sc=>match o.isFreed with
  | false=>ih c κ (k (Nat.add x m)) ((Nat.add x m,o)::L) x (Nat.succ m) t i oa ob ds sc
  | true=>.stuck 24
 | .fresh k=>fun L x m t i oa ob ds sc=>ih c κ (k (Nat.add t i)) L x m t (Nat.succ i) oa ob ds sc
 | .handled own k=>match own with
  | false=>ih c κ (k κ.handled)
  | true=>no 25
 | .stack k=>fun L x m t i oa ob _ _=>match Nat.blt (Nat.add S.D (Nat.mul 5 κ.len)) 980 with
  | true=>.halt ⟨c,κ,k,L,x,m,t,i⟩ oa ob
  | false=>.stuck 30
 | .call c' hd _ _ k=>match okMark hd with
  | true=>enterO S ih c' (.ret c hd k κ)
  | false=>no 26
 | _=>no 20
def exec (S:Sys):Nat→ExTy
 | 0=>fun _ _ _=>no 40
 | n+1=>stepO S (exec S n)
def haltOf:Out→HS
 | .giv o=>haltOf o
 | .halt st _ _=>st
 | _=>⟨.builtin "" ⟨[],[]⟩,.base,fun _=>.unsupported "",[],0,0,0,0⟩
def Low (D:Nat) (A:Around):Prop:=A.handled=none∧A.depth≤D∧A.units≤10 * D
def Asked.Is (q:Asked) (c:Code):Prop:=match q with
 | .fn f args=>c=.call (.ref f) ⟨args,[]⟩
 | .bi n args=>∃ id,PySem.code id=n∧c=.builtin id ⟨args,[]⟩
 | .code c'=>c=c'
def Shape.all (l:Led) (s:Shape):Led:=s.new++zipUp l s.upd++s.tail
def AskOK (prog:Program) (w:World) (G:Heap→Prop) (q:Asked) (l kn:Led) (x m t i:Nat) (D:Nat) {P:Type} (sh:P→Shape):Prop:=
 ∀ (c:Code),q.Is c→∀ (g:Heap) (A:Around) (R:Result→Shared→Prop) (gs:Array GenState) (d:Drawn) (os:OsState) (h:Heap),G g→(∀ q∈kn,g.get? q.1=some q.2)→Low D A→Rep g l (Nat.add x m) h →
  (∀ p h',Rep g ((sh p).all l) (Nat.add (sh p).x (sh p).m) h'→R (sh p).r ⟨h',gs,d,Nat.add (sh p).t (sh p).i,os⟩) →
  codeAny (model prog w) A c R ⟨h,gs,d,Nat.add t i,os⟩
def AskF (prog:Program) (w:World) (G:Heap→Prop) (fr:Option (List Env)) (q:Asked) (l kn:Led) (x m t i:Nat) (D:Nat) {P:Type} (sh:P→Shape):Prop:=
 ∀ (c:Code),q.Is c→∀ (g:Heap) (A:Around) (R:Result→Shared→Prop) (gs:Array GenState) (d:Drawn) (os:OsState) (h:Heap),G g→(∀ q∈kn,g.get? q.1=some q.2)→Low D A→A.frames=fr→Rep g l (Nat.add x m) h →
  (∀ p h',Rep g ((sh p).all l) (Nat.add (sh p).x (sh p).m) h'→R (sh p).r ⟨h',gs,d,Nat.add (sh p).t (sh p).i,os⟩) →
  codeAny (model prog w) A c R ⟨h,gs,d,Nat.add t i,os⟩
def ValOK (prog:Program) (w:World) (G:Heap→Prop) (q:Asked) (v:Value) (k t D:Nat):Prop:=
 ∀ (c:Code),q.Is c→∀ (g:Heap) (A:Around) (R:Result→Shared→Prop) (gs:Array GenState) (d:Drawn) (os:OsState) (h:Heap),G g→Low D A→(∀ b o,g.get? b=some o→h.get? b=some o) →
  R (.ok (.ret v)) ⟨h,gs,d,Nat.add t k,os⟩→codeAny (model prog w) A c R ⟨h,gs,d,t,os⟩
structure Ctl where
 prog:Program
 w:World
 kt:KT
 kl:Led
 G:Heap→Prop
 D:Nat
 g:Heap
 A:Around
 R:Result→Shared→Prop
 gs:Array GenState
 d:Drawn
 os:OsState
def around (A:Around):Ko→Around
 | .base=>A
 | .ret c hd _ κ=>((around A κ).under c).mark hd
def endR (C:Ctl):Ko→Result→Shared→Prop
 | .base=>C.R
 | .ret c _ k κ=>postR C.prog C.w (around C.A κ) c (postC C.prog C.w (around C.A κ) (endR C κ)) (postE (endR C κ)) k
def Means (C:Ctl) (c:Code) (κ:Ko) (tr:Sem PySem.Fin) (s:Shared):Prop:=
 wpOwn (model C.prog C.w) (around C.A κ) c tr (postC C.prog C.w (around C.A κ) (endR C κ)) (postE (endR C κ)) s
def Ko.low:Ko→Prop
 | .base=>True
 | .ret c _ _ κ=>c.weight≤5∧κ.low
def Out.ok (C:Ctl):Out→Prop
 | .done r L x m t i oa ob=>oa=ob∧∀ h,Rep C.g L (Nat.add x m) h→C.R r ⟨h,C.gs,C.d,Nat.add t i,C.os⟩
 | .again c L x m t i oa ob=>oa=ob∧∀ h,Rep C.g L (Nat.add x m) h→codeAny (model C.prog C.w) C.A c C.R ⟨h,C.gs,C.d,Nat.add t i,C.os⟩
 | .val q v k t len rest=>ValOK C.prog C.w C.G q v k t (C.D+5 * len)∧rest.ok C
 | .ask q l kn x m t i len D P sh rest=>Nonempty P∧C.D+5 * len≤D∧(∀ p,(sh p).upd.length=l.length)∧AskOK C.prog C.w C.G q l kn x m t i D sh∧∀ p,(rest p).ok C
 | .askF q fe l kn x m t i len D P sh rest=>Nonempty P∧C.D+5 * len≤D∧(∀ p,(sh p).upd.length=l.length)∧AskF C.prog C.w C.G (C.A.frames.map (fe++·)) q l kn x m t i D sh∧∀ p,(rest p).ok C
 | .halt st oa ob=>oa=ob∧(st.κ.low→st.c.weight≤5→∀ h,Rep C.g st.L (Nat.add st.x st.m) h→∀ acts,unitsOf acts < cLine→Means C st.c st.κ (st.k acts) ⟨h,C.gs,C.d,Nat.add st.t st.i,C.os⟩)
 | .giv _=>False
 | .stuck _=>False
end
noncomputable section
theorem frames_le (c:Code):c.frames≤3:=by
 unfold Code.frames
 split<;>first | omega | (split<;>omega)
theorem weight_le {c:Code} (h:c.isCaller=false):c.weight≤5:=by
 unfold Code.weight
 have:=frames_le c
 rw [h]
 simp only [Bool.false_eq_true,if_false]
 split<;>split<;>omega
theorem units_le (c:Code):c.cUnits≤10:=by
 have:=frames_le c
 cases c<;>simp only [Code.cUnits]<;>omega
theorem around_low {C:Ctl} (h:Low C.D C.A):∀ {κ:Ko},κ.low→(around C.A κ).depth≤C.D+5 * κ.len∧(around C.A κ).units≤10 * (C.D+5 * κ.len)∧(around C.A κ).handled=κ.handled
 | .base,_=>⟨by show C.A.depth≤_;have:=h.2.1;simp only [Ko.len];omega,by show C.A.units≤_;have:=h.2.2;simp only [Ko.len];omega,h.1⟩
 | .ret c hd k κ,⟨hw,hl⟩=>by
  obtain ⟨a,b,e⟩:=around_low h (κ:=κ) hl
  have hu:=units_le c
  refine ⟨?_,?_,?_⟩
  ·show (around C.A κ).depth+c.weight≤_
   simp only [Ko.len];omega
  ·show (around C.A κ).units+c.cUnits≤_
   simp only [Ko.len];omega
  ·show hd.or (around C.A κ).handled=(match hd with | some v=>some v | none=>κ.handled)
   rw [e]
   cases hd<;>rfl
theorem around_frames {C:Ctl}:∀ {κ:Ko},(around C.A κ).frames=C.A.frames.map (κ.envs++·)
 | .base=>by show C.A.frames=_;cases C.A.frames<;>rfl
 | .ret c hd k κ=>by
  show pushEnvs c.envs (around C.A κ).frames=C.A.frames.map ((c.envs++κ.envs)++·)
  rw [pushEnvs_eq,around_frames (κ:=κ)]
  cases C.A.frames with
  | none=>rfl
  | some l=>show some (c.envs++(κ.envs++l))=some ((c.envs++κ.envs)++l);rw [List.append_assoc]
theorem notIn_spec {p:Nat}:∀ {l:List Nat},notIn p l=true→p ∉ l
 | [],_=>fun h=>nomatch h
 | q::l,h=>by
  unfold notIn at h
  cases e:Nat.beq p q with
  | true=>rw [e] at h;cases h
  | false=>
   rw [e] at h
   intro hm
   rcases List.mem_cons.mp hm with rfl | hm
   ·rw [Nat.beq_refl] at e;cases e
   ·exact notIn_spec h hm
theorem nth_inj:∀ {L:Led} {p p':Nat} {q q':Addr × Obj},(L.map (·.1)).Nodup→nth L p=some q→nth L p'=some q'→q.1=q'.1→p=p'
 | [],_,_,_,_,_,e,_,_=>nomatch e
 | x::l,0,0,_,_,_,_,_,_=>rfl
 | x::l,0,p'+1,q,q',hn,e,e',k=>by
  have:x=q:=Option.some.inj e
  subst this
  rw [List.map_cons,List.nodup_cons] at hn
  exact absurd (k ▸ List.mem_map_of_mem (nth_mem (L:=l) (p:=p') e')) hn.1
 | x::l,p+1,0,q,q',hn,e,e',k=>by
  have:x=q':=Option.some.inj e'
  subst this
  rw [List.map_cons,List.nodup_cons] at hn
  exact absurd (k ▸ List.mem_map_of_mem (nth_mem (L:=l) (p:=p) e)) hn.1
 | x::l,p+1,p'+1,q,q',hn,e,e',k=>by
  rw [List.map_cons,List.nodup_cons] at hn
  rw [nth_inj (L:=l) hn.2 e e' k]
inductive Sel (L:Led):List Nat→Led→Prop where
 | nil:Sel L [] []
 | cons {p:Nat} {ps:List Nat} {q:Addr × Obj} {l:Led} (h:p ∉ ps) (e:nth L p=some q) (r:Sel L ps l):Sel L (p::ps) (q::l)
theorem sel_spec {L:Led}:∀ {ps:List Nat} {l:Led},sel L ps=some l→Sel L ps l
 | [],l,h=>by cases h;exact .nil
 | p::ps,l,h=>by
  unfold sel at h
  cases e:notIn p ps with
  | false=>rw [e] at h;cases h
  | true=>
   rw [e] at h
   cases e2:nth L p with
   | none=>rw [e2] at h;cases h
   | some q=>
    rw [e2] at h
    cases e3:sel L ps with
    | none=>rw [e3] at h;cases h
    | some l'=>
     rw [e3] at h
     cases h
     exact .cons (notIn_spec e) e2 (sel_spec e3)
theorem Sel.at {L:Led} {ps:List Nat} {l:Led} (s:Sel L ps l):∀ q∈l,∃ p∈ps,nth L p=some q:=by
 induction s with
 | nil=>intro q h;cases h
 | cons h e r ih=>
  intro q hq
  rcases List.mem_cons.mp hq with rfl | hq
  ·exact ⟨_,.head _,e⟩
  ·obtain ⟨p,hp,e'⟩:=ih q hq
   exact ⟨p,.tail _ hp,e'⟩
theorem Sel.nodup {L:Led} {ps:List Nat} {l:Led} (s:Sel L ps l) (hn:(L.map (·.1)).Nodup):(l.map (·.1)).Nodup:=by
 induction s with
 | nil=>exact List.nodup_nil
 | cons h e r ih=>
  rw [List.map_cons,List.nodup_cons]
  refine ⟨fun hm=>?_,ih⟩
  obtain ⟨q',hq',k⟩:=List.mem_map.mp hm
  obtain ⟨p',hp',e'⟩:=r.at q' hq'
  exact h (nth_inj hn e' e k ▸ hp')
theorem Rep.sel {g h:Heap} {L l:Led} {n:Nat} {ps:List Nat} (D:Rep g L n h) (s:Sel L ps l):Rep g l n h:=
 ⟨D.size,fun q hq=>let ⟨_,_,e⟩:=s.at q hq;D.own q (nth_mem e),s.nodup D.nd,D.keep⟩
theorem puts_keys:∀ (ps:List Nat) (L:Led) (os:List Obj),(puts L ps os).map (·.1)=L.map (·.1)
 | [],_,_=>rfl
 | p::ps,L,[]=>rfl
 | p::ps,L,o::os=>by
  show (puts (put L p o) ps os).map (·.1)=_
  rw [puts_keys ps,put_keys]
theorem nth_put_ne:∀ {L:Led} {p p':Nat} {o:Obj},p≠p'→nth (put L p o) p'=nth L p'
 | [],_,_,_,_=>rfl
 | x::l,0,0,_,h=>absurd rfl h
 | x::l,0,p'+1,_,_=>rfl
 | x::l,p+1,0,_,_=>rfl
 | x::l,p+1,p'+1,o,h=>nth_put_ne (L:=l) (fun e=>h (by rw [e]))
theorem Sel.put {L:Led} {ps:List Nat} {l:Led} {p:Nat} {o:Obj} (s:Sel L ps l) (h:p ∉ ps):Sel (put L p o) ps l:=by
 induction s with
 | nil=>exact .nil
 | cons h' e r ih=>
  rw [List.mem_cons,not_or] at h
  exact .cons h' (by rw [nth_put_ne h.1];exact e) (ih h.2)
theorem puts_mem {ps:List Nat}:∀ {L l:Led} {os:List Obj} {r:Addr × Obj},(L.map (·.1)).Nodup→Sel L ps l→os.length=l.length→r∈puts L ps os →
  r∈zipUp l os∨(r∈L∧∀ q∈l,r.1≠q.1):=by
 induction ps with
 | nil=>
  intro L l os r hn s _ hr
  cases s
  exact .inr ⟨hr,fun q hq=>nomatch hq⟩
 | cons p ps ih=>
  intro L l os r hn s hlen hr
  cases s with
  | @cons _ _ q l' h e s=>
   cases os with
   | nil=>simp at hlen
   | cons o os=>
    have hr':r∈puts (Mine.put L p o) ps os:=hr
    have hn':((Mine.put L p o).map (·.1)).Nodup:=by rw [put_keys];exact hn
    rcases ih hn' (s.put h) (by simpa using hlen) hr' with hz | ⟨hm,hne⟩
    ·exact .inl (.tail _ hz)
    ·rcases put_mem hn e hm with rfl | ⟨hm,hne'⟩
     ·exact .inl (.head _)
     ·exact .inr ⟨hm,fun q' hq'=>by
       rcases List.mem_cons.mp hq' with rfl | hq'
       ·exact hne'
       ·exact hne q' hq'⟩
theorem zipUp_keys:∀ {l:Led} {os:List Obj},os.length=l.length→(zipUp l os).map (·.1)=l.map (·.1)
 | [],_,_=>rfl
 | q::l,[],h=>by simp at h
 | q::l,o::os,h=>by
  show q.1::(zipUp l os).map (·.1)=q.1::l.map (·.1)
  rw [zipUp_keys (by simpa using h)]
section
variable {g h:Heap} {L l:Led} {n:Nat} {ps:List Nat} {kt:KT}
theorem sub_hide (D:Rep g L n h) (hl:∀ q∈l,q∈L):∀ b o,g.get? b=some o→(hideAll h (l.map (·.1))).get? b=some o:=fun b o e=>by
 refine hideAll_get _ (D.keep b o e) fun hm=>?_
 obtain ⟨q,hq,rfl⟩:=List.mem_map.mp hm
 rw [(D.own q (hl q hq)).2] at e
 cases e
theorem Sel.sub (s:Sel L ps l):∀ q∈l,q∈L:=fun q hq=>let ⟨_,_,e⟩:=s.at q hq;nth_mem e
theorem Rep.hide (D:Rep g L n h) (s:Sel L ps l):Rep (hideAll h (l.map (·.1))) l n h:=
 ⟨D.size,fun q hq=>⟨(D.own q (s.sub q hq)).1,hideAll_none _ (List.mem_map_of_mem hq)⟩,s.nodup D.nd,fun _ _ e=>of_hideAll _ e⟩
theorem Rep.back0 {h':Heap} {n':Nat} {new:Led} {upd:List Obj} (D:Rep g L n h) (s:Sel L ps l) (hlen:upd.length=l.length) (D':Rep (hideAll h (l.map (·.1))) (new++zipUp l upd) n' h'):
  Rep g (new++puts L ps upd) n' h':=by
 have sub:=sub_hide D s.sub
 have gn:∀ b,(hideAll h (l.map (·.1))).get? b=none→g.get? b=none:=fun b e=>by
  cases q:g.get? b with
  | none=>rfl
  | some o=>rw [sub b o q] at e;cases e
 have stay:∀ r∈L,(∀ q∈l,r.1≠q.1)→h'.get? r.1=some r.2:=fun r hr hne=>by
  refine D'.keep _ _ (hideAll_get _ (D.own r hr).1 fun hm=>?_)
  obtain ⟨q,hq,e⟩:=List.mem_map.mp hm
  exact hne q hq e.symm
 refine ⟨D'.size,fun q hq=>?_,?_,fun b o e=>D'.keep b o (sub b o e)⟩
 ·rcases List.mem_append.mp hq with hq | hq
  ·have y:=D'.own q (List.mem_append_left _ hq)
   exact ⟨y.1,gn _ y.2⟩
  ·rcases puts_mem D.nd s hlen hq with hz | ⟨hm,hne⟩
   ·have y:=D'.own q (List.mem_append_right _ hz)
    exact ⟨y.1,gn _ y.2⟩
   ·exact ⟨stay q hm hne,(D.own q hm).2⟩
 ·have nd':=D'.nd
  rw [List.map_append,List.nodup_append] at nd' ⊢
  refine ⟨nd'.1,by rw [puts_keys];exact D.nd,fun a ha b hb e=>?_⟩
  subst e
  rw [puts_keys] at hb
  obtain ⟨r,hr,rfl⟩:=List.mem_map.mp hb
  obtain ⟨q,hq,e⟩:=List.mem_map.mp ha
  by_cases hin:r.1∈l.map (·.1)
  ·exact nd'.2.2 _ ha r.1 (by rw [zipUp_keys hlen];exact hin) rfl
  ·have y:=D'.own q (List.mem_append_left _ hq)
   rw [e] at y
   have z:=hideAll_get (l.map (·.1)) (D.own r hr).1 hin
   rw [y.2] at z
   cases z
theorem Rep.perm {L':Led} (D:Rep g L n h) (p:L.Perm L'):Rep g L' n h:=
 ⟨D.size,fun q hq=>D.own q (p.mem_iff.mpr hq),(p.map _).nodup_iff.mp D.nd,D.keep⟩
theorem mid (a b c:Led):(a++b++c).Perm (a++c++b):=by
 rw [List.append_assoc,List.append_assoc]
 exact List.Perm.append_left a List.perm_append_comm
theorem Rep.back {h':Heap} {n':Nat} {sh:Shape} (D:Rep g L n h) (s:Sel L ps l) (hlen:sh.upd.length=l.length) (D':Rep (hideAll h (l.map (·.1))) (sh.all l) n' h'):
  Rep g (sh.new++puts L ps sh.upd++sh.tail) n' h':=
 (D.back0 s hlen (D'.perm (mid _ _ _))).perm (mid _ _ _)
theorem allLt_spec {k:Nat}:∀ {ps:List Nat},allLt k ps=true→∀ p∈ps,p < k
 | [],_,_,h=>nomatch h
 | p::ps,e,r,h=>by
  unfold allLt at e
  cases b:Nat.blt p k with
  | false=>rw [b] at e;cases e
  | true=>
   rw [b] at e
   rcases List.mem_cons.mp h with rfl | h
   ·exact nble b
   ·exact allLt_spec e r h
theorem nth_get:∀ (L:Led) (i:Nat),nth L i=L[i]?
 | [],_=>rfl
 | _::_,0=>rfl
 | _::L,i+1=>nth_get L i
theorem dropK_eq:∀ (k:Nat) (L:Led),dropK k L=L.drop k
 | 0,_=>rfl
 | _+1,[]=>rfl
 | k+1,_::l=>dropK_eq k l
theorem dropL_eq (k:Nat) (L:Led):dropL L k=L.drop k:=dropK_eq k L
theorem dropL_spec {L:Led} {k:Nat} {q:Addr × Obj} (h:q∈dropL L k):∃ p,k≤p∧nth L p=some q:=by
 rw [dropL_eq] at h
 obtain ⟨i,hi⟩:=List.mem_iff_getElem?.mp h
 rw [List.getElem?_drop] at hi
 exact ⟨k+i,Nat.le_add_right _ _,(nth_get _ _).trans hi⟩
theorem known_hide {k:Nat} (D:Rep g L n h) (s:Sel L ps l) (hk:allLt k ps=true):∀ q∈dropL L k,(hideAll h (l.map (·.1))).get? q.1=some q.2:=fun q hq=>by
 obtain ⟨p,hp,e⟩:=dropL_spec hq
 refine hideAll_get _ (D.at e) fun hm=>?_
 obtain ⟨r,hr,er⟩:=List.mem_map.mp hm
 obtain ⟨p',hp',e'⟩:=s.at r hr
 have:=nth_inj D.nd e e' er.symm
 have:=allLt_spec hk p' hp'
 omega
theorem dropL_sub (L:Led) (k:Nat):List.Sublist (dropL L k) L:=by
 rw [dropL_eq]
 exact List.drop_sublist k L
theorem Rep.selT {k:Nat} (D:Rep g L n h) (s:Sel L ps l) (hk:allLt k ps=true):Rep g (l++dropL L k) n h:=by
 refine ⟨D.size,fun q hq=>?_,?_,D.keep⟩
 ·rcases List.mem_append.mp hq with hq | hq
  ·exact D.own q (s.sub q hq)
  ·exact D.own q ((dropL_sub L k).subset hq)
 ·rw [List.map_append,List.nodup_append]
  refine ⟨s.nodup D.nd,D.nd.sublist ((dropL_sub L k).map _),fun a ha b hb e=>?_⟩
  subst e
  obtain ⟨q,hq,rfl⟩:=List.mem_map.mp ha
  obtain ⟨r,hr,er⟩:=List.mem_map.mp hb
  obtain ⟨p,hp,e⟩:=dropL_spec hr
  obtain ⟨p',hp',e'⟩:=s.at q hq
  have:=nth_inj D.nd e e' er
  have:=allLt_spec hk p' hp'
  omega
theorem holds_hide (D:Rep g L n h) (s:Sel L ps l) (H:KT.Holds g 1 0 kt):KT.Holds (hideAll h (l.map (·.1))) 1 0 kt:=KT.Holds.keeps (sub_hide D s.sub) H
end
end
noncomputable section
theorem askedOf_is (c:Code):(askedOf c).Is c:=by
 cases c with
 | call f args=>
  cases f with
  | ref a=>
   rcases args with ⟨pos,kw⟩
   cases kw<;>rfl
  | _=>rfl
 | builtin id args=>
  rcases args with ⟨pos,kw⟩
  cases kw with
  | nil=>exact ⟨_,PySem.W.S.code_S _,rfl⟩
  | cons=>rfl
 | _=>rfl
theorem Low.mono {D D':Nat} {A:Around} (h:Low D A) (hd:D≤D'):Low D' A:=⟨h.1,Nat.le_trans h.2.1 hd,Nat.le_trans h.2.2 (Nat.mul_le_mul_left 10 hd)⟩
structure Sys.Ok (S:Sys) (C:Ctl):Prop where
 prog:S.prog=C.prog
 P:S.P=C.w.params
 kt:S.kt=C.kt
 kl:S.kl=C.kl
 D:S.D=C.D
 den:∀ c,S.den c=denote table c
 qt:∀ c,S.qt c=true→c.quiet=true
 cl:∀ c,S.cl c=false→c.isCaller=false
 cd:∀ f args,S.cd f args=callDef f args
structure Ctl.Ok (C:Ctl):Prop where
 here:C.G C.g
 mono:∀ g g':Heap,(∀ b o,g.get? b=some o→g'.get? b=some o)→C.G g→C.G g'
 known:∀ g,C.G g→KT.Holds g 1 0 C.kt∧∀ q∈C.kl,g.get? q.1=some q.2
 low:Low C.D C.A
abbrev Good (C:Ctl) (ih:ExTy):Prop:=∀ c κ tr L x m t i oa ob ds sc,(ih c κ tr L x m t i oa ob ds sc).ok C→oa=ob∧(κ.low→c.weight≤5→∀ h,Rep C.g L (Nat.add x m) h→Means C c κ tr ⟨h,C.gs,C.d,Nat.add t i,C.os⟩)
theorem at_kl {C:Ctl} (O:C.Ok) {p:Nat} {q:Addr × Obj} {L:Led} {n:Nat} {h:Heap} (D:Rep C.g L n h) (e:nth C.kl p=some q):h.get? q.1=some q.2:=
 D.keep _ _ ((O.known _ O.here).2 q (nth_mem e))
theorem at_kt {C:Ctl} (O:C.Ok) {a:Addr} {o:Obj} {L:Led} {n:Nat} {h:Heap} (D:Rep C.g L n h) (e:C.kt.get a=some o):h.get? a=some o:=by
 have z:=KT.Holds.get (O.known _ O.here).1 e
 rw [Nat.one_mul,Nat.add_zero] at z
 exact D.keep _ _ z
section
variable {C:Ctl} {S:Sys} (O:C.Ok) (Q:S.Ok C) (ih:ExTy) (IH:Good C ih)
include IH
theorem ret_sound {r:Result} {κ:Ko} {L:Led} {x m t i:Nat} {oa ob ds:List Nat} {sc:Scr} (H:(retO ih r κ L x m t i oa ob ds sc).ok C):
  oa=ob∧(κ.low→∀ h,Rep C.g L (Nat.add x m) h→endR C κ r ⟨h,C.gs,C.d,Nat.add t i,C.os⟩):=by
 cases κ with
 | base=>
  unfold retO at H
  cases sc with
  | keep ps=>
   dsimp only at H
   cases e:sel L ps with
   | none=>rw [e] at H;exact H.elim
   | some l=>
    rw [e] at H
    exact ⟨H.1,fun _ h D=>H.2 h (D.sel (sel_spec e))⟩
  | keepT ps k=>
   dsimp only at H
   cases ek:allLt k ps with
   | false=>rw [ek] at H;exact H.elim
   | true=>
    rw [ek] at H
    dsimp only at H
    cases e:sel L ps with
    | none=>rw [e] at H;exact H.elim
    | some l=>
     rw [e] at H
     exact ⟨H.1,fun _ h D=>H.2 h (D.selT (sel_spec e) ek)⟩
  | _=>exact H.elim
 | ret c hd k κ=>
  obtain ⟨e,f⟩:=IH _ _ _ _ _ _ _ _ _ _ _ _ H
  exact ⟨e,fun hl h D=>f hl.2 hl.1 h D⟩
include O
theorem ask_sound {c':Code} {κ:Ko} {L:Led} {x m t i:Nat} {oa ob ds:List Nat} {sc:Scr} (H:(askO ih c' κ L x m t i oa ob ds sc).ok C):
  oa=ob∧(κ.low→∀ h,Rep C.g L (Nat.add x m) h→codeAny (model C.prog C.w) (around C.A κ) c' (endR C κ) ⟨h,C.gs,C.d,Nat.add t i,C.os⟩):=by
 unfold askO at H
 cases eh:κ.handled with
 | some v=>rw [eh] at H;exact H.elim
 | none=>
 rw [eh] at H
 cases sc with
 | val v k rest=>
  dsimp only at H
  obtain ⟨V,H⟩:=H
  obtain ⟨e,f⟩:=ret_sound ih IH H
  refine ⟨e,fun hl h D=>?_⟩
  obtain ⟨a,b,hh⟩:=around_low O.low hl
  exact V c' (askedOf_is c') C.g (around C.A κ) _ _ _ _ h O.here ⟨hh.trans eh,a,b⟩ D.keep (by have z:=f hl h D;rw [show Nat.add (Nat.add t i) k=Nat.add t (Nat.add i k) from Nat.add_assoc t i k];exact z)
 | ask ps k Dd P sh rest=>
  dsimp only at H
  cases ek:allLt k ps with
  | false=>rw [ek] at H;exact H.elim
  | true=>
  rw [ek] at H
  dsimp only at H
  cases es:sel L ps with
  | none=>rw [es] at H;exact H.elim
  | some l=>
   rw [es] at H
   obtain ⟨⟨p₀⟩,hD,hlen,V,H⟩:=H
   refine ⟨(ret_sound ih IH (H p₀)).1,fun hl h D=>?_⟩
   obtain ⟨a,b,hh⟩:=around_low O.low hl
   have s:=sel_spec es
   refine V c' (askedOf_is c') (hideAll h (l.map (·.1))) (around C.A κ) _ _ _ _ h (O.mono _ _ (sub_hide D s.sub) O.here) (known_hide D s ek) (Low.mono ⟨hh.trans eh,a,b⟩ hD) (D.hide s) fun p h' D'=>?_
   exact (ret_sound ih IH (H p)).2 hl h' (D.back s (hlen p) D')
 | askF _ ps k Dd P sh rest=>
  dsimp only at H
  cases ek:allLt k ps with
  | false=>rw [ek] at H;exact H.elim
  | true=>
  rw [ek] at H
  dsimp only at H
  cases es:sel L ps with
  | none=>rw [es] at H;exact H.elim
  | some l=>
   rw [es] at H
   obtain ⟨⟨p₀⟩,hD,hlen,V,H⟩:=H
   refine ⟨(ret_sound ih IH (H p₀)).1,fun hl h D=>?_⟩
   obtain ⟨a,b,hh⟩:=around_low O.low hl
   have s:=sel_spec es
   refine V c' (askedOf_is c') (hideAll h (l.map (·.1))) (around C.A κ) _ _ _ _ h (O.mono _ _ (sub_hide D s.sub) O.here) (known_hide D s ek) (Low.mono ⟨hh.trans eh,a,b⟩ hD) around_frames (D.hide s) fun p h' D'=>?_
   exact (ret_sound ih IH (H p)).2 hl h' (D.back s (hlen p) D')
 | _=>exact H.elim
include Q
theorem enter_sound {c':Code} {κ:Ko} {L:Led} {x m t i:Nat} {oa ob ds:List Nat} {sc:Scr} (H:(enterO S ih c' κ L x m t i oa ob ds sc).ok C):
  oa=ob∧(κ.low→∀ h,Rep C.g L (Nat.add x m) h→codeAny (model C.prog C.w) (around C.A κ) c' (endR C κ) ⟨h,C.gs,C.d,Nat.add t i,C.os⟩):=by
 unfold enterO at H
 cases ds with
 | nil=>exact H.elim
 | cons d ds=>
 dsimp only at H
 match d with
 | 0=>
  cases ec:S.cl c' with
  | true=>rw [ec] at H;exact H.elim
  | false=>
   rw [ec] at H
   obtain ⟨e,f⟩:=IH _ _ _ _ _ _ _ _ _ _ _ _ H
   refine ⟨e,fun hl h D=>y_code _ _ _ _ _ _ ?_⟩
   have z:=f hl (weight_le (Q.cl _ ec)) h D
   rw [Q.den] at z
   exact z
 | 1=>
  cases c' with
  | call f args=>
   cases f with
   | ref a=>
    dsimp only at H
    cases eb:Nat.blt (Nat.add S.D (Nat.mul 5 (Nat.succ κ.len))) 1000 with
    | false=>rw [eb] at H;exact H.elim
    | true=>
     rw [eb] at H
     obtain ⟨e,f⟩:=IH _ _ _ _ _ _ _ _ _ _ _ _ H
     refine ⟨e,fun hl h D=>y_code _ _ _ _ _ _ ?_⟩
     have hw:(Code.call (.ref a) args).weight≤5:=weight_le rfl
     have z:=f hl hw h D
     rw [Q.cd] at z
     obtain ⟨da,-,-⟩:=around_low O.low hl
     have hb:S.D+5 * Nat.succ κ.len < 1000:=nble eb
     rw [Q.D] at hb
     have hlt:((around C.A κ).under (.call (.ref a) args)).depth < recursionLimit:=by
      show (around C.A κ).depth+(Code.call (.ref a) args).weight < 1000
      have:5 * Nat.succ κ.len=5 * κ.len+5:=Nat.mul_succ ..
      omega
     exact fun Γ p hc hΓ=>wp_callDef (hc ▸ hΓ.in:Γ.In ((around C.A κ).under (.call (.ref a) args))) hlt (z Γ p hc hΓ)
   | _=>exact H.elim
  | _=>exact H.elim
 | 2=>exact ask_sound O ih IH H
 | 3=>
  cases κ with
  | ret=>exact H.elim
  | base=>
   cases sc with
   | keep ps=>
    dsimp only at H
    cases e:sel L ps with
    | none=>rw [e] at H;exact H.elim
    | some l=>
     rw [e] at H
     exact ⟨H.1,fun _ h D=>H.2 h (D.sel (sel_spec e))⟩
   | keepT ps k=>
    dsimp only at H
    cases ek:allLt k ps with
    | false=>rw [ek] at H;exact H.elim
    | true=>
     rw [ek] at H
     dsimp only at H
     cases e:sel L ps with
     | none=>rw [e] at H;exact H.elim
     | some l=>
      rw [e] at H
      exact ⟨H.1,fun _ h D=>H.2 h (D.selT (sel_spec e) ek)⟩
   | _=>exact H.elim
 | n+4=>exact H.elim
theorem step_sound:Good C (stepO S ih):=by
 intro c κ tr L x m t i oa ob ds sc H
 cases tr with
 | pure fin=>
  cases fin with
  | done f=>
   obtain ⟨e,f'⟩:=ret_sound ih IH H
   exact ⟨e,fun hl _ h D=>y_pure _ _ _ _ _ _ _ _ _ (y_done _ _ _ _ _ _ (f' hl h D))⟩
  | again c'=>
   simp only [stepO] at H
   cases q:S.qt c' with
   | false=>rw [q] at H;exact H.elim
   | true=>
    rw [q] at H
    obtain ⟨e,f⟩:=enter_sound O Q ih IH H
    exact ⟨e,fun hl _ h D=>y_pure _ _ _ _ _ _ _ _ _ (y_again _ _ _ _ _ _ (Q.qt _ q) (f hl h D))⟩
 | raise e=>
  obtain ⟨e,f'⟩:=ret_sound ih IH H
  exact ⟨e,fun hl _ h D=>y_raise _ _ _ _ _ _ _ _ _ (y_err _ _ _ (f' hl h D))⟩
 | rule tag k=>
  obtain ⟨e,f⟩:=IH _ _ _ _ _ _ _ _ _ _ _ _ H
  exact ⟨e,fun hl hw h D=>y_skim _ _ _ _ _ _ _ _ _ 1 (f hl hw h D)⟩
 | «at» q k=>
  obtain ⟨e,f⟩:=IH _ _ _ _ _ _ _ _ _ _ _ _ H
  exact ⟨e,fun hl hw h D=>y_skim _ _ _ _ _ _ _ _ _ 1 (f hl hw h D)⟩
 | point l k=>
  obtain ⟨e,f⟩:=IH _ _ _ _ _ _ _ _ _ _ _ _ H
  exact ⟨e,fun hl hw h D=>y_skim _ _ _ _ _ _ _ _ _ 1 (f hl hw h D)⟩
 | ask k=>
  simp only [stepO,Q.prog,Q.P] at H
  obtain ⟨e,f⟩:=IH _ _ _ _ _ _ _ _ _ _ _ _ H
  exact ⟨e,fun hl hw h D=>y_skim _ _ _ _ _ _ _ _ _ 1 (f hl hw h D)⟩
 | load a q k=>
  simp only [stepO] at H
  cases ds with
  | nil=>exact H.elim
  | cons d ds=>
  match d with
  | 0=>
   dsimp only at H
   cases e:S.kt.get a with
   | none=>rw [e] at H;exact H.elim
   | some o=>
    rw [e] at H
    rw [Q.kt] at e
    obtain ⟨eo,f⟩:=IH _ _ _ _ _ _ _ _ _ _ _ _ H
    exact ⟨eo,fun hl hw h D=>y_load _ _ _ _ _ _ _ _ _ _ _ _ _ _ _ _ (at_kt O D e) (f hl hw h D)⟩
  | 1=>
   dsimp only at H
   cases ds with
   | nil=>exact H.elim
   | cons p ds=>
   dsimp only at H
   cases e:nth S.kl p with
   | none=>rw [e] at H;exact H.elim
   | some qo=>
    rw [e] at H
    rw [Q.kl] at e
    obtain ⟨eo,f⟩:=IH _ _ _ _ _ _ _ _ _ _ _ _ H
    injection eo with ea eo
    exact ⟨eo,fun hl hw h D=>y_load _ _ _ _ _ _ _ _ _ _ _ _ _ _ _ _ (ea ▸ at_kl O D e) (f hl hw h D)⟩
  | p+2=>
   dsimp only at H
   cases e:nth L p with
   | none=>rw [e] at H;exact H.elim
   | some qo=>
    rw [e] at H
    obtain ⟨eo,f⟩:=IH _ _ _ _ _ _ _ _ _ _ _ _ H
    injection eo with ea eo
    exact ⟨eo,fun hl hw h D=>y_load _ _ _ _ _ _ _ _ _ _ _ _ _ _ _ _ (ea ▸ D.at e) (f hl hw h D)⟩
 | loadIfAlive a k=>
  simp only [stepO] at H
  cases ds with
  | nil=>exact H.elim
  | cons d ds=>
  match d with
  | 0=>
   dsimp only at H
   cases e:S.kt.get a with
   | none=>rw [e] at H;exact H.elim
   | some o=>
    rw [e] at H
    rw [Q.kt] at e
    obtain ⟨eo,f⟩:=IH _ _ _ _ _ _ _ _ _ _ _ _ H
    exact ⟨eo,fun hl hw h D=>y_alive _ _ _ _ _ _ _ _ _ _ _ _ _ _ _ (at_kt O D e) (f hl hw h D)⟩
  | 1=>
   dsimp only at H
   cases ds with
   | nil=>exact H.elim
   | cons p ds=>
   dsimp only at H
   cases e:nth S.kl p with
   | none=>rw [e] at H;exact H.elim
   | some qo=>
    rw [e] at H
    rw [Q.kl] at e
    obtain ⟨eo,f⟩:=IH _ _ _ _ _ _ _ _ _ _ _ _ H
    injection eo with ea eo
    exact ⟨eo,fun hl hw h D=>y_alive _ _ _ _ _ _ _ _ _ _ _ _ _ _ _ (ea ▸ at_kl O D e) (f hl hw h D)⟩
  | p+2=>
   dsimp only at H
   cases e:nth L p with
   | none=>rw [e] at H;exact H.elim
   | some qo=>
    rw [e] at H
    obtain ⟨eo,f⟩:=IH _ _ _ _ _ _ _ _ _ _ _ _ H
    injection eo with ea eo
    exact ⟨eo,fun hl hw h D=>y_alive _ _ _ _ _ _ _ _ _ _ _ _ _ _ _ (ea ▸ D.at e) (f hl hw h D)⟩
 | alloc o k=>
  simp only [stepO] at H
  cases hf:o.isFreed with
  | true=>rw [hf] at H;exact H.elim
  | false=>
   rw [hf] at H
   obtain ⟨eo,f⟩:=IH _ _ _ _ _ _ _ _ _ _ _ _ H
   refine ⟨eo,fun hl hw h D=>?_⟩
   have D':=D.alloc hf
   have ea:=D.size
   rw [ea] at D'
   exact wpOwn_bind (m:=alloc o) (f:=k) (wpOwn_of_wpAny (wpAny_alloc (by rw [ea];exact f hl hw _ D')))
 | update a q u k=>
  simp only [stepO] at H
  cases ds with
  | nil=>exact H.elim
  | cons p ds=>
  dsimp only at H
  cases e:nth L p with
  | none=>rw [e] at H;exact H.elim
  | some qo=>
   rw [e] at H
   dsimp only at H
   cases hf:(u qo.2).isFreed with
   | true=>rw [hf] at H;exact H.elim
   | false=>
    rw [hf] at H
    obtain ⟨eo,f⟩:=IH _ _ _ _ _ _ _ _ _ _ _ _ H
    injection eo with ea eo
    subst ea
    exact ⟨eo,fun hl hw h D=>wpOwn_bind (m:=updatePart qo.1 q u) (f:=k) (wpOwn_of_wpAny (wpAny_updatePart (D.at e) (f hl hw _ (D.update e hf))))⟩
 | fresh k=>
  obtain ⟨eo,f⟩:=IH _ _ _ _ _ _ _ _ _ _ _ _ H
  exact ⟨eo,fun hl hw h D=>y_fresh _ _ _ _ _ _ _ _ _ _ _ _ _ (f hl hw h D)⟩
 | handled own k=>
  cases own with
  | true=>exact H.elim
  | false=>
   obtain ⟨eo,f⟩:=IH _ _ _ _ _ _ _ _ _ _ _ _ H
   refine ⟨eo,fun hl hw h D=>y_handled _ _ _ _ _ _ _ _ _ ?_⟩
   rw [(around_low O.low hl).2.2]
   exact f hl hw h D
 | stack k=>
  simp only [stepO] at H
  cases eb:Nat.blt (Nat.add S.D (Nat.mul 5 κ.len)) 980 with
  | false=>rw [eb] at H;exact H.elim
  | true=>
   rw [eb] at H
   obtain ⟨e,f⟩:=H
   refine ⟨e,fun hl hw h D=>fun Γ p hc hΓ=>?_⟩
   have hb:S.D+5 * κ.len < 980:=nble eb
   rw [Q.D] at hb
   obtain ⟨-,hu,-⟩:=around_low O.low hl
   have hub:=hΓ.2.2.2.2
   have hcu:=units_le c
   subst hc
   exact f hl hw h D ((Γ.code,p)::Γ.below) (by rw [unitsOf_cons];show _ < 9900;omega) Γ p rfl hΓ
 | call c' hd g l k=>
  simp only [stepO] at H
  cases q:okMark hd with
  | false=>rw [q] at H;exact H.elim
  | true=>
   rw [q] at H
   have hnb:hd≠some byPass:=by
    intro e
    subst e
    simp [okMark] at q
   obtain ⟨eo,f⟩:=enter_sound O Q ih IH H
   exact ⟨eo,fun hl hw h D=>y_call _ _ _ _ _ _ _ _ _ _ _ _ _ hnb (f ⟨hw,hl⟩ h D)⟩
 | _=>exact H.elim
end
theorem exec_sound {C:Ctl} {S:Sys} (O:C.Ok) (Q:S.Ok C):∀ n,Good C (exec S n)
 | 0=>fun _ _ _ _ _ _ _ _ _ _ _ _ H=>H.elim
 | n+1=>step_sound O Q (exec S n) (exec_sound O Q n)
end
noncomputable section
def callRestT (self:Addr) (fd:FuncData) (args:Args) (body:List Stmt) (compiled:Str):Sem PySem.Fin:=
 R.bindR (PySem.W.Fast.tw9782568553167038054 fd args) fun b=>R.bindR (PySem.W.Fast.tw11113344188204177931 fd.scope fd.globals fd.closure b (compiled++".<locals>.") (some self) fd.code none fd.builtins) fun env=>
  R.bindR chk fun _=>again (.func body env)
def callInT (self:Addr) (fd:FuncData) (args:Args):Sem PySem.Fin:=match fd.scope.isGenerator with
 | true=>.unsupported ""
 | false=>match fd.scope.isCoroutine with
  | true=>.unsupported ""
  | false=>match fd.body with
   | .expr _=>.unsupported ""
   | .stmts body=>match fd.code with
    | .ref c=>R.bindR (PySem.W.Fast.tw6609576154772507232 (.ref c) 1) fun v=>match v with
     | .str q _=>callRestT self fd args body q
     | _=>.unsupported ""
    | _=>.unsupported ""
def callDefT (f:Addr) (args:Args):Sem PySem.Fin:=.load f none fun o=>match o.data with
 | .func fd=>callInT f fd args
 | _=>.unsupported ""
theorem callRestT_eq (a:Addr) (fd:FuncData) (args:Args) (body:List Stmt) (q:Str):callRestT a fd args body q=callRest a fd args body chk q:=by
 unfold callRestT callRest
 rw [← R.bindR_eq,← Fast.te9782568553167038054,← Fast.te11113344188204177931]
theorem callInT_eq (a:Addr) (fd:FuncData) (args:Args):callInT a fd args=callIn a fd args:=by
 unfold callInT callIn
 rw [← R.bindR_eq,← Fast.te6609576154772507232]
 simp only [callRestT_eq]
 all_goals rfl
theorem callDefT_eq (f:Addr) (args:Args):callDefT f args=callDef f args:=by
 unfold callDefT callDef
 simp only [callInT_eq]
 all_goals rfl
def SS (kt:KT) (kl:Led) (P:Params) (D:Nat):Sys:=
 ⟨kt,kl,P,PySem.Challenge.pw_qz0137_01,Fast.tw11892475500146522536 Fast.tw14364793385576792824,ZFast.zw17772548960776305114,ZFast.zw2167841511373827401,callDefT,D⟩
theorem SS_ok {C:Ctl} (h:C.prog=PySem.Challenge.pw_qz0137_01):(SS C.kt C.kl C.w.params C.D).Ok C:=by
 refine ⟨h.symm,rfl,rfl,rfl,rfl,fun c=>?_,fun c e=>?_,fun c e=>?_,fun f a=>callDefT_eq f a⟩
 ·show Fast.tw11892475500146522536 Fast.tw14364793385576792824 c=_
  rw [← Fast.te11892475500146522536,← Fast.te14364793385576792824,← PySem.table_eq_tree]
 ·have:ZFast.zw17772548960776305114 c=true:=e
  rw [← ZFast.ze17772548960776305114] at this
  exact this
 ·have:ZFast.zw2167841511373827401 c=false:=e
  rw [← ZFast.ze2167841511373827401] at this
  exact this
end
noncomputable section
noncomputable def q (l:List Nat):Str:=⟨⟨l⟩⟩
def e (P:Params) (l:List Nat) (t:Tok) (v:Value):DictEntry:=⟨PyData.keyHash P (q l),.str (q l) t,v⟩
def top:List Stmt:=PySem.Challenge.pw_qz0137_01.main.body
def sAt:Nat→List Stmt→Stmt
 | _,[]=>default
 | n,s::l=>match n with
  | 0=>s
  | n+1=>sAt n l
def cBody:Stmt→List Stmt
 | .ClassDef _ _ _ b ..=>b
 | _=>[]
def fn (s:Stmt) (qual:Str) (glob:Addr) (dflt mod code:Value):Data:=match s with
 | .FunctionDef name args body _ _ _ scope _ _ _=>.func { name,qualname:=qual,params:=args,body:=.stmts body,scope,globals:=glob,closure:=[],defaults:=dflt,kwdefaults:=.none,pyModule:=mod,code }
 | _=>.plain
def insl (t:BT) (n:Nat):List Obj→BT
 | []=>t
 | o::l=>insl (t.ins n o) (Nat.succ n) l
def insc (t:BT):List (Nat × Obj)→BT
 | []=>t
 | p::l=>insc (t.ins p.1 p.2) l
noncomputable def gl (P:Params):List DictEntry:=[e P z25 166 .none,e P z182 167 .none,e P z190 168 (.builtin "__main__.__loader__#opaque"),e P [95,95,115,112,101,99,95,95] 169 .none,e P [95,95,97,110,110,111,116,97,116,105,111,110,115,95,95] 170 (.ref 6),e P [95,95,98,117,105,108,116,105,110,115,95,95] 171 (.ref 4),e P [95,95,102,105,108,101,95,95] 173 (.str (q z0) 172),e P [95,95,99,97,99,104,101,100,95,95] 174 .none,e P z185 191 (.ref 15),e P z48 198 (.ref 22),e P z91 205 (.ref 29),e P z106 214 (.ref 36),e P z16 245 (.ref 53),e P z168 270 (.ref 73),e P z27 296 (.ref 92),e P z72 321 (.ref 111),e P [79,78,69,95,83,73,71,78] 327 (.ref 114),e P z73 362 (.ref 131),e P z55 406 (.ref 166),e P z127 417 (.ref 177),e P z57 429 (.ref 184),e P z92 438 (.ref 191),e P z67 451 (.ref 198),e P z128 466 (.ref 205),e P z129 482 (.ref 212),e P z42 492 (.ref 219),e P [66,76,65,78,75,83] 496 (.str (q [32,9,10,13,12,11]) 495),e P z186 581 (.ref 220),e P z43 588 (.ref 269),e P z136 597 (.ref 276),e P z87 604 (.ref 283),e P z101 613 (.ref 290),e P z58 619 (.ref 295),e P z74 627 (.ref 302),e P z75 636 (.ref 309),e P z94 647 (.ref 316),e P z95 655 (.ref 323),e P z177 676 (.ref 324),e P z178 678 (.str (q [48,49,50,51,52,53,54,55]) 677),e P z192 680 (.str (q [48,49,50,51,52,53,54,55,56,57,97,98,99,100,101,102]) 679),e P z179 682 (.str (q [100,68,119,87,115,83,104,72,118,86]) 681),e P z193 684 (.str (q [97,98,99,100,101,102,103,104,105,106,107,108,109,110,111,112,113,114,115,116,117,118,119,120,121,122,94]) 683),e P [77,79,83,84,95,67,79,68,69] 686 (.int 1114111 685),e P z20 737 (.ref 355),e P z158 747 (.ref 366),e P z33 757 (.ref 373),e P z76 767 (.ref 380),e P z49 775 (.ref 387),e P z34 781 (.ref 392),e P z26 787 (.ref 397),e P z24 793 (.ref 402),e P z21 801 (.ref 409),e P z50 809 (.ref 416),e P z96 818 (.ref 423),e P z97 827 (.ref 430),e P z82 839 (.ref 437),e P z68 850 (.ref 444),e P z64 857 (.ref 451),e P z30 868 (.ref 458),e P z130 882 (.ref 465),e P [70,73,71,85,82,69,83] 886 (.str (q [48,49,50,51,52,53,54,55,56,57]) 885),e P z206 888 (.int 32766 887),e P z194 903 (.ref 466),e P z44 913 (.ref 476),e P z83 922 (.ref 483),e P z45 931 (.ref 490),e P z35 938 (.ref 497),e P z51 944 (.ref 502),e P z59 955 (.ref 509),e P z88 967 (.ref 516),e P z107 977 (.ref 523),e P z131 986 (.ref 530),e P z28 996 (.ref 537),e P z18 1009 (.ref 544),e P z119 1015 (.ref 549),e P z187 1019 (.str (q [105,109,115,120]) 1018),e P z195 1021 (.int 40 1020),e P [76,79,79,75,83] 1026 (.ref 554),e P z207 1033 (.ref 558),e P z60 1042 (.ref 565),e P z89 1048 (.ref 570),e P z65 1058 (.ref 577),e P z22 1068 (.ref 584),e P z77 1078 (.ref 591),e P z108 1087 (.ref 598),e P z52 1099 (.ref 605),e P z84 1109 (.ref 612),e P z56 1120 (.ref 619),e P z102 1133 (.ref 626),e P z85 1147 (.ref 633),e P z46 1154 (.ref 640),e P z71 1167 (.ref 647),e P z36 1173 (.ref 652),e P z23 1186 (.ref 659),e P z142 1227 (.ref 676),e P z169 1277 (.ref 697),e P z208 1281 (.int 880 1280),e P [76,69,65,70,95,67,79,83,84] 1283 (.int 10 1282),e P z188 1285 (.int 10 1284),e P z189 1287 (.int 400 1286),e P [85,78,84,79,76,68] 1290 (.ref 702),e P z37 1322 (.ref 719),e P z39 1332 (.ref 728),e P z209 1337 (.ref 729),e P z210 1339 (.int 10 1338),e P z103 1345 (.ref 734),e P z66 1356 (.ref 741),e P z47 1367 (.ref 748),e P z98 1417 (.ref 766),e P z211 1421 (.int 100 1420),e P z196 1423 (.int 20 1422),e P z61 1466 (.ref 787),e P z40 1475 (.ref 798),e P z166 1482 (.ref 805),e P z120 1490 (.ref 812),e P z144 1501 (.ref 819),e P z145 1516 (.ref 826),e P z69 1528 (.ref 833),e P z161 1536 (.ref 840),e P z139 1548 (.ref 847),e P z121 1556 (.ref 854),e P z104 1564 (.ref 861),e P z122 1572 (.ref 868),e P z99 1580 (.ref 875),e P z123 1588 (.ref 882),e P z124 1605 (.ref 889),e P z109 1613 (.ref 896),e P z132 1621 (.ref 903),e P z148 1627 (.ref 908),e P z78 1635 (.ref 915),e P z79 1644 (.ref 922),e P z110 1652 (.ref 929),e P z80 1660 (.ref 936),e P z86 1668 (.ref 943),e P z100 1674 (.ref 950),e P z105 1687 (.ref 957),e P z152 1695 (.ref 964),e P z90 1706 (.ref 971),e P z31 1722 (.ref 979),e P z137 1733 (.ref 986),e P z111 1739 (.ref 991),e P z41 1749 (.ref 998),e P [108,97,119] 1755 (.ref 1003)]
noncomputable def glob (P:Params) (v:Value) (k n:Nat):Obj:=⟨.type "dict",none,.dict ⟨e P [95,95,110,97,109,101,95,95] 165 v::List.take k (gl P)⟩ n,⟨[]⟩⟩
noncomputable def b0 (P:Params):Obj:=⟨.type "dict",none,.dict ⟨[e P [95,95,110,97,109,101,95,95] 1 (.str (q z199) 160),e P z25 2 (.builtin "builtins.__doc__:str#opaque"),e P z182 3 (.builtin "builtins.__package__:str#opaque"),e P z190 4 (.builtin "builtins.__loader__:shared#opaque"),e P [95,95,115,112,101,99,95,95] 5 (.builtin "builtins.__spec__#opaque"),e P [95,95,98,117,105,108,100,95,99,108,97,115,115,95,95] 6 (.builtin "__build_class__"),e P [95,95,105,109,112,111,114,116,95,95] 7 (.builtin "__import__"),e P [97,98,115] 8 (.builtin "abs"),e P [97,108,108] 9 (.builtin "all"),e P [97,110,121] 10 (.builtin "any"),e P [97,115,99,105,105] 11 (.builtin "ascii"),e P [98,105,110] 12 (.builtin "bin"),e P [98,114,101,97,107,112,111,105,110,116] 13 (.builtin "breakpoint"),e P [99,97,108,108,97,98,108,101] 14 (.builtin "callable"),e P [99,104,114] 15 (.builtin "chr"),e P [99,111,109,112,105,108,101] 16 (.builtin "compile"),e P [100,101,108,97,116,116,114] 17 (.builtin "delattr"),e P [100,105,114] 18 (.builtin "dir"),e P [100,105,118,109,111,100] 19 (.builtin "divmod"),e P [101,118,97,108] 20 (.builtin "eval"),e P [101,120,101,99] 21 (.builtin "exec"),e P [102,111,114,109,97,116] 22 (.builtin "format"),e P [103,101,116,97,116,116,114] 23 (.builtin "getattr"),e P [103,108,111,98,97,108,115] 24 (.builtin "globals"),e P [104,97,115,97,116,116,114] 25 (.builtin "hasattr"),e P [104,97,115,104] 26 (.builtin "hash"),e P [104,101,120] 27 (.builtin "hex"),e P [105,100] 28 (.builtin "id"),e P [105,110,112,117,116] 29 (.builtin "input"),e P [105,115,105,110,115,116,97,110,99,101] 30 (.builtin "isinstance"),e P [105,115,115,117,98,99,108,97,115,115] 31 (.builtin "issubclass"),e P [105,116,101,114] 32 (.builtin "iter"),e P [97,105,116,101,114] 33 (.builtin "aiter"),e P [108,101,110] 34 (.builtin "len"),e P [108,111,99,97,108,115] 35 (.builtin "locals"),e P [109,97,120] 36 (.builtin "max"),e P [109,105,110] 37 (.builtin "min"),e P [110,101,120,116] 38 (.builtin "next"),e P [97,110,101,120,116] 39 (.builtin "anext"),e P [111,99,116] 40 (.builtin "oct"),e P [111,114,100] 41 (.builtin "ord"),e P [112,111,119] 42 (.builtin "pow"),e P [112,114,105,110,116] 43 (.builtin "print"),e P [114,101,112,114] 44 (.builtin "repr"),e P [114,111,117,110,100] 45 (.builtin "round"),e P [115,101,116,97,116,116,114] 46 (.builtin "setattr"),e P [115,111,114,116,101,100] 47 (.builtin "sorted"),e P [115,117,109] 48 (.builtin "sum"),e P [118,97,114,115] 49 (.builtin "vars"),e P [78,111,110,101] 50 .none,e P [69,108,108,105,112,115,105,115] 51 .ellipsis,e P [78,111,116,73,109,112,108,101,109,101,110,116,101,100] 52 .notImplemented,e P [70,97,108,115,101] 53 (.bool false),e P [84,114,117,101] 54 (.bool true),e P [98,111,111,108] 55 (.type "bool"),e P [109,101,109,111,114,121,118,105,101,119] 56 (.type "memoryview"),e P [98,121,116,101,97,114,114,97,121] 57 (.type "bytearray"),e P [98,121,116,101,115] 58 (.type "bytes"),e P [99,108,97,115,115,109,101,116,104,111,100] 59 (.type "classmethod"),e P [99,111,109,112,108,101,120] 60 (.type "complex"),e P [100,105,99,116] 61 (.type "dict"),e P [101,110,117,109,101,114,97,116,101] 62 (.type "enumerate"),e P [102,105,108,116,101,114] 63 (.type "filter"),e P [102,108,111,97,116] 64 (.type "float"),e P [102,114,111,122,101,110,115,101,116] 65 (.type "frozenset"),e P [112,114,111,112,101,114,116,121] 66 (.type "property"),e P [105,110,116] 67 (.type "int"),e P [108,105,115,116] 68 (.type "list"),e P [109,97,112] 69 (.type "map"),e P [111,98,106,101,99,116] 70 (.type "object"),e P [114,97,110,103,101] 71 (.type "range"),e P [114,101,118,101,114,115,101,100] 72 (.type "reversed"),e P [115,101,116] 73 (.type "set"),e P [115,108,105,99,101] 74 (.type "slice"),e P [115,116,97,116,105,99,109,101,116,104,111,100] 75 (.type "staticmethod"),e P [115,116,114] 76 (.type "str"),e P [115,117,112,101,114] 77 (.type "super"),e P [116,117,112,108,101] 78 (.type "tuple"),e P [116,121,112,101] 79 (.type "type"),e P [122,105,112] 80 (.type "zip"),e P [95,95,100,101,98,117,103,95,95] 81 (.bool true),e P [66,97,115,101,69,120,99,101,112,116,105,111,110] 82 (.type "BaseException"),e P [66,97,115,101,69,120,99,101,112,116,105,111,110,71,114,111,117,112] 83 (.type "BaseExceptionGroup"),e P [69,120,99,101,112,116,105,111,110] 84 (.type "Exception"),e P [71,101,110,101,114,97,116,111,114,69,120,105,116] 85 (.type "GeneratorExit"),e P [75,101,121,98,111,97,114,100,73,110,116,101,114,114,117,112,116] 86 (.type "KeyboardInterrupt"),e P [83,121,115,116,101,109,69,120,105,116] 87 (.type "SystemExit"),e P [65,114,105,116,104,109,101,116,105,99,69,114,114,111,114] 88 (.type "ArithmeticError"),e P [65,115,115,101,114,116,105,111,110,69,114,114,111,114] 89 (.type "AssertionError"),e P [65,116,116,114,105,98,117,116,101,69,114,114,111,114] 90 (.type "AttributeError"),e P [66,117,102,102,101,114,69,114,114,111,114] 91 (.type "BufferError"),e P [69,79,70,69,114,114,111,114] 92 (.type "EOFError"),e P [73,109,112,111,114,116,69,114,114,111,114] 93 (.type "ImportError"),e P [76,111,111,107,117,112,69,114,114,111,114] 94 (.type "LookupError"),e P [77,101,109,111,114,121,69,114,114,111,114] 95 (.type "MemoryError"),e P [78,97,109,101,69,114,114,111,114] 96 (.type "NameError"),e P [79,83,69,114,114,111,114] 97 (.type "OSError"),e P [82,101,102,101,114,101,110,99,101,69,114,114,111,114] 98 (.type "ReferenceError"),e P [82,117,110,116,105,109,101,69,114,114,111,114] 99 (.type "RuntimeError"),e P [83,116,111,112,65,115,121,110,99,73,116,101,114,97,116,105,111,110] 100 (.type "StopAsyncIteration"),e P [83,116,111,112,73,116,101,114,97,116,105,111,110] 101 (.type "StopIteration"),e P [83,121,110,116,97,120,69,114,114,111,114] 102 (.type "SyntaxError"),e P [83,121,115,116,101,109,69,114,114,111,114] 103 (.type "SystemError"),e P [84,121,112,101,69,114,114,111,114] 104 (.type "TypeError"),e P [86,97,108,117,101,69,114,114,111,114] 105 (.type "ValueError"),e P [87,97,114,110,105,110,103] 106 (.type "Warning"),e P [70,108,111,97,116,105,110,103,80,111,105,110,116,69,114,114,111,114] 107 (.type "FloatingPointError"),e P [79,118,101,114,102,108,111,119,69,114,114,111,114] 108 (.type "OverflowError"),e P [90,101,114,111,68,105,118,105,115,105,111,110,69,114,114,111,114] 109 (.type "ZeroDivisionError"),e P [66,121,116,101,115,87,97,114,110,105,110,103] 110 (.type "BytesWarning"),e P [68,101,112,114,101,99,97,116,105,111,110,87,97,114,110,105,110,103] 111 (.type "DeprecationWarning"),e P [69,110,99,111,100,105,110,103,87,97,114,110,105,110,103] 112 (.type "EncodingWarning"),e P [70,117,116,117,114,101,87,97,114,110,105,110,103] 113 (.type "FutureWarning"),e P [73,109,112,111,114,116,87,97,114,110,105,110,103] 114 (.type "ImportWarning"),e P [80,101,110,100,105,110,103,68,101,112,114,101,99,97,116,105,111,110,87,97,114,110,105,110,103] 115 (.type "PendingDeprecationWarning"),e P [82,101,115,111,117,114,99,101,87,97,114,110,105,110,103] 116 (.type "ResourceWarning"),e P [82,117,110,116,105,109,101,87,97,114,110,105,110,103] 117 (.type "RuntimeWarning"),e P [83,121,110,116,97,120,87,97,114,110,105,110,103] 118 (.type "SyntaxWarning"),e P [85,110,105,99,111,100,101,87,97,114,110,105,110,103] 119 (.type "UnicodeWarning"),e P [85,115,101,114,87,97,114,110,105,110,103] 120 (.type "UserWarning"),e P [66,108,111,99,107,105,110,103,73,79,69,114,114,111,114] 121 (.type "BlockingIOError"),e P [67,104,105,108,100,80,114,111,99,101,115,115,69,114,114,111,114] 122 (.type "ChildProcessError"),e P [67,111,110,110,101,99,116,105,111,110,69,114,114,111,114] 123 (.type "ConnectionError"),e P [70,105,108,101,69,120,105,115,116,115,69,114,114,111,114] 124 (.type "FileExistsError"),e P [70,105,108,101,78,111,116,70,111,117,110,100,69,114,114,111,114] 125 (.type "FileNotFoundError"),e P [73,110,116,101,114,114,117,112,116,101,100,69,114,114,111,114] 126 (.type "InterruptedError"),e P [73,115,65,68,105,114,101,99,116,111,114,121,69,114,114,111,114] 127 (.type "IsADirectoryError"),e P [78,111,116,65,68,105,114,101,99,116,111,114,121,69,114,114,111,114] 128 (.type "NotADirectoryError"),e P [80,101,114,109,105,115,115,105,111,110,69,114,114,111,114] 129 (.type "PermissionError"),e P [80,114,111,99,101,115,115,76,111,111,107,117,112,69,114,114,111,114] 130 (.type "ProcessLookupError"),e P [84,105,109,101,111,117,116,69,114,114,111,114] 131 (.type "TimeoutError"),e P [73,110,100,101,110,116,97,116,105,111,110,69,114,114,111,114] 132 (.type "IndentationError"),e P [95,73,110,99,111,109,112,108,101,116,101,73,110,112,117,116,69,114,114,111,114] 133 (.type "_IncompleteInputError"),e P [73,110,100,101,120,69,114,114,111,114] 134 (.type "IndexError"),e P [75,101,121,69,114,114,111,114] 135 (.type "KeyError"),e P [77,111,100,117,108,101,78,111,116,70,111,117,110,100,69,114,114,111,114] 136 (.type "ModuleNotFoundError"),e P [78,111,116,73,109,112,108,101,109,101,110,116,101,100,69,114,114,111,114] 137 (.type "NotImplementedError"),e P [80,121,116,104,111,110,70,105,110,97,108,105,122,97,116,105,111,110,69,114,114,111,114] 138 (.type "PythonFinalizationError"),e P [82,101,99,117,114,115,105,111,110,69,114,114,111,114] 139 (.type "RecursionError"),e P [85,110,98,111,117,110,100,76,111,99,97,108,69,114,114,111,114] 140 (.type "UnboundLocalError"),e P [85,110,105,99,111,100,101,69,114,114,111,114] 141 (.type "UnicodeError"),e P [66,114,111,107,101,110,80,105,112,101,69,114,114,111,114] 142 (.type "BrokenPipeError"),e P [67,111,110,110,101,99,116,105,111,110,65,98,111,114,116,101,100,69,114,114,111,114] 143 (.type "ConnectionAbortedError"),e P [67,111,110,110,101,99,116,105,111,110,82,101,102,117,115,101,100,69,114,114,111,114] 144 (.type "ConnectionRefusedError"),e P [67,111,110,110,101,99,116,105,111,110,82,101,115,101,116,69,114,114,111,114] 145 (.type "ConnectionResetError"),e P [84,97,98,69,114,114,111,114] 146 (.type "TabError"),e P [85,110,105,99,111,100,101,68,101,99,111,100,101,69,114,114,111,114] 147 (.type "UnicodeDecodeError"),e P [85,110,105,99,111,100,101,69,110,99,111,100,101,69,114,114,111,114] 148 (.type "UnicodeEncodeError"),e P [85,110,105,99,111,100,101,84,114,97,110,115,108,97,116,101,69,114,114,111,114] 149 (.type "UnicodeTranslateError"),e P [69,120,99,101,112,116,105,111,110,71,114,111,117,112] 150 (.type "ExceptionGroup"),e P [69,110,118,105,114,111,110,109,101,110,116,69,114,114,111,114] 151 (.type "OSError"),e P [73,79,69,114,114,111,114] 152 (.type "OSError"),e P [111,112,101,110] 153 (.builtin "open"),e P [113,117,105,116] 154 (.builtin "builtins.quit#opaque"),e P [101,120,105,116] 155 (.builtin "builtins.exit#opaque"),e P [99,111,112,121,114,105,103,104,116] 156 (.builtin "builtins.copyright#opaque"),e P [99,114,101,100,105,116,115] 157 (.builtin "builtins.credits#opaque"),e P [108,105,99,101,110,115,101] 158 (.builtin "builtins.license#opaque"),e P [104,101,108,112] 159 (.builtin "builtins.help#opaque")]⟩ 159,⟨[]⟩⟩
noncomputable def b1 (P:Params):Obj:=⟨.type "dict",none,.dict ⟨[e P z199 162 (.ref 4),e P z159 163 (.ref 5)]⟩ 2,⟨[]⟩⟩
noncomputable def b2 (P:Params):Obj:=⟨.none,none,.dict ⟨[]⟩ 0,⟨[]⟩⟩
noncomputable def b3 (P:Params):Obj:=⟨.type "module",(some 0),.plain,⟨[]⟩⟩
noncomputable def b4 (P:Params):Obj:=⟨.type "module",(some 3),.plain,⟨[]⟩⟩
noncomputable def b5 (P:Params):Obj:=⟨.type "dict",none,.dict ⟨[]⟩ 0,⟨[]⟩⟩
noncomputable def b6 (P:Params):Obj:=⟨.type "tuple",none,.seq ⟨[]⟩ 0,⟨[]⟩⟩
noncomputable def b7 (P:Params):Obj:=⟨.none,none,.fields ⟨[]⟩,⟨[]⟩⟩
noncomputable def b8 (P:Params):Obj:=⟨.type "code",none,.fields ⟨[.str (q z165) 176,.str (q z165) 177,.str (q z0) 178,.int 1 0,.int 0 0,.int 0 0,.int 0 0,.int 0 0,.ref 7,.bool false,.int 175 0,.ref 8,.none,.none,.none,.none,.int 179 0,.int 1 0,.str (q z0) 180]⟩,⟨[]⟩⟩
noncomputable def b9 (P:Params):Obj:=⟨.type "frame",none,.plain,⟨[(some (.ref 9)),(some (.ref 3)),(some (.ref 3)),none,(some (.str (q z159) 164)),none,(some (.ref 0))]⟩⟩
noncomputable def b10 (P:Params):Obj:=⟨.type "code",none,.fields ⟨[.str (q z165) 182,.str (q z165) 183,.str (q z0) 184,.int 1 0,.int 0 0,.int 0 0,.int 0 0,.int 0 0,.ref 11,.bool false,.int 181 0,.ref 12,.none,.none,.none,.none,.int 185 0,.int 1 0,.str (q z0) 186]⟩,⟨[]⟩⟩
noncomputable def b11 (P:Params):Obj:=⟨.type "frame",none,.plain,⟨[(some (.ref 13)),(some (.ref 3)),(some (.ref 3)),none,(some (.str (q z159) 164)),none,(some (.ref 0))]⟩⟩
noncomputable def ha (P:Params):Heap:=⟨⟨[b0 P,b1 P,b2 P,(glob P ((.str (q z159) 164)) 8 9),b3 P,b4 P,b5 P,b6 P,b7 P,b8 P,b9 P,b6 P,b7 P,b10 P,b11 P]⟩,{}⟩
noncomputable def tr0 (P:Params):BT:=insl .nil 0 [b0 P,b1 P,b2 P,(glob P ((.str (q z159) 164)) 8 9),b3 P,b4 P,b5 P,b6 P,b7 P,b8 P,b9 P,b6 P,b7 P,b10 P,b11 P]
noncomputable def b12 (P:Params):Obj:=⟨.none,none,.dict ⟨[e P [116,121,112,101,46,95,95,115,117,98,99,108,97,115,115,101,115,95,95,46,69,120,99,101,112,116,105,111,110,46,48] 242 (.int 53 0),e P [116,121,112,101,46,95,95,115,117,98,99,108,97,115,115,101,115,95,95,46,69,120,99,101,112,116,105,111,110,46,110] 243 (.int 1 0)]⟩ 2,⟨[]⟩⟩
noncomputable def b13 (P:Params):Obj:=⟨.none,none,.fields ⟨[.int 3 0,.int 0 0,.ref 21,.int 5 0,.int 0 0,.ref 28,.int 7 0,.int 0 0,.ref 35,.int 12 0,.int 0 0,.ref 42,.int 17 0,.int 0 0,.ref 62,.int 22 0,.int 0 0,.ref 81]⟩,⟨[]⟩⟩
noncomputable def b14 (P:Params):Obj:=⟨.type "tuple",none,.seq ⟨[.str (q []) 189,.str (q [108,97,115,116]) 190]⟩ 0,⟨[]⟩⟩
noncomputable def b15 (P:Params):Obj:=⟨.type "tuple",none,.seq ⟨[.str (q z17) 195]⟩ 0,⟨[]⟩⟩
noncomputable def b16 (P:Params):Obj:=⟨.none,none,fn (sAt 2 top) (q z48) 0 .none .none .none,⟨[]⟩⟩
noncomputable def b17 (P:Params):Obj:=⟨.type "code",none,.fields ⟨[.str (q z48) 192,.str (q z48) 193,.str (q z0) 194,.int 3 0,.int 1 0,.int 0 0,.int 0 0,.int 3 0,.ref 16,.bool true,.int 181 0,.ref 17,.none,.ref 18,.ref 19,.ref 20,.int 196 0,.int 3 0,.str (q z0) 197]⟩,⟨[]⟩⟩
noncomputable def b18 (P:Params):Obj:=⟨.type "function",none,fn (sAt 2 top) (q z48) 3 .none (.str (q z133) 187) (.ref 21),⟨[]⟩⟩
noncomputable def b19 (P:Params):Obj:=⟨.type "tuple",none,.seq ⟨[.str (q z17) 202]⟩ 0,⟨[]⟩⟩
noncomputable def b20 (P:Params):Obj:=⟨.none,none,fn (sAt 3 top) (q z91) 0 .none .none .none,⟨[]⟩⟩
noncomputable def b21 (P:Params):Obj:=⟨.type "code",none,.fields ⟨[.str (q z91) 199,.str (q z91) 200,.str (q z0) 201,.int 5 0,.int 1 0,.int 0 0,.int 0 0,.int 3 0,.ref 23,.bool true,.int 181 0,.ref 24,.none,.ref 25,.ref 26,.ref 27,.int 203 0,.int 5 0,.str (q z0) 204]⟩,⟨[]⟩⟩
noncomputable def b22 (P:Params):Obj:=⟨.type "function",none,fn (sAt 3 top) (q z91) 3 .none (.str (q z133) 187) (.ref 28),⟨[]⟩⟩
noncomputable def b23 (P:Params):Obj:=⟨.type "tuple",none,.seq ⟨[.str (q z17) 209,.str (q [116,111,108,100]) 210,.str (q z146) 211]⟩ 0,⟨[]⟩⟩
noncomputable def b24 (P:Params):Obj:=⟨.none,none,fn (sAt 4 top) (q z106) 0 .none .none .none,⟨[]⟩⟩
noncomputable def b25 (P:Params):Obj:=⟨.type "code",none,.fields ⟨[.str (q z106) 206,.str (q z106) 207,.str (q z0) 208,.int 7 0,.int 3 0,.int 0 0,.int 0 0,.int 3 0,.ref 30,.bool true,.int 181 0,.ref 31,.none,.ref 32,.ref 33,.ref 34,.int 212 0,.int 7 0,.str (q z0) 213]⟩,⟨[]⟩⟩
noncomputable def b26 (P:Params):Obj:=⟨.type "function",none,fn (sAt 4 top) (q z106) 3 .none (.str (q z133) 187) (.ref 35),⟨[]⟩⟩
noncomputable def b27 (P:Params):Obj:=⟨.type "tuple",none,.seq ⟨[.type "Exception"]⟩ 0,⟨[]⟩⟩
noncomputable def b28 (P:Params):Obj:=⟨.type "builtin_function_or_method",none,.fields ⟨[.builtin "type.__prepare__",.type "type"]⟩,⟨[]⟩⟩
noncomputable def b29 (P:Params):Obj:=⟨.type "dict",none,.dict ⟨[e P z9 224 (.str (q z7) 215),e P z14 226 (.str (q z16) 225),e P z4 228 (.int 12 227),e P z6 236 (.ref 50),e P z2 238 (.ref 51)]⟩ 5,⟨[]⟩⟩
noncomputable def b30 (P:Params):Obj:=⟨.none,none,.fields ⟨[.int 14 0,.int 4 0,.ref 49]⟩,⟨[]⟩⟩
noncomputable def b31 (P:Params):Obj:=⟨.type "code",none,.fields ⟨[.str (q z16) 219,.str (q z16) 220,.str (q z0) 221,.int 12 0,.int 0 0,.int 0 0,.int 0 0,.int 0 0,.ref 40,.bool false,.int 181 0,.ref 41,.none,.none,.none,.none,.int 222 0,.int 12 0,.str (q z0) 223]⟩,⟨[]⟩⟩
noncomputable def b32 (P:Params):Obj:=⟨.type "frame",none,.plain,⟨[(some (.ref 42)),(some (.ref 3)),(some (.ref 39)),none,(some (.str (q z7) 215)),none,(some (.ref 0))]⟩⟩
noncomputable def b33 (P:Params):Obj:=⟨.type "tuple",none,.seq ⟨[.str (q z54) 232,.str (q z29) 233]⟩ 0,⟨[]⟩⟩
noncomputable def b34 (P:Params):Obj:=⟨.none,none,fn (sAt 0 (cBody (sAt 6 top))) (q z115) 0 .none .none .none,⟨[]⟩⟩
noncomputable def b35 (P:Params):Obj:=⟨.type "code",none,.fields ⟨[.str (q z6) 229,.str (q z115) 230,.str (q z0) 231,.int 14 0,.int 2 0,.int 0 0,.int 0 0,.int 3 0,.ref 44,.bool true,.int 181 0,.ref 45,.none,.ref 46,.ref 47,.ref 48,.int 234 0,.int 14 0,.str (q z0) 235]⟩,⟨[]⟩⟩
noncomputable def b36 (P:Params):Obj:=⟨.type "function",none,fn (sAt 0 (cBody (sAt 6 top))) (q z115) 3 .none (.str (q z7) 215) (.ref 49),⟨[]⟩⟩
noncomputable def b37 (P:Params):Obj:=⟨.type "tuple",none,.seq ⟨[.str (q z29) 237]⟩ 0,⟨[]⟩⟩
noncomputable def b38 (P:Params):Obj:=⟨.type "dict",none,.dict ⟨[e P z9 224 (.str (q z7) 215),e P z4 228 (.int 12 227),e P z6 236 (.ref 50),e P z2 238 (.ref 51),e P z11 240 (.ref 54),e P z25 241 .none]⟩ 3,⟨[]⟩⟩
noncomputable def b39 (P:Params):Obj:=⟨.type "type",none,.cls { name:=(q z16),bases:=[.type "Exception"],mro:=[.ref 53,.type "Exception",.type "BaseException",.type "object"],ns:=52,qualname:=(q z16),hasDict:=true,slotNames:=[],subclasses:=[.ref 73,.ref 92],abstract:=false,collection:=none,hasDel:=false },⟨[(some (.ref 37)),none,(some (.str (q z16) 217)),(some (.str (q z16) 225)),(some (.builtin "Exception.__new__")),(some (.bool true))]⟩⟩
noncomputable def b40 (P:Params):Obj:=⟨.type "getset_descriptor",none,.fields ⟨[.str (q z11) 239,.ref 53,.builtin "ExceptionGroup.__weakref__",.none]⟩,⟨[]⟩⟩
noncomputable def b41 (P:Params):Obj:=⟨.type "super",none,.fields ⟨[.ref 53,.ref 53,.ref 53]⟩,⟨[]⟩⟩
noncomputable def b42 (P:Params):Obj:=⟨.type "builtin_function_or_method",none,.fields ⟨[.builtin "object.__init_subclass__",.ref 53]⟩,⟨[]⟩⟩
noncomputable def b43 (P:Params):Obj:=⟨.type "tuple",none,.seq ⟨[.ref 53]⟩ 0,⟨[]⟩⟩
noncomputable def b44 (P:Params):Obj:=⟨.type "dict",none,.dict ⟨[e P z9 253 (.str (q z7) 215),e P z14 255 (.str (q z168) 254),e P z4 257 (.int 17 256),e P z6 265 (.ref 70),e P z2 267 (.ref 71)]⟩ 5,⟨[]⟩⟩
noncomputable def b45 (P:Params):Obj:=⟨.none,none,.fields ⟨[.int 19 0,.int 4 0,.ref 69]⟩,⟨[]⟩⟩
noncomputable def b46 (P:Params):Obj:=⟨.type "code",none,.fields ⟨[.str (q z168) 248,.str (q z168) 249,.str (q z0) 250,.int 17 0,.int 0 0,.int 0 0,.int 0 0,.int 0 0,.ref 60,.bool false,.int 181 0,.ref 61,.none,.none,.none,.none,.int 251 0,.int 17 0,.str (q z0) 252]⟩,⟨[]⟩⟩
noncomputable def b47 (P:Params):Obj:=⟨.type "frame",none,.plain,⟨[(some (.ref 62)),(some (.ref 3)),(some (.ref 59)),none,(some (.str (q z7) 215)),none,(some (.ref 0))]⟩⟩
noncomputable def b48 (P:Params):Obj:=⟨.type "tuple",none,.seq ⟨[.str (q z54) 261,.str (q [118,97,108,117,101]) 262]⟩ 0,⟨[]⟩⟩
noncomputable def b49 (P:Params):Obj:=⟨.none,none,fn (sAt 0 (cBody (sAt 7 top))) (q z163) 0 .none .none .none,⟨[]⟩⟩
noncomputable def b50 (P:Params):Obj:=⟨.type "code",none,.fields ⟨[.str (q z6) 258,.str (q z163) 259,.str (q z0) 260,.int 19 0,.int 2 0,.int 0 0,.int 0 0,.int 3 0,.ref 64,.bool true,.int 181 0,.ref 65,.none,.ref 66,.ref 67,.ref 68,.int 263 0,.int 19 0,.str (q z0) 264]⟩,⟨[]⟩⟩
noncomputable def b51 (P:Params):Obj:=⟨.type "function",none,fn (sAt 0 (cBody (sAt 7 top))) (q z163) 3 .none (.str (q z7) 215) (.ref 69),⟨[]⟩⟩
noncomputable def b52 (P:Params):Obj:=⟨.type "tuple",none,.seq ⟨[.str (q [118,97,108,117,101]) 266]⟩ 0,⟨[]⟩⟩
noncomputable def b53 (P:Params):Obj:=⟨.type "dict",none,.dict ⟨[e P z9 253 (.str (q z7) 215),e P z4 257 (.int 17 256),e P z6 265 (.ref 70),e P z2 267 (.ref 71),e P z25 268 .none]⟩ 2,⟨[]⟩⟩
noncomputable def b54 (P:Params):Obj:=⟨.type "type",none,.cls { name:=(q z168),bases:=[.ref 53],mro:=[.ref 73,.ref 53,.type "Exception",.type "BaseException",.type "object"],ns:=72,qualname:=(q z168),hasDict:=true,slotNames:=[],subclasses:=[],abstract:=false,collection:=none,hasDel:=false },⟨[(some (.ref 57)),none,(some (.str (q z168) 246)),(some (.str (q z168) 254)),(some (.builtin "Exception.__new__")),(some (.bool true))]⟩⟩
noncomputable def b55 (P:Params):Obj:=⟨.type "super",none,.fields ⟨[.ref 73,.ref 73,.ref 73]⟩,⟨[]⟩⟩
noncomputable def b56 (P:Params):Obj:=⟨.type "builtin_function_or_method",none,.fields ⟨[.builtin "object.__init_subclass__",.ref 73]⟩,⟨[]⟩⟩
noncomputable def b57 (P:Params):Obj:=⟨.type "dict",none,.dict ⟨[e P z9 278 (.str (q z7) 215),e P z14 280 (.str (q z27) 279),e P z4 282 (.int 22 281),e P z6 291 (.ref 89),e P z2 293 (.ref 90)]⟩ 5,⟨[]⟩⟩
noncomputable def b58 (P:Params):Obj:=⟨.none,none,.fields ⟨[.int 24 0,.int 4 0,.ref 88]⟩,⟨[]⟩⟩
noncomputable def b59 (P:Params):Obj:=⟨.type "code",none,.fields ⟨[.str (q z27) 273,.str (q z27) 274,.str (q z0) 275,.int 22 0,.int 0 0,.int 0 0,.int 0 0,.int 0 0,.ref 79,.bool false,.int 181 0,.ref 80,.none,.none,.none,.none,.int 276 0,.int 22 0,.str (q z0) 277]⟩,⟨[]⟩⟩
noncomputable def b60 (P:Params):Obj:=⟨.type "frame",none,.plain,⟨[(some (.ref 81)),(some (.ref 3)),(some (.ref 78)),none,(some (.str (q z7) 215)),none,(some (.ref 0))]⟩⟩
noncomputable def b61 (P:Params):Obj:=⟨.type "tuple",none,.seq ⟨[.str (q z54) 286,.str (q z29) 287,.str (q [97,116]) 288]⟩ 0,⟨[]⟩⟩
noncomputable def b62 (P:Params):Obj:=⟨.none,none,fn (sAt 0 (cBody (sAt 8 top))) (q z112) 0 .none .none .none,⟨[]⟩⟩
noncomputable def b63 (P:Params):Obj:=⟨.type "code",none,.fields ⟨[.str (q z6) 283,.str (q z112) 284,.str (q z0) 285,.int 24 0,.int 3 0,.int 0 0,.int 0 0,.int 3 0,.ref 83,.bool true,.int 181 0,.ref 84,.none,.ref 85,.ref 86,.ref 87,.int 289 0,.int 24 0,.str (q z0) 290]⟩,⟨[]⟩⟩
noncomputable def b64 (P:Params):Obj:=⟨.type "function",none,fn (sAt 0 (cBody (sAt 8 top))) (q z112) 3 .none (.str (q z7) 215) (.ref 88),⟨[]⟩⟩
noncomputable def b65 (P:Params):Obj:=⟨.type "tuple",none,.seq ⟨[.str (q [97,116]) 292]⟩ 0,⟨[]⟩⟩
noncomputable def b66 (P:Params):Obj:=⟨.type "dict",none,.dict ⟨[e P z9 278 (.str (q z7) 215),e P z4 282 (.int 22 281),e P z6 291 (.ref 89),e P z2 293 (.ref 90),e P z25 294 .none]⟩ 2,⟨[]⟩⟩
noncomputable def b67 (P:Params):Obj:=⟨.type "type",none,.cls { name:=(q z27),bases:=[.ref 53],mro:=[.ref 92,.ref 53,.type "Exception",.type "BaseException",.type "object"],ns:=91,qualname:=(q z27),hasDict:=true,slotNames:=[],subclasses:=[],abstract:=false,collection:=none,hasDel:=false },⟨[(some (.ref 76)),none,(some (.str (q z27) 271)),(some (.str (q z27) 279)),(some (.builtin "Exception.__new__")),(some (.bool true))]⟩⟩
noncomputable def b68 (P:Params):Obj:=⟨.type "super",none,.fields ⟨[.ref 92,.ref 92,.ref 92]⟩,⟨[]⟩⟩
noncomputable def b69 (P:Params):Obj:=⟨.type "builtin_function_or_method",none,.fields ⟨[.builtin "object.__init_subclass__",.ref 92]⟩,⟨[]⟩⟩
noncomputable def tr1 (P:Params):BT:=insl (insc (tr0 P) [(2,b12 P),(3,(glob P ((.str (q z7) 215)) 15 16)),(12,b13 P)]) 15 [b14 P,b6 P,b7 P,b15 P,b6 P,b16 P,b17 P,b18 P,b6 P,b7 P,b19 P,b6 P,b20 P,b21 P,b22 P,b6 P,b7 P,b23 P,b6 P,b24 P,b25 P,b26 P,b27 P,b28 P,b29 P,b6 P,b30 P,b31 P,b32 P,b6 P,b7 P,b33 P,b6 P,b34 P,b35 P,b36 P,b37 P,b38 P,b39 P,b40 P,b41 P,b42 P,b43 P,b28 P,b44 P,b6 P,b45 P,b46 P,b47 P,b6 P,b7 P,b48 P,b6 P,b49 P,b50 P,b51 P,b52 P,b53 P,b54 P,b55 P,b56 P,b43 P,b28 P,b57 P,b6 P,b58 P,b59 P,b60 P,b6 P,b7 P,b61 P,b6 P,b62 P,b63 P,b64 P,b65 P,b66 P,b67 P,b68 P,b69 P]
noncomputable def b70 (P:Params):Obj:=⟨.none,none,.fields ⟨[.int 3 0,.int 0 0,.ref 21,.int 5 0,.int 0 0,.ref 28,.int 7 0,.int 0 0,.ref 35,.int 12 0,.int 0 0,.ref 42,.int 17 0,.int 0 0,.ref 62,.int 22 0,.int 0 0,.ref 81,.int 27 0,.int 0 0,.ref 100,.int 34 0,.int 0 0,.ref 120,.int 41 0,.int 0 0,.ref 141,.int 54 0,.int 0 0,.ref 176,.int 74 0,.int 0 0,.ref 183,.int 84 0,.int 0 0,.ref 190,.int 89 0,.int 0 0,.ref 197,.int 97 0,.int 0 0,.ref 204,.int 106 0,.int 0 0,.ref 211]⟩,⟨[]⟩⟩
noncomputable def b71 (P:Params):Obj:=⟨.type "type",none,.cls { name:=(q z16),bases:=[.type "Exception"],mro:=[.ref 53,.type "Exception",.type "BaseException",.type "object"],ns:=52,qualname:=(q z16),hasDict:=true,slotNames:=[],subclasses:=[.ref 73,.ref 92,.ref 111],abstract:=false,collection:=none,hasDel:=false },⟨[(some (.ref 37)),none,(some (.str (q z16) 217)),(some (.str (q z16) 225)),(some (.builtin "Exception.__new__")),(some (.bool true))]⟩⟩
noncomputable def b72 (P:Params):Obj:=⟨.type "dict",none,.dict ⟨[e P z9 304 (.str (q z7) 215),e P z14 306 (.str (q z72) 305),e P z4 308 (.int 27 307),e P z6 316 (.ref 108),e P z2 318 (.ref 109)]⟩ 5,⟨[]⟩⟩
noncomputable def b73 (P:Params):Obj:=⟨.none,none,.fields ⟨[.int 29 0,.int 4 0,.ref 107]⟩,⟨[]⟩⟩
noncomputable def b74 (P:Params):Obj:=⟨.type "code",none,.fields ⟨[.str (q z72) 299,.str (q z72) 300,.str (q z0) 301,.int 27 0,.int 0 0,.int 0 0,.int 0 0,.int 0 0,.ref 98,.bool false,.int 181 0,.ref 99,.none,.none,.none,.none,.int 302 0,.int 27 0,.str (q z0) 303]⟩,⟨[]⟩⟩
noncomputable def b75 (P:Params):Obj:=⟨.type "frame",none,.plain,⟨[(some (.ref 100)),(some (.ref 3)),(some (.ref 97)),none,(some (.str (q z7) 215)),none,(some (.ref 0))]⟩⟩
noncomputable def b76 (P:Params):Obj:=⟨.type "tuple",none,.seq ⟨[.str (q z54) 312,.str (q z156) 313]⟩ 0,⟨[]⟩⟩
noncomputable def b77 (P:Params):Obj:=⟨.none,none,fn (sAt 0 (cBody (sAt 9 top))) (q z140) 0 .none .none .none,⟨[]⟩⟩
noncomputable def b78 (P:Params):Obj:=⟨.type "code",none,.fields ⟨[.str (q z6) 309,.str (q z140) 310,.str (q z0) 311,.int 29 0,.int 2 0,.int 0 0,.int 0 0,.int 3 0,.ref 102,.bool true,.int 181 0,.ref 103,.none,.ref 104,.ref 105,.ref 106,.int 314 0,.int 29 0,.str (q z0) 315]⟩,⟨[]⟩⟩
noncomputable def b79 (P:Params):Obj:=⟨.type "function",none,fn (sAt 0 (cBody (sAt 9 top))) (q z140) 3 .none (.str (q z7) 215) (.ref 107),⟨[]⟩⟩
noncomputable def b80 (P:Params):Obj:=⟨.type "tuple",none,.seq ⟨[.str (q z156) 317]⟩ 0,⟨[]⟩⟩
noncomputable def b81 (P:Params):Obj:=⟨.type "dict",none,.dict ⟨[e P z9 304 (.str (q z7) 215),e P z4 308 (.int 27 307),e P z6 316 (.ref 108),e P z2 318 (.ref 109),e P z25 319 .none]⟩ 2,⟨[]⟩⟩
noncomputable def b82 (P:Params):Obj:=⟨.type "type",none,.cls { name:=(q z72),bases:=[.ref 53],mro:=[.ref 111,.ref 53,.type "Exception",.type "BaseException",.type "object"],ns:=110,qualname:=(q z72),hasDict:=true,slotNames:=[],subclasses:=[],abstract:=false,collection:=none,hasDel:=false },⟨[(some (.ref 95)),none,(some (.str (q z72) 297)),(some (.str (q z72) 305)),(some (.builtin "Exception.__new__")),(some (.bool true))]⟩⟩
noncomputable def b83 (P:Params):Obj:=⟨.type "super",none,.fields ⟨[.ref 111,.ref 111,.ref 111]⟩,⟨[]⟩⟩
noncomputable def b84 (P:Params):Obj:=⟨.type "builtin_function_or_method",none,.fields ⟨[.builtin "object.__init_subclass__",.ref 111]⟩,⟨[]⟩⟩
noncomputable def b85 (P:Params):Obj:=⟨.type "tuple",none,.seq ⟨[.str (q z81) 324,.str (q [97,110,121]) 325,.str (q [115,101,116]) 326]⟩ 0,⟨[]⟩⟩
noncomputable def b86 (P:Params):Obj:=⟨.type "dict",none,.dict ⟨[e P z9 335 (.str (q z5) 322),e P z14 337 (.str (q z73) 336),e P z4 339 (.int 34 338),e P z6 350 (.ref 128),e P z2 355 (.ref 129)]⟩ 5,⟨[]⟩⟩
noncomputable def b87 (P:Params):Obj:=⟨.none,none,.fields ⟨[.int 36 0,.int 4 0,.ref 127]⟩,⟨[]⟩⟩
noncomputable def b88 (P:Params):Obj:=⟨.type "code",none,.fields ⟨[.str (q z73) 330,.str (q z73) 331,.str (q z0) 332,.int 34 0,.int 0 0,.int 0 0,.int 0 0,.int 0 0,.ref 118,.bool false,.int 181 0,.ref 119,.none,.none,.none,.none,.int 333 0,.int 34 0,.str (q z0) 334]⟩,⟨[]⟩⟩
noncomputable def b89 (P:Params):Obj:=⟨.type "frame",none,.plain,⟨[(some (.ref 120)),(some (.ref 3)),(some (.ref 117)),none,(some (.str (q z5) 322)),none,(some (.ref 0))]⟩⟩
noncomputable def b90 (P:Params):Obj:=⟨.type "tuple",none,.seq ⟨[.str (q z54) 343,.str (q [114,111,119,115]) 344,.str (q z153) 345,.str (q z155) 346,.str (q z172) 347]⟩ 0,⟨[]⟩⟩
noncomputable def b91 (P:Params):Obj:=⟨.none,none,fn (sAt 0 (cBody (sAt 12 top))) (q z141) 0 .none .none .none,⟨[]⟩⟩
noncomputable def b92 (P:Params):Obj:=⟨.type "code",none,.fields ⟨[.str (q z6) 340,.str (q z141) 341,.str (q z0) 342,.int 36 0,.int 5 0,.int 0 0,.int 0 0,.int 3 0,.ref 122,.bool true,.int 181 0,.ref 123,.none,.ref 124,.ref 125,.ref 126,.int 348 0,.int 36 0,.str (q z0) 349]⟩,⟨[]⟩⟩
noncomputable def b93 (P:Params):Obj:=⟨.type "function",none,fn (sAt 0 (cBody (sAt 12 top))) (q z141) 3 .none (.str (q z5) 322) (.ref 127),⟨[]⟩⟩
noncomputable def b94 (P:Params):Obj:=⟨.type "tuple",none,.seq ⟨[.str (q z153) 351,.str (q z172) 352,.str (q z155) 353,.str (q [114,111,119,115]) 354]⟩ 0,⟨[]⟩⟩
noncomputable def b95 (P:Params):Obj:=⟨.type "dict",none,.dict ⟨[e P z9 335 (.str (q z5) 322),e P z4 339 (.int 34 338),e P z6 350 (.ref 128),e P z2 355 (.ref 129),e P z19 357 (.ref 132),e P z11 359 (.ref 133),e P z25 360 .none]⟩ 4,⟨[]⟩⟩
noncomputable def b96 (P:Params):Obj:=⟨.type "type",none,.cls { name:=(q z73),bases:=[.type "object"],mro:=[.ref 131,.type "object"],ns:=130,qualname:=(q z73),hasDict:=true,slotNames:=[],subclasses:=[],abstract:=false,collection:=none,hasDel:=false },⟨[none,none,(some (.str (q z73) 328)),(some (.str (q z73) 336)),(some (.builtin "object.__new__")),(some (.bool true))]⟩⟩
noncomputable def b97 (P:Params):Obj:=⟨.type "getset_descriptor",none,.fields ⟨[.str (q z19) 356,.ref 131,.builtin "function.__dict__",.builtin "function.__dict__#set"]⟩,⟨[]⟩⟩
noncomputable def b98 (P:Params):Obj:=⟨.type "getset_descriptor",none,.fields ⟨[.str (q z11) 358,.ref 131,.builtin "ExceptionGroup.__weakref__",.none]⟩,⟨[]⟩⟩
noncomputable def b99 (P:Params):Obj:=⟨.type "super",none,.fields ⟨[.ref 131,.ref 131,.ref 131]⟩,⟨[]⟩⟩
noncomputable def b100 (P:Params):Obj:=⟨.type "builtin_function_or_method",none,.fields ⟨[.builtin "object.__init_subclass__",.ref 131]⟩,⟨[]⟩⟩
noncomputable def b101 (P:Params):Obj:=⟨.type "dict",none,.dict ⟨[e P z9 370 (.str (q z5) 322),e P z14 372 (.str (q z55) 371),e P z4 374 (.int 41 373),e P z6 381 (.ref 149),e P [97,100,100] 389 (.ref 156),e P z201 396 (.ref 163),e P z2 399 (.ref 164)]⟩ 7,⟨[]⟩⟩
noncomputable def b102 (P:Params):Obj:=⟨.none,none,.fields ⟨[.int 43 0,.int 4 0,.ref 148,.int 47 0,.int 4 0,.ref 155,.int 51 0,.int 4 0,.ref 162]⟩,⟨[]⟩⟩
noncomputable def b103 (P:Params):Obj:=⟨.type "code",none,.fields ⟨[.str (q z55) 365,.str (q z55) 366,.str (q z0) 367,.int 41 0,.int 0 0,.int 0 0,.int 0 0,.int 0 0,.ref 139,.bool false,.int 181 0,.ref 140,.none,.none,.none,.none,.int 368 0,.int 41 0,.str (q z0) 369]⟩,⟨[]⟩⟩
noncomputable def b104 (P:Params):Obj:=⟨.type "frame",none,.plain,⟨[(some (.ref 141)),(some (.ref 3)),(some (.ref 138)),none,(some (.str (q z5) 322)),none,(some (.ref 0))]⟩⟩
noncomputable def b105 (P:Params):Obj:=⟨.type "tuple",none,.seq ⟨[.str (q z54) 378]⟩ 0,⟨[]⟩⟩
noncomputable def b106 (P:Params):Obj:=⟨.none,none,fn (sAt 0 (cBody (sAt 13 top))) (q z134) 0 .none .none .none,⟨[]⟩⟩
noncomputable def b107 (P:Params):Obj:=⟨.type "code",none,.fields ⟨[.str (q z6) 375,.str (q z134) 376,.str (q z0) 377,.int 43 0,.int 1 0,.int 0 0,.int 0 0,.int 3 0,.ref 143,.bool true,.int 181 0,.ref 144,.none,.ref 145,.ref 146,.ref 147,.int 379 0,.int 43 0,.str (q z0) 380]⟩,⟨[]⟩⟩
noncomputable def b108 (P:Params):Obj:=⟨.type "function",none,fn (sAt 0 (cBody (sAt 13 top))) (q z134) 3 .none (.str (q z5) 322) (.ref 148),⟨[]⟩⟩
noncomputable def b109 (P:Params):Obj:=⟨.type "tuple",none,.seq ⟨[.str (q z54) 385,.str (q z62) 386]⟩ 0,⟨[]⟩⟩
noncomputable def b110 (P:Params):Obj:=⟨.none,none,fn (sAt 1 (cBody (sAt 13 top))) (q z162) 0 .none .none .none,⟨[]⟩⟩
noncomputable def b111 (P:Params):Obj:=⟨.type "code",none,.fields ⟨[.str (q [97,100,100]) 382,.str (q z162) 383,.str (q z0) 384,.int 47 0,.int 2 0,.int 0 0,.int 0 0,.int 3 0,.ref 150,.bool true,.int 181 0,.ref 151,.none,.ref 152,.ref 153,.ref 154,.int 387 0,.int 47 0,.str (q z0) 388]⟩,⟨[]⟩⟩
noncomputable def b112 (P:Params):Obj:=⟨.type "function",none,fn (sAt 1 (cBody (sAt 13 top))) (q z162) 3 .none (.str (q z5) 322) (.ref 155),⟨[]⟩⟩
noncomputable def b113 (P:Params):Obj:=⟨.type "tuple",none,.seq ⟨[.str (q z54) 393]⟩ 0,⟨[]⟩⟩
noncomputable def b114 (P:Params):Obj:=⟨.none,none,fn (sAt 2 (cBody (sAt 13 top))) (q z149) 0 .none .none .none,⟨[]⟩⟩
noncomputable def b115 (P:Params):Obj:=⟨.type "code",none,.fields ⟨[.str (q z201) 390,.str (q z149) 391,.str (q z0) 392,.int 51 0,.int 1 0,.int 0 0,.int 0 0,.int 3 0,.ref 157,.bool true,.int 181 0,.ref 158,.none,.ref 159,.ref 160,.ref 161,.int 394 0,.int 51 0,.str (q z0) 395]⟩,⟨[]⟩⟩
noncomputable def b116 (P:Params):Obj:=⟨.type "function",none,fn (sAt 2 (cBody (sAt 13 top))) (q z149) 3 .none (.str (q z5) 322) (.ref 162),⟨[]⟩⟩
noncomputable def b117 (P:Params):Obj:=⟨.type "tuple",none,.seq ⟨[.str (q z155) 397,.str (q [114,111,119,115]) 398]⟩ 0,⟨[]⟩⟩
noncomputable def b118 (P:Params):Obj:=⟨.type "dict",none,.dict ⟨[e P z9 370 (.str (q z5) 322),e P z4 374 (.int 41 373),e P z6 381 (.ref 149),e P [97,100,100] 389 (.ref 156),e P z201 396 (.ref 163),e P z2 399 (.ref 164),e P z19 401 (.ref 167),e P z11 403 (.ref 168),e P z25 404 .none]⟩ 4,⟨[]⟩⟩
noncomputable def b119 (P:Params):Obj:=⟨.type "type",none,.cls { name:=(q z55),bases:=[.type "object"],mro:=[.ref 166,.type "object"],ns:=165,qualname:=(q z55),hasDict:=true,slotNames:=[],subclasses:=[],abstract:=false,collection:=none,hasDel:=false },⟨[none,none,(some (.str (q z55) 363)),(some (.str (q z55) 371)),(some (.builtin "object.__new__")),(some (.bool true))]⟩⟩
noncomputable def b120 (P:Params):Obj:=⟨.type "getset_descriptor",none,.fields ⟨[.str (q z19) 400,.ref 166,.builtin "function.__dict__",.builtin "function.__dict__#set"]⟩,⟨[]⟩⟩
noncomputable def b121 (P:Params):Obj:=⟨.type "getset_descriptor",none,.fields ⟨[.str (q z11) 402,.ref 166,.builtin "ExceptionGroup.__weakref__",.none]⟩,⟨[]⟩⟩
noncomputable def b122 (P:Params):Obj:=⟨.type "super",none,.fields ⟨[.ref 166,.ref 166,.ref 166]⟩,⟨[]⟩⟩
noncomputable def b123 (P:Params):Obj:=⟨.type "builtin_function_or_method",none,.fields ⟨[.builtin "object.__init_subclass__",.ref 166]⟩,⟨[]⟩⟩
noncomputable def b124 (P:Params):Obj:=⟨.type "tuple",none,.seq ⟨[.str (q z160) 410,.str (q z143) 411,.str (q z150) 412,.str (q [111,110,101]) 413,.str (q z198) 414]⟩ 0,⟨[]⟩⟩
noncomputable def b125 (P:Params):Obj:=⟨.none,none,fn (sAt 14 top) (q z127) 0 .none .none .none,⟨[]⟩⟩
noncomputable def b126 (P:Params):Obj:=⟨.type "code",none,.fields ⟨[.str (q z127) 407,.str (q z127) 408,.str (q z0) 409,.int 54 0,.int 2 0,.int 0 0,.int 0 0,.int 3 0,.ref 171,.bool true,.int 181 0,.ref 172,.none,.ref 173,.ref 174,.ref 175,.int 415 0,.int 54 0,.str (q z0) 416]⟩,⟨[]⟩⟩
noncomputable def b127 (P:Params):Obj:=⟨.type "function",none,fn (sAt 14 top) (q z127) 3 .none (.str (q z5) 322) (.ref 176),⟨[]⟩⟩
noncomputable def b128 (P:Params):Obj:=⟨.type "tuple",none,.seq ⟨[.str (q z160) 421,.str (q [98,114,97,110,99,104,101,115]) 422,.str (q [106,117,109,112,115]) 423,.str (q [111,110,101]) 424,.str (q [115,112,108,105,116]) 425,.str (q [97,116]) 426]⟩ 0,⟨[]⟩⟩
noncomputable def b129 (P:Params):Obj:=⟨.none,none,fn (sAt 15 top) (q z57) 0 .none .none .none,⟨[]⟩⟩
noncomputable def b130 (P:Params):Obj:=⟨.type "code",none,.fields ⟨[.str (q z57) 418,.str (q z57) 419,.str (q z0) 420,.int 74 0,.int 2 0,.int 0 0,.int 0 0,.int 3 0,.ref 178,.bool true,.int 181 0,.ref 179,.none,.ref 180,.ref 181,.ref 182,.int 427 0,.int 74 0,.str (q z0) 428]⟩,⟨[]⟩⟩
noncomputable def b131 (P:Params):Obj:=⟨.type "function",none,fn (sAt 15 top) (q z57) 3 .none (.str (q z5) 322) (.ref 183),⟨[]⟩⟩
noncomputable def b132 (P:Params):Obj:=⟨.type "tuple",none,.seq ⟨[.str (q z160) 433,.str (q z143) 434,.str (q z198) 435]⟩ 0,⟨[]⟩⟩
noncomputable def b133 (P:Params):Obj:=⟨.none,none,fn (sAt 16 top) (q z92) 0 .none .none .none,⟨[]⟩⟩
noncomputable def b134 (P:Params):Obj:=⟨.type "code",none,.fields ⟨[.str (q z92) 430,.str (q z92) 431,.str (q z0) 432,.int 84 0,.int 2 0,.int 0 0,.int 0 0,.int 3 0,.ref 185,.bool true,.int 181 0,.ref 186,.none,.ref 187,.ref 188,.ref 189,.int 436 0,.int 84 0,.str (q z0) 437]⟩,⟨[]⟩⟩
noncomputable def b135 (P:Params):Obj:=⟨.type "function",none,fn (sAt 16 top) (q z92) 3 .none (.str (q z5) 322) (.ref 190),⟨[]⟩⟩
noncomputable def b136 (P:Params):Obj:=⟨.type "tuple",none,.seq ⟨[.str (q z160) 442,.str (q z143) 443,.str (q z150) 444,.str (q z202) 445,.str (q z167) 446,.str (q z151) 447,.str (q [109,111,100,101]) 448]⟩ 0,⟨[]⟩⟩
noncomputable def b137 (P:Params):Obj:=⟨.none,none,fn (sAt 17 top) (q z67) 0 .none .none .none,⟨[]⟩⟩
noncomputable def b138 (P:Params):Obj:=⟨.type "code",none,.fields ⟨[.str (q z67) 439,.str (q z67) 440,.str (q z0) 441,.int 89 0,.int 2 0,.int 0 0,.int 0 0,.int 3 0,.ref 192,.bool true,.int 181 0,.ref 193,.none,.ref 194,.ref 195,.ref 196,.int 449 0,.int 89 0,.str (q z0) 450]⟩,⟨[]⟩⟩
noncomputable def b139 (P:Params):Obj:=⟨.type "function",none,fn (sAt 17 top) (q z67) 3 .none (.str (q z5) 322) (.ref 197),⟨[]⟩⟩
noncomputable def b140 (P:Params):Obj:=⟨.type "tuple",none,.seq ⟨[.str (q z160) 455,.str (q z202) 456,.str (q z167) 457,.str (q z151) 458,.str (q z176) 459,.str (q [99,111,117,110,116]) 460,.str (q [112,108,97,99,101]) 461,.str (q [108,111,111,112]) 462,.str (q [97,103,97,105,110]) 463]⟩ 0,⟨[]⟩⟩
noncomputable def b141 (P:Params):Obj:=⟨.none,none,fn (sAt 18 top) (q z128) 0 .none .none .none,⟨[]⟩⟩
noncomputable def b142 (P:Params):Obj:=⟨.type "code",none,.fields ⟨[.str (q z128) 452,.str (q z128) 453,.str (q z0) 454,.int 97 0,.int 5 0,.int 0 0,.int 0 0,.int 3 0,.ref 199,.bool true,.int 181 0,.ref 200,.none,.ref 201,.ref 202,.ref 203,.int 464 0,.int 97 0,.str (q z0) 465]⟩,⟨[]⟩⟩
noncomputable def b143 (P:Params):Obj:=⟨.type "function",none,fn (sAt 18 top) (q z128) 3 .none (.str (q z5) 322) (.ref 204),⟨[]⟩⟩
noncomputable def b144 (P:Params):Obj:=⟨.type "tuple",none,.seq ⟨[.str (q z160) 470,.str (q z143) 471,.str (q z150) 472,.str (q z202) 473,.str (q z170) 474,.str (q z116) 475,.str (q z174) 476,.str (q [112,108,97,99,101]) 477,.str (q [109,97,114,107]) 478,.str (q [115,112,108,105,116]) 479]⟩ 0,⟨[]⟩⟩
noncomputable def b145 (P:Params):Obj:=⟨.none,none,fn (sAt 19 top) (q z129) 0 .none .none .none,⟨[]⟩⟩
noncomputable def b146 (P:Params):Obj:=⟨.type "code",none,.fields ⟨[.str (q z129) 467,.str (q z129) 468,.str (q z0) 469,.int 106 0,.int 2 0,.int 0 0,.int 0 0,.int 3 0,.ref 206,.bool true,.int 181 0,.ref 207,.none,.ref 208,.ref 209,.ref 210,.int 480 0,.int 106 0,.str (q z0) 481]⟩,⟨[]⟩⟩
noncomputable def b147 (P:Params):Obj:=⟨.type "function",none,fn (sAt 19 top) (q z129) 3 .none (.str (q z5) 322) (.ref 211),⟨[]⟩⟩
noncomputable def tr2 (P:Params):BT:=insl (insc (tr1 P) [(3,(glob P ((.str (q z5) 322)) 25 26)),(12,b70 P),(53,b71 P)]) 95 [b43 P,b28 P,b72 P,b6 P,b73 P,b74 P,b75 P,b6 P,b7 P,b76 P,b6 P,b77 P,b78 P,b79 P,b80 P,b81 P,b82 P,b83 P,b84 P,b85 P,b6 P,b28 P,b86 P,b6 P,b87 P,b88 P,b89 P,b6 P,b7 P,b90 P,b6 P,b91 P,b92 P,b93 P,b94 P,b95 P,b96 P,b97 P,b98 P,b99 P,b100 P,b6 P,b28 P,b101 P,b6 P,b102 P,b103 P,b104 P,b6 P,b7 P,b105 P,b6 P,b106 P,b107 P,b108 P,b6 P,b7 P,b109 P,b6 P,b110 P,b111 P,b112 P,b6 P,b7 P,b113 P,b6 P,b114 P,b115 P,b116 P,b117 P,b118 P,b119 P,b120 P,b121 P,b122 P,b123 P,b6 P,b7 P,b124 P,b6 P,b125 P,b126 P,b127 P,b6 P,b7 P,b128 P,b6 P,b129 P,b130 P,b131 P,b6 P,b7 P,b132 P,b6 P,b133 P,b134 P,b135 P,b6 P,b7 P,b136 P,b6 P,b137 P,b138 P,b139 P,b6 P,b7 P,b140 P,b6 P,b141 P,b142 P,b143 P,b6 P,b7 P,b144 P,b6 P,b145 P,b146 P,b147 P]
noncomputable def b148 (P:Params):Obj:=⟨.none,none,.fields ⟨[.int 3 0,.int 0 0,.ref 21,.int 5 0,.int 0 0,.ref 28,.int 7 0,.int 0 0,.ref 35,.int 12 0,.int 0 0,.ref 42,.int 17 0,.int 0 0,.ref 62,.int 22 0,.int 0 0,.ref 81,.int 27 0,.int 0 0,.ref 100,.int 34 0,.int 0 0,.ref 120,.int 41 0,.int 0 0,.ref 141,.int 54 0,.int 0 0,.ref 176,.int 74 0,.int 0 0,.ref 183,.int 84 0,.int 0 0,.ref 190,.int 89 0,.int 0 0,.ref 197,.int 97 0,.int 0 0,.ref 204,.int 106 0,.int 0 0,.ref 211,.int 124 0,.int 0 0,.ref 218,.int 132 0,.int 0 0,.ref 268,.int 134 0,.int 0 0,.ref 275,.int 148 0,.int 0 0,.ref 282,.int 154 0,.int 0 0,.ref 289,.int 156 0,.int 0 0,.ref 294,.int 158 0,.int 0 0,.ref 301,.int 164 0,.int 0 0,.ref 308,.int 169 0,.int 0 0,.ref 315,.int 174 0,.int 0 0,.ref 322]⟩,⟨[]⟩⟩
noncomputable def b149 (P:Params):Obj:=⟨.type "tuple",none,.seq ⟨[.str (q z143) 486,.str (q z153) 487,.str (q z172) 488,.str (q z160) 489]⟩ 0,⟨[]⟩⟩
noncomputable def b150 (P:Params):Obj:=⟨.none,none,fn (sAt 20 top) (q z42) 0 .none .none .none,⟨[]⟩⟩
noncomputable def b151 (P:Params):Obj:=⟨.type "code",none,.fields ⟨[.str (q z42) 483,.str (q z42) 484,.str (q z0) 485,.int 124 0,.int 3 0,.int 0 0,.int 0 0,.int 3 0,.ref 213,.bool true,.int 181 0,.ref 214,.none,.ref 215,.ref 216,.ref 217,.int 490 0,.int 124 0,.str (q z0) 491]⟩,⟨[]⟩⟩
noncomputable def b152 (P:Params):Obj:=⟨.type "function",none,fn (sAt 20 top) (q z42) 3 .none (.str (q z5) 322) (.ref 218),⟨[]⟩⟩
noncomputable def b153 (P:Params):Obj:=⟨.type "dict",none,.dict ⟨[e P [97,108,112,104,97] 497 (.ref 223),e P [100,105,103,105,116] 502 (.ref 225),e P [97,108,110,117,109] 505 (.ref 229),e P [117,112,112,101,114] 512 (.ref 231),e P [108,111,119,101,114] 515 (.ref 233),e P [115,112,97,99,101] 518 (.ref 236),e P [112,117,110,99,116] 523 (.ref 241),e P [120,100,105,103,105,116] 532 (.ref 245),e P z150 539 (.ref 250),e P [99,110,116,114,108] 548 (.ref 253),e P [112,114,105,110,116] 553 (.ref 255),e P [103,114,97,112,104] 556 (.ref 257),e P [98,108,97,110,107] 559 (.ref 260),e P [97,115,99,105,105] 564 (.ref 262)]⟩ 14,⟨[]⟩⟩
noncomputable def b154 (P:Params):Obj:=⟨.type "tuple",none,.seq ⟨[.int 65 498,.int 90 499]⟩ 0,⟨[]⟩⟩
noncomputable def b155 (P:Params):Obj:=⟨.type "tuple",none,.seq ⟨[.int 97 500,.int 122 501]⟩ 0,⟨[]⟩⟩
noncomputable def b156 (P:Params):Obj:=⟨.type "list",none,.seq ⟨[.ref 221,.ref 222]⟩ 0,⟨[]⟩⟩
noncomputable def b157 (P:Params):Obj:=⟨.type "tuple",none,.seq ⟨[.int 48 503,.int 57 504]⟩ 0,⟨[]⟩⟩
noncomputable def b158 (P:Params):Obj:=⟨.type "list",none,.seq ⟨[.ref 224]⟩ 0,⟨[]⟩⟩
noncomputable def b159 (P:Params):Obj:=⟨.type "tuple",none,.seq ⟨[.int 48 506,.int 57 507]⟩ 0,⟨[]⟩⟩
noncomputable def b160 (P:Params):Obj:=⟨.type "tuple",none,.seq ⟨[.int 65 508,.int 90 509]⟩ 0,⟨[]⟩⟩
noncomputable def b161 (P:Params):Obj:=⟨.type "tuple",none,.seq ⟨[.int 97 510,.int 122 511]⟩ 0,⟨[]⟩⟩
noncomputable def b162 (P:Params):Obj:=⟨.type "list",none,.seq ⟨[.ref 226,.ref 227,.ref 228]⟩ 0,⟨[]⟩⟩
noncomputable def b163 (P:Params):Obj:=⟨.type "tuple",none,.seq ⟨[.int 65 513,.int 90 514]⟩ 0,⟨[]⟩⟩
noncomputable def b164 (P:Params):Obj:=⟨.type "list",none,.seq ⟨[.ref 230]⟩ 0,⟨[]⟩⟩
noncomputable def b165 (P:Params):Obj:=⟨.type "tuple",none,.seq ⟨[.int 97 516,.int 122 517]⟩ 0,⟨[]⟩⟩
noncomputable def b166 (P:Params):Obj:=⟨.type "list",none,.seq ⟨[.ref 232]⟩ 0,⟨[]⟩⟩
noncomputable def b167 (P:Params):Obj:=⟨.type "tuple",none,.seq ⟨[.int 9 519,.int 13 520]⟩ 0,⟨[]⟩⟩
noncomputable def b168 (P:Params):Obj:=⟨.type "tuple",none,.seq ⟨[.int 32 521,.int 32 522]⟩ 0,⟨[]⟩⟩
noncomputable def b169 (P:Params):Obj:=⟨.type "list",none,.seq ⟨[.ref 234,.ref 235]⟩ 0,⟨[]⟩⟩
noncomputable def b170 (P:Params):Obj:=⟨.type "tuple",none,.seq ⟨[.int 33 524,.int 47 525]⟩ 0,⟨[]⟩⟩
noncomputable def b171 (P:Params):Obj:=⟨.type "tuple",none,.seq ⟨[.int 58 526,.int 64 527]⟩ 0,⟨[]⟩⟩
noncomputable def b172 (P:Params):Obj:=⟨.type "tuple",none,.seq ⟨[.int 91 528,.int 96 529]⟩ 0,⟨[]⟩⟩
noncomputable def b173 (P:Params):Obj:=⟨.type "tuple",none,.seq ⟨[.int 123 530,.int 126 531]⟩ 0,⟨[]⟩⟩
noncomputable def b174 (P:Params):Obj:=⟨.type "list",none,.seq ⟨[.ref 237,.ref 238,.ref 239,.ref 240]⟩ 0,⟨[]⟩⟩
noncomputable def b175 (P:Params):Obj:=⟨.type "tuple",none,.seq ⟨[.int 48 533,.int 57 534]⟩ 0,⟨[]⟩⟩
noncomputable def b176 (P:Params):Obj:=⟨.type "tuple",none,.seq ⟨[.int 65 535,.int 70 536]⟩ 0,⟨[]⟩⟩
noncomputable def b177 (P:Params):Obj:=⟨.type "tuple",none,.seq ⟨[.int 97 537,.int 102 538]⟩ 0,⟨[]⟩⟩
noncomputable def b178 (P:Params):Obj:=⟨.type "list",none,.seq ⟨[.ref 242,.ref 243,.ref 244]⟩ 0,⟨[]⟩⟩
noncomputable def b179 (P:Params):Obj:=⟨.type "tuple",none,.seq ⟨[.int 48 540,.int 57 541]⟩ 0,⟨[]⟩⟩
noncomputable def b180 (P:Params):Obj:=⟨.type "tuple",none,.seq ⟨[.int 65 542,.int 90 543]⟩ 0,⟨[]⟩⟩
noncomputable def b181 (P:Params):Obj:=⟨.type "tuple",none,.seq ⟨[.int 95 544,.int 95 545]⟩ 0,⟨[]⟩⟩
noncomputable def b182 (P:Params):Obj:=⟨.type "tuple",none,.seq ⟨[.int 97 546,.int 122 547]⟩ 0,⟨[]⟩⟩
noncomputable def b183 (P:Params):Obj:=⟨.type "list",none,.seq ⟨[.ref 246,.ref 247,.ref 248,.ref 249]⟩ 0,⟨[]⟩⟩
noncomputable def b184 (P:Params):Obj:=⟨.type "tuple",none,.seq ⟨[.int 0 549,.int 31 550]⟩ 0,⟨[]⟩⟩
noncomputable def b185 (P:Params):Obj:=⟨.type "tuple",none,.seq ⟨[.int 127 551,.int 127 552]⟩ 0,⟨[]⟩⟩
noncomputable def b186 (P:Params):Obj:=⟨.type "list",none,.seq ⟨[.ref 251,.ref 252]⟩ 0,⟨[]⟩⟩
noncomputable def b187 (P:Params):Obj:=⟨.type "tuple",none,.seq ⟨[.int 32 554,.int 126 555]⟩ 0,⟨[]⟩⟩
noncomputable def b188 (P:Params):Obj:=⟨.type "list",none,.seq ⟨[.ref 254]⟩ 0,⟨[]⟩⟩
noncomputable def b189 (P:Params):Obj:=⟨.type "tuple",none,.seq ⟨[.int 33 557,.int 126 558]⟩ 0,⟨[]⟩⟩
noncomputable def b190 (P:Params):Obj:=⟨.type "list",none,.seq ⟨[.ref 256]⟩ 0,⟨[]⟩⟩
noncomputable def b191 (P:Params):Obj:=⟨.type "tuple",none,.seq ⟨[.int 9 560,.int 9 561]⟩ 0,⟨[]⟩⟩
noncomputable def b192 (P:Params):Obj:=⟨.type "tuple",none,.seq ⟨[.int 32 562,.int 32 563]⟩ 0,⟨[]⟩⟩
noncomputable def b193 (P:Params):Obj:=⟨.type "list",none,.seq ⟨[.ref 258,.ref 259]⟩ 0,⟨[]⟩⟩
noncomputable def b194 (P:Params):Obj:=⟨.type "tuple",none,.seq ⟨[.int 0 565,.int 127 566]⟩ 0,⟨[]⟩⟩
noncomputable def b195 (P:Params):Obj:=⟨.type "list",none,.seq ⟨[.ref 261]⟩ 0,⟨[]⟩⟩
noncomputable def b196 (P:Params):Obj:=⟨.type "tuple",none,.seq ⟨[.str (q z81) 585]⟩ 0,⟨[]⟩⟩
noncomputable def b197 (P:Params):Obj:=⟨.none,none,fn (sAt 24 top) (q z43) 0 .none .none .none,⟨[]⟩⟩
noncomputable def b198 (P:Params):Obj:=⟨.type "code",none,.fields ⟨[.str (q z43) 582,.str (q z43) 583,.str (q z0) 584,.int 132 0,.int 1 0,.int 0 0,.int 0 0,.int 3 0,.ref 263,.bool true,.int 181 0,.ref 264,.none,.ref 265,.ref 266,.ref 267,.int 586 0,.int 132 0,.str (q z0) 587]⟩,⟨[]⟩⟩
noncomputable def b199 (P:Params):Obj:=⟨.type "function",none,fn (sAt 24 top) (q z43) 3 .none (.str (q z12) 493) (.ref 268),⟨[]⟩⟩
noncomputable def b200 (P:Params):Obj:=⟨.type "tuple",none,.seq ⟨[.str (q z183) 592,.str (q z81) 593,.str (q z126) 594]⟩ 0,⟨[]⟩⟩
noncomputable def b201 (P:Params):Obj:=⟨.none,none,fn (sAt 25 top) (q z136) 0 .none .none .none,⟨[]⟩⟩
noncomputable def b202 (P:Params):Obj:=⟨.type "code",none,.fields ⟨[.str (q z136) 589,.str (q z136) 590,.str (q z0) 591,.int 134 0,.int 2 0,.int 0 0,.int 0 0,.int 3 0,.ref 270,.bool true,.int 181 0,.ref 271,.none,.ref 272,.ref 273,.ref 274,.int 595 0,.int 134 0,.str (q z0) 596]⟩,⟨[]⟩⟩
noncomputable def b203 (P:Params):Obj:=⟨.type "function",none,fn (sAt 25 top) (q z136) 3 .none (.str (q z12) 493) (.ref 275),⟨[]⟩⟩
noncomputable def b204 (P:Params):Obj:=⟨.type "tuple",none,.seq ⟨[.str (q z81) 601]⟩ 0,⟨[]⟩⟩
noncomputable def b205 (P:Params):Obj:=⟨.none,none,fn (sAt 26 top) (q z87) 0 .none .none .none,⟨[]⟩⟩
noncomputable def b206 (P:Params):Obj:=⟨.type "code",none,.fields ⟨[.str (q z87) 598,.str (q z87) 599,.str (q z0) 600,.int 148 0,.int 1 0,.int 0 0,.int 0 0,.int 3 0,.ref 277,.bool true,.int 181 0,.ref 278,.none,.ref 279,.ref 280,.ref 281,.int 602 0,.int 148 0,.str (q z0) 603]⟩,⟨[]⟩⟩
noncomputable def b207 (P:Params):Obj:=⟨.type "function",none,fn (sAt 26 top) (q z87) 3 .none (.str (q z12) 493) (.ref 282),⟨[]⟩⟩
noncomputable def b208 (P:Params):Obj:=⟨.type "tuple",none,.seq ⟨[.str (q [111,110,101]) 608,.str (q [111,116,104,101,114]) 609,.str (q z70) 610]⟩ 0,⟨[]⟩⟩
noncomputable def b209 (P:Params):Obj:=⟨.none,none,fn (sAt 27 top) (q z101) 0 .none .none .none,⟨[]⟩⟩
noncomputable def b210 (P:Params):Obj:=⟨.type "code",none,.fields ⟨[.str (q z101) 605,.str (q z101) 606,.str (q z0) 607,.int 154 0,.int 3 0,.int 0 0,.int 0 0,.int 3 0,.ref 284,.bool true,.int 181 0,.ref 285,.none,.ref 286,.ref 287,.ref 288,.int 611 0,.int 154 0,.str (q z0) 612]⟩,⟨[]⟩⟩
noncomputable def b211 (P:Params):Obj:=⟨.type "function",none,fn (sAt 27 top) (q z101) 3 .none (.str (q z12) 493) (.ref 289),⟨[]⟩⟩
noncomputable def b212 (P:Params):Obj:=⟨.none,none,fn (sAt 28 top) (q z58) 0 .none .none .none,⟨[]⟩⟩
noncomputable def b213 (P:Params):Obj:=⟨.type "code",none,.fields ⟨[.str (q z58) 614,.str (q z58) 615,.str (q z0) 616,.int 156 0,.int 1 0,.int 0 0,.int 0 0,.int 3 0,.ref 291,.bool true,.int 181 0,.ref 292,.none,.none,.none,.ref 293,.int 617 0,.int 156 0,.str (q z0) 618]⟩,⟨[]⟩⟩
noncomputable def b214 (P:Params):Obj:=⟨.type "function",none,fn (sAt 28 top) (q z58) 3 .none (.str (q z12) 493) (.ref 294),⟨[]⟩⟩
noncomputable def b215 (P:Params):Obj:=⟨.type "tuple",none,.seq ⟨[.str (q [105,116,101,109]) 623,.str (q z81) 624]⟩ 0,⟨[]⟩⟩
noncomputable def b216 (P:Params):Obj:=⟨.none,none,fn (sAt 29 top) (q z74) 0 .none .none .none,⟨[]⟩⟩
noncomputable def b217 (P:Params):Obj:=⟨.type "code",none,.fields ⟨[.str (q z74) 620,.str (q z74) 621,.str (q z0) 622,.int 158 0,.int 2 0,.int 0 0,.int 0 0,.int 3 0,.ref 296,.bool true,.int 181 0,.ref 297,.none,.ref 298,.ref 299,.ref 300,.int 625 0,.int 158 0,.str (q z0) 626]⟩,⟨[]⟩⟩
noncomputable def b218 (P:Params):Obj:=⟨.type "function",none,fn (sAt 29 top) (q z74) 3 .none (.str (q z12) 493) (.ref 301),⟨[]⟩⟩
noncomputable def b219 (P:Params):Obj:=⟨.type "tuple",none,.seq ⟨[.str (q z157) 631,.str (q z81) 632,.str (q [105,116,101,109]) 633]⟩ 0,⟨[]⟩⟩
noncomputable def b220 (P:Params):Obj:=⟨.none,none,fn (sAt 30 top) (q z75) 0 .none .none .none,⟨[]⟩⟩
noncomputable def b221 (P:Params):Obj:=⟨.type "code",none,.fields ⟨[.str (q z75) 628,.str (q z75) 629,.str (q z0) 630,.int 164 0,.int 2 0,.int 0 0,.int 0 0,.int 3 0,.ref 303,.bool true,.int 181 0,.ref 304,.none,.ref 305,.ref 306,.ref 307,.int 634 0,.int 164 0,.str (q z0) 635]⟩,⟨[]⟩⟩
noncomputable def b222 (P:Params):Obj:=⟨.type "function",none,fn (sAt 30 top) (q z75) 3 .none (.str (q z12) 493) (.ref 308),⟨[]⟩⟩
noncomputable def b223 (P:Params):Obj:=⟨.type "tuple",none,.seq ⟨[.str (q z157) 640,.str (q z116) 641,.str (q z70) 642,.str (q z81) 643,.str (q z126) 644]⟩ 0,⟨[]⟩⟩
noncomputable def b224 (P:Params):Obj:=⟨.none,none,fn (sAt 31 top) (q z94) 0 .none .none .none,⟨[]⟩⟩
noncomputable def b225 (P:Params):Obj:=⟨.type "code",none,.fields ⟨[.str (q z94) 637,.str (q z94) 638,.str (q z0) 639,.int 169 0,.int 4 0,.int 0 0,.int 0 0,.int 3 0,.ref 310,.bool true,.int 181 0,.ref 311,.none,.ref 312,.ref 313,.ref 314,.int 645 0,.int 169 0,.str (q z0) 646]⟩,⟨[]⟩⟩
noncomputable def b226 (P:Params):Obj:=⟨.type "function",none,fn (sAt 31 top) (q z94) 3 .none (.str (q z12) 493) (.ref 315),⟨[]⟩⟩
noncomputable def b227 (P:Params):Obj:=⟨.type "tuple",none,.seq ⟨[.str (q z197) 651,.str (q z81) 652]⟩ 0,⟨[]⟩⟩
noncomputable def b228 (P:Params):Obj:=⟨.none,none,fn (sAt 32 top) (q z95) 0 .none .none .none,⟨[]⟩⟩
noncomputable def b229 (P:Params):Obj:=⟨.type "code",none,.fields ⟨[.str (q z95) 648,.str (q z95) 649,.str (q z0) 650,.int 174 0,.int 2 0,.int 0 0,.int 0 0,.int 3 0,.ref 317,.bool true,.int 181 0,.ref 318,.none,.ref 319,.ref 320,.ref 321,.int 653 0,.int 174 0,.str (q z0) 654]⟩,⟨[]⟩⟩
noncomputable def b230 (P:Params):Obj:=⟨.type "function",none,fn (sAt 32 top) (q z95) 3 .none (.str (q z12) 493) (.ref 322),⟨[]⟩⟩
noncomputable def b231 (P:Params):Obj:=⟨.type "dict",none,.dict ⟨[e P [110] 658 (.str (q [10]) 659),e P [116] 660 (.str (q [9]) 661),e P [114] 662 (.str (q [13]) 663),e P [102] 664 (.str (q [12]) 665),e P [101] 666 (.str (q [27]) 667),e P [97] 668 (.str (q [7]) 669)]⟩ 6,⟨[]⟩⟩
noncomputable def tr3 (P:Params):BT:=insl (insc (tr2 P) [(3,(glob P ((.str (q z3) 656)) 43 44)),(12,b148 P)]) 213 [b6 P,b7 P,b149 P,b6 P,b150 P,b151 P,b152 P,b153 P,b154 P,b155 P,b156 P,b157 P,b158 P,b159 P,b160 P,b161 P,b162 P,b163 P,b164 P,b165 P,b166 P,b167 P,b168 P,b169 P,b170 P,b171 P,b172 P,b173 P,b174 P,b175 P,b176 P,b177 P,b178 P,b179 P,b180 P,b181 P,b182 P,b183 P,b184 P,b185 P,b186 P,b187 P,b188 P,b189 P,b190 P,b191 P,b192 P,b193 P,b194 P,b195 P,b6 P,b7 P,b196 P,b6 P,b197 P,b198 P,b199 P,b6 P,b7 P,b200 P,b6 P,b201 P,b202 P,b203 P,b6 P,b7 P,b204 P,b6 P,b205 P,b206 P,b207 P,b6 P,b7 P,b208 P,b6 P,b209 P,b210 P,b211 P,b6 P,b7 P,b212 P,b213 P,b214 P,b6 P,b7 P,b215 P,b6 P,b216 P,b217 P,b218 P,b6 P,b7 P,b219 P,b6 P,b220 P,b221 P,b222 P,b6 P,b7 P,b223 P,b6 P,b224 P,b225 P,b226 P,b6 P,b7 P,b227 P,b6 P,b228 P,b229 P,b230 P,b231 P]
noncomputable def b232 (P:Params):Obj:=⟨.none,none,.fields ⟨[.int 3 0,.int 0 0,.ref 21,.int 5 0,.int 0 0,.ref 28,.int 7 0,.int 0 0,.ref 35,.int 12 0,.int 0 0,.ref 42,.int 17 0,.int 0 0,.ref 62,.int 22 0,.int 0 0,.ref 81,.int 27 0,.int 0 0,.ref 100,.int 34 0,.int 0 0,.ref 120,.int 41 0,.int 0 0,.ref 141,.int 54 0,.int 0 0,.ref 176,.int 74 0,.int 0 0,.ref 183,.int 84 0,.int 0 0,.ref 190,.int 89 0,.int 0 0,.ref 197,.int 97 0,.int 0 0,.ref 204,.int 106 0,.int 0 0,.ref 211,.int 124 0,.int 0 0,.ref 218,.int 132 0,.int 0 0,.ref 268,.int 134 0,.int 0 0,.ref 275,.int 148 0,.int 0 0,.ref 282,.int 154 0,.int 0 0,.ref 289,.int 156 0,.int 0 0,.ref 294,.int 158 0,.int 0 0,.ref 301,.int 164 0,.int 0 0,.ref 308,.int 169 0,.int 0 0,.ref 315,.int 174 0,.int 0 0,.ref 322,.int 187 0,.int 0 0,.ref 330,.int 206 0,.int 0 0,.ref 365,.int 211 0,.int 0 0,.ref 372,.int 216 0,.int 0 0,.ref 379,.int 223 0,.int 0 0,.ref 386,.int 227 0,.int 0 0,.ref 391,.int 235 0,.int 0 0,.ref 396,.int 243 0,.int 0 0,.ref 401,.int 251 0,.int 0 0,.ref 408,.int 267 0,.int 0 0,.ref 415,.int 273 0,.int 0 0,.ref 422,.int 277 0,.int 0 0,.ref 429,.int 282 0,.int 0 0,.ref 436,.int 293 0,.int 0 0,.ref 443,.int 310 0,.int 0 0,.ref 450,.int 312 0,.int 0 0,.ref 457,.int 321 0,.int 0 0,.ref 464,.int 342 0,.int 0 0,.ref 475,.int 357 0,.int 0 0,.ref 482,.int 370 0,.int 0 0,.ref 489]⟩,⟨[]⟩⟩
noncomputable def b233 (P:Params):Obj:=⟨.type "dict",none,.dict ⟨[e P z9 694 (.str (q z3) 656),e P z14 696 (.str (q z20) 695),e P z4 698 (.int 187 697),e P z6 707 (.ref 338),e P [112,101,101,107] 714 (.ref 345),e P z203 722 (.ref 352),e P z2 730 (.ref 353)]⟩ 7,⟨[]⟩⟩
noncomputable def b234 (P:Params):Obj:=⟨.none,none,.fields ⟨[.int 189 0,.int 4 0,.ref 337,.int 198 0,.int 4 0,.ref 344,.int 201 0,.int 4 0,.ref 351]⟩,⟨[]⟩⟩
noncomputable def b235 (P:Params):Obj:=⟨.type "code",none,.fields ⟨[.str (q z20) 689,.str (q z20) 690,.str (q z0) 691,.int 187 0,.int 0 0,.int 0 0,.int 0 0,.int 0 0,.ref 328,.bool false,.int 181 0,.ref 329,.none,.none,.none,.none,.int 692 0,.int 187 0,.str (q z0) 693]⟩,⟨[]⟩⟩
noncomputable def b236 (P:Params):Obj:=⟨.type "frame",none,.plain,⟨[(some (.ref 330)),(some (.ref 3)),(some (.ref 327)),none,(some (.str (q z3) 656)),none,(some (.ref 0))]⟩⟩
noncomputable def b237 (P:Params):Obj:=⟨.type "tuple",none,.seq ⟨[.str (q z54) 702,.str (q z29) 703,.str (q [116,111,116,97,108]) 704]⟩ 0,⟨[]⟩⟩
noncomputable def b238 (P:Params):Obj:=⟨.none,none,fn (sAt 0 (cBody (sAt 40 top))) (q z93) 0 .none .none .none,⟨[]⟩⟩
noncomputable def b239 (P:Params):Obj:=⟨.type "code",none,.fields ⟨[.str (q z6) 699,.str (q z93) 700,.str (q z0) 701,.int 189 0,.int 3 0,.int 0 0,.int 0 0,.int 3 0,.ref 332,.bool true,.int 181 0,.ref 333,.none,.ref 334,.ref 335,.ref 336,.int 705 0,.int 189 0,.str (q z0) 706]⟩,⟨[]⟩⟩
noncomputable def b240 (P:Params):Obj:=⟨.type "function",none,fn (sAt 0 (cBody (sAt 40 top))) (q z93) 3 .none (.str (q z3) 656) (.ref 337),⟨[]⟩⟩
noncomputable def b241 (P:Params):Obj:=⟨.type "tuple",none,.seq ⟨[.str (q z54) 711]⟩ 0,⟨[]⟩⟩
noncomputable def b242 (P:Params):Obj:=⟨.none,none,fn (sAt 1 (cBody (sAt 40 top))) (q z135) 0 .none .none .none,⟨[]⟩⟩
noncomputable def b243 (P:Params):Obj:=⟨.type "code",none,.fields ⟨[.str (q [112,101,101,107]) 708,.str (q z135) 709,.str (q z0) 710,.int 198 0,.int 1 0,.int 0 0,.int 0 0,.int 3 0,.ref 339,.bool true,.int 181 0,.ref 340,.none,.ref 341,.ref 342,.ref 343,.int 712 0,.int 198 0,.str (q z0) 713]⟩,⟨[]⟩⟩
noncomputable def b244 (P:Params):Obj:=⟨.type "function",none,fn (sAt 1 (cBody (sAt 40 top))) (q z135) 3 .none (.str (q z3) 656) (.ref 344),⟨[]⟩⟩
noncomputable def b245 (P:Params):Obj:=⟨.type "tuple",none,.seq ⟨[.str (q z54) 718,.str (q z150) 719]⟩ 0,⟨[]⟩⟩
noncomputable def b246 (P:Params):Obj:=⟨.none,none,fn (sAt 2 (cBody (sAt 40 top))) (q z117) 0 .none .none .none,⟨[]⟩⟩
noncomputable def b247 (P:Params):Obj:=⟨.type "code",none,.fields ⟨[.str (q z203) 715,.str (q z117) 716,.str (q z0) 717,.int 201 0,.int 2 0,.int 0 0,.int 0 0,.int 3 0,.ref 346,.bool true,.int 181 0,.ref 347,.none,.ref 348,.ref 349,.ref 350,.int 720 0,.int 201 0,.str (q z0) 721]⟩,⟨[]⟩⟩
noncomputable def b248 (P:Params):Obj:=⟨.type "function",none,fn (sAt 2 (cBody (sAt 40 top))) (q z117) 3 .none (.str (q z3) 656) (.ref 351),⟨[]⟩⟩
noncomputable def b249 (P:Params):Obj:=⟨.type "tuple",none,.seq ⟨[.str (q [97,116]) 723,.str (q z204) 724,.str (q z153) 725,.str (q z172) 726,.str (q [115,112,111,107,101,110]) 727,.str (q z29) 728,.str (q [116,111,116,97,108]) 729]⟩ 0,⟨[]⟩⟩
noncomputable def b250 (P:Params):Obj:=⟨.type "dict",none,.dict ⟨[e P z9 694 (.str (q z3) 656),e P z4 698 (.int 187 697),e P z6 707 (.ref 338),e P [112,101,101,107] 714 (.ref 345),e P z203 722 (.ref 352),e P z2 730 (.ref 353),e P z19 732 (.ref 356),e P z11 734 (.ref 357),e P z25 735 .none]⟩ 4,⟨[]⟩⟩
noncomputable def b251 (P:Params):Obj:=⟨.type "type",none,.cls { name:=(q z20),bases:=[.type "object"],mro:=[.ref 355,.type "object"],ns:=354,qualname:=(q z20),hasDict:=true,slotNames:=[],subclasses:=[],abstract:=false,collection:=none,hasDel:=false },⟨[none,none,(some (.str (q z20) 687)),(some (.str (q z20) 695)),(some (.builtin "object.__new__")),(some (.bool true))]⟩⟩
noncomputable def b252 (P:Params):Obj:=⟨.type "getset_descriptor",none,.fields ⟨[.str (q z19) 731,.ref 355,.builtin "function.__dict__",.builtin "function.__dict__#set"]⟩,⟨[]⟩⟩
noncomputable def b253 (P:Params):Obj:=⟨.type "getset_descriptor",none,.fields ⟨[.str (q z11) 733,.ref 355,.builtin "ExceptionGroup.__weakref__",.none]⟩,⟨[]⟩⟩
noncomputable def b254 (P:Params):Obj:=⟨.type "super",none,.fields ⟨[.ref 355,.ref 355,.ref 355]⟩,⟨[]⟩⟩
noncomputable def b255 (P:Params):Obj:=⟨.type "builtin_function_or_method",none,.fields ⟨[.builtin "object.__init_subclass__",.ref 355]⟩,⟨[]⟩⟩
noncomputable def b256 (P:Params):Obj:=⟨.type "tuple",none,.seq ⟨[.str (q z15) 741,.str (q z175) 742,.str (q z151) 743,.str (q z113) 744]⟩ 0,⟨[]⟩⟩
noncomputable def b257 (P:Params):Obj:=⟨.none,none,fn (sAt 41 top) (q z158) 0 .none .none .none,⟨[]⟩⟩
noncomputable def b258 (P:Params):Obj:=⟨.type "code",none,.fields ⟨[.str (q z158) 738,.str (q z158) 739,.str (q z0) 740,.int 206 0,.int 3 0,.int 0 0,.int 0 0,.int 3 0,.ref 360,.bool true,.int 181 0,.ref 361,.none,.ref 362,.ref 363,.ref 364,.int 745 0,.int 206 0,.str (q z0) 746]⟩,⟨[]⟩⟩
noncomputable def b259 (P:Params):Obj:=⟨.type "function",none,fn (sAt 41 top) (q z158) 3 .none (.str (q z3) 656) (.ref 365),⟨[]⟩⟩
noncomputable def b260 (P:Params):Obj:=⟨.type "tuple",none,.seq ⟨[.str (q z17) 751,.str (q [98,97,115,101]) 752,.str (q z126) 753,.str (q z81) 754]⟩ 0,⟨[]⟩⟩
noncomputable def b261 (P:Params):Obj:=⟨.none,none,fn (sAt 42 top) (q z33) 0 .none .none .none,⟨[]⟩⟩
noncomputable def b262 (P:Params):Obj:=⟨.type "code",none,.fields ⟨[.str (q z33) 748,.str (q z33) 749,.str (q z0) 750,.int 211 0,.int 2 0,.int 0 0,.int 0 0,.int 3 0,.ref 367,.bool true,.int 181 0,.ref 368,.none,.ref 369,.ref 370,.ref 371,.int 755 0,.int 211 0,.str (q z0) 756]⟩,⟨[]⟩⟩
noncomputable def b263 (P:Params):Obj:=⟨.type "function",none,fn (sAt 42 top) (q z33) 3 .none (.str (q z3) 656) (.ref 372),⟨[]⟩⟩
noncomputable def b264 (P:Params):Obj:=⟨.type "tuple",none,.seq ⟨[.str (q z15) 761,.str (q [101,110,100]) 762,.str (q z114) 763,.str (q z126) 764]⟩ 0,⟨[]⟩⟩
noncomputable def b265 (P:Params):Obj:=⟨.none,none,fn (sAt 43 top) (q z76) 0 .none .none .none,⟨[]⟩⟩
noncomputable def b266 (P:Params):Obj:=⟨.type "code",none,.fields ⟨[.str (q z76) 758,.str (q z76) 759,.str (q z0) 760,.int 216 0,.int 2 0,.int 0 0,.int 0 0,.int 3 0,.ref 374,.bool true,.int 181 0,.ref 375,.none,.ref 376,.ref 377,.ref 378,.int 765 0,.int 216 0,.str (q z0) 766]⟩,⟨[]⟩⟩
noncomputable def b267 (P:Params):Obj:=⟨.type "function",none,fn (sAt 43 top) (q z76) 3 .none (.str (q z3) 656) (.ref 379),⟨[]⟩⟩
noncomputable def b268 (P:Params):Obj:=⟨.type "tuple",none,.seq ⟨[.str (q z200) 771,.str (q [97,116]) 772]⟩ 0,⟨[]⟩⟩
noncomputable def b269 (P:Params):Obj:=⟨.none,none,fn (sAt 44 top) (q z49) 0 .none .none .none,⟨[]⟩⟩
noncomputable def b270 (P:Params):Obj:=⟨.type "code",none,.fields ⟨[.str (q z49) 768,.str (q z49) 769,.str (q z0) 770,.int 223 0,.int 2 0,.int 0 0,.int 0 0,.int 3 0,.ref 381,.bool true,.int 181 0,.ref 382,.none,.ref 383,.ref 384,.ref 385,.int 773 0,.int 223 0,.str (q z0) 774]⟩,⟨[]⟩⟩
noncomputable def b271 (P:Params):Obj:=⟨.type "function",none,fn (sAt 44 top) (q z49) 3 .none (.str (q z3) 656) (.ref 386),⟨[]⟩⟩
noncomputable def b272 (P:Params):Obj:=⟨.none,none,fn (sAt 45 top) (q z34) 0 .none .none .none,⟨[]⟩⟩
noncomputable def b273 (P:Params):Obj:=⟨.type "code",none,.fields ⟨[.str (q z34) 776,.str (q z34) 777,.str (q z0) 778,.int 227 0,.int 1 0,.int 0 0,.int 0 0,.int 3 0,.ref 388,.bool true,.int 181 0,.ref 389,.none,.none,.none,.ref 390,.int 779 0,.int 227 0,.str (q z0) 780]⟩,⟨[]⟩⟩
noncomputable def b274 (P:Params):Obj:=⟨.type "function",none,fn (sAt 45 top) (q z34) 3 .none (.str (q z3) 656) (.ref 391),⟨[]⟩⟩
noncomputable def b275 (P:Params):Obj:=⟨.none,none,fn (sAt 46 top) (q z26) 0 .none .none .none,⟨[]⟩⟩
noncomputable def b276 (P:Params):Obj:=⟨.type "code",none,.fields ⟨[.str (q z26) 782,.str (q z26) 783,.str (q z0) 784,.int 235 0,.int 1 0,.int 0 0,.int 0 0,.int 3 0,.ref 393,.bool true,.int 181 0,.ref 394,.none,.none,.none,.ref 395,.int 785 0,.int 235 0,.str (q z0) 786]⟩,⟨[]⟩⟩
noncomputable def b277 (P:Params):Obj:=⟨.type "function",none,fn (sAt 46 top) (q z26) 3 .none (.str (q z3) 656) (.ref 396),⟨[]⟩⟩
noncomputable def b278 (P:Params):Obj:=⟨.none,none,fn (sAt 47 top) (q z24) 0 .none .none .none,⟨[]⟩⟩
noncomputable def b279 (P:Params):Obj:=⟨.type "code",none,.fields ⟨[.str (q z24) 788,.str (q z24) 789,.str (q z0) 790,.int 243 0,.int 1 0,.int 0 0,.int 0 0,.int 3 0,.ref 398,.bool true,.int 181 0,.ref 399,.none,.none,.none,.ref 400,.int 791 0,.int 243 0,.str (q z0) 792]⟩,⟨[]⟩⟩
noncomputable def b280 (P:Params):Obj:=⟨.type "function",none,fn (sAt 47 top) (q z24) 3 .none (.str (q z3) 656) (.ref 401),⟨[]⟩⟩
noncomputable def b281 (P:Params):Obj:=⟨.type "tuple",none,.seq ⟨[.str (q z15) 797,.str (q z81) 798]⟩ 0,⟨[]⟩⟩
noncomputable def b282 (P:Params):Obj:=⟨.none,none,fn (sAt 48 top) (q z21) 0 .none .none .none,⟨[]⟩⟩
noncomputable def b283 (P:Params):Obj:=⟨.type "code",none,.fields ⟨[.str (q z21) 794,.str (q z21) 795,.str (q z0) 796,.int 251 0,.int 1 0,.int 0 0,.int 0 0,.int 3 0,.ref 403,.bool true,.int 181 0,.ref 404,.none,.ref 405,.ref 406,.ref 407,.int 799 0,.int 251 0,.str (q z0) 800]⟩,⟨[]⟩⟩
noncomputable def b284 (P:Params):Obj:=⟨.type "function",none,fn (sAt 48 top) (q z21) 3 .none (.str (q z3) 656) (.ref 408),⟨[]⟩⟩
noncomputable def b285 (P:Params):Obj:=⟨.type "tuple",none,.seq ⟨[.str (q z15) 805,.str (q z81) 806]⟩ 0,⟨[]⟩⟩
noncomputable def b286 (P:Params):Obj:=⟨.none,none,fn (sAt 49 top) (q z50) 0 .none .none .none,⟨[]⟩⟩
noncomputable def b287 (P:Params):Obj:=⟨.type "code",none,.fields ⟨[.str (q z50) 802,.str (q z50) 803,.str (q z0) 804,.int 267 0,.int 1 0,.int 0 0,.int 0 0,.int 3 0,.ref 410,.bool true,.int 181 0,.ref 411,.none,.ref 412,.ref 413,.ref 414,.int 807 0,.int 267 0,.str (q z0) 808]⟩,⟨[]⟩⟩
noncomputable def b288 (P:Params):Obj:=⟨.type "function",none,fn (sAt 49 top) (q z50) 3 .none (.str (q z3) 656) (.ref 415),⟨[]⟩⟩
noncomputable def b289 (P:Params):Obj:=⟨.type "tuple",none,.seq ⟨[.str (q z29) 813,.str (q [97,116]) 814,.str (q z175) 815]⟩ 0,⟨[]⟩⟩
noncomputable def b290 (P:Params):Obj:=⟨.none,none,fn (sAt 50 top) (q z96) 0 .none .none .none,⟨[]⟩⟩
noncomputable def b291 (P:Params):Obj:=⟨.type "code",none,.fields ⟨[.str (q z96) 810,.str (q z96) 811,.str (q z0) 812,.int 273 0,.int 3 0,.int 0 0,.int 0 0,.int 3 0,.ref 417,.bool true,.int 181 0,.ref 418,.none,.ref 419,.ref 420,.ref 421,.int 816 0,.int 273 0,.str (q z0) 817]⟩,⟨[]⟩⟩
noncomputable def b292 (P:Params):Obj:=⟨.type "function",none,fn (sAt 50 top) (q z96) 3 .none (.str (q z3) 656) (.ref 422),⟨[]⟩⟩
noncomputable def b293 (P:Params):Obj:=⟨.type "tuple",none,.seq ⟨[.str (q z29) 822,.str (q [97,116]) 823,.str (q z114) 824]⟩ 0,⟨[]⟩⟩
noncomputable def b294 (P:Params):Obj:=⟨.none,none,fn (sAt 51 top) (q z97) 0 .none .none .none,⟨[]⟩⟩
noncomputable def b295 (P:Params):Obj:=⟨.type "code",none,.fields ⟨[.str (q z97) 819,.str (q z97) 820,.str (q z0) 821,.int 277 0,.int 2 0,.int 0 0,.int 0 0,.int 3 0,.ref 424,.bool true,.int 181 0,.ref 425,.none,.ref 426,.ref 427,.ref 428,.int 825 0,.int 277 0,.str (q z0) 826]⟩,⟨[]⟩⟩
noncomputable def b296 (P:Params):Obj:=⟨.type "function",none,fn (sAt 51 top) (q z97) 3 .none (.str (q z3) 656) (.ref 429),⟨[]⟩⟩
noncomputable def b297 (P:Params):Obj:=⟨.type "tuple",none,.seq ⟨[.str (q z15) 831,.str (q z70) 832,.str (q z114) 833,.str (q [110,97,109,101]) 834,.str (q [98,97,114,101]) 835,.str (q z157) 836]⟩ 0,⟨[]⟩⟩
noncomputable def b298 (P:Params):Obj:=⟨.none,none,fn (sAt 52 top) (q z82) 0 .none .none .none,⟨[]⟩⟩
noncomputable def b299 (P:Params):Obj:=⟨.type "code",none,.fields ⟨[.str (q z82) 828,.str (q z82) 829,.str (q z0) 830,.int 282 0,.int 2 0,.int 0 0,.int 0 0,.int 3 0,.ref 431,.bool true,.int 181 0,.ref 432,.none,.ref 433,.ref 434,.ref 435,.int 837 0,.int 282 0,.str (q z0) 838]⟩,⟨[]⟩⟩
noncomputable def b300 (P:Params):Obj:=⟨.type "function",none,fn (sAt 52 top) (q z82) 3 .none (.str (q z3) 656) (.ref 436),⟨[]⟩⟩
noncomputable def b301 (P:Params):Obj:=⟨.type "tuple",none,.seq ⟨[.str (q z15) 843,.str (q z70) 844,.str (q z126) 845,.str (q z81) 846,.str (q z183) 847]⟩ 0,⟨[]⟩⟩
noncomputable def b302 (P:Params):Obj:=⟨.none,none,fn (sAt 53 top) (q z68) 0 .none .none .none,⟨[]⟩⟩
noncomputable def b303 (P:Params):Obj:=⟨.type "code",none,.fields ⟨[.str (q z68) 840,.str (q z68) 841,.str (q z0) 842,.int 293 0,.int 2 0,.int 0 0,.int 0 0,.int 3 0,.ref 438,.bool true,.int 181 0,.ref 439,.none,.ref 440,.ref 441,.ref 442,.int 848 0,.int 293 0,.str (q z0) 849]⟩,⟨[]⟩⟩
noncomputable def b304 (P:Params):Obj:=⟨.type "function",none,fn (sAt 53 top) (q z68) 3 .none (.str (q z3) 656) (.ref 443),⟨[]⟩⟩
noncomputable def b305 (P:Params):Obj:=⟨.type "tuple",none,.seq ⟨[.str (q z157) 854]⟩ 0,⟨[]⟩⟩
noncomputable def b306 (P:Params):Obj:=⟨.none,none,fn (sAt 54 top) (q z64) 0 .none .none .none,⟨[]⟩⟩
noncomputable def b307 (P:Params):Obj:=⟨.type "code",none,.fields ⟨[.str (q z64) 851,.str (q z64) 852,.str (q z0) 853,.int 310 0,.int 1 0,.int 0 0,.int 0 0,.int 3 0,.ref 445,.bool true,.int 181 0,.ref 446,.none,.ref 447,.ref 448,.ref 449,.int 855 0,.int 310 0,.str (q z0) 856]⟩,⟨[]⟩⟩
noncomputable def b308 (P:Params):Obj:=⟨.type "function",none,fn (sAt 54 top) (q z64) 3 .none (.str (q z3) 656) (.ref 450),⟨[]⟩⟩
noncomputable def b309 (P:Params):Obj:=⟨.type "tuple",none,.seq ⟨[.str (q z15) 861,.str (q [102,105,114,115,116]) 862,.str (q z70) 863,.str (q [97,116]) 864,.str (q [115,101,99,111,110,100]) 865]⟩ 0,⟨[]⟩⟩
noncomputable def b310 (P:Params):Obj:=⟨.none,none,fn (sAt 55 top) (q z30) 0 .none .none .none,⟨[]⟩⟩
noncomputable def b311 (P:Params):Obj:=⟨.type "code",none,.fields ⟨[.str (q z30) 858,.str (q z30) 859,.str (q z0) 860,.int 312 0,.int 3 0,.int 0 0,.int 0 0,.int 3 0,.ref 452,.bool true,.int 181 0,.ref 453,.none,.ref 454,.ref 455,.ref 456,.int 866 0,.int 312 0,.str (q z0) 867]⟩,⟨[]⟩⟩
noncomputable def b312 (P:Params):Obj:=⟨.type "function",none,fn (sAt 55 top) (q z30) 3 .none (.str (q z3) 656) (.ref 457),⟨[]⟩⟩
noncomputable def b313 (P:Params):Obj:=⟨.type "tuple",none,.seq ⟨[.str (q z15) 872,.str (q z70) 873,.str (q z113) 874,.str (q z116) 875,.str (q z157) 876,.str (q [105,115,95,102,105,114,115,116]) 877,.str (q z126) 878,.str (q z173) 879]⟩ 0,⟨[]⟩⟩
noncomputable def b314 (P:Params):Obj:=⟨.none,none,fn (sAt 56 top) (q z130) 0 .none .none .none,⟨[]⟩⟩
noncomputable def b315 (P:Params):Obj:=⟨.type "code",none,.fields ⟨[.str (q z130) 869,.str (q z130) 870,.str (q z0) 871,.int 321 0,.int 2 0,.int 0 0,.int 0 0,.int 3 0,.ref 459,.bool true,.int 181 0,.ref 460,.none,.ref 461,.ref 462,.ref 463,.int 880 0,.int 321 0,.str (q z0) 881]⟩,⟨[]⟩⟩
noncomputable def b316 (P:Params):Obj:=⟨.type "function",none,fn (sAt 56 top) (q z130) 3 .none (.str (q z3) 656) (.ref 464),⟨[]⟩⟩
noncomputable def b317 (P:Params):Obj:=⟨.type "dict",none,.dict ⟨[e P [42] 889 (.ref 467),e P [43] 893 (.ref 468),e P [63] 897 (.ref 469)]⟩ 3,⟨[]⟩⟩
noncomputable def b318 (P:Params):Obj:=⟨.type "tuple",none,.seq ⟨[.int 0 890,.int (-1) 892]⟩ 0,⟨[]⟩⟩
noncomputable def b319 (P:Params):Obj:=⟨.type "tuple",none,.seq ⟨[.int 1 894,.int (-1) 896]⟩ 0,⟨[]⟩⟩
noncomputable def b320 (P:Params):Obj:=⟨.type "tuple",none,.seq ⟨[.int 0 898,.int 1 899]⟩ 0,⟨[]⟩⟩
noncomputable def b321 (P:Params):Obj:=⟨.type "tuple",none,.seq ⟨[.str (q z29) 907,.str (q z126) 908,.str (q [97,116]) 909,.str (q z114) 910]⟩ 0,⟨[]⟩⟩
noncomputable def b322 (P:Params):Obj:=⟨.none,none,fn (sAt 61 top) (q z44) 0 .none .none .none,⟨[]⟩⟩
noncomputable def b323 (P:Params):Obj:=⟨.type "code",none,.fields ⟨[.str (q z44) 904,.str (q z44) 905,.str (q z0) 906,.int 342 0,.int 1 0,.int 0 0,.int 0 0,.int 3 0,.ref 470,.bool true,.int 181 0,.ref 471,.none,.ref 472,.ref 473,.ref 474,.int 911 0,.int 342 0,.str (q z0) 912]⟩,⟨[]⟩⟩
noncomputable def b324 (P:Params):Obj:=⟨.type "function",none,fn (sAt 61 top) (q z44) 3 .none (.str (q z10) 883) (.ref 475),⟨[]⟩⟩
noncomputable def b325 (P:Params):Obj:=⟨.type "tuple",none,.seq ⟨[.str (q z29) 917,.str (q [97,116]) 918,.str (q z173) 919]⟩ 0,⟨[]⟩⟩
noncomputable def b326 (P:Params):Obj:=⟨.none,none,fn (sAt 62 top) (q z83) 0 .none .none .none,⟨[]⟩⟩
noncomputable def b327 (P:Params):Obj:=⟨.type "code",none,.fields ⟨[.str (q z83) 914,.str (q z83) 915,.str (q z0) 916,.int 357 0,.int 2 0,.int 0 0,.int 0 0,.int 3 0,.ref 477,.bool true,.int 181 0,.ref 478,.none,.ref 479,.ref 480,.ref 481,.int 920 0,.int 357 0,.str (q z0) 921]⟩,⟨[]⟩⟩
noncomputable def b328 (P:Params):Obj:=⟨.type "function",none,fn (sAt 62 top) (q z83) 3 .none (.str (q z10) 883) (.ref 482),⟨[]⟩⟩
noncomputable def b329 (P:Params):Obj:=⟨.type "tuple",none,.seq ⟨[.str (q z29) 926,.str (q [97,116]) 927,.str (q z114) 928]⟩ 0,⟨[]⟩⟩
noncomputable def b330 (P:Params):Obj:=⟨.none,none,fn (sAt 63 top) (q z45) 0 .none .none .none,⟨[]⟩⟩
noncomputable def b331 (P:Params):Obj:=⟨.type "code",none,.fields ⟨[.str (q z45) 923,.str (q z45) 924,.str (q z0) 925,.int 370 0,.int 2 0,.int 0 0,.int 0 0,.int 3 0,.ref 484,.bool true,.int 181 0,.ref 485,.none,.ref 486,.ref 487,.ref 488,.int 929 0,.int 370 0,.str (q z0) 930]⟩,⟨[]⟩⟩
noncomputable def b332 (P:Params):Obj:=⟨.type "function",none,fn (sAt 63 top) (q z45) 3 .none (.str (q z10) 883) (.ref 489),⟨[]⟩⟩
noncomputable def tr4 (P:Params):BT:=insl (insc (tr3 P) [(3,(glob P ((.str (q z10) 883)) 66 67)),(12,b232 P)]) 325 [b6 P,b28 P,b233 P,b6 P,b234 P,b235 P,b236 P,b6 P,b7 P,b237 P,b6 P,b238 P,b239 P,b240 P,b6 P,b7 P,b241 P,b6 P,b242 P,b243 P,b244 P,b6 P,b7 P,b245 P,b6 P,b246 P,b247 P,b248 P,b249 P,b250 P,b251 P,b252 P,b253 P,b254 P,b255 P,b6 P,b7 P,b256 P,b6 P,b257 P,b258 P,b259 P,b6 P,b7 P,b260 P,b6 P,b261 P,b262 P,b263 P,b6 P,b7 P,b264 P,b6 P,b265 P,b266 P,b267 P,b6 P,b7 P,b268 P,b6 P,b269 P,b270 P,b271 P,b6 P,b7 P,b272 P,b273 P,b274 P,b6 P,b7 P,b275 P,b276 P,b277 P,b6 P,b7 P,b278 P,b279 P,b280 P,b6 P,b7 P,b281 P,b6 P,b282 P,b283 P,b284 P,b6 P,b7 P,b285 P,b6 P,b286 P,b287 P,b288 P,b6 P,b7 P,b289 P,b6 P,b290 P,b291 P,b292 P,b6 P,b7 P,b293 P,b6 P,b294 P,b295 P,b296 P,b6 P,b7 P,b297 P,b6 P,b298 P,b299 P,b300 P,b6 P,b7 P,b301 P,b6 P,b302 P,b303 P,b304 P,b6 P,b7 P,b305 P,b6 P,b306 P,b307 P,b308 P,b6 P,b7 P,b309 P,b6 P,b310 P,b311 P,b312 P,b6 P,b7 P,b313 P,b6 P,b314 P,b315 P,b316 P,b317 P,b318 P,b319 P,b320 P,b6 P,b7 P,b321 P,b6 P,b322 P,b323 P,b324 P,b6 P,b7 P,b325 P,b6 P,b326 P,b327 P,b328 P,b6 P,b7 P,b329 P,b6 P,b330 P,b331 P,b332 P]
noncomputable def b333 (P:Params):Obj:=⟨.none,none,.fields ⟨[.int 3 0,.int 0 0,.ref 21,.int 5 0,.int 0 0,.ref 28,.int 7 0,.int 0 0,.ref 35,.int 12 0,.int 0 0,.ref 42,.int 17 0,.int 0 0,.ref 62,.int 22 0,.int 0 0,.ref 81,.int 27 0,.int 0 0,.ref 100,.int 34 0,.int 0 0,.ref 120,.int 41 0,.int 0 0,.ref 141,.int 54 0,.int 0 0,.ref 176,.int 74 0,.int 0 0,.ref 183,.int 84 0,.int 0 0,.ref 190,.int 89 0,.int 0 0,.ref 197,.int 97 0,.int 0 0,.ref 204,.int 106 0,.int 0 0,.ref 211,.int 124 0,.int 0 0,.ref 218,.int 132 0,.int 0 0,.ref 268,.int 134 0,.int 0 0,.ref 275,.int 148 0,.int 0 0,.ref 282,.int 154 0,.int 0 0,.ref 289,.int 156 0,.int 0 0,.ref 294,.int 158 0,.int 0 0,.ref 301,.int 164 0,.int 0 0,.ref 308,.int 169 0,.int 0 0,.ref 315,.int 174 0,.int 0 0,.ref 322,.int 187 0,.int 0 0,.ref 330,.int 206 0,.int 0 0,.ref 365,.int 211 0,.int 0 0,.ref 372,.int 216 0,.int 0 0,.ref 379,.int 223 0,.int 0 0,.ref 386,.int 227 0,.int 0 0,.ref 391,.int 235 0,.int 0 0,.ref 396,.int 243 0,.int 0 0,.ref 401,.int 251 0,.int 0 0,.ref 408,.int 267 0,.int 0 0,.ref 415,.int 273 0,.int 0 0,.ref 422,.int 277 0,.int 0 0,.ref 429,.int 282 0,.int 0 0,.ref 436,.int 293 0,.int 0 0,.ref 443,.int 310 0,.int 0 0,.ref 450,.int 312 0,.int 0 0,.ref 457,.int 321 0,.int 0 0,.ref 464,.int 342 0,.int 0 0,.ref 475,.int 357 0,.int 0 0,.ref 482,.int 370 0,.int 0 0,.ref 489,.int 373 0,.int 0 0,.ref 496,.int 377 0,.int 0 0,.ref 501,.int 379 0,.int 0 0,.ref 508,.int 390 0,.int 0 0,.ref 515,.int 405 0,.int 0 0,.ref 522,.int 410 0,.int 0 0,.ref 529,.int 413 0,.int 0 0,.ref 536,.int 418 0,.int 0 0,.ref 543,.int 428 0,.int 0 0,.ref 548,.int 450 0,.int 0 0,.ref 564,.int 461 0,.int 0 0,.ref 569,.int 465 0,.int 0 0,.ref 576,.int 474 0,.int 0 0,.ref 583,.int 481 0,.int 0 0,.ref 590,.int 492 0,.int 0 0,.ref 597,.int 510 0,.int 0 0,.ref 604,.int 529 0,.int 0 0,.ref 611,.int 538 0,.int 0 0,.ref 618,.int 544 0,.int 0 0,.ref 625,.int 550 0,.int 0 0,.ref 632,.int 569 0,.int 0 0,.ref 639,.int 571 0,.int 0 0,.ref 646,.int 595 0,.int 0 0,.ref 651,.int 605 0,.int 0 0,.ref 658]⟩,⟨[]⟩⟩
noncomputable def b334 (P:Params):Obj:=⟨.type "tuple",none,.seq ⟨[.str (q z175) 935]⟩ 0,⟨[]⟩⟩
noncomputable def b335 (P:Params):Obj:=⟨.none,none,fn (sAt 64 top) (q z35) 0 .none .none .none,⟨[]⟩⟩
noncomputable def b336 (P:Params):Obj:=⟨.type "code",none,.fields ⟨[.str (q z35) 932,.str (q z35) 933,.str (q z0) 934,.int 373 0,.int 1 0,.int 0 0,.int 0 0,.int 3 0,.ref 491,.bool true,.int 181 0,.ref 492,.none,.ref 493,.ref 494,.ref 495,.int 936 0,.int 373 0,.str (q z0) 937]⟩,⟨[]⟩⟩
noncomputable def b337 (P:Params):Obj:=⟨.type "function",none,fn (sAt 64 top) (q z35) 3 .none (.str (q z10) 883) (.ref 496),⟨[]⟩⟩
noncomputable def b338 (P:Params):Obj:=⟨.none,none,fn (sAt 65 top) (q z51) 0 .none .none .none,⟨[]⟩⟩
noncomputable def b339 (P:Params):Obj:=⟨.type "code",none,.fields ⟨[.str (q z51) 939,.str (q z51) 940,.str (q z0) 941,.int 377 0,.int 1 0,.int 0 0,.int 0 0,.int 3 0,.ref 498,.bool true,.int 181 0,.ref 499,.none,.none,.none,.ref 500,.int 942 0,.int 377 0,.str (q z0) 943]⟩,⟨[]⟩⟩
noncomputable def b340 (P:Params):Obj:=⟨.type "function",none,fn (sAt 65 top) (q z51) 3 .none (.str (q z10) 883) (.ref 501),⟨[]⟩⟩
noncomputable def b341 (P:Params):Obj:=⟨.type "tuple",none,.seq ⟨[.str (q z29) 948,.str (q [97,116]) 949,.str (q [99,111,109,109,97]) 950,.str (q z167) 951,.str (q z114) 952]⟩ 0,⟨[]⟩⟩
noncomputable def b342 (P:Params):Obj:=⟨.none,none,fn (sAt 66 top) (q z59) 0 .none .none .none,⟨[]⟩⟩
noncomputable def b343 (P:Params):Obj:=⟨.type "code",none,.fields ⟨[.str (q z59) 945,.str (q z59) 946,.str (q z0) 947,.int 379 0,.int 2 0,.int 0 0,.int 0 0,.int 3 0,.ref 503,.bool true,.int 181 0,.ref 504,.none,.ref 505,.ref 506,.ref 507,.int 953 0,.int 379 0,.str (q z0) 954]⟩,⟨[]⟩⟩
noncomputable def b344 (P:Params):Obj:=⟨.type "function",none,fn (sAt 66 top) (q z59) 3 .none (.str (q z10) 883) (.ref 508),⟨[]⟩⟩
noncomputable def b345 (P:Params):Obj:=⟨.type "tuple",none,.seq ⟨[.str (q z15) 959,.str (q z81) 960,.str (q z126) 961,.str (q z167) 962,.str (q z151) 963,.str (q z173) 964]⟩ 0,⟨[]⟩⟩
noncomputable def b346 (P:Params):Obj:=⟨.none,none,fn (sAt 67 top) (q z88) 0 .none .none .none,⟨[]⟩⟩
noncomputable def b347 (P:Params):Obj:=⟨.type "code",none,.fields ⟨[.str (q z88) 956,.str (q z88) 957,.str (q z0) 958,.int 390 0,.int 1 0,.int 0 0,.int 0 0,.int 3 0,.ref 510,.bool true,.int 181 0,.ref 511,.none,.ref 512,.ref 513,.ref 514,.int 965 0,.int 390 0,.str (q z0) 966]⟩,⟨[]⟩⟩
noncomputable def b348 (P:Params):Obj:=⟨.type "function",none,fn (sAt 67 top) (q z88) 3 .none (.str (q z10) 883) (.ref 515),⟨[]⟩⟩
noncomputable def b349 (P:Params):Obj:=⟨.type "tuple",none,.seq ⟨[.str (q z15) 971,.str (q z114) 972,.str (q [97,116]) 973,.str (q [110,97,109,101]) 974]⟩ 0,⟨[]⟩⟩
noncomputable def b350 (P:Params):Obj:=⟨.none,none,fn (sAt 68 top) (q z107) 0 .none .none .none,⟨[]⟩⟩
noncomputable def b351 (P:Params):Obj:=⟨.type "code",none,.fields ⟨[.str (q z107) 968,.str (q z107) 969,.str (q z0) 970,.int 405 0,.int 3 0,.int 0 0,.int 0 0,.int 3 0,.ref 517,.bool true,.int 181 0,.ref 518,.none,.ref 519,.ref 520,.ref 521,.int 975 0,.int 405 0,.str (q z0) 976]⟩,⟨[]⟩⟩
noncomputable def b352 (P:Params):Obj:=⟨.type "function",none,fn (sAt 68 top) (q z107) 3 .none (.str (q z10) 883) (.ref 522),⟨[]⟩⟩
noncomputable def b353 (P:Params):Obj:=⟨.type "tuple",none,.seq ⟨[.str (q z15) 981,.str (q [110,117,109,98,101,114,115]) 982,.str (q [97,116]) 983]⟩ 0,⟨[]⟩⟩
noncomputable def b354 (P:Params):Obj:=⟨.none,none,fn (sAt 69 top) (q z131) 0 .none .none .none,⟨[]⟩⟩
noncomputable def b355 (P:Params):Obj:=⟨.type "code",none,.fields ⟨[.str (q z131) 978,.str (q z131) 979,.str (q z0) 980,.int 410 0,.int 3 0,.int 0 0,.int 0 0,.int 3 0,.ref 524,.bool true,.int 181 0,.ref 525,.none,.ref 526,.ref 527,.ref 528,.int 984 0,.int 410 0,.str (q z0) 985]⟩,⟨[]⟩⟩
noncomputable def b356 (P:Params):Obj:=⟨.type "function",none,fn (sAt 69 top) (q z131) 3 .none (.str (q z10) 883) (.ref 529),⟨[]⟩⟩
noncomputable def b357 (P:Params):Obj:=⟨.type "tuple",none,.seq ⟨[.str (q z15) 990,.str (q [97,116]) 991,.str (q [111,112,101,110,105,110,103]) 992,.str (q z114) 993]⟩ 0,⟨[]⟩⟩
noncomputable def b358 (P:Params):Obj:=⟨.none,none,fn (sAt 70 top) (q z28) 0 .none .none .none,⟨[]⟩⟩
noncomputable def b359 (P:Params):Obj:=⟨.type "code",none,.fields ⟨[.str (q z28) 987,.str (q z28) 988,.str (q z0) 989,.int 413 0,.int 2 0,.int 0 0,.int 0 0,.int 3 0,.ref 531,.bool true,.int 181 0,.ref 532,.none,.ref 533,.ref 534,.ref 535,.int 994 0,.int 413 0,.str (q z0) 995]⟩,⟨[]⟩⟩
noncomputable def b360 (P:Params):Obj:=⟨.type "function",none,fn (sAt 70 top) (q z28) 3 .none (.str (q z10) 883) (.ref 536),⟨[]⟩⟩
noncomputable def b361 (P:Params):Obj:=⟨.type "tuple",none,.seq ⟨[.str (q z15) 1000,.str (q [97,116]) 1001,.str (q z113) 1002,.str (q [104,97,115,95,98,114,97,99,101,115]) 1003,.str (q [105,115,95,98,97,99,107]) 1004,.str (q z17) 1005,.str (q z191) 1006]⟩ 0,⟨[]⟩⟩
noncomputable def b362 (P:Params):Obj:=⟨.none,none,fn (sAt 71 top) (q z18) 0 .none .none .none,⟨[]⟩⟩
noncomputable def b363 (P:Params):Obj:=⟨.type "code",none,.fields ⟨[.str (q z18) 997,.str (q z18) 998,.str (q z0) 999,.int 418 0,.int 2 0,.int 0 0,.int 0 0,.int 3 0,.ref 538,.bool true,.int 181 0,.ref 539,.none,.ref 540,.ref 541,.ref 542,.int 1007 0,.int 418 0,.str (q z0) 1008]⟩,⟨[]⟩⟩
noncomputable def b364 (P:Params):Obj:=⟨.type "function",none,fn (sAt 71 top) (q z18) 3 .none (.str (q z10) 883) (.ref 543),⟨[]⟩⟩
noncomputable def b365 (P:Params):Obj:=⟨.none,none,fn (sAt 72 top) (q z119) 0 .none .none .none,⟨[]⟩⟩
noncomputable def b366 (P:Params):Obj:=⟨.type "code",none,.fields ⟨[.str (q z119) 1010,.str (q z119) 1011,.str (q z0) 1012,.int 428 0,.int 1 0,.int 0 0,.int 0 0,.int 3 0,.ref 545,.bool true,.int 181 0,.ref 546,.none,.none,.none,.ref 547,.int 1013 0,.int 428 0,.str (q z0) 1014]⟩,⟨[]⟩⟩
noncomputable def b367 (P:Params):Obj:=⟨.type "function",none,fn (sAt 72 top) (q z119) 3 .none (.str (q z10) 883) (.ref 548),⟨[]⟩⟩
noncomputable def b368 (P:Params):Obj:=⟨.type "tuple",none,.seq ⟨[.str (q [40,63,61]) 1022,.bool false,.bool false]⟩ 0,⟨[]⟩⟩
noncomputable def b369 (P:Params):Obj:=⟨.type "tuple",none,.seq ⟨[.str (q [40,63,33]) 1023,.bool false,.bool true]⟩ 0,⟨[]⟩⟩
noncomputable def b370 (P:Params):Obj:=⟨.type "tuple",none,.seq ⟨[.str (q [40,63,60,61]) 1024,.bool true,.bool false]⟩ 0,⟨[]⟩⟩
noncomputable def b371 (P:Params):Obj:=⟨.type "tuple",none,.seq ⟨[.str (q [40,63,60,33]) 1025,.bool true,.bool true]⟩ 0,⟨[]⟩⟩
noncomputable def b372 (P:Params):Obj:=⟨.type "list",none,.seq ⟨[.ref 550,.ref 551,.ref 552,.ref 553]⟩ 0,⟨[]⟩⟩
noncomputable def b373 (P:Params):Obj:=⟨.type "tuple",none,.seq ⟨[.str (q [40,63,60]) 1027,.str (q [62]) 1028]⟩ 0,⟨[]⟩⟩
noncomputable def b374 (P:Params):Obj:=⟨.type "tuple",none,.seq ⟨[.str (q [40,63,80,60]) 1029,.str (q [62]) 1030]⟩ 0,⟨[]⟩⟩
noncomputable def b375 (P:Params):Obj:=⟨.type "tuple",none,.seq ⟨[.str (q [40,63,39]) 1031,.str (q [39]) 1032]⟩ 0,⟨[]⟩⟩
noncomputable def b376 (P:Params):Obj:=⟨.type "list",none,.seq ⟨[.ref 555,.ref 556,.ref 557]⟩ 0,⟨[]⟩⟩
noncomputable def b377 (P:Params):Obj:=⟨.type "tuple",none,.seq ⟨[.str (q z15) 1037,.str (q z63) 1038,.str (q z114) 1039]⟩ 0,⟨[]⟩⟩
noncomputable def b378 (P:Params):Obj:=⟨.none,none,fn (sAt 78 top) (q z60) 0 .none .none .none,⟨[]⟩⟩
noncomputable def b379 (P:Params):Obj:=⟨.type "code",none,.fields ⟨[.str (q z60) 1034,.str (q z60) 1035,.str (q z0) 1036,.int 450 0,.int 2 0,.int 0 0,.int 0 0,.int 3 0,.ref 559,.bool true,.int 181 0,.ref 560,.none,.ref 561,.ref 562,.ref 563,.int 1040 0,.int 450 0,.str (q z0) 1041]⟩,⟨[]⟩⟩
noncomputable def b380 (P:Params):Obj:=⟨.type "function",none,fn (sAt 78 top) (q z60) 3 .none (.str (q z8) 1016) (.ref 564),⟨[]⟩⟩
noncomputable def b381 (P:Params):Obj:=⟨.none,none,fn (sAt 79 top) (q z89) 0 .none .none .none,⟨[]⟩⟩
noncomputable def b382 (P:Params):Obj:=⟨.type "code",none,.fields ⟨[.str (q z89) 1043,.str (q z89) 1044,.str (q z0) 1045,.int 461 0,.int 2 0,.int 0 0,.int 0 0,.int 3 0,.ref 566,.bool true,.int 181 0,.ref 567,.none,.none,.none,.ref 568,.int 1046 0,.int 461 0,.str (q z0) 1047]⟩,⟨[]⟩⟩
noncomputable def b383 (P:Params):Obj:=⟨.type "function",none,fn (sAt 79 top) (q z89) 3 .none (.str (q z8) 1016) (.ref 569),⟨[]⟩⟩
noncomputable def b384 (P:Params):Obj:=⟨.type "tuple",none,.seq ⟨[.str (q z15) 1052,.str (q z63) 1053,.str (q z113) 1054,.str (q z126) 1055]⟩ 0,⟨[]⟩⟩
noncomputable def b385 (P:Params):Obj:=⟨.none,none,fn (sAt 80 top) (q z65) 0 .none .none .none,⟨[]⟩⟩
noncomputable def b386 (P:Params):Obj:=⟨.type "code",none,.fields ⟨[.str (q z65) 1049,.str (q z65) 1050,.str (q z0) 1051,.int 465 0,.int 2 0,.int 0 0,.int 0 0,.int 3 0,.ref 571,.bool true,.int 181 0,.ref 572,.none,.ref 573,.ref 574,.ref 575,.int 1056 0,.int 465 0,.str (q z0) 1057]⟩,⟨[]⟩⟩
noncomputable def b387 (P:Params):Obj:=⟨.type "function",none,fn (sAt 80 top) (q z65) 3 .none (.str (q z8) 1016) (.ref 576),⟨[]⟩⟩
noncomputable def b388 (P:Params):Obj:=⟨.type "tuple",none,.seq ⟨[.str (q z15) 1062,.str (q z63) 1063,.str (q [98,114,97,110,99,104,101,115]) 1064,.str (q z143) 1065]⟩ 0,⟨[]⟩⟩
noncomputable def b389 (P:Params):Obj:=⟨.none,none,fn (sAt 81 top) (q z22) 0 .none .none .none,⟨[]⟩⟩
noncomputable def b390 (P:Params):Obj:=⟨.type "code",none,.fields ⟨[.str (q z22) 1059,.str (q z22) 1060,.str (q z0) 1061,.int 474 0,.int 2 0,.int 0 0,.int 0 0,.int 3 0,.ref 578,.bool true,.int 181 0,.ref 579,.none,.ref 580,.ref 581,.ref 582,.int 1066 0,.int 474 0,.str (q z0) 1067]⟩,⟨[]⟩⟩
noncomputable def b391 (P:Params):Obj:=⟨.type "function",none,fn (sAt 81 top) (q z22) 3 .none (.str (q z8) 1016) (.ref 583),⟨[]⟩⟩
noncomputable def b392 (P:Params):Obj:=⟨.type "tuple",none,.seq ⟨[.str (q z15) 1072,.str (q z63) 1073,.str (q [112,97,114,116,115]) 1074,.str (q [99,104,97,110,103,101,100]) 1075]⟩ 0,⟨[]⟩⟩
noncomputable def b393 (P:Params):Obj:=⟨.none,none,fn (sAt 82 top) (q z77) 0 .none .none .none,⟨[]⟩⟩
noncomputable def b394 (P:Params):Obj:=⟨.type "code",none,.fields ⟨[.str (q z77) 1069,.str (q z77) 1070,.str (q z0) 1071,.int 481 0,.int 2 0,.int 0 0,.int 0 0,.int 3 0,.ref 585,.bool true,.int 181 0,.ref 586,.none,.ref 587,.ref 588,.ref 589,.int 1076 0,.int 481 0,.str (q z0) 1077]⟩,⟨[]⟩⟩
noncomputable def b395 (P:Params):Obj:=⟨.type "function",none,fn (sAt 82 top) (q z77) 3 .none (.str (q z8) 1016) (.ref 590),⟨[]⟩⟩
noncomputable def b396 (P:Params):Obj:=⟨.type "tuple",none,.seq ⟨[.str (q z15) 1082,.str (q z63) 1083,.str (q z81) 1084]⟩ 0,⟨[]⟩⟩
noncomputable def b397 (P:Params):Obj:=⟨.none,none,fn (sAt 83 top) (q z108) 0 .none .none .none,⟨[]⟩⟩
noncomputable def b398 (P:Params):Obj:=⟨.type "code",none,.fields ⟨[.str (q z108) 1079,.str (q z108) 1080,.str (q z0) 1081,.int 492 0,.int 2 0,.int 0 0,.int 0 0,.int 3 0,.ref 592,.bool true,.int 181 0,.ref 593,.none,.ref 594,.ref 595,.ref 596,.int 1085 0,.int 492 0,.str (q z0) 1086]⟩,⟨[]⟩⟩
noncomputable def b399 (P:Params):Obj:=⟨.type "function",none,fn (sAt 83 top) (q z108) 3 .none (.str (q z8) 1016) (.ref 597),⟨[]⟩⟩
noncomputable def b400 (P:Params):Obj:=⟨.type "tuple",none,.seq ⟨[.str (q z15) 1091,.str (q z63) 1092,.str (q z143) 1093,.str (q [99,111,117,110,116]) 1094,.str (q [109,111,100,101]) 1095,.str (q z113) 1096]⟩ 0,⟨[]⟩⟩
noncomputable def b401 (P:Params):Obj:=⟨.none,none,fn (sAt 84 top) (q z52) 0 .none .none .none,⟨[]⟩⟩
noncomputable def b402 (P:Params):Obj:=⟨.type "code",none,.fields ⟨[.str (q z52) 1088,.str (q z52) 1089,.str (q z0) 1090,.int 510 0,.int 3 0,.int 0 0,.int 0 0,.int 3 0,.ref 599,.bool true,.int 181 0,.ref 600,.none,.ref 601,.ref 602,.ref 603,.int 1097 0,.int 510 0,.str (q z0) 1098]⟩,⟨[]⟩⟩
noncomputable def b403 (P:Params):Obj:=⟨.type "function",none,fn (sAt 84 top) (q z52) 3 .none (.str (q z8) 1016) (.ref 604),⟨[]⟩⟩
noncomputable def b404 (P:Params):Obj:=⟨.type "tuple",none,.seq ⟨[.str (q z15) 1103,.str (q z63) 1104,.str (q z113) 1105,.str (q z143) 1106]⟩ 0,⟨[]⟩⟩
noncomputable def b405 (P:Params):Obj:=⟨.none,none,fn (sAt 85 top) (q z84) 0 .none .none .none,⟨[]⟩⟩
noncomputable def b406 (P:Params):Obj:=⟨.type "code",none,.fields ⟨[.str (q z84) 1100,.str (q z84) 1101,.str (q z0) 1102,.int 529 0,.int 3 0,.int 0 0,.int 0 0,.int 3 0,.ref 606,.bool true,.int 181 0,.ref 607,.none,.ref 608,.ref 609,.ref 610,.int 1107 0,.int 529 0,.str (q z0) 1108]⟩,⟨[]⟩⟩
noncomputable def b407 (P:Params):Obj:=⟨.type "function",none,fn (sAt 85 top) (q z84) 3 .none (.str (q z8) 1016) (.ref 611),⟨[]⟩⟩
noncomputable def b408 (P:Params):Obj:=⟨.type "tuple",none,.seq ⟨[.str (q z15) 1113,.str (q z63) 1114,.str (q z113) 1115,.str (q [110,97,109,101]) 1116,.str (q z191) 1117]⟩ 0,⟨[]⟩⟩
noncomputable def b409 (P:Params):Obj:=⟨.none,none,fn (sAt 86 top) (q z56) 0 .none .none .none,⟨[]⟩⟩
noncomputable def b410 (P:Params):Obj:=⟨.type "code",none,.fields ⟨[.str (q z56) 1110,.str (q z56) 1111,.str (q z0) 1112,.int 538 0,.int 4 0,.int 0 0,.int 0 0,.int 3 0,.ref 613,.bool true,.int 181 0,.ref 614,.none,.ref 615,.ref 616,.ref 617,.int 1118 0,.int 538 0,.str (q z0) 1119]⟩,⟨[]⟩⟩
noncomputable def b411 (P:Params):Obj:=⟨.type "function",none,fn (sAt 86 top) (q z56) 3 .none (.str (q z8) 1016) (.ref 618),⟨[]⟩⟩
noncomputable def b412 (P:Params):Obj:=⟨.type "tuple",none,.seq ⟨[.str (q z15) 1124,.str (q z63) 1125,.str (q z113) 1126,.str (q z170) 1127,.str (q z116) 1128,.str (q z143) 1129,.str (q z174) 1130]⟩ 0,⟨[]⟩⟩
noncomputable def b413 (P:Params):Obj:=⟨.none,none,fn (sAt 87 top) (q z102) 0 .none .none .none,⟨[]⟩⟩
noncomputable def b414 (P:Params):Obj:=⟨.type "code",none,.fields ⟨[.str (q z102) 1121,.str (q z102) 1122,.str (q z0) 1123,.int 544 0,.int 5 0,.int 0 0,.int 0 0,.int 3 0,.ref 620,.bool true,.int 181 0,.ref 621,.none,.ref 622,.ref 623,.ref 624,.int 1131 0,.int 544 0,.str (q z0) 1132]⟩,⟨[]⟩⟩
noncomputable def b415 (P:Params):Obj:=⟨.type "function",none,fn (sAt 87 top) (q z102) 3 .none (.str (q z8) 1016) (.ref 625),⟨[]⟩⟩
noncomputable def b416 (P:Params):Obj:=⟨.type "tuple",none,.seq ⟨[.str (q z15) 1137,.str (q z63) 1138,.str (q z113) 1139,.str (q [111,112,101,110,105,110,103]) 1140,.str (q z170) 1141,.str (q z116) 1142,.str (q z114) 1143,.str (q [99,104,97,110,103,101,100]) 1144]⟩ 0,⟨[]⟩⟩
noncomputable def b417 (P:Params):Obj:=⟨.none,none,fn (sAt 88 top) (q z85) 0 .none .none .none,⟨[]⟩⟩
noncomputable def b418 (P:Params):Obj:=⟨.type "code",none,.fields ⟨[.str (q z85) 1134,.str (q z85) 1135,.str (q z0) 1136,.int 550 0,.int 2 0,.int 0 0,.int 0 0,.int 3 0,.ref 627,.bool true,.int 181 0,.ref 628,.none,.ref 629,.ref 630,.ref 631,.int 1145 0,.int 550 0,.str (q z0) 1146]⟩,⟨[]⟩⟩
noncomputable def b419 (P:Params):Obj:=⟨.type "function",none,fn (sAt 88 top) (q z85) 3 .none (.str (q z8) 1016) (.ref 632),⟨[]⟩⟩
noncomputable def b420 (P:Params):Obj:=⟨.type "tuple",none,.seq ⟨[.str (q z15) 1151]⟩ 0,⟨[]⟩⟩
noncomputable def b421 (P:Params):Obj:=⟨.none,none,fn (sAt 89 top) (q z46) 0 .none .none .none,⟨[]⟩⟩
noncomputable def b422 (P:Params):Obj:=⟨.type "code",none,.fields ⟨[.str (q z46) 1148,.str (q z46) 1149,.str (q z0) 1150,.int 569 0,.int 1 0,.int 0 0,.int 0 0,.int 3 0,.ref 634,.bool true,.int 181 0,.ref 635,.none,.ref 636,.ref 637,.ref 638,.int 1152 0,.int 569 0,.str (q z0) 1153]⟩,⟨[]⟩⟩
noncomputable def b423 (P:Params):Obj:=⟨.type "function",none,fn (sAt 89 top) (q z46) 3 .none (.str (q z8) 1016) (.ref 639),⟨[]⟩⟩
noncomputable def b424 (P:Params):Obj:=⟨.type "tuple",none,.seq ⟨[.str (q z15) 1158,.str (q z63) 1159,.str (q [97,116]) 1160,.str (q z70) 1161,.str (q z183) 1162,.str (q z113) 1163,.str (q z191) 1164]⟩ 0,⟨[]⟩⟩
noncomputable def b425 (P:Params):Obj:=⟨.none,none,fn (sAt 90 top) (q z71) 0 .none .none .none,⟨[]⟩⟩
noncomputable def b426 (P:Params):Obj:=⟨.type "code",none,.fields ⟨[.str (q z71) 1155,.str (q z71) 1156,.str (q z0) 1157,.int 571 0,.int 2 0,.int 0 0,.int 0 0,.int 3 0,.ref 641,.bool true,.int 181 0,.ref 642,.none,.ref 643,.ref 644,.ref 645,.int 1165 0,.int 571 0,.str (q z0) 1166]⟩,⟨[]⟩⟩
noncomputable def b427 (P:Params):Obj:=⟨.type "function",none,fn (sAt 90 top) (q z71) 3 .none (.str (q z8) 1016) (.ref 646),⟨[]⟩⟩
noncomputable def b428 (P:Params):Obj:=⟨.none,none,fn (sAt 91 top) (q z36) 0 .none .none .none,⟨[]⟩⟩
noncomputable def b429 (P:Params):Obj:=⟨.type "code",none,.fields ⟨[.str (q z36) 1168,.str (q z36) 1169,.str (q z0) 1170,.int 595 0,.int 2 0,.int 0 0,.int 0 0,.int 3 0,.ref 648,.bool true,.int 181 0,.ref 649,.none,.none,.none,.ref 650,.int 1171 0,.int 595 0,.str (q z0) 1172]⟩,⟨[]⟩⟩
noncomputable def b430 (P:Params):Obj:=⟨.type "function",none,fn (sAt 91 top) (q z36) 3 .none (.str (q z8) 1016) (.ref 651),⟨[]⟩⟩
noncomputable def b431 (P:Params):Obj:=⟨.type "tuple",none,.seq ⟨[.str (q z29) 1179,.str (q z63) 1180,.str (q z143) 1181,.str (q z153) 1182,.str (q z172) 1183]⟩ 0,⟨[]⟩⟩
noncomputable def b432 (P:Params):Obj:=⟨.none,none,fn (sAt 93 top) (q z23) 0 .none .none .none,⟨[]⟩⟩
noncomputable def b433 (P:Params):Obj:=⟨.type "code",none,.fields ⟨[.str (q z23) 1176,.str (q z23) 1177,.str (q z0) 1178,.int 605 0,.int 2 0,.int 0 0,.int 0 0,.int 3 0,.ref 653,.bool true,.int 181 0,.ref 654,.none,.ref 655,.ref 656,.ref 657,.int 1184 0,.int 605 0,.str (q z0) 1185]⟩,⟨[]⟩⟩
noncomputable def b434 (P:Params):Obj:=⟨.type "function",none,fn (sAt 93 top) (q z23) 3 .none (.str (q [112,101,114,108,99,111,114,101,46,112,97,116,116,101,114,110,115]) 1174) (.ref 658),⟨[]⟩⟩
noncomputable def tr5 (P:Params):BT:=insl (insc (tr4 P) [(3,(glob P ((.str (q z13) 1187)) 94 95)),(12,b333 P)]) 491 [b6 P,b7 P,b334 P,b6 P,b335 P,b336 P,b337 P,b6 P,b7 P,b338 P,b339 P,b340 P,b6 P,b7 P,b341 P,b6 P,b342 P,b343 P,b344 P,b6 P,b7 P,b345 P,b6 P,b346 P,b347 P,b348 P,b6 P,b7 P,b349 P,b6 P,b350 P,b351 P,b352 P,b6 P,b7 P,b353 P,b6 P,b354 P,b355 P,b356 P,b6 P,b7 P,b357 P,b6 P,b358 P,b359 P,b360 P,b6 P,b7 P,b361 P,b6 P,b362 P,b363 P,b364 P,b6 P,b7 P,b365 P,b366 P,b367 P,b368 P,b369 P,b370 P,b371 P,b372 P,b373 P,b374 P,b375 P,b376 P,b6 P,b7 P,b377 P,b6 P,b378 P,b379 P,b380 P,b6 P,b7 P,b381 P,b382 P,b383 P,b6 P,b7 P,b384 P,b6 P,b385 P,b386 P,b387 P,b6 P,b7 P,b388 P,b6 P,b389 P,b390 P,b391 P,b6 P,b7 P,b392 P,b6 P,b393 P,b394 P,b395 P,b6 P,b7 P,b396 P,b6 P,b397 P,b398 P,b399 P,b6 P,b7 P,b400 P,b6 P,b401 P,b402 P,b403 P,b6 P,b7 P,b404 P,b6 P,b405 P,b406 P,b407 P,b6 P,b7 P,b408 P,b6 P,b409 P,b410 P,b411 P,b6 P,b7 P,b412 P,b6 P,b413 P,b414 P,b415 P,b6 P,b7 P,b416 P,b6 P,b417 P,b418 P,b419 P,b6 P,b7 P,b420 P,b6 P,b421 P,b422 P,b423 P,b6 P,b7 P,b424 P,b6 P,b425 P,b426 P,b427 P,b6 P,b7 P,b428 P,b429 P,b430 P,b6 P,b7 P,b431 P,b6 P,b432 P,b433 P,b434 P]
noncomputable def b435 (P:Params):Obj:=⟨.none,none,.fields ⟨[.int 3 0,.int 0 0,.ref 21,.int 5 0,.int 0 0,.ref 28,.int 7 0,.int 0 0,.ref 35,.int 12 0,.int 0 0,.ref 42,.int 17 0,.int 0 0,.ref 62,.int 22 0,.int 0 0,.ref 81,.int 27 0,.int 0 0,.ref 100,.int 34 0,.int 0 0,.ref 120,.int 41 0,.int 0 0,.ref 141,.int 54 0,.int 0 0,.ref 176,.int 74 0,.int 0 0,.ref 183,.int 84 0,.int 0 0,.ref 190,.int 89 0,.int 0 0,.ref 197,.int 97 0,.int 0 0,.ref 204,.int 106 0,.int 0 0,.ref 211,.int 124 0,.int 0 0,.ref 218,.int 132 0,.int 0 0,.ref 268,.int 134 0,.int 0 0,.ref 275,.int 148 0,.int 0 0,.ref 282,.int 154 0,.int 0 0,.ref 289,.int 156 0,.int 0 0,.ref 294,.int 158 0,.int 0 0,.ref 301,.int 164 0,.int 0 0,.ref 308,.int 169 0,.int 0 0,.ref 315,.int 174 0,.int 0 0,.ref 322,.int 187 0,.int 0 0,.ref 330,.int 206 0,.int 0 0,.ref 365,.int 211 0,.int 0 0,.ref 372,.int 216 0,.int 0 0,.ref 379,.int 223 0,.int 0 0,.ref 386,.int 227 0,.int 0 0,.ref 391,.int 235 0,.int 0 0,.ref 396,.int 243 0,.int 0 0,.ref 401,.int 251 0,.int 0 0,.ref 408,.int 267 0,.int 0 0,.ref 415,.int 273 0,.int 0 0,.ref 422,.int 277 0,.int 0 0,.ref 429,.int 282 0,.int 0 0,.ref 436,.int 293 0,.int 0 0,.ref 443,.int 310 0,.int 0 0,.ref 450,.int 312 0,.int 0 0,.ref 457,.int 321 0,.int 0 0,.ref 464,.int 342 0,.int 0 0,.ref 475,.int 357 0,.int 0 0,.ref 482,.int 370 0,.int 0 0,.ref 489,.int 373 0,.int 0 0,.ref 496,.int 377 0,.int 0 0,.ref 501,.int 379 0,.int 0 0,.ref 508,.int 390 0,.int 0 0,.ref 515,.int 405 0,.int 0 0,.ref 522,.int 410 0,.int 0 0,.ref 529,.int 413 0,.int 0 0,.ref 536,.int 418 0,.int 0 0,.ref 543,.int 428 0,.int 0 0,.ref 548,.int 450 0,.int 0 0,.ref 564,.int 461 0,.int 0 0,.ref 569,.int 465 0,.int 0 0,.ref 576,.int 474 0,.int 0 0,.ref 583,.int 481 0,.int 0 0,.ref 590,.int 492 0,.int 0 0,.ref 597,.int 510 0,.int 0 0,.ref 604,.int 529 0,.int 0 0,.ref 611,.int 538 0,.int 0 0,.ref 618,.int 544 0,.int 0 0,.ref 625,.int 550 0,.int 0 0,.ref 632,.int 569 0,.int 0 0,.ref 639,.int 571 0,.int 0 0,.ref 646,.int 595 0,.int 0 0,.ref 651,.int 605 0,.int 0 0,.ref 658,.int 609 0,.int 0 0,.ref 665,.int 618 0,.int 0 0,.ref 686,.int 646 0,.int 0 0,.ref 708,.int 653 0,.int 0 0,.ref 727,.int 663 0,.int 0 0,.ref 733,.int 665 0,.int 0 0,.ref 740,.int 674 0,.int 0 0,.ref 747]⟩,⟨[]⟩⟩
noncomputable def b436 (P:Params):Obj:=⟨.type "dict",none,.dict ⟨[e P z9 1196 (.str (q z13) 1187),e P z14 1198 (.str (q z142) 1197),e P z4 1200 (.int 609 1199),e P z6 1213 (.ref 673),e P z2 1220 (.ref 674)]⟩ 5,⟨[]⟩⟩
noncomputable def b437 (P:Params):Obj:=⟨.none,none,.fields ⟨[.int 611 0,.int 4 0,.ref 672]⟩,⟨[]⟩⟩
noncomputable def b438 (P:Params):Obj:=⟨.type "code",none,.fields ⟨[.str (q z142) 1191,.str (q z142) 1192,.str (q z0) 1193,.int 609 0,.int 0 0,.int 0 0,.int 0 0,.int 0 0,.ref 663,.bool false,.int 181 0,.ref 664,.none,.none,.none,.none,.int 1194 0,.int 609 0,.str (q z0) 1195]⟩,⟨[]⟩⟩
noncomputable def b439 (P:Params):Obj:=⟨.type "frame",none,.plain,⟨[(some (.ref 665)),(some (.ref 3)),(some (.ref 662)),none,(some (.str (q z13) 1187)),none,(some (.ref 0))]⟩⟩
noncomputable def b440 (P:Params):Obj:=⟨.type "tuple",none,.seq ⟨[.str (q z54) 1204,.str (q [112,97,100]) 1205,.str (q [97,114,103,115]) 1206,.str (q [119,97,110,116]) 1207,.str (q z200) 1208,.str (q z181) 1209,.str (q [108,105,110,101]) 1210]⟩ 0,⟨[]⟩⟩
noncomputable def b441 (P:Params):Obj:=⟨.none,none,fn (sAt 0 (cBody (sAt 95 top))) (q z154) 0 .none .none .none,⟨[]⟩⟩
noncomputable def b442 (P:Params):Obj:=⟨.type "code",none,.fields ⟨[.str (q z6) 1201,.str (q z154) 1202,.str (q z0) 1203,.int 611 0,.int 7 0,.int 0 0,.int 0 0,.int 3 0,.ref 667,.bool true,.int 181 0,.ref 668,.none,.ref 669,.ref 670,.ref 671,.int 1211 0,.int 611 0,.str (q z0) 1212]⟩,⟨[]⟩⟩
noncomputable def b443 (P:Params):Obj:=⟨.type "function",none,fn (sAt 0 (cBody (sAt 95 top))) (q z154) 3 .none (.str (q z13) 1187) (.ref 672),⟨[]⟩⟩
noncomputable def b444 (P:Params):Obj:=⟨.type "tuple",none,.seq ⟨[.str (q [97,114,103,115]) 1214,.str (q z200) 1215,.str (q [108,105,110,101]) 1216,.str (q z181) 1217,.str (q [112,97,100]) 1218,.str (q [119,97,110,116]) 1219]⟩ 0,⟨[]⟩⟩
noncomputable def b445 (P:Params):Obj:=⟨.type "dict",none,.dict ⟨[e P z9 1196 (.str (q z13) 1187),e P z4 1200 (.int 609 1199),e P z6 1213 (.ref 673),e P z2 1220 (.ref 674),e P z19 1222 (.ref 677),e P z11 1224 (.ref 678),e P z25 1225 .none]⟩ 4,⟨[]⟩⟩
noncomputable def b446 (P:Params):Obj:=⟨.type "type",none,.cls { name:=(q z142),bases:=[.type "object"],mro:=[.ref 676,.type "object"],ns:=675,qualname:=(q z142),hasDict:=true,slotNames:=[],subclasses:=[.ref 719],abstract:=false,collection:=none,hasDel:=false },⟨[none,none,(some (.str (q z142) 1189)),(some (.str (q z142) 1197)),(some (.builtin "object.__new__")),(some (.bool true))]⟩⟩
noncomputable def b447 (P:Params):Obj:=⟨.type "getset_descriptor",none,.fields ⟨[.str (q z19) 1221,.ref 676,.builtin "function.__dict__",.builtin "function.__dict__#set"]⟩,⟨[]⟩⟩
noncomputable def b448 (P:Params):Obj:=⟨.type "getset_descriptor",none,.fields ⟨[.str (q z11) 1223,.ref 676,.builtin "ExceptionGroup.__weakref__",.none]⟩,⟨[]⟩⟩
noncomputable def b449 (P:Params):Obj:=⟨.type "super",none,.fields ⟨[.ref 676,.ref 676,.ref 676]⟩,⟨[]⟩⟩
noncomputable def b450 (P:Params):Obj:=⟨.type "builtin_function_or_method",none,.fields ⟨[.builtin "object.__init_subclass__",.ref 676]⟩,⟨[]⟩⟩
noncomputable def b451 (P:Params):Obj:=⟨.type "dict",none,.dict ⟨[e P z9 1235 (.str (q z13) 1187),e P z14 1237 (.str (q z169) 1236),e P z4 1239 (.int 618 1238),e P z6 1250 (.ref 694),e P z2 1270 (.ref 695)]⟩ 5,⟨[]⟩⟩
noncomputable def b452 (P:Params):Obj:=⟨.none,none,.fields ⟨[.int 620 0,.int 4 0,.ref 693]⟩,⟨[]⟩⟩
noncomputable def b453 (P:Params):Obj:=⟨.type "code",none,.fields ⟨[.str (q z169) 1230,.str (q z169) 1231,.str (q z0) 1232,.int 618 0,.int 0 0,.int 0 0,.int 0 0,.int 0 0,.ref 684,.bool false,.int 181 0,.ref 685,.none,.none,.none,.none,.int 1233 0,.int 618 0,.str (q z0) 1234]⟩,⟨[]⟩⟩
noncomputable def b454 (P:Params):Obj:=⟨.type "frame",none,.plain,⟨[(some (.ref 686)),(some (.ref 3)),(some (.ref 683)),none,(some (.str (q z13) 1187)),none,(some (.ref 0))]⟩⟩
noncomputable def b455 (P:Params):Obj:=⟨.type "tuple",none,.seq ⟨[.str (q z54) 1243,.str (q [104,101,97,112]) 1244,.str (q [99,111,117,110,116,101,114]) 1245,.str (q [115,116,97,115,104]) 1246,.str (q z184) 1247]⟩ 0,⟨[]⟩⟩
noncomputable def b456 (P:Params):Obj:=⟨.none,none,fn (sAt 0 (cBody (sAt 96 top))) (q z164) 0 .none .none .none,⟨[]⟩⟩
noncomputable def b457 (P:Params):Obj:=⟨.type "code",none,.fields ⟨[.str (q z6) 1240,.str (q z164) 1241,.str (q z0) 1242,.int 620 0,.int 5 0,.int 0 0,.int 0 0,.int 3 0,.ref 688,.bool true,.int 181 0,.ref 689,.none,.ref 690,.ref 691,.ref 692,.int 1248 0,.int 620 0,.str (q z0) 1249]⟩,⟨[]⟩⟩
noncomputable def b458 (P:Params):Obj:=⟨.type "function",none,fn (sAt 0 (cBody (sAt 96 top))) (q z164) 3 .none (.str (q z13) 1187) (.ref 693),⟨[]⟩⟩
noncomputable def b459 (P:Params):Obj:=⟨.type "tuple",none,.seq ⟨[.str (q [99,97,108,108,95,99,111,100,101]) 1251,.str (q [99,111,109,112,105,108,101,95,116,101,120,116]) 1252,.str (q [99,111,117,110,116,101,114]) 1253,.str (q [101,114,114]) 1254,.str (q [102,114,97,109,101,115]) 1255,.str (q [102,117,110,99,115]) 1256,.str (q [104,101,97,112]) 1257,.str (q z184) 1258,.str (q [108,118,115]) 1259,.str (q [109,97,116,99,104]) 1260,.str (q [109,101,116,104,111,100,115]) 1261,.str (q [110,111,100,101,115]) 1262,.str (q [111,112,101,114,97,116,111,114,115]) 1263,.str (q [111,117,116]) 1264,.str (q [112,97,116,116,101,114,110,115]) 1265,.str (q [115,97,118,101,115]) 1266,.str (q [115,116,97,115,104]) 1267,.str (q [115,116,97,116,101,109,101,110,116,115]) 1268,.str (q z156) 1269]⟩ 0,⟨[]⟩⟩
noncomputable def b460 (P:Params):Obj:=⟨.type "dict",none,.dict ⟨[e P z9 1235 (.str (q z13) 1187),e P z4 1239 (.int 618 1238),e P z6 1250 (.ref 694),e P z2 1270 (.ref 695),e P z19 1272 (.ref 698),e P z11 1274 (.ref 699),e P z25 1275 .none]⟩ 4,⟨[]⟩⟩
noncomputable def b461 (P:Params):Obj:=⟨.type "type",none,.cls { name:=(q z169),bases:=[.type "object"],mro:=[.ref 697,.type "object"],ns:=696,qualname:=(q z169),hasDict:=true,slotNames:=[],subclasses:=[],abstract:=false,collection:=none,hasDel:=false },⟨[none,none,(some (.str (q z169) 1228)),(some (.str (q z169) 1236)),(some (.builtin "object.__new__")),(some (.bool true))]⟩⟩
noncomputable def b462 (P:Params):Obj:=⟨.type "getset_descriptor",none,.fields ⟨[.str (q z19) 1271,.ref 697,.builtin "function.__dict__",.builtin "function.__dict__#set"]⟩,⟨[]⟩⟩
noncomputable def b463 (P:Params):Obj:=⟨.type "getset_descriptor",none,.fields ⟨[.str (q z11) 1273,.ref 697,.builtin "ExceptionGroup.__weakref__",.none]⟩,⟨[]⟩⟩
noncomputable def b464 (P:Params):Obj:=⟨.type "super",none,.fields ⟨[.ref 697,.ref 697,.ref 697]⟩,⟨[]⟩⟩
noncomputable def b465 (P:Params):Obj:=⟨.type "builtin_function_or_method",none,.fields ⟨[.builtin "object.__init_subclass__",.ref 697]⟩,⟨[]⟩⟩
noncomputable def b466 (P:Params):Obj:=⟨.type "tuple",none,.seq ⟨[.int 0 1288,.int 0 1289]⟩ 0,⟨[]⟩⟩
noncomputable def b467 (P:Params):Obj:=⟨.type "tuple",none,.seq ⟨[.ref 676]⟩ 0,⟨[]⟩⟩
noncomputable def b468 (P:Params):Obj:=⟨.type "dict",none,.dict ⟨[e P z9 1298 (.str (q z53) 1278),e P z14 1300 (.str (q z37) 1299),e P z4 1302 (.int 646 1301),e P z6 1315 (.ref 716),e P z2 1319 (.ref 717)]⟩ 5,⟨[]⟩⟩
noncomputable def b469 (P:Params):Obj:=⟨.none,none,.fields ⟨[.int 648 0,.int 4 0,.ref 715]⟩,⟨[]⟩⟩
noncomputable def b470 (P:Params):Obj:=⟨.type "code",none,.fields ⟨[.str (q z37) 1293,.str (q z37) 1294,.str (q z0) 1295,.int 646 0,.int 0 0,.int 0 0,.int 0 0,.int 0 0,.ref 706,.bool false,.int 181 0,.ref 707,.none,.none,.none,.none,.int 1296 0,.int 646 0,.str (q z0) 1297]⟩,⟨[]⟩⟩
noncomputable def b471 (P:Params):Obj:=⟨.type "frame",none,.plain,⟨[(some (.ref 708)),(some (.ref 3)),(some (.ref 705)),none,(some (.str (q z53) 1278)),none,(some (.ref 0))]⟩⟩
noncomputable def b472 (P:Params):Obj:=⟨.type "tuple",none,.seq ⟨[.str (q z54) 1306,.str (q [112,97,100]) 1307,.str (q [97,114,103,115]) 1308,.str (q [119,97,110,116]) 1309,.str (q z200) 1310,.str (q z181) 1311,.str (q [108,105,110,101]) 1312]⟩ 0,⟨[]⟩⟩
noncomputable def b473 (P:Params):Obj:=⟨.none,none,fn (sAt 0 (cBody (sAt 103 top))) (q z125) 0 .none .none .none,⟨[]⟩⟩
noncomputable def b474 (P:Params):Obj:=⟨.type "code",none,.fields ⟨[.str (q z6) 1303,.str (q z125) 1304,.str (q z0) 1305,.int 648 0,.int 7 0,.int 0 0,.int 0 0,.int 3 0,.ref 710,.bool true,.int 181 0,.ref 711,.none,.ref 712,.ref 713,.ref 714,.int 1313 0,.int 648 0,.str (q z0) 1314]⟩,⟨[]⟩⟩
noncomputable def b475 (P:Params):Obj:=⟨.type "function",none,fn (sAt 0 (cBody (sAt 103 top))) (q z125) 3 .none (.str (q z53) 1278) (.ref 715),⟨[]⟩⟩
noncomputable def b476 (P:Params):Obj:=⟨.type "tuple",none,.seq ⟨[.str (q [107,110,111,119,110]) 1316,.str (q [112,105,108,101,100]) 1317,.str (q [119,101,105,103,104,116,115]) 1318]⟩ 0,⟨[]⟩⟩
noncomputable def b477 (P:Params):Obj:=⟨.type "dict",none,.dict ⟨[e P z9 1298 (.str (q z53) 1278),e P z4 1302 (.int 646 1301),e P z6 1315 (.ref 716),e P z2 1319 (.ref 717),e P z25 1320 .none]⟩ 2,⟨[]⟩⟩
noncomputable def b478 (P:Params):Obj:=⟨.type "type",none,.cls { name:=(q z37),bases:=[.ref 676],mro:=[.ref 719,.ref 676,.type "object"],ns:=718,qualname:=(q z37),hasDict:=true,slotNames:=[],subclasses:=[],abstract:=false,collection:=none,hasDel:=false },⟨[(some (.ref 703)),none,(some (.str (q z37) 1291)),(some (.str (q z37) 1299)),(some (.builtin "object.__new__")),(some (.bool true))]⟩⟩
noncomputable def b479 (P:Params):Obj:=⟨.type "super",none,.fields ⟨[.ref 719,.ref 719,.ref 719]⟩,⟨[]⟩⟩
noncomputable def b480 (P:Params):Obj:=⟨.type "builtin_function_or_method",none,.fields ⟨[.builtin "object.__init_subclass__",.ref 719]⟩,⟨[]⟩⟩
noncomputable def b481 (P:Params):Obj:=⟨.type "tuple",none,.seq ⟨[.str (q z17) 1326,.str (q [112,97,116,116,101,114,110]) 1327,.str (q [102,114,97,109,101]) 1328,.str (q [99,111,115,116]) 1329]⟩ 0,⟨[]⟩⟩
noncomputable def b482 (P:Params):Obj:=⟨.none,none,fn (sAt 104 top) (q z39) 0 .none .none .none,⟨[]⟩⟩
noncomputable def b483 (P:Params):Obj:=⟨.type "code",none,.fields ⟨[.str (q z39) 1323,.str (q z39) 1324,.str (q z0) 1325,.int 653 0,.int 2 0,.int 0 0,.int 0 0,.int 3 0,.ref 722,.bool true,.int 181 0,.ref 723,.none,.ref 724,.ref 725,.ref 726,.int 1330 0,.int 653 0,.str (q z0) 1331]⟩,⟨[]⟩⟩
noncomputable def b484 (P:Params):Obj:=⟨.type "function",none,fn (sAt 104 top) (q z39) 3 .none (.str (q z53) 1278) (.ref 727),⟨[]⟩⟩
noncomputable def b485 (P:Params):Obj:=⟨.type "tuple",none,.seq ⟨[.str (q []) 1335,.str (q z175) 1336]⟩ 0,⟨[]⟩⟩
noncomputable def b486 (P:Params):Obj:=⟨.none,none,fn (sAt 108 top) (q z103) 0 .none .none .none,⟨[]⟩⟩
noncomputable def b487 (P:Params):Obj:=⟨.type "code",none,.fields ⟨[.str (q z103) 1340,.str (q z103) 1341,.str (q z0) 1342,.int 663 0,.int 1 0,.int 0 0,.int 0 0,.int 3 0,.ref 730,.bool true,.int 181 0,.ref 731,.none,.none,.none,.ref 732,.int 1343 0,.int 663 0,.str (q z0) 1344]⟩,⟨[]⟩⟩
noncomputable def b488 (P:Params):Obj:=⟨.type "function",none,fn (sAt 108 top) (q z103) 3 .none (.str (q z118) 1333) (.ref 733),⟨[]⟩⟩
noncomputable def b489 (P:Params):Obj:=⟨.type "tuple",none,.seq ⟨[.str (q z17) 1349,.str (q [112,97,116,116,101,114,110]) 1350,.str (q z63) 1351,.str (q [107,101,121]) 1352,.str (q [102,97,117,108,116]) 1353]⟩ 0,⟨[]⟩⟩
noncomputable def b490 (P:Params):Obj:=⟨.none,none,fn (sAt 109 top) (q z66) 0 .none .none .none,⟨[]⟩⟩
noncomputable def b491 (P:Params):Obj:=⟨.type "code",none,.fields ⟨[.str (q z66) 1346,.str (q z66) 1347,.str (q z0) 1348,.int 665 0,.int 3 0,.int 0 0,.int 0 0,.int 3 0,.ref 735,.bool true,.int 181 0,.ref 736,.none,.ref 737,.ref 738,.ref 739,.int 1354 0,.int 665 0,.str (q z0) 1355]⟩,⟨[]⟩⟩
noncomputable def b492 (P:Params):Obj:=⟨.type "function",none,fn (sAt 109 top) (q z66) 3 .none (.str (q z118) 1333) (.ref 740),⟨[]⟩⟩
noncomputable def b493 (P:Params):Obj:=⟨.type "tuple",none,.seq ⟨[.str (q z17) 1360,.str (q [107,101,121]) 1361,.str (q z146) 1362,.str (q [115,105,122,101]) 1363,.str (q [107,101,112,116]) 1364]⟩ 0,⟨[]⟩⟩
noncomputable def b494 (P:Params):Obj:=⟨.none,none,fn (sAt 110 top) (q z47) 0 .none .none .none,⟨[]⟩⟩
noncomputable def b495 (P:Params):Obj:=⟨.type "code",none,.fields ⟨[.str (q z47) 1357,.str (q z47) 1358,.str (q z0) 1359,.int 674 0,.int 3 0,.int 0 0,.int 0 0,.int 3 0,.ref 742,.bool true,.int 181 0,.ref 743,.none,.ref 744,.ref 745,.ref 746,.int 1365 0,.int 674 0,.str (q z0) 1366]⟩,⟨[]⟩⟩
noncomputable def b496 (P:Params):Obj:=⟨.type "function",none,fn (sAt 110 top) (q z47) 3 .none (.str (q z118) 1333) (.ref 747),⟨[]⟩⟩
noncomputable def tr6 (P:Params):BT:=insl (insc (tr5 P) [(3,(glob P ((.str (q z38) 1368)) 108 109)),(12,b435 P)]) 660 [b6 P,b28 P,b436 P,b6 P,b437 P,b438 P,b439 P,b6 P,b7 P,b440 P,b6 P,b441 P,b442 P,b443 P,b444 P,b445 P,b446 P,b447 P,b448 P,b449 P,b450 P,b6 P,b28 P,b451 P,b6 P,b452 P,b453 P,b454 P,b6 P,b7 P,b455 P,b6 P,b456 P,b457 P,b458 P,b459 P,b460 P,b461 P,b462 P,b463 P,b464 P,b465 P,b466 P,b467 P,b28 P,b468 P,b6 P,b469 P,b470 P,b471 P,b6 P,b7 P,b472 P,b6 P,b473 P,b474 P,b475 P,b476 P,b477 P,b478 P,b479 P,b480 P,b6 P,b7 P,b481 P,b6 P,b482 P,b483 P,b484 P,b485 P,b6 P,b7 P,b486 P,b487 P,b488 P,b6 P,b7 P,b489 P,b6 P,b490 P,b491 P,b492 P,b6 P,b7 P,b493 P,b6 P,b494 P,b495 P,b496 P]
noncomputable def b497 (P:Params):Obj:=⟨.none,none,.fields ⟨[.int 3 0,.int 0 0,.ref 21,.int 5 0,.int 0 0,.ref 28,.int 7 0,.int 0 0,.ref 35,.int 12 0,.int 0 0,.ref 42,.int 17 0,.int 0 0,.ref 62,.int 22 0,.int 0 0,.ref 81,.int 27 0,.int 0 0,.ref 100,.int 34 0,.int 0 0,.ref 120,.int 41 0,.int 0 0,.ref 141,.int 54 0,.int 0 0,.ref 176,.int 74 0,.int 0 0,.ref 183,.int 84 0,.int 0 0,.ref 190,.int 89 0,.int 0 0,.ref 197,.int 97 0,.int 0 0,.ref 204,.int 106 0,.int 0 0,.ref 211,.int 124 0,.int 0 0,.ref 218,.int 132 0,.int 0 0,.ref 268,.int 134 0,.int 0 0,.ref 275,.int 148 0,.int 0 0,.ref 282,.int 154 0,.int 0 0,.ref 289,.int 156 0,.int 0 0,.ref 294,.int 158 0,.int 0 0,.ref 301,.int 164 0,.int 0 0,.ref 308,.int 169 0,.int 0 0,.ref 315,.int 174 0,.int 0 0,.ref 322,.int 187 0,.int 0 0,.ref 330,.int 206 0,.int 0 0,.ref 365,.int 211 0,.int 0 0,.ref 372,.int 216 0,.int 0 0,.ref 379,.int 223 0,.int 0 0,.ref 386,.int 227 0,.int 0 0,.ref 391,.int 235 0,.int 0 0,.ref 396,.int 243 0,.int 0 0,.ref 401,.int 251 0,.int 0 0,.ref 408,.int 267 0,.int 0 0,.ref 415,.int 273 0,.int 0 0,.ref 422,.int 277 0,.int 0 0,.ref 429,.int 282 0,.int 0 0,.ref 436,.int 293 0,.int 0 0,.ref 443,.int 310 0,.int 0 0,.ref 450,.int 312 0,.int 0 0,.ref 457,.int 321 0,.int 0 0,.ref 464,.int 342 0,.int 0 0,.ref 475,.int 357 0,.int 0 0,.ref 482,.int 370 0,.int 0 0,.ref 489,.int 373 0,.int 0 0,.ref 496,.int 377 0,.int 0 0,.ref 501,.int 379 0,.int 0 0,.ref 508,.int 390 0,.int 0 0,.ref 515,.int 405 0,.int 0 0,.ref 522,.int 410 0,.int 0 0,.ref 529,.int 413 0,.int 0 0,.ref 536,.int 418 0,.int 0 0,.ref 543,.int 428 0,.int 0 0,.ref 548,.int 450 0,.int 0 0,.ref 564,.int 461 0,.int 0 0,.ref 569,.int 465 0,.int 0 0,.ref 576,.int 474 0,.int 0 0,.ref 583,.int 481 0,.int 0 0,.ref 590,.int 492 0,.int 0 0,.ref 597,.int 510 0,.int 0 0,.ref 604,.int 529 0,.int 0 0,.ref 611,.int 538 0,.int 0 0,.ref 618,.int 544 0,.int 0 0,.ref 625,.int 550 0,.int 0 0,.ref 632,.int 569 0,.int 0 0,.ref 639,.int 571 0,.int 0 0,.ref 646,.int 595 0,.int 0 0,.ref 651,.int 605 0,.int 0 0,.ref 658,.int 609 0,.int 0 0,.ref 665,.int 618 0,.int 0 0,.ref 686,.int 646 0,.int 0 0,.ref 708,.int 653 0,.int 0 0,.ref 727,.int 663 0,.int 0 0,.ref 733,.int 665 0,.int 0 0,.ref 740,.int 674 0,.int 0 0,.ref 747,.int 684 0,.int 0 0,.ref 754,.int 695 0,.int 0 0,.ref 776,.int 709 0,.int 0 0,.ref 797,.int 712 0,.int 0 0,.ref 804,.int 715 0,.int 0 0,.ref 811,.int 720 0,.int 0 0,.ref 818,.int 725 0,.int 0 0,.ref 825,.int 739 0,.int 0 0,.ref 832,.int 757 0,.int 0 0,.ref 839,.int 759 0,.int 0 0,.ref 846,.int 772 0,.int 0 0,.ref 853,.int 775 0,.int 0 0,.ref 860,.int 779 0,.int 0 0,.ref 867,.int 782 0,.int 0 0,.ref 874,.int 786 0,.int 0 0,.ref 881,.int 790 0,.int 0 0,.ref 888,.int 804 0,.int 0 0,.ref 895]⟩,⟨[]⟩⟩
noncomputable def b498 (P:Params):Obj:=⟨.type "dict",none,.dict ⟨[e P z9 1377 (.str (q z38) 1368),e P z14 1379 (.str (q z98) 1378),e P z4 1381 (.int 684 1380),e P z6 1404 (.ref 763),e P z2 1410 (.ref 764)]⟩ 5,⟨[]⟩⟩
noncomputable def b499 (P:Params):Obj:=⟨.none,none,.fields ⟨[.int 686 0,.int 4 0,.ref 762]⟩,⟨[]⟩⟩
noncomputable def b500 (P:Params):Obj:=⟨.type "code",none,.fields ⟨[.str (q z98) 1372,.str (q z98) 1373,.str (q z0) 1374,.int 684 0,.int 0 0,.int 0 0,.int 0 0,.int 0 0,.ref 752,.bool false,.int 181 0,.ref 753,.none,.none,.none,.none,.int 1375 0,.int 684 0,.str (q z0) 1376]⟩,⟨[]⟩⟩
noncomputable def b501 (P:Params):Obj:=⟨.type "frame",none,.plain,⟨[(some (.ref 754)),(some (.ref 3)),(some (.ref 751)),none,(some (.str (q z38) 1368)),none,(some (.ref 0))]⟩⟩
noncomputable def b502 (P:Params):Obj:=⟨.type "tuple",none,.seq ⟨[.int 64 1382,.int 50 1383,.int 1000000 1386,.int 100000 1389,.int 10000 1392]⟩ 0,⟨[]⟩⟩
noncomputable def b503 (P:Params):Obj:=⟨.type "tuple",none,.seq ⟨[.str (q z54) 1396,.str (q z174) 1397,.str (q z204) 1398,.str (q z156) 1399,.str (q z29) 1400,.str (q z157) 1401]⟩ 0,⟨[]⟩⟩
noncomputable def b504 (P:Params):Obj:=⟨.none,none,fn (sAt 0 (cBody (sAt 112 top))) (q z147) 0 .none .none .none,⟨[]⟩⟩
noncomputable def b505 (P:Params):Obj:=⟨.type "code",none,.fields ⟨[.str (q z6) 1393,.str (q z147) 1394,.str (q z0) 1395,.int 686 0,.int 6 0,.int 0 0,.int 0 0,.int 3 0,.ref 757,.bool true,.int 181 0,.ref 758,.none,.ref 759,.ref 760,.ref 761,.int 1402 0,.int 686 0,.str (q z0) 1403]⟩,⟨[]⟩⟩
noncomputable def b506 (P:Params):Obj:=⟨.type "function",none,fn (sAt 0 (cBody (sAt 112 top))) (q z147) 3 (.ref 756) (.str (q z38) 1368) (.ref 762),⟨[]⟩⟩
noncomputable def b507 (P:Params):Obj:=⟨.type "tuple",none,.seq ⟨[.str (q z204) 1405,.str (q z157) 1406,.str (q z156) 1407,.str (q z29) 1408,.str (q z174) 1409]⟩ 0,⟨[]⟩⟩
noncomputable def b508 (P:Params):Obj:=⟨.type "dict",none,.dict ⟨[e P z9 1377 (.str (q z38) 1368),e P z4 1381 (.int 684 1380),e P z6 1404 (.ref 763),e P z2 1410 (.ref 764),e P z19 1412 (.ref 767),e P z11 1414 (.ref 768),e P z25 1415 .none]⟩ 4,⟨[]⟩⟩
noncomputable def b509 (P:Params):Obj:=⟨.type "type",none,.cls { name:=(q z98),bases:=[.type "object"],mro:=[.ref 766,.type "object"],ns:=765,qualname:=(q z98),hasDict:=true,slotNames:=[],subclasses:=[],abstract:=false,collection:=none,hasDel:=false },⟨[none,none,(some (.str (q z98) 1370)),(some (.str (q z98) 1378)),(some (.builtin "object.__new__")),(some (.bool true))]⟩⟩
noncomputable def b510 (P:Params):Obj:=⟨.type "getset_descriptor",none,.fields ⟨[.str (q z19) 1411,.ref 766,.builtin "function.__dict__",.builtin "function.__dict__#set"]⟩,⟨[]⟩⟩
noncomputable def b511 (P:Params):Obj:=⟨.type "getset_descriptor",none,.fields ⟨[.str (q z11) 1413,.ref 766,.builtin "ExceptionGroup.__weakref__",.none]⟩,⟨[]⟩⟩
noncomputable def b512 (P:Params):Obj:=⟨.type "super",none,.fields ⟨[.ref 766,.ref 766,.ref 766]⟩,⟨[]⟩⟩
noncomputable def b513 (P:Params):Obj:=⟨.type "builtin_function_or_method",none,.fields ⟨[.builtin "object.__init_subclass__",.ref 766]⟩,⟨[]⟩⟩
noncomputable def b514 (P:Params):Obj:=⟨.type "dict",none,.dict ⟨[e P z9 1431 (.str (q z1) 1418),e P z14 1433 (.str (q z61) 1432),e P z4 1435 (.int 695 1434),e P z6 1447 (.ref 784),e P z2 1459 (.ref 785)]⟩ 5,⟨[]⟩⟩
noncomputable def b515 (P:Params):Obj:=⟨.none,none,.fields ⟨[.int 697 0,.int 4 0,.ref 783]⟩,⟨[]⟩⟩
noncomputable def b516 (P:Params):Obj:=⟨.type "code",none,.fields ⟨[.str (q z61) 1426,.str (q z61) 1427,.str (q z0) 1428,.int 695 0,.int 0 0,.int 0 0,.int 0 0,.int 0 0,.ref 774,.bool false,.int 181 0,.ref 775,.none,.none,.none,.none,.int 1429 0,.int 695 0,.str (q z0) 1430]⟩,⟨[]⟩⟩
noncomputable def b517 (P:Params):Obj:=⟨.type "frame",none,.plain,⟨[(some (.ref 776)),(some (.ref 3)),(some (.ref 773)),none,(some (.str (q z1) 1418)),none,(some (.ref 0))]⟩⟩
noncomputable def b518 (P:Params):Obj:=⟨.type "tuple",none,.seq ⟨[.str (q z54) 1439,.str (q z146) 1440,.str (q z29) 1441,.str (q z180) 1442,.str (q z171) 1443,.str (q z151) 1444]⟩ 0,⟨[]⟩⟩
noncomputable def b519 (P:Params):Obj:=⟨.none,none,fn (sAt 0 (cBody (sAt 116 top))) (q z138) 0 .none .none .none,⟨[]⟩⟩
noncomputable def b520 (P:Params):Obj:=⟨.type "code",none,.fields ⟨[.str (q z6) 1436,.str (q z138) 1437,.str (q z0) 1438,.int 697 0,.int 6 0,.int 0 0,.int 0 0,.int 3 0,.ref 778,.bool true,.int 181 0,.ref 779,.none,.ref 780,.ref 781,.ref 782,.int 1445 0,.int 697 0,.str (q z0) 1446]⟩,⟨[]⟩⟩
noncomputable def b521 (P:Params):Obj:=⟨.type "function",none,fn (sAt 0 (cBody (sAt 116 top))) (q z138) 3 .none (.str (q z1) 1418) (.ref 783),⟨[]⟩⟩
noncomputable def b522 (P:Params):Obj:=⟨.type "tuple",none,.seq ⟨[.str (q [97,116]) 1448,.str (q z180) 1449,.str (q z153) 1450,.str (q z171) 1451,.str (q z151) 1452,.str (q [112,105,108,101]) 1453,.str (q z146) 1454,.str (q z155) 1455,.str (q z62) 1456,.str (q z156) 1457,.str (q z29) 1458]⟩ 0,⟨[]⟩⟩
noncomputable def b523 (P:Params):Obj:=⟨.type "dict",none,.dict ⟨[e P z9 1431 (.str (q z1) 1418),e P z4 1435 (.int 695 1434),e P z6 1447 (.ref 784),e P z2 1459 (.ref 785),e P z19 1461 (.ref 788),e P z11 1463 (.ref 789),e P z25 1464 .none]⟩ 4,⟨[]⟩⟩
noncomputable def b524 (P:Params):Obj:=⟨.type "type",none,.cls { name:=(q z61),bases:=[.type "object"],mro:=[.ref 787,.type "object"],ns:=786,qualname:=(q z61),hasDict:=true,slotNames:=[],subclasses:=[],abstract:=false,collection:=none,hasDel:=false },⟨[none,none,(some (.str (q z61) 1424)),(some (.str (q z61) 1432)),(some (.builtin "object.__new__")),(some (.bool true))]⟩⟩
noncomputable def b525 (P:Params):Obj:=⟨.type "getset_descriptor",none,.fields ⟨[.str (q z19) 1460,.ref 787,.builtin "function.__dict__",.builtin "function.__dict__#set"]⟩,⟨[]⟩⟩
noncomputable def b526 (P:Params):Obj:=⟨.type "getset_descriptor",none,.fields ⟨[.str (q z11) 1462,.ref 787,.builtin "ExceptionGroup.__weakref__",.none]⟩,⟨[]⟩⟩
noncomputable def b527 (P:Params):Obj:=⟨.type "super",none,.fields ⟨[.ref 787,.ref 787,.ref 787]⟩,⟨[]⟩⟩
noncomputable def b528 (P:Params):Obj:=⟨.type "builtin_function_or_method",none,.fields ⟨[.builtin "object.__init_subclass__",.ref 787]⟩,⟨[]⟩⟩
noncomputable def b529 (P:Params):Obj:=⟨.type "tuple",none,.seq ⟨[.str (q z17) 1470,.str (q [107]) 1471,.str (q [118,97,108,117,101]) 1472]⟩ 0,⟨[]⟩⟩
noncomputable def b530 (P:Params):Obj:=⟨.none,none,fn (sAt 117 top) (q z40) 0 .none .none .none,⟨[]⟩⟩
noncomputable def b531 (P:Params):Obj:=⟨.type "code",none,.fields ⟨[.str (q z40) 1467,.str (q z40) 1468,.str (q z0) 1469,.int 709 0,.int 3 0,.int 0 0,.int 0 0,.int 3 0,.ref 792,.bool true,.int 181 0,.ref 793,.none,.ref 794,.ref 795,.ref 796,.int 1473 0,.int 709 0,.str (q z0) 1474]⟩,⟨[]⟩⟩
noncomputable def b532 (P:Params):Obj:=⟨.type "function",none,fn (sAt 117 top) (q z40) 3 .none (.str (q z1) 1418) (.ref 797),⟨[]⟩⟩
noncomputable def b533 (P:Params):Obj:=⟨.type "tuple",none,.seq ⟨[.str (q z17) 1479]⟩ 0,⟨[]⟩⟩
noncomputable def b534 (P:Params):Obj:=⟨.none,none,fn (sAt 118 top) (q z166) 0 .none .none .none,⟨[]⟩⟩
noncomputable def b535 (P:Params):Obj:=⟨.type "code",none,.fields ⟨[.str (q z166) 1476,.str (q z166) 1477,.str (q z0) 1478,.int 712 0,.int 1 0,.int 0 0,.int 0 0,.int 3 0,.ref 799,.bool true,.int 181 0,.ref 800,.none,.ref 801,.ref 802,.ref 803,.int 1480 0,.int 712 0,.str (q z0) 1481]⟩,⟨[]⟩⟩
noncomputable def b536 (P:Params):Obj:=⟨.type "function",none,fn (sAt 118 top) (q z166) 3 .none (.str (q z1) 1418) (.ref 804),⟨[]⟩⟩
noncomputable def b537 (P:Params):Obj:=⟨.type "tuple",none,.seq ⟨[.str (q z17) 1486,.str (q z62) 1487]⟩ 0,⟨[]⟩⟩
noncomputable def b538 (P:Params):Obj:=⟨.none,none,fn (sAt 119 top) (q z120) 0 .none .none .none,⟨[]⟩⟩
noncomputable def b539 (P:Params):Obj:=⟨.type "code",none,.fields ⟨[.str (q z120) 1483,.str (q z120) 1484,.str (q z0) 1485,.int 715 0,.int 2 0,.int 0 0,.int 0 0,.int 3 0,.ref 806,.bool true,.int 181 0,.ref 807,.none,.ref 808,.ref 809,.ref 810,.int 1488 0,.int 715 0,.str (q z0) 1489]⟩,⟨[]⟩⟩
noncomputable def b540 (P:Params):Obj:=⟨.type "function",none,fn (sAt 119 top) (q z120) 3 .none (.str (q z1) 1418) (.ref 811),⟨[]⟩⟩
noncomputable def b541 (P:Params):Obj:=⟨.type "tuple",none,.seq ⟨[.str (q z17) 1494,.str (q z197) 1495,.str (q [97,116]) 1496,.str (q z151) 1497,.str (q [115,116,111,112]) 1498]⟩ 0,⟨[]⟩⟩
noncomputable def b542 (P:Params):Obj:=⟨.none,none,fn (sAt 120 top) (q z144) 0 .none .none .none,⟨[]⟩⟩
noncomputable def b543 (P:Params):Obj:=⟨.type "code",none,.fields ⟨[.str (q z144) 1491,.str (q z144) 1492,.str (q z0) 1493,.int 720 0,.int 4 0,.int 0 0,.int 0 0,.int 3 0,.ref 813,.bool true,.int 181 0,.ref 814,.none,.ref 815,.ref 816,.ref 817,.int 1499 0,.int 720 0,.str (q z0) 1500]⟩,⟨[]⟩⟩
noncomputable def b544 (P:Params):Obj:=⟨.type "function",none,fn (sAt 120 top) (q z144) 3 .none (.str (q z1) 1418) (.ref 818),⟨[]⟩⟩
noncomputable def b545 (P:Params):Obj:=⟨.type "tuple",none,.seq ⟨[.str (q z17) 1505,.str (q z62) 1506,.str (q z150) 1507,.str (q z197) 1508,.str (q z167) 1509,.str (q z151) 1510,.str (q z176) 1511,.str (q [108,111,119]) 1512,.str (q [101,110,100]) 1513]⟩ 0,⟨[]⟩⟩
noncomputable def b546 (P:Params):Obj:=⟨.none,none,fn (sAt 121 top) (q z145) 0 .none .none .none,⟨[]⟩⟩
noncomputable def b547 (P:Params):Obj:=⟨.type "code",none,.fields ⟨[.str (q z145) 1502,.str (q z145) 1503,.str (q z0) 1504,.int 725 0,.int 2 0,.int 0 0,.int 0 0,.int 3 0,.ref 820,.bool true,.int 181 0,.ref 821,.none,.ref 822,.ref 823,.ref 824,.int 1514 0,.int 725 0,.str (q z0) 1515]⟩,⟨[]⟩⟩
noncomputable def b548 (P:Params):Obj:=⟨.type "function",none,fn (sAt 121 top) (q z145) 3 .none (.str (q z1) 1418) (.ref 825),⟨[]⟩⟩
noncomputable def b549 (P:Params):Obj:=⟨.type "tuple",none,.seq ⟨[.str (q z17) 1520,.str (q z150) 1521,.str (q [97,116]) 1522,.str (q z29) 1523,.str (q [105,115,95,119,111,114,100,95,97,104,101,97,100]) 1524,.str (q [105,115,95,101,100,103,101]) 1525]⟩ 0,⟨[]⟩⟩
noncomputable def b550 (P:Params):Obj:=⟨.none,none,fn (sAt 122 top) (q z69) 0 .none .none .none,⟨[]⟩⟩
noncomputable def b551 (P:Params):Obj:=⟨.type "code",none,.fields ⟨[.str (q z69) 1517,.str (q z69) 1518,.str (q z0) 1519,.int 739 0,.int 2 0,.int 0 0,.int 0 0,.int 3 0,.ref 827,.bool true,.int 181 0,.ref 828,.none,.ref 829,.ref 830,.ref 831,.int 1526 0,.int 739 0,.str (q z0) 1527]⟩,⟨[]⟩⟩
noncomputable def b552 (P:Params):Obj:=⟨.type "function",none,fn (sAt 122 top) (q z69) 3 .none (.str (q z1) 1418) (.ref 832),⟨[]⟩⟩
noncomputable def b553 (P:Params):Obj:=⟨.type "tuple",none,.seq ⟨[.str (q z17) 1532,.str (q z62) 1533]⟩ 0,⟨[]⟩⟩
noncomputable def b554 (P:Params):Obj:=⟨.none,none,fn (sAt 123 top) (q z161) 0 .none .none .none,⟨[]⟩⟩
noncomputable def b555 (P:Params):Obj:=⟨.type "code",none,.fields ⟨[.str (q z161) 1529,.str (q z161) 1530,.str (q z0) 1531,.int 757 0,.int 2 0,.int 0 0,.int 0 0,.int 3 0,.ref 834,.bool true,.int 181 0,.ref 835,.none,.ref 836,.ref 837,.ref 838,.int 1534 0,.int 757 0,.str (q z0) 1535]⟩,⟨[]⟩⟩
noncomputable def b556 (P:Params):Obj:=⟨.type "function",none,fn (sAt 123 top) (q z161) 3 .none (.str (q z1) 1418) (.ref 839),⟨[]⟩⟩
noncomputable def b557 (P:Params):Obj:=⟨.type "tuple",none,.seq ⟨[.str (q z17) 1540,.str (q z62) 1541,.str (q [110]) 1542,.str (q z180) 1543,.str (q [101,110,100]) 1544,.str (q [107]) 1545]⟩ 0,⟨[]⟩⟩
noncomputable def b558 (P:Params):Obj:=⟨.none,none,fn (sAt 124 top) (q z139) 0 .none .none .none,⟨[]⟩⟩
noncomputable def b559 (P:Params):Obj:=⟨.type "code",none,.fields ⟨[.str (q z139) 1537,.str (q z139) 1538,.str (q z0) 1539,.int 759 0,.int 2 0,.int 0 0,.int 0 0,.int 3 0,.ref 841,.bool true,.int 181 0,.ref 842,.none,.ref 843,.ref 844,.ref 845,.int 1546 0,.int 759 0,.str (q z0) 1547]⟩,⟨[]⟩⟩
noncomputable def b560 (P:Params):Obj:=⟨.type "function",none,fn (sAt 124 top) (q z139) 3 .none (.str (q z1) 1418) (.ref 846),⟨[]⟩⟩
noncomputable def b561 (P:Params):Obj:=⟨.type "tuple",none,.seq ⟨[.str (q z17) 1552,.str (q z62) 1553]⟩ 0,⟨[]⟩⟩
noncomputable def b562 (P:Params):Obj:=⟨.none,none,fn (sAt 125 top) (q z121) 0 .none .none .none,⟨[]⟩⟩
noncomputable def b563 (P:Params):Obj:=⟨.type "code",none,.fields ⟨[.str (q z121) 1549,.str (q z121) 1550,.str (q z0) 1551,.int 772 0,.int 2 0,.int 0 0,.int 0 0,.int 3 0,.ref 848,.bool true,.int 181 0,.ref 849,.none,.ref 850,.ref 851,.ref 852,.int 1554 0,.int 772 0,.str (q z0) 1555]⟩,⟨[]⟩⟩
noncomputable def b564 (P:Params):Obj:=⟨.type "function",none,fn (sAt 125 top) (q z121) 3 .none (.str (q z1) 1418) (.ref 853),⟨[]⟩⟩
noncomputable def b565 (P:Params):Obj:=⟨.type "tuple",none,.seq ⟨[.str (q z17) 1560,.str (q z62) 1561]⟩ 0,⟨[]⟩⟩
noncomputable def b566 (P:Params):Obj:=⟨.none,none,fn (sAt 126 top) (q z104) 0 .none .none .none,⟨[]⟩⟩
noncomputable def b567 (P:Params):Obj:=⟨.type "code",none,.fields ⟨[.str (q z104) 1557,.str (q z104) 1558,.str (q z0) 1559,.int 775 0,.int 2 0,.int 0 0,.int 0 0,.int 3 0,.ref 855,.bool true,.int 181 0,.ref 856,.none,.ref 857,.ref 858,.ref 859,.int 1562 0,.int 775 0,.str (q z0) 1563]⟩,⟨[]⟩⟩
noncomputable def b568 (P:Params):Obj:=⟨.type "function",none,fn (sAt 126 top) (q z104) 3 .none (.str (q z1) 1418) (.ref 860),⟨[]⟩⟩
noncomputable def b569 (P:Params):Obj:=⟨.type "tuple",none,.seq ⟨[.str (q z17) 1568,.str (q z62) 1569]⟩ 0,⟨[]⟩⟩
noncomputable def b570 (P:Params):Obj:=⟨.none,none,fn (sAt 127 top) (q z122) 0 .none .none .none,⟨[]⟩⟩
noncomputable def b571 (P:Params):Obj:=⟨.type "code",none,.fields ⟨[.str (q z122) 1565,.str (q z122) 1566,.str (q z0) 1567,.int 779 0,.int 2 0,.int 0 0,.int 0 0,.int 3 0,.ref 862,.bool true,.int 181 0,.ref 863,.none,.ref 864,.ref 865,.ref 866,.int 1570 0,.int 779 0,.str (q z0) 1571]⟩,⟨[]⟩⟩
noncomputable def b572 (P:Params):Obj:=⟨.type "function",none,fn (sAt 127 top) (q z122) 3 .none (.str (q z1) 1418) (.ref 867),⟨[]⟩⟩
noncomputable def b573 (P:Params):Obj:=⟨.type "tuple",none,.seq ⟨[.str (q z17) 1576,.str (q z62) 1577]⟩ 0,⟨[]⟩⟩
noncomputable def b574 (P:Params):Obj:=⟨.none,none,fn (sAt 128 top) (q z99) 0 .none .none .none,⟨[]⟩⟩
noncomputable def b575 (P:Params):Obj:=⟨.type "code",none,.fields ⟨[.str (q z99) 1573,.str (q z99) 1574,.str (q z0) 1575,.int 782 0,.int 2 0,.int 0 0,.int 0 0,.int 3 0,.ref 869,.bool true,.int 181 0,.ref 870,.none,.ref 871,.ref 872,.ref 873,.int 1578 0,.int 782 0,.str (q z0) 1579]⟩,⟨[]⟩⟩
noncomputable def b576 (P:Params):Obj:=⟨.type "function",none,fn (sAt 128 top) (q z99) 3 .none (.str (q z1) 1418) (.ref 874),⟨[]⟩⟩
noncomputable def b577 (P:Params):Obj:=⟨.type "tuple",none,.seq ⟨[.str (q z17) 1584,.str (q z62) 1585]⟩ 0,⟨[]⟩⟩
noncomputable def b578 (P:Params):Obj:=⟨.none,none,fn (sAt 129 top) (q z123) 0 .none .none .none,⟨[]⟩⟩
noncomputable def b579 (P:Params):Obj:=⟨.type "code",none,.fields ⟨[.str (q z123) 1581,.str (q z123) 1582,.str (q z0) 1583,.int 786 0,.int 2 0,.int 0 0,.int 0 0,.int 3 0,.ref 876,.bool true,.int 181 0,.ref 877,.none,.ref 878,.ref 879,.ref 880,.int 1586 0,.int 786 0,.str (q z0) 1587]⟩,⟨[]⟩⟩
noncomputable def b580 (P:Params):Obj:=⟨.type "function",none,fn (sAt 129 top) (q z123) 3 .none (.str (q z1) 1418) (.ref 881),⟨[]⟩⟩
noncomputable def b581 (P:Params):Obj:=⟨.type "tuple",none,.seq ⟨[.str (q z17) 1592,.str (q z62) 1593,.str (q z150) 1594,.str (q [99,111,117,110,116]) 1595,.str (q [112,108,97,99,101]) 1596,.str (q z167) 1597,.str (q z151) 1598,.str (q z176) 1599,.str (q [97,103,97,105,110]) 1600,.str (q z173) 1601,.str (q [114,111,117,110,100,115]) 1602]⟩ 0,⟨[]⟩⟩
noncomputable def b582 (P:Params):Obj:=⟨.none,none,fn (sAt 130 top) (q z124) 0 .none .none .none,⟨[]⟩⟩
noncomputable def b583 (P:Params):Obj:=⟨.type "code",none,.fields ⟨[.str (q z124) 1589,.str (q z124) 1590,.str (q z0) 1591,.int 790 0,.int 2 0,.int 0 0,.int 0 0,.int 3 0,.ref 883,.bool true,.int 181 0,.ref 884,.none,.ref 885,.ref 886,.ref 887,.int 1603 0,.int 790 0,.str (q z0) 1604]⟩,⟨[]⟩⟩
noncomputable def b584 (P:Params):Obj:=⟨.type "function",none,fn (sAt 130 top) (q z124) 3 .none (.str (q z1) 1418) (.ref 888),⟨[]⟩⟩
noncomputable def b585 (P:Params):Obj:=⟨.type "tuple",none,.seq ⟨[.str (q z17) 1609,.str (q z62) 1610]⟩ 0,⟨[]⟩⟩
noncomputable def b586 (P:Params):Obj:=⟨.none,none,fn (sAt 131 top) (q z109) 0 .none .none .none,⟨[]⟩⟩
noncomputable def b587 (P:Params):Obj:=⟨.type "code",none,.fields ⟨[.str (q z109) 1606,.str (q z109) 1607,.str (q z0) 1608,.int 804 0,.int 2 0,.int 0 0,.int 0 0,.int 3 0,.ref 890,.bool true,.int 181 0,.ref 891,.none,.ref 892,.ref 893,.ref 894,.int 1611 0,.int 804 0,.str (q z0) 1612]⟩,⟨[]⟩⟩
noncomputable def b588 (P:Params):Obj:=⟨.type "function",none,fn (sAt 131 top) (q z109) 3 .none (.str (q z1) 1418) (.ref 895),⟨[]⟩⟩
noncomputable def tr7 (P:Params):BT:=insl (insc (tr6 P) [(3,(glob P ((.str (q z1) 1418)) 127 128)),(12,b497 P)]) 749 [b6 P,b28 P,b498 P,b6 P,b499 P,b500 P,b501 P,b502 P,b6 P,b7 P,b503 P,b6 P,b504 P,b505 P,b506 P,b507 P,b508 P,b509 P,b510 P,b511 P,b512 P,b513 P,b6 P,b28 P,b514 P,b6 P,b515 P,b516 P,b517 P,b6 P,b7 P,b518 P,b6 P,b519 P,b520 P,b521 P,b522 P,b523 P,b524 P,b525 P,b526 P,b527 P,b528 P,b6 P,b7 P,b529 P,b6 P,b530 P,b531 P,b532 P,b6 P,b7 P,b533 P,b6 P,b534 P,b535 P,b536 P,b6 P,b7 P,b537 P,b6 P,b538 P,b539 P,b540 P,b6 P,b7 P,b541 P,b6 P,b542 P,b543 P,b544 P,b6 P,b7 P,b545 P,b6 P,b546 P,b547 P,b548 P,b6 P,b7 P,b549 P,b6 P,b550 P,b551 P,b552 P,b6 P,b7 P,b553 P,b6 P,b554 P,b555 P,b556 P,b6 P,b7 P,b557 P,b6 P,b558 P,b559 P,b560 P,b6 P,b7 P,b561 P,b6 P,b562 P,b563 P,b564 P,b6 P,b7 P,b565 P,b6 P,b566 P,b567 P,b568 P,b6 P,b7 P,b569 P,b6 P,b570 P,b571 P,b572 P,b6 P,b7 P,b573 P,b6 P,b574 P,b575 P,b576 P,b6 P,b7 P,b577 P,b6 P,b578 P,b579 P,b580 P,b6 P,b7 P,b581 P,b6 P,b582 P,b583 P,b584 P,b6 P,b7 P,b585 P,b6 P,b586 P,b587 P,b588 P]
noncomputable def b589 (P:Params):Obj:=⟨.none,none,.fields ⟨[.int 3 0,.int 0 0,.ref 21,.int 5 0,.int 0 0,.ref 28,.int 7 0,.int 0 0,.ref 35,.int 12 0,.int 0 0,.ref 42,.int 17 0,.int 0 0,.ref 62,.int 22 0,.int 0 0,.ref 81,.int 27 0,.int 0 0,.ref 100,.int 34 0,.int 0 0,.ref 120,.int 41 0,.int 0 0,.ref 141,.int 54 0,.int 0 0,.ref 176,.int 74 0,.int 0 0,.ref 183,.int 84 0,.int 0 0,.ref 190,.int 89 0,.int 0 0,.ref 197,.int 97 0,.int 0 0,.ref 204,.int 106 0,.int 0 0,.ref 211,.int 124 0,.int 0 0,.ref 218,.int 132 0,.int 0 0,.ref 268,.int 134 0,.int 0 0,.ref 275,.int 148 0,.int 0 0,.ref 282,.int 154 0,.int 0 0,.ref 289,.int 156 0,.int 0 0,.ref 294,.int 158 0,.int 0 0,.ref 301,.int 164 0,.int 0 0,.ref 308,.int 169 0,.int 0 0,.ref 315,.int 174 0,.int 0 0,.ref 322,.int 187 0,.int 0 0,.ref 330,.int 206 0,.int 0 0,.ref 365,.int 211 0,.int 0 0,.ref 372,.int 216 0,.int 0 0,.ref 379,.int 223 0,.int 0 0,.ref 386,.int 227 0,.int 0 0,.ref 391,.int 235 0,.int 0 0,.ref 396,.int 243 0,.int 0 0,.ref 401,.int 251 0,.int 0 0,.ref 408,.int 267 0,.int 0 0,.ref 415,.int 273 0,.int 0 0,.ref 422,.int 277 0,.int 0 0,.ref 429,.int 282 0,.int 0 0,.ref 436,.int 293 0,.int 0 0,.ref 443,.int 310 0,.int 0 0,.ref 450,.int 312 0,.int 0 0,.ref 457,.int 321 0,.int 0 0,.ref 464,.int 342 0,.int 0 0,.ref 475,.int 357 0,.int 0 0,.ref 482,.int 370 0,.int 0 0,.ref 489,.int 373 0,.int 0 0,.ref 496,.int 377 0,.int 0 0,.ref 501,.int 379 0,.int 0 0,.ref 508,.int 390 0,.int 0 0,.ref 515,.int 405 0,.int 0 0,.ref 522,.int 410 0,.int 0 0,.ref 529,.int 413 0,.int 0 0,.ref 536,.int 418 0,.int 0 0,.ref 543,.int 428 0,.int 0 0,.ref 548,.int 450 0,.int 0 0,.ref 564,.int 461 0,.int 0 0,.ref 569,.int 465 0,.int 0 0,.ref 576,.int 474 0,.int 0 0,.ref 583,.int 481 0,.int 0 0,.ref 590,.int 492 0,.int 0 0,.ref 597,.int 510 0,.int 0 0,.ref 604,.int 529 0,.int 0 0,.ref 611,.int 538 0,.int 0 0,.ref 618,.int 544 0,.int 0 0,.ref 625,.int 550 0,.int 0 0,.ref 632,.int 569 0,.int 0 0,.ref 639,.int 571 0,.int 0 0,.ref 646,.int 595 0,.int 0 0,.ref 651,.int 605 0,.int 0 0,.ref 658,.int 609 0,.int 0 0,.ref 665,.int 618 0,.int 0 0,.ref 686,.int 646 0,.int 0 0,.ref 708,.int 653 0,.int 0 0,.ref 727,.int 663 0,.int 0 0,.ref 733,.int 665 0,.int 0 0,.ref 740,.int 674 0,.int 0 0,.ref 747,.int 684 0,.int 0 0,.ref 754,.int 695 0,.int 0 0,.ref 776,.int 709 0,.int 0 0,.ref 797,.int 712 0,.int 0 0,.ref 804,.int 715 0,.int 0 0,.ref 811,.int 720 0,.int 0 0,.ref 818,.int 725 0,.int 0 0,.ref 825,.int 739 0,.int 0 0,.ref 832,.int 757 0,.int 0 0,.ref 839,.int 759 0,.int 0 0,.ref 846,.int 772 0,.int 0 0,.ref 853,.int 775 0,.int 0 0,.ref 860,.int 779 0,.int 0 0,.ref 867,.int 782 0,.int 0 0,.ref 874,.int 786 0,.int 0 0,.ref 881,.int 790 0,.int 0 0,.ref 888,.int 804 0,.int 0 0,.ref 895,.int 809 0,.int 0 0,.ref 902,.int 813 0,.int 0 0,.ref 907,.int 817 0,.int 0 0,.ref 914,.int 822 0,.int 0 0,.ref 921,.int 827 0,.int 0 0,.ref 928,.int 830 0,.int 0 0,.ref 935,.int 833 0,.int 0 0,.ref 942,.int 838 0,.int 0 0,.ref 949,.int 840 0,.int 0 0,.ref 956,.int 849 0,.int 0 0,.ref 963,.int 868 0,.int 0 0,.ref 970,.int 889 0,.int 0 0,.ref 978,.int 900 0,.int 0 0,.ref 985,.int 904 0,.int 0 0,.ref 990,.int 906 0,.int 0 0,.ref 997,.int 911 0,.int 0 0,.ref 1002]⟩,⟨[]⟩⟩
noncomputable def b590 (P:Params):Obj:=⟨.type "tuple",none,.seq ⟨[.str (q z17) 1617,.str (q z62) 1618]⟩ 0,⟨[]⟩⟩
noncomputable def b591 (P:Params):Obj:=⟨.none,none,fn (sAt 132 top) (q z132) 0 .none .none .none,⟨[]⟩⟩
noncomputable def b592 (P:Params):Obj:=⟨.type "code",none,.fields ⟨[.str (q z132) 1614,.str (q z132) 1615,.str (q z0) 1616,.int 809 0,.int 2 0,.int 0 0,.int 0 0,.int 3 0,.ref 897,.bool true,.int 181 0,.ref 898,.none,.ref 899,.ref 900,.ref 901,.int 1619 0,.int 809 0,.str (q z0) 1620]⟩,⟨[]⟩⟩
noncomputable def b593 (P:Params):Obj:=⟨.type "function",none,fn (sAt 132 top) (q z132) 3 .none (.str (q z1) 1418) (.ref 902),⟨[]⟩⟩
noncomputable def b594 (P:Params):Obj:=⟨.none,none,fn (sAt 133 top) (q z148) 0 .none .none .none,⟨[]⟩⟩
noncomputable def b595 (P:Params):Obj:=⟨.type "code",none,.fields ⟨[.str (q z148) 1622,.str (q z148) 1623,.str (q z0) 1624,.int 813 0,.int 2 0,.int 0 0,.int 0 0,.int 3 0,.ref 904,.bool true,.int 181 0,.ref 905,.none,.none,.none,.ref 906,.int 1625 0,.int 813 0,.str (q z0) 1626]⟩,⟨[]⟩⟩
noncomputable def b596 (P:Params):Obj:=⟨.type "function",none,fn (sAt 133 top) (q z148) 3 .none (.str (q z1) 1418) (.ref 907),⟨[]⟩⟩
noncomputable def b597 (P:Params):Obj:=⟨.type "tuple",none,.seq ⟨[.str (q z17) 1631,.str (q z205) 1632]⟩ 0,⟨[]⟩⟩
noncomputable def b598 (P:Params):Obj:=⟨.none,none,fn (sAt 134 top) (q z78) 0 .none .none .none,⟨[]⟩⟩
noncomputable def b599 (P:Params):Obj:=⟨.type "code",none,.fields ⟨[.str (q z78) 1628,.str (q z78) 1629,.str (q z0) 1630,.int 817 0,.int 2 0,.int 0 0,.int 0 0,.int 3 0,.ref 909,.bool true,.int 181 0,.ref 910,.none,.ref 911,.ref 912,.ref 913,.int 1633 0,.int 817 0,.str (q z0) 1634]⟩,⟨[]⟩⟩
noncomputable def b600 (P:Params):Obj:=⟨.type "function",none,fn (sAt 134 top) (q z78) 3 .none (.str (q z1) 1418) (.ref 914),⟨[]⟩⟩
noncomputable def b601 (P:Params):Obj:=⟨.type "tuple",none,.seq ⟨[.str (q z17) 1639,.str (q z62) 1640,.str (q [104,101,105,103,104,116]) 1641]⟩ 0,⟨[]⟩⟩
noncomputable def b602 (P:Params):Obj:=⟨.none,none,fn (sAt 135 top) (q z79) 0 .none .none .none,⟨[]⟩⟩
noncomputable def b603 (P:Params):Obj:=⟨.type "code",none,.fields ⟨[.str (q z79) 1636,.str (q z79) 1637,.str (q z0) 1638,.int 822 0,.int 2 0,.int 0 0,.int 0 0,.int 3 0,.ref 916,.bool true,.int 181 0,.ref 917,.none,.ref 918,.ref 919,.ref 920,.int 1642 0,.int 822 0,.str (q z0) 1643]⟩,⟨[]⟩⟩
noncomputable def b604 (P:Params):Obj:=⟨.type "function",none,fn (sAt 135 top) (q z79) 3 .none (.str (q z1) 1418) (.ref 921),⟨[]⟩⟩
noncomputable def b605 (P:Params):Obj:=⟨.type "tuple",none,.seq ⟨[.str (q z17) 1648,.str (q z62) 1649]⟩ 0,⟨[]⟩⟩
noncomputable def b606 (P:Params):Obj:=⟨.none,none,fn (sAt 136 top) (q z110) 0 .none .none .none,⟨[]⟩⟩
noncomputable def b607 (P:Params):Obj:=⟨.type "code",none,.fields ⟨[.str (q z110) 1645,.str (q z110) 1646,.str (q z0) 1647,.int 827 0,.int 2 0,.int 0 0,.int 0 0,.int 3 0,.ref 923,.bool true,.int 181 0,.ref 924,.none,.ref 925,.ref 926,.ref 927,.int 1650 0,.int 827 0,.str (q z0) 1651]⟩,⟨[]⟩⟩
noncomputable def b608 (P:Params):Obj:=⟨.type "function",none,fn (sAt 136 top) (q z110) 3 .none (.str (q z1) 1418) (.ref 928),⟨[]⟩⟩
noncomputable def b609 (P:Params):Obj:=⟨.type "tuple",none,.seq ⟨[.str (q z17) 1656,.str (q z62) 1657]⟩ 0,⟨[]⟩⟩
noncomputable def b610 (P:Params):Obj:=⟨.none,none,fn (sAt 137 top) (q z80) 0 .none .none .none,⟨[]⟩⟩
noncomputable def b611 (P:Params):Obj:=⟨.type "code",none,.fields ⟨[.str (q z80) 1653,.str (q z80) 1654,.str (q z0) 1655,.int 830 0,.int 2 0,.int 0 0,.int 0 0,.int 3 0,.ref 930,.bool true,.int 181 0,.ref 931,.none,.ref 932,.ref 933,.ref 934,.int 1658 0,.int 830 0,.str (q z0) 1659]⟩,⟨[]⟩⟩
noncomputable def b612 (P:Params):Obj:=⟨.type "function",none,fn (sAt 137 top) (q z80) 3 .none (.str (q z1) 1418) (.ref 935),⟨[]⟩⟩
noncomputable def b613 (P:Params):Obj:=⟨.type "tuple",none,.seq ⟨[.str (q z17) 1664,.str (q z62) 1665]⟩ 0,⟨[]⟩⟩
noncomputable def b614 (P:Params):Obj:=⟨.none,none,fn (sAt 138 top) (q z86) 0 .none .none .none,⟨[]⟩⟩
noncomputable def b615 (P:Params):Obj:=⟨.type "code",none,.fields ⟨[.str (q z86) 1661,.str (q z86) 1662,.str (q z0) 1663,.int 833 0,.int 2 0,.int 0 0,.int 0 0,.int 3 0,.ref 937,.bool true,.int 181 0,.ref 938,.none,.ref 939,.ref 940,.ref 941,.int 1666 0,.int 833 0,.str (q z0) 1667]⟩,⟨[]⟩⟩
noncomputable def b616 (P:Params):Obj:=⟨.type "function",none,fn (sAt 138 top) (q z86) 3 .none (.str (q z1) 1418) (.ref 942),⟨[]⟩⟩
noncomputable def b617 (P:Params):Obj:=⟨.none,none,fn (sAt 139 top) (q z100) 0 .none .none .none,⟨[]⟩⟩
noncomputable def b618 (P:Params):Obj:=⟨.type "code",none,.fields ⟨[.str (q z100) 1669,.str (q z100) 1670,.str (q z0) 1671,.int 838 0,.int 0 0,.int 0 0,.int 0 0,.int 3 0,.ref 944,.bool true,.int 181 0,.ref 945,.none,.ref 946,.ref 947,.ref 948,.int 1672 0,.int 838 0,.str (q z0) 1673]⟩,⟨[]⟩⟩
noncomputable def b619 (P:Params):Obj:=⟨.type "function",none,fn (sAt 139 top) (q z100) 3 .none (.str (q z1) 1418) (.ref 949),⟨[]⟩⟩
noncomputable def b620 (P:Params):Obj:=⟨.type "tuple",none,.seq ⟨[.str (q z17) 1678,.str (q z205) 1679,.str (q z150) 1680,.str (q z62) 1681,.str (q z197) 1682,.str (q [97,116]) 1683,.str (q [108,101,102,116]) 1684]⟩ 0,⟨[]⟩⟩
noncomputable def b621 (P:Params):Obj:=⟨.none,none,fn (sAt 140 top) (q z105) 0 .none .none .none,⟨[]⟩⟩
noncomputable def b622 (P:Params):Obj:=⟨.type "code",none,.fields ⟨[.str (q z105) 1675,.str (q z105) 1676,.str (q z0) 1677,.int 840 0,.int 2 0,.int 0 0,.int 0 0,.int 3 0,.ref 951,.bool true,.int 181 0,.ref 952,.none,.ref 953,.ref 954,.ref 955,.int 1685 0,.int 840 0,.str (q z0) 1686]⟩,⟨[]⟩⟩
noncomputable def b623 (P:Params):Obj:=⟨.type "function",none,fn (sAt 140 top) (q z105) 3 .none (.str (q z1) 1418) (.ref 956),⟨[]⟩⟩
noncomputable def b624 (P:Params):Obj:=⟨.type "tuple",none,.seq ⟨[.str (q z17) 1691,.str (q z205) 1692]⟩ 0,⟨[]⟩⟩
noncomputable def b625 (P:Params):Obj:=⟨.none,none,fn (sAt 141 top) (q z152) 0 .none .none .none,⟨[]⟩⟩
noncomputable def b626 (P:Params):Obj:=⟨.type "code",none,.fields ⟨[.str (q z152) 1688,.str (q z152) 1689,.str (q z0) 1690,.int 849 0,.int 1 0,.int 0 0,.int 0 0,.int 3 0,.ref 958,.bool true,.int 181 0,.ref 959,.none,.ref 960,.ref 961,.ref 962,.int 1693 0,.int 849 0,.str (q z0) 1694]⟩,⟨[]⟩⟩
noncomputable def b627 (P:Params):Obj:=⟨.type "function",none,fn (sAt 141 top) (q z152) 3 .none (.str (q z1) 1418) (.ref 963),⟨[]⟩⟩
noncomputable def b628 (P:Params):Obj:=⟨.type "tuple",none,.seq ⟨[.str (q z17) 1699,.str (q [119,111,114,100,115]) 1700,.str (q [115,116,97,114,116]) 1701,.str (q z62) 1702,.str (q [105,115,95,114,105,103,104,116]) 1703]⟩ 0,⟨[]⟩⟩
noncomputable def b629 (P:Params):Obj:=⟨.none,none,fn (sAt 142 top) (q z90) 0 .none .none .none,⟨[]⟩⟩
noncomputable def b630 (P:Params):Obj:=⟨.type "code",none,.fields ⟨[.str (q z90) 1696,.str (q z90) 1697,.str (q z0) 1698,.int 868 0,.int 3 0,.int 0 0,.int 0 0,.int 3 0,.ref 965,.bool true,.int 181 0,.ref 966,.none,.ref 967,.ref 968,.ref 969,.int 1704 0,.int 868 0,.str (q z0) 1705]⟩,⟨[]⟩⟩
noncomputable def b631 (P:Params):Obj:=⟨.type "function",none,fn (sAt 142 top) (q z90) 3 .none (.str (q z1) 1418) (.ref 970),⟨[]⟩⟩
noncomputable def b632 (P:Params):Obj:=⟨.type "tuple",none,.seq ⟨[.none,.none]⟩ 0,⟨[]⟩⟩
noncomputable def b633 (P:Params):Obj:=⟨.type "tuple",none,.seq ⟨[.str (q z146) 1710,.str (q z29) 1711,.str (q [97,116]) 1712,.str (q z184) 1713,.str (q z171) 1714,.str (q z180) 1715,.str (q [115,112,101,110,116]) 1716,.str (q z17) 1717,.str (q [119,111,114,100,115]) 1718,.str (q [115,116,97,114,116]) 1719]⟩ 0,⟨[]⟩⟩
noncomputable def b634 (P:Params):Obj:=⟨.none,none,fn (sAt 143 top) (q z31) 0 .none .none .none,⟨[]⟩⟩
noncomputable def b635 (P:Params):Obj:=⟨.type "code",none,.fields ⟨[.str (q z31) 1707,.str (q z31) 1708,.str (q z0) 1709,.int 889 0,.int 7 0,.int 0 0,.int 0 0,.int 3 0,.ref 973,.bool true,.int 181 0,.ref 974,.none,.ref 975,.ref 976,.ref 977,.int 1720 0,.int 889 0,.str (q z0) 1721]⟩,⟨[]⟩⟩
noncomputable def b636 (P:Params):Obj:=⟨.type "function",none,fn (sAt 143 top) (q z31) 3 (.ref 972) (.str (q z1) 1418) (.ref 978),⟨[]⟩⟩
noncomputable def b637 (P:Params):Obj:=⟨.type "tuple",none,.seq ⟨[.str (q [98,111,97,114,100]) 1728,.str (q [109,97,110,121]) 1729,.str (q [97,116]) 1730]⟩ 0,⟨[]⟩⟩
noncomputable def b638 (P:Params):Obj:=⟨.none,none,fn (sAt 145 top) (q z137) 0 .none .none .none,⟨[]⟩⟩
noncomputable def b639 (P:Params):Obj:=⟨.type "code",none,.fields ⟨[.str (q z137) 1725,.str (q z137) 1726,.str (q z0) 1727,.int 900 0,.int 2 0,.int 0 0,.int 0 0,.int 3 0,.ref 980,.bool true,.int 181 0,.ref 981,.none,.ref 982,.ref 983,.ref 984,.int 1731 0,.int 900 0,.str (q z0) 1732]⟩,⟨[]⟩⟩
noncomputable def b640 (P:Params):Obj:=⟨.type "function",none,fn (sAt 145 top) (q z137) 3 .none (.str (q z32) 1723) (.ref 985),⟨[]⟩⟩
noncomputable def b641 (P:Params):Obj:=⟨.none,none,fn (sAt 146 top) (q z111) 0 .none .none .none,⟨[]⟩⟩
noncomputable def b642 (P:Params):Obj:=⟨.type "code",none,.fields ⟨[.str (q z111) 1734,.str (q z111) 1735,.str (q z0) 1736,.int 904 0,.int 1 0,.int 0 0,.int 0 0,.int 3 0,.ref 987,.bool true,.int 181 0,.ref 988,.none,.none,.none,.ref 989,.int 1737 0,.int 904 0,.str (q z0) 1738]⟩,⟨[]⟩⟩
noncomputable def b643 (P:Params):Obj:=⟨.type "function",none,fn (sAt 146 top) (q z111) 3 .none (.str (q z32) 1723) (.ref 990),⟨[]⟩⟩
noncomputable def b644 (P:Params):Obj:=⟨.type "tuple",none,.seq ⟨[.str (q z146) 1743,.str (q z29) 1744,.str (q z156) 1745,.str (q [102,97,117,108,116]) 1746]⟩ 0,⟨[]⟩⟩
noncomputable def b645 (P:Params):Obj:=⟨.none,none,fn (sAt 147 top) (q z41) 0 .none .none .none,⟨[]⟩⟩
noncomputable def b646 (P:Params):Obj:=⟨.type "code",none,.fields ⟨[.str (q z41) 1740,.str (q z41) 1741,.str (q z0) 1742,.int 906 0,.int 3 0,.int 0 0,.int 0 0,.int 3 0,.ref 992,.bool true,.int 181 0,.ref 993,.none,.ref 994,.ref 995,.ref 996,.int 1747 0,.int 906 0,.str (q z0) 1748]⟩,⟨[]⟩⟩
noncomputable def b647 (P:Params):Obj:=⟨.type "function",none,fn (sAt 147 top) (q z41) 3 .none (.str (q z32) 1723) (.ref 997),⟨[]⟩⟩
noncomputable def b648 (P:Params):Obj:=⟨.none,none,fn (sAt 148 top) (q [108,97,119]) 0 .none .none .none,⟨[]⟩⟩
noncomputable def b649 (P:Params):Obj:=⟨.type "code",none,.fields ⟨[.str (q [108,97,119]) 1750,.str (q [108,97,119]) 1751,.str (q z0) 1752,.int 911 0,.int 1 0,.int 0 0,.int 0 0,.int 3 0,.ref 999,.bool true,.int 181 0,.ref 1000,.none,.none,.none,.ref 1001,.int 1753 0,.int 911 0,.str (q z0) 1754]⟩,⟨[]⟩⟩
noncomputable def b650 (P:Params):Obj:=⟨.type "function",none,fn (sAt 148 top) (q [108,97,119]) 3 .none (.str (q z32) 1723) (.ref 1002),⟨[]⟩⟩
noncomputable def tr8 (P:Params):BT:=insl (insc (tr7 P) [(3,(glob P ((.str (q z32) 1723)) 143 144)),(12,b589 P)]) 897 [b6 P,b7 P,b590 P,b6 P,b591 P,b592 P,b593 P,b6 P,b7 P,b594 P,b595 P,b596 P,b6 P,b7 P,b597 P,b6 P,b598 P,b599 P,b600 P,b6 P,b7 P,b601 P,b6 P,b602 P,b603 P,b604 P,b6 P,b7 P,b605 P,b6 P,b606 P,b607 P,b608 P,b6 P,b7 P,b609 P,b6 P,b610 P,b611 P,b612 P,b6 P,b7 P,b613 P,b6 P,b614 P,b615 P,b616 P,b6 P,b7 P,b6 P,b6 P,b617 P,b618 P,b619 P,b6 P,b7 P,b620 P,b6 P,b621 P,b622 P,b623 P,b6 P,b7 P,b624 P,b6 P,b625 P,b626 P,b627 P,b6 P,b7 P,b628 P,b6 P,b629 P,b630 P,b631 P,b632 P,b6 P,b7 P,b633 P,b6 P,b634 P,b635 P,b636 P,b6 P,b7 P,b637 P,b6 P,b638 P,b639 P,b640 P,b6 P,b7 P,b641 P,b642 P,b643 P,b6 P,b7 P,b644 P,b6 P,b645 P,b646 P,b647 P,b6 P,b7 P,b648 P,b649 P,b650 P]
def m0:Nat:=11
def ann:Option Value:=(some (.ref 6))
def tenv:Env:={ scope:=PySem.Challenge.pw_qz0137_01.main.scope,locals:=mainNs,globals:=mainNs,cells:=[],code:=(.ref 13),frame:=some 14 }
def bdy:List Stmt:=behindTheImports PySem.Challenge.pw_qz0137_01
def cE:Code:=.body bdy tenv
def fq:Pos:=⟨0,0,0,0⟩
def pPre:Pos:=⟨0,0,0,0⟩
noncomputable def st0 (P:Params) (os:OsState):SharedT:=⟨tr0 P,15,{},⟨[]⟩,boot_drawn,187,os⟩
def ps0:Pos:=⟨0,0,0,0⟩
noncomputable def st1 (P:Params) (os:OsState):SharedT:=⟨tr1 P,95,{},⟨[]⟩,boot_drawn,297,os⟩
def ps1:Pos:=⟨22,0,26,20⟩
noncomputable def sts0:List Stmt:=(bdy.drop 0).take 9
noncomputable def st2 (P:Params) (os:OsState):SharedT:=⟨tr2 P,213,{},⟨[]⟩,boot_drawn,483,os⟩
def ps2:Pos:=⟨106,0,123,36⟩
noncomputable def sts1:List Stmt:=(bdy.drop 9).take 11
noncomputable def st3 (P:Params) (os:OsState):SharedT:=⟨tr3 P,325,{},⟨[]⟩,boot_drawn,687,os⟩
def ps3:Pos:=⟨186,0,186,9⟩
noncomputable def sts2:List Stmt:=(bdy.drop 20).take 20
noncomputable def st4 (P:Params) (os:OsState):SharedT:=⟨tr4 P,491,{},⟨[]⟩,boot_drawn,932,os⟩
def ps4:Pos:=⟨370,0,372,41⟩
noncomputable def sts3:List Stmt:=(bdy.drop 40).take 24
noncomputable def st5 (P:Params) (os:OsState):SharedT:=⟨tr5 P,660,{},⟨[]⟩,boot_drawn,1189,os⟩
def ps5:Pos:=⟨608,0,608,8⟩
noncomputable def sts4:List Stmt:=(bdy.drop 64).take 31
noncomputable def st6 (P:Params) (os:OsState):SharedT:=⟨tr6 P,749,{},⟨[]⟩,boot_drawn,1370,os⟩
def ps6:Pos:=⟨683,0,683,8⟩
noncomputable def sts5:List Stmt:=(bdy.drop 95).take 17
noncomputable def st7 (P:Params) (os:OsState):SharedT:=⟨tr7 P,897,{},⟨[]⟩,boot_drawn,1614,os⟩
def ps7:Pos:=⟨804,0,808,15⟩
noncomputable def sts6:List Stmt:=(bdy.drop 112).take 20
noncomputable def st8 (P:Params) (os:OsState):SharedT:=⟨tr8 P,1004,{},⟨[]⟩,boot_drawn,1756,os⟩
def ps8:Pos:=⟨911,0,938,139⟩
noncomputable def sts7:List Stmt:=(bdy.drop 132).take 17
noncomputable def used (P:Params):List (Nat × Obj):=[(0,b0 P),(2,b12 P),(3,(glob P ((.str (q z32) 1723)) 143 144)),(15,b14 P),(21,b17 P),(22,b18 P),(28,b21 P),(29,b22 P),(35,b25 P),(36,b26 P),(49,b35 P),(50,b36 P),(52,b38 P),(53,b71 P),(107,b78 P),(108,b79 P),(110,b81 P),(111,b82 P),(127,b92 P),(128,b93 P),(130,b95 P),(131,b96 P),(148,b107 P),(149,b108 P),(155,b111 P),(156,b112 P),(165,b118 P),(166,b119 P),(176,b126 P),(177,b127 P),(218,b151 P),(219,b152 P),(289,b210 P),(290,b211 P),(322,b229 P),(323,b230 P),(337,b239 P),(338,b240 P),(344,b243 P),(345,b244 P),(351,b247 P),(352,b248 P),(354,b250 P),(355,b251 P),(466,b317 P),(467,b318 P),(468,b319 P),(469,b320 P),(475,b323 P),(476,b324 P),(515,b347 P),(516,b348 P),(564,b379 P),(565,b380 P),(576,b386 P),(577,b387 P),(583,b390 P),(584,b391 P),(590,b394 P),(591,b395 P),(597,b398 P),(598,b399 P),(604,b402 P),(605,b403 P),(651,b429 P),(652,b430 P),(658,b433 P),(659,b434 P),(693,b457 P),(694,b458 P),(696,b460 P),(697,b461 P),(727,b483 P),(728,b484 P),(729,b485 P),(733,b487 P),(734,b488 P),(740,b491 P),(741,b492 P),(747,b495 P),(748,b496 P),(756,b502 P),(762,b505 P),(763,b506 P),(765,b508 P),(766,b509 P),(783,b520 P),(784,b521 P),(786,b523 P),(787,b524 P),(804,b535 P),(805,b536 P),(811,b539 P),(812,b540 P),(949,b618 P),(950,b619 P),(970,b630 P),(971,b631 P),(972,b632 P),(978,b635 P),(979,b636 P),(985,b639 P),(986,b640 P),(990,b642 P),(991,b643 P),(997,b646 P),(998,b647 P),(1002,b649 P),(1003,b650 P)]
end
noncomputable section
set_option maxRecDepth 1000000
abbrev B:List Frame:=[topFrame fq]
theorem runT {w:World} {N:Nat} {s:SharedT} {t:Thread} {r:Option (Flow × SharedT × Code × Pos)} (h:Fast.tw10110043849684766642 Fast.tw14364793385576792824 pw_qz0137_01 w m0 ann 1 N s t=r):segRunT treeTable pw_qz0137_01 w m0 ann 1 N s t=r:=by
 rw [Fast.te10110043849684766642,Fast.te14364793385576792824];exact h
theorem runB {w:World} {N:Nat} {s:Shared} {t:Thread} {r:Option (Flow × Shared × Code × Pos)} (h:Fast.tw14374325043358763698 Fast.tw14364793385576792824 pw_qz0137_01 w m0 ann 1 N s t=r):segRun treeTable pw_qz0137_01 w m0 ann 1 N s t=r:=by
 rw [Fast.te14374325043358763698,Fast.te14364793385576792824];exact h
theorem runG {w:World} {N:Nat} {s:Shared} {t:Thread} {r:Option (Shared × Thread)} (h:Fast.tw15667345088766844465 Fast.tw14364793385576792824 pw_qz0137_01 w m0 ann N s t=r):topGo treeTable pw_qz0137_01 w m0 ann N s t=r:=by
 rw [Fast.te15667345088766844465,Fast.te14364793385576792824];exact h
theorem runR {w:World} {N:Nat} {s:Shared} {t:Thread} {r:Option Shared} (h:Fast.tw14082659384304107361 Fast.tw14364793385576792824 pw_qz0137_01 w m0 ann N s t=r):topRun treeTable pw_qz0137_01 w m0 ann N s t=r:=by
 rw [Fast.te14082659384304107361,Fast.te14364793385576792824];exact h
theorem pre_run (w:World) (os:OsState):topGo treeTable pw_qz0137_01 w m0 ann 12 ⟨boot_heap w.params,⟨[]⟩,boot_drawn,boot_toks,os⟩ (topStub pw_qz0137_01)=some (⟨ha w.params,⟨[]⟩,boot_drawn,187,os⟩,⟨denote treeTable cE,cE,pPre,B⟩):=by
 rw [Fast.te15667345088766844465,Fast.te11892475500146522536,Fast.te14364793385576792824];kernel_rfl
theorem blk_run (w:World) (os:OsState):segRun treeTable pw_qz0137_01 w m0 ann 1 1 ⟨ha w.params,⟨[]⟩,boot_drawn,187,os⟩ (blockOf bdy tenv cE pPre B)=some (.next,(st0 w.params os).abs,cE,ps0):=runB (by kernel_rfl)
theorem pc0 (w:World) (os:OsState):segRunT treeTable pw_qz0137_01 w m0 ann 1 839 (st0 w.params os) (piecesOf sts0 tenv cE ps0 B)=some (.next,st1 w.params os,cE,ps1):=runT (by kernel_rfl)
theorem pc1 (w:World) (os:OsState):segRunT treeTable pw_qz0137_01 w m0 ann 1 989 (st1 w.params os) (piecesOf sts1 tenv cE ps1 B)=some (.next,st2 w.params os,cE,ps2):=runT (by kernel_rfl)
theorem pc2 (w:World):∀ (os:OsState),segRunT treeTable pw_qz0137_01 w m0 ann 1 821 (st2 w.params os) (piecesOf sts2 tenv cE ps2 B)=some (.next,st3 w.params os,cE,ps3):=byRow2 (P:=fun w=>∀ os:OsState,segRunT treeTable pw_qz0137_01 w m0 ann 1 821 (st2 w.params os) (piecesOf sts2 tenv cE ps2 B)=some (.next,st3 w.params os,cE,ps3)) "special-get-raises" (fun w os=>runT (by kernel_rfl)) (fun w os=>runT (by kernel_rfl)) w
theorem pc3 (w:World):∀ (os:OsState),segRunT treeTable pw_qz0137_01 w m0 ann 1 979 (st3 w.params os) (piecesOf sts3 tenv cE ps3 B)=some (.next,st4 w.params os,cE,ps4):=byRow2 (P:=fun w=>∀ os:OsState,segRunT treeTable pw_qz0137_01 w m0 ann 1 979 (st3 w.params os) (piecesOf sts3 tenv cE ps3 B)=some (.next,st4 w.params os,cE,ps4)) "special-get-raises" (fun w os=>runT (by kernel_rfl)) (fun w os=>runT (by kernel_rfl)) w
theorem pc4 (w:World) (os:OsState):segRunT treeTable pw_qz0137_01 w m0 ann 1 845 (st4 w.params os) (piecesOf sts4 tenv cE ps4 B)=some (.next,st5 w.params os,cE,ps5):=runT (by kernel_rfl)
theorem pc5 (w:World) (os:OsState):segRunT treeTable pw_qz0137_01 w m0 ann 1 948 (st5 w.params os) (piecesOf sts5 tenv cE ps5 B)=some (.next,st6 w.params os,cE,ps6):=runT (by kernel_rfl)
theorem pc6 (w:World) (os:OsState):segRunT treeTable pw_qz0137_01 w m0 ann 1 995 (st6 w.params os) (piecesOf sts6 tenv cE ps6 B)=some (.next,st7 w.params os,cE,ps7):=runT (by kernel_rfl)
theorem pc7 (w:World) (os:OsState):segRunT treeTable pw_qz0137_01 w m0 ann 1 497 (st7 w.params os) (piecesOf sts7 tenv cE ps7 B)=some (.next,st8 w.params os,cE,ps8):=runT (by kernel_rfl)
theorem bdy_is:bdy=sts0++(sts1++(sts2++(sts3++(sts4++(sts5++(sts6++(sts7++[]))))))):=by kernel_rfl
theorem fin_run (w:World) (os:OsState):topRun treeTable pw_qz0137_01 w m0 ann 2 (st8 w.params os).abs ⟨doneF .next,cE,ps8,B⟩=some (st8 w.params os).abs:=runR (by kernel_rfl)
theorem top_run (w:World) (os:OsState):topRun treeTable pw_qz0137_01 w m0 ann (12+(1+(839+(989+(821+(979+(845+(948+(995+(497+2)))))))))) ⟨boot_heap w.params,⟨[]⟩,boot_drawn,boot_toks,os⟩ (topStub pw_qz0137_01)=some (st8 w.params os).abs:=
 go_top (pre_run w os) (piece_block (blk_run w os) (by rw [bdy_is];exact piece_app (segRun_of (pc0 w os)) (piece_app (segRun_of (pc1 w os)) (piece_app (segRun_of (pc2 w os)) (piece_app (segRun_of (pc3 w os)) (piece_app (segRun_of (pc4 w os)) (piece_app (segRun_of (pc5 w os)) (piece_app (segRun_of (pc6 w os)) (piece_app (segRun_of (pc7 w os)) (piece_nil (fin_run w os)))))))))))
end
noncomputable section
set_option maxRecDepth 1000000
theorem aa {a b:Bool} (h:a=true) (k:b=true):(a && b)=true:=by rw [h,k];rfl
theorem wp_of (p:Program) (h0:sreFenced p.main=true) (h1:((moduleNames p.main.body).isEmpty || lookedIntoSs (moduleNames p.main.body) p.main.body)=true) (h2:namesResolve p=true) (h3:p.boundNames.all (fun n=>!worldNames.contains n)=true) (h4:noRoadLSs { strict:=!(importedModules p.main.body).all cThrough.contains,foot:=none,bare:=(["vars","dir","locals"]:List Str).filter (readsOut p p.main.body) } p.main.body=true) (h5:(namesMeet p p.main.body fun _ n=>attrL n)=true):looksOpen p=true:=by
 unfold looksOpen
 exact aa (aa (aa (aa (aa (h0) h1) h2) h3) h4) h5
theorem ss_app {A:TablesWhole.Alg Bool} (hb:A.both=fun a b=>a && b) {top:Scope} {cx:TablesWhole.Ctx} {sc:Scope} {r:List Stmt} (k:TablesWhole.wSs A top cx sc r=true):∀ {l:List Stmt},TablesWhole.wSs A top cx sc l=true→TablesWhole.wSs A top cx sc (l++r)=true
 | [],_=>k
 | s::l,h=>by
  rw [TablesWhole.wSs,hb,Bool.and_eq_true] at h
  show TablesWhole.wSs A top cx sc (s::(l++r))=true
  rw [TablesWhole.wSs,hb,Bool.and_eq_true]
  exact ⟨h.1,ss_app hb k h.2⟩
theorem nr_app {lk:Look} {r:List Stmt} (k:noRoadLSs lk r=true):∀ {l:List Stmt},noRoadLSs lk l=true→noRoadLSs lk (l++r)=true
 | [],_=>k
 | s::l,h=>by
  rw [noRoadLSs,Bool.and_eq_true] at h
  show noRoadLSs lk (s::(l++r))=true
  rw [noRoadLSs,Bool.and_eq_true]
  exact ⟨h.1,nr_app k h.2⟩
theorem ss_cut {A:TablesWhole.Alg Bool} {top:Scope} {cx:TablesWhole.Ctx} {sc:Scope} {l:List Stmt} (n:Nat) (hb:A.both=fun a b=>a && b) (h:TablesWhole.wSs A top cx sc (l.take n)=true) (k:TablesWhole.wSs A top cx sc (l.drop n)=true):TablesWhole.wSs A top cx sc l=true:=by
 rw [← List.take_append_drop n l];exact ss_app hb k h
theorem nr_cut {lk:Look} {l:List Stmt} (n:Nat) (h:noRoadLSs lk (l.take n)=true) (k:noRoadLSs lk (l.drop n)=true):noRoadLSs lk l=true:=by
 rw [← List.take_append_drop n l];exact nr_app k h
theorem wm_of {A:TablesWhole.Alg Bool} {m:Module} (hb:A.both=fun a b=>a && b) (hu:A.unit=true) (h0:A.enter m.scope=true) (h1:A.check "no name twice in a table, but a class's lawful pair" m.scope ("(the table)":Str) (TablesWhole.noTwice m.scope)=true) (h2:TablesWhole.wSs A m.scope ⟨m.scope,[],TablesWhole.wSs TablesWhole.gather m.scope ⟨m.scope,[],[],[],none⟩ m.scope m.body,[],none⟩ m.scope m.body=true):TablesWhole.wModule A m=true:=by
 show A.both _ (A.both _ (A.both _ A.unit))=true
 rw [h0,h1,h2,hb,hu];rfl
theorem tw_of {p:Program} (a:p.modules=[]∧p.parses=[]∧p.absent=[]∧p.harvested=[]) (h:TablesWhole.wModule TablesWhole.holds p.main=true):p.tablesWhole=true:=by
 unfold Program.tablesWhole TablesWhole.wProgram
 rw [a.1,a.2.1,a.2.2.2,h]
 rfl
theorem ro_of {a:Bool} (h:a=true):(!a)=false:=by rw [h];rfl
theorem fil3 {f:Str→Bool} {a b c:Str} (x:f a=false) (y:f b=false) (z:f c=false):[a,b,c].filter f=[]:=by simp only [List.filter_cons,x,y,z];rfl
theorem wp0:sreFenced rw_qz0137_01.row.prog.main=true:=by kernel_rfl
theorem wp1:((moduleNames rw_qz0137_01.row.prog.main.body).isEmpty || lookedIntoSs (moduleNames rw_qz0137_01.row.prog.main.body) rw_qz0137_01.row.prog.main.body)=true:=by kernel_rfl
theorem wp2:namesResolve rw_qz0137_01.row.prog=true:=by
 unfold namesResolve
 refine wm_of rfl rfl rfl rfl ?_
 iterate 5 refine ss_cut 25 rfl (by decide +kernel) ?_
 decide +kernel
theorem wp3:rw_qz0137_01.row.prog.boundNames.all (fun n=>!worldNames.contains n)=true:=by kernel_rfl
theorem wp4a:readsOut rw_qz0137_01.row.prog rw_qz0137_01.row.prog.main.body "vars" = false:=by
 unfold readsOut namesMeet
 refine ro_of (wm_of rfl rfl rfl rfl ?_)
 iterate 5 refine ss_cut 25 rfl (by decide +kernel) ?_
 decide +kernel
theorem wp4b:readsOut rw_qz0137_01.row.prog rw_qz0137_01.row.prog.main.body "dir" = false:=by
 unfold readsOut namesMeet
 refine ro_of (wm_of rfl rfl rfl rfl ?_)
 iterate 5 refine ss_cut 25 rfl (by decide +kernel) ?_
 decide +kernel
theorem wp4c:readsOut rw_qz0137_01.row.prog rw_qz0137_01.row.prog.main.body "locals" = false:=by
 unfold readsOut namesMeet
 refine ro_of (wm_of rfl rfl rfl rfl ?_)
 iterate 5 refine ss_cut 25 rfl (by decide +kernel) ?_
 decide +kernel
theorem wp4d:(!(importedModules rw_qz0137_01.row.prog.main.body).all cThrough.contains)=false:=by kernel_rfl
theorem wp4:noRoadLSs { strict:=!(importedModules rw_qz0137_01.row.prog.main.body).all cThrough.contains,foot:=none,bare:=(["vars","dir","locals"]:List Str).filter (readsOut rw_qz0137_01.row.prog rw_qz0137_01.row.prog.main.body) } rw_qz0137_01.row.prog.main.body=true:=by
 rw [wp4d,fil3 wp4a wp4b wp4c]
 iterate 5 refine nr_cut 25 (by decide +kernel) ?_
 decide +kernel
theorem wp5:(namesMeet rw_qz0137_01.row.prog rw_qz0137_01.row.prog.main.body fun _ n=>attrL n)=true:=by
 unfold namesMeet
 refine wm_of rfl rfl rfl rfl ?_
 iterate 5 refine ss_cut 25 rfl (by decide +kernel) ?_
 decide +kernel
theorem w_looks:looksOpen rw_qz0137_01.row.prog=true:=wp_of rw_qz0137_01.row.prog wp0 wp1 wp2 wp3 wp4 wp5
theorem wr_of (r:OpenRow) (h0:looksOpen r.prog=true) (h1:r.loose.isEmpty=true) (h2:r.makers.isEmpty=true) (h3:(r.records.isEmpty || r.raises.all fun ct=>ct.1 != .builtin "AttributeError" && ct.1 != .builtin "TypeError")=true) (h4:(r.raises.all fun ct=>match ct.1 with | .builtin n=>!r.prog.boundNames.contains (Str.ofString n) && !ofTheWorld.contains n | .own _=>true)=true) (h5:decide (r.records.map (·.1)).Nodup=true) (h6:(r.records.all fun x=>!x.1.opensWith "__" && !builtinNamed x.1 && r.prog.boundNames.contains x.1 && x.2.all fun f=>!f.1.opensWith "__")=true) (h7:r.toRowW.solid=true) (h8:r.pre.litsOk=true) (h9:r.post.litsOk=true) (h10:r.raises.all (·.2.litsOk)=true) (h11:(r.mutates.all fun i=>match r.args[i]? with | some sh=>!sh.arms.any WShape.isObj | none=>false)=true) (h12:r.within.all (fun i=>decide (i < r.args.length))=true) (h13:r.same.all (fun i=>decide (i < r.args.length))=true) (h14:r.prog.boundNames.contains r.name=true) (h15:(!startupNames.contains r.name)=true):r.wellSaid=true:=by
 unfold OpenRow.wellSaid OpenRow.partSaid
 exact aa (aa (aa (aa (aa (aa (aa (aa (aa (aa (aa (aa (aa (aa (aa (h0) h1) h2) h3) h4) h5) h6) h7) h8) h9) h10) h11) h12) h13) h14) h15
theorem wr1:rw_qz0137_01.row.loose.isEmpty=true:=by kernel_rfl
theorem wr2:rw_qz0137_01.row.makers.isEmpty=true:=by kernel_rfl
theorem wr3:(rw_qz0137_01.row.records.isEmpty || rw_qz0137_01.row.raises.all fun ct=>ct.1 != .builtin "AttributeError" && ct.1 != .builtin "TypeError")=true:=by kernel_rfl
theorem wr4:(rw_qz0137_01.row.raises.all fun ct=>match ct.1 with | .builtin n=>!rw_qz0137_01.row.prog.boundNames.contains (Str.ofString n) && !ofTheWorld.contains n | .own _=>true)=true:=by kernel_rfl
theorem wr5:decide (rw_qz0137_01.row.records.map (·.1)).Nodup=true:=by kernel_rfl
theorem wr6:(rw_qz0137_01.row.records.all fun x=>!x.1.opensWith "__" && !builtinNamed x.1 && rw_qz0137_01.row.prog.boundNames.contains x.1 && x.2.all fun f=>!f.1.opensWith "__")=true:=by kernel_rfl
theorem wr7:rw_qz0137_01.row.toRowW.solid=true:=by kernel_rfl
theorem wr8:rw_qz0137_01.row.pre.litsOk=true:=by kernel_rfl
theorem wr9:rw_qz0137_01.row.post.litsOk=true:=by kernel_rfl
theorem wr10:rw_qz0137_01.row.raises.all (·.2.litsOk)=true:=by kernel_rfl
theorem wr11:(rw_qz0137_01.row.mutates.all fun i=>match rw_qz0137_01.row.args[i]? with | some sh=>!sh.arms.any WShape.isObj | none=>false)=true:=by kernel_rfl
theorem wr12:rw_qz0137_01.row.within.all (fun i=>decide (i < rw_qz0137_01.row.args.length))=true:=by kernel_rfl
theorem wr13:rw_qz0137_01.row.same.all (fun i=>decide (i < rw_qz0137_01.row.args.length))=true:=by kernel_rfl
theorem wr14:rw_qz0137_01.row.prog.boundNames.contains rw_qz0137_01.row.name=true:=by kernel_rfl
theorem wr15:(!startupNames.contains rw_qz0137_01.row.name)=true:=by kernel_rfl
theorem w_row:rw_qz0137_01.row.wellSaid=true:=wr_of rw_qz0137_01.row w_looks wr1 wr2 wr3 wr4 wr5 wr6 wr7 wr8 wr9 wr10 wr11 wr12 wr13 wr14 wr15
theorem wl_of (l:OpenLaw) (h0:l.row.wellSaid=true) (h1:decide (l.foot≤(behindTheImports l.prog).length)=true) (h2:l.footing.all footLine=true) (h3:noClassBlock l.prog l.footing=true) (h4:l.most.all (fun n=>decide (63≤n))=true) (h5:l.bound.all (fun n=>decide (2 ^ 63≤n))=true) (h6:noRoadLSs { strict:=true,foot:=some l.bound',writes:=l.writes,may:=l.may } l.footing=true) (h7:defStands l.about l.above=true) (h8:l.namesIt=true) (h9:(["type","isinstance","issubclass","getattr","hasattr"]:List Str).all (fun n=>l.about != [n])=true) (h10:l.bound'.all (fun n=>!builtinNamed n || l.about == [n] || !l.reads n)=true) (h11:(!l.writes || (l.prog.main.body.flatMap importedNames).all fun n=>!l.reads n)=true) (h12:(l.prog.main.body.flatMap importedNames).all (fun n=>!l.reads n || (drawsOf n l.prog.main.body).all fun mn=>mn.2 != ("attrgetter":Str) && mn.2 != ("methodcaller":Str))=true) (h13:namesMeet l.prog l.footing (fun sc n=>(!(["type","isinstance","issubclass","getattr","hasattr"]:List Str).contains n || sc.names.lookup n == some .globalImplicit) && (l.may != some n || sc.kind == .module || sc.names.lookup n == some .globalImplicit))=true) (h14:l.own.contains l.name=true) (h15:(l.own.eraseDups.length == l.own.length)=true) (h16:l.own.all (fun n=>!builtinNamed n)=true) (h17:namesMeet l.prog l.above (fun _ n=>!l.own.contains n)=true) (h18:(namesMeet l.prog l.footing fun sc n=>sc.kind == .module || sc.names.lookup n != some .globalExplicit)=true):l.wellSaid=true:=by
 unfold OpenLaw.wellSaid
 exact aa (aa (aa (aa (aa (aa (aa (aa (aa (aa (aa (aa (aa (aa (aa (aa (aa (aa (h0) h1) h2) h3) h4) h5) h6) h7) h8) h9) h10) h11) h12) h13) h14) h15) h16) h17) h18
theorem wl1:decide (rw_qz0137_01.foot≤(behindTheImports rw_qz0137_01.prog).length)=true:=by kernel_rfl
theorem wl2:rw_qz0137_01.footing.all footLine=true:=by kernel_rfl
theorem wl3:noClassBlock rw_qz0137_01.prog rw_qz0137_01.footing=true:=by kernel_rfl
theorem wl4:rw_qz0137_01.most.all (fun n=>decide (63≤n))=true:=by kernel_rfl
theorem wl5:rw_qz0137_01.bound.all (fun n=>decide (2 ^ 63≤n))=true:=by kernel_rfl
theorem wl6:noRoadLSs { strict:=true,foot:=some rw_qz0137_01.bound',writes:=rw_qz0137_01.writes,may:=rw_qz0137_01.may } rw_qz0137_01.footing=true:=by kernel_rfl
theorem wl7:defStands rw_qz0137_01.about rw_qz0137_01.above=true:=by kernel_rfl
theorem wl8:rw_qz0137_01.namesIt=true:=by kernel_rfl
theorem wl9:(["type","isinstance","issubclass","getattr","hasattr"]:List Str).all (fun n=>rw_qz0137_01.about != [n])=true:=by kernel_rfl
theorem wl10:rw_qz0137_01.bound'.all (fun n=>!builtinNamed n || rw_qz0137_01.about == [n] || !rw_qz0137_01.reads n)=true:=by kernel_rfl
theorem wl11:(!rw_qz0137_01.writes || (rw_qz0137_01.prog.main.body.flatMap importedNames).all fun n=>!rw_qz0137_01.reads n)=true:=by kernel_rfl
theorem wl12:(rw_qz0137_01.prog.main.body.flatMap importedNames).all (fun n=>!rw_qz0137_01.reads n || (drawsOf n rw_qz0137_01.prog.main.body).all fun mn=>mn.2 != ("attrgetter":Str) && mn.2 != ("methodcaller":Str))=true:=by kernel_rfl
theorem wl13:namesMeet rw_qz0137_01.prog rw_qz0137_01.footing (fun sc n=>(!(["type","isinstance","issubclass","getattr","hasattr"]:List Str).contains n || sc.names.lookup n == some .globalImplicit) && (rw_qz0137_01.may != some n || sc.kind == .module || sc.names.lookup n == some .globalImplicit))=true:=by kernel_rfl
theorem wl14:rw_qz0137_01.own.contains rw_qz0137_01.name=true:=by kernel_rfl
theorem wl15:(rw_qz0137_01.own.eraseDups.length == rw_qz0137_01.own.length)=true:=by kernel_rfl
theorem wl16:rw_qz0137_01.own.all (fun n=>!builtinNamed n)=true:=by kernel_rfl
theorem wl17:namesMeet rw_qz0137_01.prog rw_qz0137_01.above (fun _ n=>!rw_qz0137_01.own.contains n)=true:=by kernel_rfl
theorem wl18:(namesMeet rw_qz0137_01.prog rw_qz0137_01.footing fun sc n=>sc.kind == .module || sc.names.lookup n != some .globalExplicit)=true:=by kernel_rfl
theorem w_law:rw_qz0137_01.wellSaid=true:=wl_of rw_qz0137_01 w_row wl1 wl2 wl3 wl4 wl5 wl6 wl7 wl8 wl9 wl10 wl11 wl12 wl13 wl14 wl15 wl16 wl17 wl18
end
noncomputable section
set_option maxRecDepth 1000000
def qv:Program:=view pw_qz0137_01 [148]
noncomputable def loose:List Str:=[q z185,q z48,q z91,q z106,q z16,q z168,q z27,q z72,q [79,78,69,95,83,73,71,78],q z73,q z55,q z127,q z57,q z92,q z67,q z128,q z129,q z42,q [66,76,65,78,75,83],q z186,q z43,q z136,q z87,q z101,q z58,q z74,q z75,q z94,q z95,q z177,q z178,q z192,q z179,q z193,q [77,79,83,84,95,67,79,68,69],q z20,q z158,q z33,q z76,q z49,q z34,q z26,q z24,q z21,q z50,q z96,q z97,q z82,q z68,q z64,q z30,q z130,q [70,73,71,85,82,69,83],q z206,q z194,q z44,q z83,q z45,q z35,q z51,q z59,q z88,q z107,q z131,q z28,q z18,q z119,q z187,q z195,q [76,79,79,75,83],q z207,q z60,q z89,q z65,q z22,q z77,q z108,q z52,q z84,q z56,q z102,q z85,q z46,q z71,q z36,q z23,q z142,q z169,q z208,q [76,69,65,70,95,67,79,83,84],q z188,q z189,q [85,78,84,79,76,68],q z37,q z39,q z209,q z210,q z103,q z66,q z47,q z98,q z211,q z196,q z61,q z40,q z166,q z120,q z144,q z145,q z69,q z161,q z139,q z121,q z104,q z122,q z99,q z123,q z124,q z109,q z132,q z148,q z78,q z79,q z110,q z80,q z86,q z100,q z105,q z152,q z90,q z31,q z137,q z111,q z41]
noncomputable abbrev S8 (w:World) (os:OsState):Shared:=⟨absHeap (tr8 w.params) 1004 {},⟨[]⟩,boot_drawn,1756,os⟩
theorem k_seen (w:World) (os:OsState):seen ((recsOf qv).map (·.name)) (ownsOf qv) [] { S8 w os with gens:=#[] }=expectedOf qv:=by kernel_rfl
theorem k_blt (w:World) (os:OsState):(S8 w os).heap.bltView=bltViewBooted:=by kernel_rfl
theorem k_keys (w:World) (os:OsState):(S8 w os).heap.keysOk (looseW qv loose) ((recsOf qv).map (·.name)) ((litsOf qv).map (·.1)) ((clssOf qv (looseW qv loose)).map (·.name))=true:=by kernel_rfl
theorem k_acc (w:World) (os:OsState):(S8 w os).heap.accountedOkI (importedModules pw_qz0137_01.main.body)=true:=by kernel_rfl
theorem k_ns1 (w:World) (os:OsState):(S8 w os).heap.isNs mainGlobals=true:=by kernel_rfl
theorem k_ns2 (w:World) (os:OsState):(S8 w os).heap.isNs builtinsNs=true:=by kernel_rfl
theorem k_tabs (w:World) (os:OsState):tablesOk qv (S8 w os).heap=true:=by kernel_rfl
theorem k_tabs2 (w:World) (os:OsState):tabsOk qv (S8 w os)=true:=by kernel_rfl
theorem k_pinD (w:World) (os:OsState):pinSeenD qv (drecsOf qv) (S8 w os)=pinGoodD (drecsOf qv):=by kernel_rfl
theorem k_plE (w:World) (os:OsState):plainSeenE qv (looseW qv loose) (S8 w os)=plainGoodE qv (looseW qv loose):=by kernel_rfl
theorem k_plD (w:World) (os:OsState):plainSeenD qv loose (S8 w os)=plainGoodD qv loose:=by kernel_rfl
theorem k_wide (w:World) (os:OsState):wideSeen qv (S8 w os)=wideGood qv:=by kernel_rfl
theorem k_cls (w:World) (os:OsState):clsSeenW qv loose (S8 w os)=clsGoodW qv loose:=by kernel_rfl
theorem k_gens (w:World) (os:OsState):((S8 w os).gens.size == 0)=true:=by kernel_rfl
theorem k_stat (w:World) (os:OsState):staticsOk (importedModules pw_qz0137_01.main.body) (boot_heap w.params) (S8 w os).heap=true:=by kernel_rfl
theorem k_bound (w:World) (os:OsState):namesBound pw_qz0137_01 (S8 w os).heap=true:=by kernel_rfl
theorem k_gdone (w:World) (os:OsState):gensDone (S8 w os)=true:=by kernel_rfl
theorem k_kept (w:World) (os:OsState):laidKept (boot_heap w.params) (S8 w os).heap=true:=by kernel_rfl
theorem k_size (w:World) (os:OsState):((boot_heap w.params).isNs mainGlobals && (Array.mk ([]:List GenState)).size == 0,(boot_heap w.params).objs.size,(boot_heap w.params).nsMap mainGlobals "__annotations__")=(true,m0,ann):=by kernel_rfl
theorem k_chain (w:World) (os:OsState):(chainsOk qv && opensWell pw_qz0137_01)=true:=by kernel_rfl
noncomputable def kt (P:Params):KT:=(.node (some (b0 P)) (.node none (.node (some ((glob P ((.str (q z32) 1723)) 143 144))) (.node none (.node (some (b14 P)) (.node none (.node none (.node (some (b92 P)) .nil .nil) .nil) (.node none .nil (.node none (.node (some (b247 P)) .nil .nil) (.node none .nil (.node (some (b643 P)) .nil .nil))))) (.node none (.node none (.node none (.node none .nil (.node (some (b520 P)) .nil .nil)) .nil) (.node none (.node none (.node (some (b395 P)) .nil .nil) .nil) .nil)) (.node (some (b82 P)) .nil .nil))) (.node none (.node none (.node none .nil (.node none (.node none (.node (some (b390 P)) .nil .nil) .nil) .nil)) .nil) (.node none (.node none .nil (.node none .nil (.node none (.node (some (b483 P)) .nil .nil) .nil))) .nil))) (.node none (.node none (.node (some (b25 P)) (.node none (.node (some (b96 P)) (.node none (.node (some (b347 P)) .nil .nil) .nil) .nil) (.node none (.node (some (b230 P)) .nil .nil) (.node none .nil (.node (some (b626 P)) .nil .nil)))) (.node none .nil (.node none (.node (some (b251 P)) .nil .nil) .nil))) (.node none (.node none (.node none (.node none .nil (.node (some (b524 P)) .nil .nil)) (.node none (.node (some (b434 P)) .nil .nil) .nil)) (.node none .nil (.node (some (b318 P)) .nil (.node (some (b636 P)) .nil .nil)))) .nil)) (.node none (.node none (.node none (.node none .nil (.node none (.node (some (b429 P)) .nil .nil) .nil)) (.node none .nil (.node none .nil (.node (some (b631 P)) .nil .nil)))) (.node (some (b78 P)) (.node none (.node none .nil (.node (some (b539 P)) .nil .nil)) .nil) (.node none .nil (.node none (.node (some (b495 P)) .nil .nil) (.node (some (b650 P)) .nil .nil))))) (.node none (.node none (.node (some (b111 P)) .nil .nil) (.node (some (b152 P)) .nil (.node (some (b323 P)) .nil .nil))) (.node none .nil (.node none .nil (.node none (.node (some (b506 P)) .nil .nil) .nil))))))) (.node none (.node none (.node none (.node none (.node none .nil (.node none (.node none (.node (some (b387 P)) .nil .nil) .nil) .nil)) (.node none (.node none (.node (some (b210 P)) .nil .nil) .nil) .nil)) (.node (some (b35 P)) (.node none .nil (.node none (.node (some (b239 P)) .nil .nil) .nil)) (.node none (.node (some (b127 P)) .nil .nil) .nil))) (.node none .nil (.node none (.node none .nil (.node none (.node (some (b244 P)) .nil .nil) (.node none (.node (some (b485 P)) .nil .nil) (.node (some (b639 P)) .nil .nil)))) (.node none (.node none .nil (.node none (.node (some (b461 P)) .nil .nil) .nil)) .nil)))) (.node none (.node (some (b17 P)) (.node none .nil (.node none (.node (some (b118 P)) (.node none .nil (.node (some (b536 P)) .nil .nil)) .nil) (.node none .nil (.node none (.node (some (b492 P)) .nil .nil) (.node (some (b646 P)) .nil .nil))))) (.node (some (b71 P)) (.node none (.node (some (b108 P)) .nil .nil) (.node none (.node none (.node (some (b398 P)) .nil .nil) .nil) (.node (some (b320 P)) .nil .nil))) (.node none (.node none (.node none (.node (some (b380 P)) .nil .nil) .nil) (.node none (.node (some (b457 P)) .nil .nil) (.node (some (b618 P)) .nil .nil))) .nil))) (.node (some (b22 P)) .nil (.node none (.node none .nil (.node none (.node none (.node (some (b403 P)) .nil .nil) .nil) (.node none (.node (some (b487 P)) .nil .nil) .nil))) (.node none .nil (.node none .nil (.node none (.node (some (b508 P)) .nil .nil) .nil)))))))) (.node (some (b12 P)) (.node none (.node none (.node none (.node none (.node none (.node (some (b93 P)) .nil .nil) (.node none (.node none (.node (some (b386 P)) .nil .nil) .nil) .nil)) (.node none .nil (.node none (.node (some (b248 P)) .nil .nil) .nil))) (.node none (.node none (.node none (.node none .nil (.node (some (b521 P)) .nil .nil)) .nil) .nil) (.node none (.node (some (b126 P)) .nil .nil) .nil))) (.node none (.node none (.node none .nil (.node none (.node none (.node (some (b391 P)) .nil .nil) .nil) .nil)) .nil) (.node none (.node none .nil (.node none (.node (some (b243 P)) .nil .nil) (.node none (.node (some (b484 P)) .nil .nil) .nil))) (.node none (.node none .nil (.node none (.node (some (b460 P)) .nil .nil) .nil)) .nil)))) (.node none (.node none (.node (some (b26 P)) (.node none (.node none (.node none (.node (some (b348 P)) .nil .nil) .nil) .nil) (.node none .nil (.node none .nil (.node (some (b627 P)) .nil .nil)))) (.node none (.node none (.node none .nil (.node (some (b535 P)) .nil .nil)) .nil) (.node none .nil (.node none (.node (some (b491 P)) .nil .nil) .nil)))) (.node (some (b38 P)) (.node none (.node (some (b107 P)) .nil .nil) (.node none .nil (.node (some (b319 P)) .nil .nil))) (.node none (.node none (.node none (.node (some (b379 P)) .nil .nil) .nil) .nil) (.node none .nil (.node none (.node (some (b502 P)) .nil .nil) .nil))))) (.node (some (b21 P)) (.node none (.node none (.node none .nil (.node none (.node (some (b430 P)) .nil .nil) .nil)) (.node none .nil (.node none .nil (.node (some (b632 P)) .nil .nil)))) (.node (some (b79 P)) (.node none (.node none .nil (.node (some (b540 P)) .nil .nil)) .nil) (.node none .nil (.node none (.node (some (b496 P)) .nil .nil) .nil)))) (.node none (.node none (.node (some (b112 P)) .nil .nil) (.node none (.node none (.node (some (b402 P)) .nil .nil) .nil) (.node (some (b324 P)) .nil .nil))) .nil)))) (.node none (.node none (.node none (.node none (.node none (.node (some (b95 P)) .nil .nil) (.node none (.node (some (b229 P)) .nil .nil) .nil)) (.node none (.node none (.node (some (b211 P)) .nil .nil) .nil) (.node none (.node (some (b250 P)) .nil .nil) .nil))) (.node (some (b36 P)) (.node none (.node none (.node none .nil (.node (some (b523 P)) .nil .nil)) (.node none (.node (some (b433 P)) .nil .nil) .nil)) (.node none (.node (some (b240 P)) .nil .nil) (.node (some (b317 P)) .nil (.node (some (b635 P)) .nil .nil)))) .nil)) (.node none (.node none (.node none .nil (.node none .nil (.node none .nil (.node (some (b630 P)) .nil .nil)))) (.node none .nil (.node none .nil (.node none .nil (.node (some (b649 P)) .nil .nil))))) (.node none (.node none .nil (.node (some (b151 P)) .nil (.node none .nil (.node (some (b640 P)) .nil .nil)))) (.node none .nil (.node none .nil (.node none (.node (some (b505 P)) .nil .nil) .nil)))))) (.node none (.node (some (b18 P)) (.node none .nil (.node none (.node (some (b119 P)) .nil .nil) (.node none .nil (.node none .nil (.node (some (b647 P)) .nil .nil))))) (.node none (.node none .nil (.node none (.node none (.node (some (b399 P)) .nil .nil) .nil) .nil)) (.node none (.node none .nil (.node none (.node (some (b458 P)) .nil .nil) (.node (some (b619 P)) .nil .nil))) .nil))) (.node none (.node none (.node none .nil (.node none (.node none (.node (some (b394 P)) .nil .nil) .nil) .nil)) (.node (some (b81 P)) .nil .nil)) (.node none (.node none .nil (.node none .nil (.node none (.node (some (b488 P)) .nil .nil) (.node (some (b642 P)) .nil .nil)))) (.node none .nil (.node none .nil (.node none (.node (some (b509 P)) .nil .nil) .nil)))))))))
def klist:Nat→Nat→KT→List (Nat × Obj)
 | _,_,.nil=>[]
 | s,b,.node v l r=>(match v with | some o=>[(b,o)] | none=>[])++(klist (2 * s) (s+b) l++klist (2 * s) (2 * s+b) r)
theorem klist_holds {h:Heap}:∀ (t:KT) (s b:Nat),(∀ p∈klist s b t,h.get? p.1=some p.2)→KT.Holds h s b t
 | .nil,_,_,_=>trivial
 | .node v l r,s,b,H=>by
  refine ⟨fun o e=>?_,klist_holds l _ _ fun p hp=>H p (List.mem_append_right _ (List.mem_append_left _ hp)),klist_holds r _ _ fun p hp=>H p (List.mem_append_right _ (List.mem_append_right _ hp))⟩
  subst e
  exact H (b,o) (List.mem_append_left _ (.head _))
theorem map_holds {f:Nat→Option Obj} (l:List (Nat × Obj)) (e:(l.map (·.1)).map f=l.map (fun p=>some p.2)):∀ p∈l,f p.1=some p.2:=by
 induction l with
 | nil=>intro p hp;cases hp
 | cons x l ih=>
  intro p hp
  rw [List.map_cons,List.map_cons,List.map_cons] at e
  injection e with e1 e2
  rcases List.mem_cons.mp hp with rfl | hp
  ·exact e1
  ·exact ih e2 p hp
def uAddrs:List Nat:=[0,3,15,127,351,991,783,591,111,583,727,35,131,515,323,963,355,787,659,467,979,651,971,107,811,747,1003,155,219,475,763,577,289,49,337,177,345,729,985,697,21,165,805,741,997,53,149,597,469,565,693,949,29,605,733,765,2,128,576,352,784,176,584,344,728,696,36,516,964,804,740,52,148,468,564,756,28,652,972,108,812,748,156,604,476,130,322,290,354,50,786,658,338,466,978,970,1002,218,986,762,22,166,998,598,694,950,590,110,734,990,766]
noncomputable def Yf (s:Shared):List (Option Obj) × Bool:=(uAddrs.map fun a=>s.heap.get? a,(s.heap.get? 1).isSome)
noncomputable def Ya (w:World):List (Option Obj) × Bool:=((klist 1 0 (kt w.params)).map fun p=>some p.2,true)
theorem k_addrs (w:World):(klist 1 0 (kt w.params)).map (·.1)=uAddrs:=by kernel_rfl
theorem k_used (w:World) (os:OsState):Yf (S8 w os)=Ya w:=by kernel_rfl
theorem kt_holds {w:World} {s:Shared} (e:Yf s=Ya w):KT.Holds s.heap 1 0 (kt w.params):=by
 refine klist_holds _ _ _ (map_holds (f:=fun a=>s.heap.get? a) _ ?_)
 rw [k_addrs w]
 exact congrArg Prod.fst e
theorem one_holds {w:World} {s:Shared} (e:Yf s=Ya w):(s.heap.get? 1).isSome=true:=congrArg Prod.snd e
end
noncomputable section
theorem bq2 {α:Type 1} {L R:Bool→Bool→α} (h0:L true true=R true true) (h1:L true false=R true false) (h2:L false true=R false true) (h3:L false false=R false false):∀ a b,L a b=R a b:=by
 intro a b
 cases a<;>cases b<;>assumption
theorem bq3 {α:Type 1} {L R:Bool→Bool→Bool→α} (h0:L true true true=R true true true) (h1:L true true false=R true true false) (h2:L true false true=R true false true) (h3:L true false false=R true false false) (h4:L false true true=R false true true) (h5:L false true false=R false true false) (h6:L false false true=R false false true) (h7:L false false false=R false false false):∀ a b c,L a b c=R a b c:=by
 intro a b c
 cases a<;>cases b<;>cases c<;>assumption
theorem bq4 {α:Type 1} {L R:Bool→Bool→Bool→Bool→α} (h0:L true true true true=R true true true true) (h1:L true true true false=R true true true false) (h2:L true true false true=R true true false true) (h3:L true true false false=R true true false false) (h4:L true false true true=R true false true true) (h5:L true false true false=R true false true false) (h6:L true false false true=R true false false true) (h7:L true false false false=R true false false false) (h8:L false true true true=R false true true true) (h9:L false true true false=R false true true false) (h10:L false true false true=R false true false true) (h11:L false true false false=R false true false false) (h12:L false false true true=R false false true true) (h13:L false false true false=R false false true false) (h14:L false false false true=R false false false true) (h15:L false false false false=R false false false false):∀ a b c d,L a b c d=R a b c d:=by
 intro a b c d
 cases a<;>cases b<;>cases c<;>cases d<;>assumption
def PP (w:World) (b1 b2:Bool):Params:={ w.params with followText:=fun r=>cond (PySem.W.S.eqLit 10139888712337904147300001983332972444938612 r) b1 (cond (PySem.W.S.eqLit 2510650655181157320538776789020469319833841985448949215332 r) b2 (w.params.followText r)) }
theorem eqLit_spec {n:Nat} {a b:String} (hb:PySem.W.S.codeS b=n) (h:PySem.W.S.eqLit n a=true):a=b:=by
 unfold PySem.W.S.eqLit at h
 refine PySem.code_inj _ _ ?_
 rw [PySem.W.S.code_S,PySem.W.S.code_S,hb]
 exact Nat.eq_of_beq_eq_true h
theorem PP_self (w:World):w.params=PP w (w.params.followText "special-get-raises") (w.params.followText "comprehension-iter-twice"):=by
 have e:(fun r=>cond (PySem.W.S.eqLit 10139888712337904147300001983332972444938612 r) (w.params.followText "special-get-raises") (cond (PySem.W.S.eqLit 2510650655181157320538776789020469319833841985448949215332 r) (w.params.followText "comprehension-iter-twice") (w.params.followText r)))=w.params.followText:=by
  funext r
  cases h:PySem.W.S.eqLit 10139888712337904147300001983332972444938612 r with
  | true=>
   have:r = "special-get-raises":=eqLit_spec (by kernel_rfl) h
   rw [this];rfl
  | false=>
   cases k:PySem.W.S.eqLit 2510650655181157320538776789020469319833841985448949215332 r with
   | true=>
    have:r = "comprehension-iter-twice":=eqLit_spec (by kernel_rfl) k
    rw [this];rfl
   | false=>rfl
 unfold PP
 rw [e]
abbrev a (x k:Nat):Nat:=Nat.add x k
abbrev en (P:Params) (s:Str) (t:Nat) (v:Value):DictEntry:=⟨PyData.keyHash P s,.str s t,v⟩
abbrev dn (r:Result) (L:Led) (x m t i:Nat) (o:List Nat):Out:=.done r L x m t i o o
abbrev ag (c:Code) (L:Led) (x m t i:Nat) (o:List Nat):Out:=.again c L x m t i o o
def go (P:Params) (kl:Led) (D n:Nat) (c:Code) (L:Led) (x m t i:Nat) (ds:List Nat) (sc:Scr):Out:=enterO (SS (kt P) kl P D) (exec (SS (kt P) kl P D) n) c .base L x m t i [] [] ds sc
structure Grd (w:World) (kl:Led) (G:Heap→Prop):Prop where
 mono:∀ g g':Heap,(∀ b o,g.get? b=some o→g'.get? b=some o)→G g→G g'
 known:∀ g,G g→KT.Holds g 1 0 (kt w.params)∧∀ q∈kl,g.get? q.1=some q.2
def G0 (w:World):Heap→Prop:=fun g=>KT.Holds g 1 0 (kt w.params)
theorem G0_ok (w:World):Grd w [] (G0 w):=⟨fun _ _ h=>KT.Holds.keeps h,fun _ h=>⟨h,fun _ hq=>nomatch hq⟩⟩
theorem ask_intro {w:World} {G:Heap→Prop} {kl:Led} {q:Asked} {l kn:Led} {x m t i D n:Nat} {P:Type} {sh:P→Shape} {c:Code} {ds:List Nat} {sc:Scr} (hG:Grd w kl G) (hq:∀ c',q.Is c'→c'=c)
  (H:∀ (g:Heap) (A:Around) (R:Result→Shared→Prop) (gs:Array GenState) (d:Drawn) (os:OsState),G g→Low D A→(∀ p h',Rep g ((sh p).all l) (Nat.add (sh p).x (sh p).m) h'→R (sh p).r ⟨h',gs,d,Nat.add (sh p).t (sh p).i,os⟩) →
   (go w.params kl D n c l x m t i ds sc).ok ⟨pw_qz0137_01,w,kt w.params,kl,G,D,g,A,R,gs,d,os⟩):AskOK pw_qz0137_01 w G q l kn x m t i D sh:=by
 intro c' hc g A R gs d os h hg _ low rep K
 have e:=hq c' hc
 subst e
 have O:(⟨pw_qz0137_01,w,kt w.params,kl,G,D,g,A,R,gs,d,os⟩:Ctl).Ok:=⟨hg,hG.mono,hG.known,low⟩
 exact (enter_sound O (SS_ok rfl) (exec (SS (kt w.params) kl w.params D) n) (exec_sound O (SS_ok rfl) n) (H g A R gs d os hg low K)).2 trivial h rep
theorem ask_run {w:World} {G:Heap→Prop} {kl:Led} {q:Asked} {l kn:Led} {x m t i D n:Nat} {P:Type} {sh:P→Shape} {c:Code} {ds:List Nat} {sc:Scr} {o:Out} (e:go w.params kl D n c l x m t i ds sc=o) (hG:Grd w kl G) (hq:∀ c',q.Is c'→c'=c)
  (H:∀ (g:Heap) (A:Around) (R:Result→Shared→Prop) (gs:Array GenState) (d:Drawn) (os:OsState),G g→Low D A→(∀ p h',Rep g ((sh p).all l) (Nat.add (sh p).x (sh p).m) h'→R (sh p).r ⟨h',gs,d,Nat.add (sh p).t (sh p).i,os⟩) →
   o.ok ⟨pw_qz0137_01,w,kt w.params,kl,G,D,g,A,R,gs,d,os⟩):AskOK pw_qz0137_01 w G q l kn x m t i D sh:=
 ask_intro hG hq fun g A R gs d os u v K=>e ▸ H g A R gs d os u v K
theorem AskOK.shift {w:World} {G:Heap→Prop} {q:Asked} {l kn:Led} {x m t i D:Nat} {P:Type} {sh:P→Shape} (h:AskOK pw_qz0137_01 w G q l kn (Nat.add x m) 0 (Nat.add t i) 0 D sh):AskOK pw_qz0137_01 w G q l kn x m t i D sh:=h
theorem AskOK.mono {w:World} {G G':Heap→Prop} {q:Asked} {l kn:Led} {x m t i D:Nat} {P:Type} {sh:P→Shape} (h:AskOK pw_qz0137_01 w G q l kn x m t i D sh) (k:∀ g,G' g→G g):AskOK pw_qz0137_01 w G' q l kn x m t i D sh:=
 fun c hc g A R gs d os hp hg=>h c hc g A R gs d os hp (k g hg)
theorem ValOK.mono {w:World} {G G':Heap→Prop} {q:Asked} {v:Value} {k t D:Nat} (h:ValOK pw_qz0137_01 w G q v k t D) (e:∀ g,G' g→G g):ValOK pw_qz0137_01 w G' q v k t D:=
 fun c hc g A R gs d os hp hg=>h c hc g A R gs d os hp (e g hg)
theorem val_gives {w:World} {G:Heap→Prop} {id:String} {args:List Value} {b:Builtin} {m:Made} {v:Value} {k t D:Nat} (hp:plainId id=true) (he:entryFor table id=some b) (g:Gives (b ⟨args,[]⟩) m)
  (hm:∀ (Q:Value→Shared→Prop) (h:Heap) (gs:Array GenState) (d:Drawn) (os:OsState),Q v ⟨h,gs,d,Nat.add t k,os⟩→m.post Q ⟨h,gs,d,t,os⟩):
  ValOK pw_qz0137_01 w G (.bi (PySem.W.S.codeS id) args) v k t D:=by
 intro c hc g' A R gs d os h _ _ _ K
 obtain ⟨id',hn,rfl⟩:=hc
 have:id'=id:=PySem.code_inj _ _ (hn.trans (PySem.W.S.code_S id).symm)
 subst this
 refine codeAny_builtin he ?_
 rw [Around.under_plainId hp]
 exact g _ _ _ _ _ (hm _ _ _ _ _ K)
section
variable {w:World} {G:Heap→Prop} {id:String} {args:List Value} {b:Builtin} {t D:Nat}
theorem v_val {v:Value} (hp:plainId id=true) (he:entryFor table id=some b) (g:Gives (b ⟨args,[]⟩) (.val v)):ValOK pw_qz0137_01 w G (.bi (PySem.W.S.codeS id) args) v 0 t D:=val_gives hp he g fun _ _ _ _ _ h=>h
theorem v_int {i:Int} (hp:plainId id=true) (he:entryFor table id=some b) (g:Gives (b ⟨args,[]⟩) (.int i)):ValOK pw_qz0137_01 w G (.bi (PySem.W.S.codeS id) args) (.int i t) 1 t D:=val_gives hp he g fun _ _ _ _ _ h=>h
theorem v_str {x:Str} (hp:plainId id=true) (he:entryFor table id=some b) (hx:x.length≤sizeLine) (g:Gives (b ⟨args,[]⟩) (.str x)):ValOK pw_qz0137_01 w G (.bi (PySem.W.S.codeS id) args) (.str x t) 1 t D:=val_gives hp he g fun _ _ _ _ _ h=>⟨hx,h⟩
end
section
variable {w:World} {G:Heap→Prop} {t D:Nat} (i j:Int) (u v:Tok)
theorem v_lt:ValOK pw_qz0137_01 w G (.bi (PySem.W.S.codeS "int.__lt__") [.int i u,.int j v]) (.bool (decide (i < j))) 0 t D:=v_val (by decide +kernel) F.entry_int_lt (gives_int_lt i j u v)
theorem v_le:ValOK pw_qz0137_01 w G (.bi (PySem.W.S.codeS "int.__le__") [.int i u,.int j v]) (.bool (decide (i≤j))) 0 t D:=v_val (by decide +kernel) F.entry_int_le (gives_int_le i j u v)
theorem v_gt:ValOK pw_qz0137_01 w G (.bi (PySem.W.S.codeS "int.__gt__") [.int i u,.int j v]) (.bool (decide (i > j))) 0 t D:=v_val (by decide +kernel) F.entry_int_gt (gives_int_gt i j u v)
theorem v_ge:ValOK pw_qz0137_01 w G (.bi (PySem.W.S.codeS "int.__ge__") [.int i u,.int j v]) (.bool (decide (i ≥ j))) 0 t D:=v_val (by decide +kernel) F.entry_int_ge (gives_int_ge i j u v)
theorem v_eq:ValOK pw_qz0137_01 w G (.bi (PySem.W.S.codeS "int.__eq__") [.int i u,.int j v]) (.bool (i == j)) 0 t D:=v_val (by decide +kernel) F.entry_int_eq (gives_int_eq i j u v)
theorem v_ne:ValOK pw_qz0137_01 w G (.bi (PySem.W.S.codeS "int.__ne__") [.int i u,.int j v]) (.bool (i != j)) 0 t D:=v_val (by decide +kernel) F.entry_int_ne (gives_int_ne i j u v)
theorem v_add:ValOK pw_qz0137_01 w G (.bi (PySem.W.S.codeS "int.__add__") [.int i u,.int j v]) (.int (i+j) t) 1 t D:=v_int (by decide +kernel) F.entry_int_add (gives_int_add i j u v)
theorem v_sub:ValOK pw_qz0137_01 w G (.bi (PySem.W.S.codeS "int.__sub__") [.int i u,.int j v]) (.int (i - j) t) 1 t D:=v_int (by decide +kernel) F.entry_int_sub (gives_int_sub i j u v)
end
end
noncomputable section
theorem range_map (s:Int) (n c:Nat) (hs:s=n) (d:Int) (hd:d.toNat=c):((List.range d.toNat).map fun (k:Nat)=>(s+1 * (k:Int)).toNat)=(List.range c).map (fun j=>n+j):=by
 rw [hd]
 refine List.map_congr_left fun j _=>?_
 subst hs
 omega
theorem sliceIx (n k len:Nat) (h:n≤len):Builtin.Str.strSliceIndices (some (Int.ofNat n)) (some (Int.ofNat (n+k))) 1 len=(List.range (min k (len - n))).map (fun j=>n+j):=by
 unfold Builtin.Str.strSliceIndices sliceRange
 simp only [show (1:Int) > 0 by decide,if_true]
 have e1:¬ ((Int.ofNat n) < 0):=by have:Int.ofNat n=(n:Int):=rfl;omega
 have e2:¬ ((Int.ofNat (n+k)) < 0):=by have:Int.ofNat (n+k)=((n+k:Nat):Int):=rfl;omega
 simp only [if_neg e1,if_neg e2]
 have a1:max 0 (min (Int.ofNat n) (len:Int))=(n:Int):=by have:Int.ofNat n=(n:Int):=rfl;omega
 have a2:max 0 (min (Int.ofNat (n+k)) (len:Int))=((n+min k (len - n):Nat):Int):=by have:Int.ofNat (n+k)=((n+k:Nat):Int):=rfl;omega
 rw [a1,a2]
 refine range_map _ n _ rfl _ ?_
 split<;>(try rw [Int.ediv_one])<;>omega
theorem pick_drop (l:List Nat) (n k:Nat):((List.range (min k (l.length - n))).map (fun j=>n+j)).filterMap (fun i=>(⟨l⟩:Array Nat)[i]?)=(l.drop n).take k:=by
 apply List.ext_getElem?
 intro i
 have e:∀ m,m≤l.length - n→((List.range m).map (fun j=>n+j)).filterMap (fun i=>(⟨l⟩:Array Nat)[i]?)=(l.drop n).take m:=by
  intro m
  induction m with
  | zero=>intro _;rfl
  | succ m ih=>
   intro hm
   rw [List.range_succ,List.map_append,List.filterMap_append,ih (by omega),List.take_add_one]
   congr 1
   have hlt:n+m < l.length:=by omega
   simp [List.getElem?_drop,List.getElem?_eq_getElem hlt]
 rw [e _ (Nat.min_le_right ..)]
 rw [List.getElem?_take,List.getElem?_take]
 by_cases h:k≤l.length - n
 ·rw [Nat.min_eq_left h]
 ·rw [Nat.min_eq_right (by omega)]
  by_cases hi:i < l.length - n
  ·rw [if_pos hi,if_pos (by omega)]
  ·rw [if_neg hi]
   by_cases hk:i < k
   ·rw [if_pos hk,List.getElem?_eq_none (by rw [List.length_drop];omega)]
   ·rw [if_neg hk]
def sub (l:List Nat) (n k:Nat):List Nat:=(l.drop n).take k
theorem slice_post {l:List Nat} {n k:Nat} (h:n≤l.length) (hsz:l.length≤sizeLine) {t u v:Tok} {Q:Value→Shared→Prop} {s:Shared} (hQ:∀ p:Nat × Nat,Q (.str (q (sub l n k)) p.1) { s with toks:=p.2 }):
  (sliceMade (q l) t (some (Int.ofNat n,u)) (some (Int.ofNat (n+k),v)) none).post Q s:=by
 have e:(slicePicked (q l) (some (Int.ofNat n,u)) (some (Int.ofNat (n+k),v)) none)=(List.range (min k (l.length - n))).map (fun j=>n+j):=by
  unfold slicePicked
  exact sliceIx n k l.length h
 have e2:=pick_drop l n k
 unfold sliceMade
 rw [e]
 split
 ·rename_i hc
  simp only [Bool.and_eq_true,beq_iff_eq,List.length_map,List.length_range] at hc
  have hl:min k (l.length - n)=l.length:=hc.2
  have:sub l n k=l:=by
   unfold sub
   by_cases h0:l.length=0
   ·rw [List.eq_nil_of_length_eq_zero h0];simp
   ·have hn:n=0:=by omega
    subst hn
    rw [List.drop_zero,List.take_of_length_le (by omega)]
  have z:=hQ (t,s.toks)
  rw [this] at z
  exact z
 ·have z:=hQ (s.toks,s.toks+1)
  refine ⟨?_,?_⟩
  ·show (Array.size _)≤_
   rw [List.size_toArray]
   refine Nat.le_trans (List.length_filterMap_le ..) ?_
   rw [List.length_map,List.length_range]
   omega
  ·have:(⟨(((List.range (min k (l.length - n))).map (fun j=>n+j)).filterMap ((q l).cps[·]?)).toArray⟩:Str)=q (sub l n k):=by
    show (Str.mk (List.toArray _))=Str.mk _
    exact congrArg (fun x:List Nat=>(⟨⟨x⟩⟩:Str)) e2
   rw [this]
   exact z
def oSl (u v:Value):Obj:=⟨.type "slice",none,.fields ⟨[u,v,.none]⟩,⟨[]⟩⟩
def slSh (l:List Nat) (n k:Nat) (u v:Value) (x t:Nat) (p:Nat × Nat):Shape:=⟨.ok (.ret (.str (q (sub l n k)) p.1)),[oSl u v],[],x,0,p.2,0,[]⟩
theorem slice_ok {w:World} {G:Heap→Prop} {kn:Led} {l:List Nat} {n k D:Nat} {tk u v b x m t i:Nat} (h:n≤l.length) (hsz:l.length≤sizeLine):
  AskOK pw_qz0137_01 w G (.bi (PySem.W.S.codeS "str.__getitem__") [.str (q l) tk,.ref b]) [(b,oSl (.int (Int.ofNat n) u) (.int (Int.ofNat (n+k)) v))] kn x m t i D (slSh l n k (.int (Int.ofNat n) u) (.int (Int.ofNat (n+k)) v) (Nat.add x m) (Nat.add t i)):=by
 intro c hc g A R gs d os hp _ _ _ rep K
 obtain ⟨id',hn,rfl⟩:=hc
 have:id' = "str.__getitem__":=PySem.code_inj _ _ (hn.trans (PySem.W.S.code_S _).symm)
 subst this
 refine codeAny_builtin F.entry_str_getitem ?_
 rw [Around.under_plainId (by decide +kernel)]
 refine meets_str_getitem_slice (q l) tk b (some (Int.ofNat n,u)) (some (Int.ofNat (n+k),v)) none rfl _ _ _ _ _ ⟨⟨_,(rep.own _ (.head _)).1,rfl,rfl⟩,?_⟩
 exact slice_post h hsz fun p=>K p hp rep
def oPT (d:Nat):Obj:=⟨.ref 355,some d,.plain,⟨[]⟩⟩
def dPT (P:Params) (K:Nat→Nat) (tx:List Nat) (n tn nm sp:Nat):Obj:=
 ⟨.type "dict",none,.dict ⟨[en P (q [116,101,120,116]) (K 0) (.str (q tx) (K 1)),en P (q [116,111,116,97,108]) (K 2) (.int 0 (K 3)),en P (q [97,116]) (K 4) (.int (Int.ofNat n) tn),en P (q [103,114,111,117,112,115]) (K 5) (.int 0 (K 6)),
  en P (q [100,101,112,116,104]) (K 7) (.int 0 (K 8)),en P (q [110,97,109,101,115]) (K 9) (.ref nm),en P (q [115,112,111,107,101,110]) (K 10) (.ref sp)]⟩ 7,⟨[]⟩⟩
end
noncomputable section
theorem peek_run (w:World) (x t s d nm sp tn:Nat) (K:Nat→Nat) (tx:List Nat) (n:Nat) (b1 b2:Bool):go (PP w b1 b2) [] 900 100000 (.call (.ref 345) ⟨[.ref s],[]⟩) [(s,oPT d),(d,dPT (PP w b1 b2) K tx n tn nm sp)] x 0 t 0 [1,0,0,2,0,0,0,2,3,0,0,0,0,3,0,0,0,3,3,0,4,2,3,0,0,0,0,3,0,0,0,3,3,0,4,2,3,0,0,0,0,3,0,0,0,3,3,0,4,0,2,0,2] (.val (fun t=>.int (Int.ofNat (n+1)) t) 1 (.ask [0] 99 950 (Nat × Nat) (slSh tx n 1 (.int (Int.ofNat n) tn) (.int (Int.ofNat (n+1)) (a t 5))) (fun p=>.keep [2,3])))=(.val (.bi (PySem.W.S.codeS "int.__add__") [.int (Int.ofNat n) tn,.int 1 (a t 4)]) (.int (Int.ofNat (a n 1)) (a t 5)) 1 (a t 5) 1 (.ask (.bi (PySem.W.S.codeS "str.__getitem__") [.str (q (tx)) (K 1),.ref (a x 1)]) [((a x 1),⟨.type "slice",none,.fields ⟨[.int (Int.ofNat n) tn,.int (Int.ofNat (a n 1)) (a t 5),.none]⟩,⟨[]⟩⟩)] [] x 2 t 6 1 950 (Nat × Nat) (slSh tx n 1 (Value.int (Int.ofNat n) tn) (Value.int (Int.ofNat (n+1)) (a t 5)) (Nat.add x 2) (Nat.add t 6)) (fun p=>(dn (.ok (.ret (.str (q (Mine.sub tx n 1)) (p.1)))) [(s,⟨.ref 355,(some d),.plain,⟨[]⟩⟩),(d,⟨.type "dict",none,.dict ⟨[en (PP w b1 b2) (q [116,101,120,116]) (K 0) (.str (q (tx)) (K 1)),en (PP w b1 b2) (q [116,111,116,97,108]) (K 2) (.int 0 (K 3)),en (PP w b1 b2) (q [97,116]) (K 4) (.int (Int.ofNat n) tn),en (PP w b1 b2) (q [103,114,111,117,112,115]) (K 5) (.int 0 (K 6)),en (PP w b1 b2) (q [100,101,112,116,104]) (K 7) (.int 0 (K 8)),en (PP w b1 b2) (q [110,97,109,101,115]) (K 9) (.ref nm),en (PP w b1 b2) (q [115,112,111,107,101,110]) (K 10) (.ref sp)]⟩ 7,⟨[]⟩⟩)] (a x 2) 0 (p.2) 0 [d,s,s,s,s,x,d,s,s,s,s,x,d,s,s,s,s,x,x,x])))):=by revert b1 b2;apply bq2<;>kernel_rfl
def pkSh (P:Params) (K:Nat→Nat) (tx:List Nat) (n tn nm sp d:Nat) (x t:Nat) (p:Nat × Nat):Shape:=⟨.ok (.ret (.str (q (sub tx n 1)) p.1)),[oPT d,dPT P K tx n tn nm sp],[],a x 2,0,p.2,0,[]⟩
theorem peek_ok {w:World} {kn:Led} {K:Nat→Nat} {tx:List Nat} {n tn nm sp s d x m t i:Nat} (h:n≤tx.length) (hsz:tx.length≤sizeLine):
  AskOK pw_qz0137_01 w (G0 w) (.fn 345 [.ref s]) [(s,oPT d),(d,dPT w.params K tx n tn nm sp)] kn x m t i 900 (pkSh w.params K tx n tn nm sp d (Nat.add x m) (Nat.add t i)):=by
 have e:=peek_run w (Nat.add x m) (Nat.add t i) s d nm sp tn K tx n (w.params.followText "special-get-raises") (w.params.followText "comprehension-iter-twice")
 rw [← PP_self w] at e
 exact AskOK.shift (ask_run e (G0_ok w) (fun _ h=>h) fun g A R gs dr os _ _ H=>
  ⟨v_add _ _ _ _,⟨(0,0)⟩,nble rfl,fun _=>rfl,slice_ok h hsz,fun p=>⟨rfl,fun h' r=>H p h' r⟩⟩)
end
noncomputable section
theorem v_len {w:World} {G:Heap→Prop} {t D k:Nat} {l:List Nat} {tk:Tok} (hk:l.length=k) (h:k≤sizeLine):ValOK pw_qz0137_01 w G (.bi (PySem.W.S.codeS "len") [.str (q l) tk]) (.int (Int.ofNat k) (a t 1)) 2 t D:=by
 subst hk
 intro c hc g' A R gs d os hp _ _ _ K
 obtain ⟨id',hn,rfl⟩:=hc
 have:id' = "len":=PySem.code_inj _ _ (hn.trans (PySem.W.S.code_S _).symm)
 subst this
 refine codeAny_builtin entry_len ?_
 rw [Around.under_plainId (by decide +kernel)]
 have hs:sizeLine=16777216:=rfl
 refine wpAny_mono (wpAny_len_body (Q:=fun r s'=>R (.ok (.ret r)) s') (T:="str") (n:=((q l).length:Int)) (typeIs_str _ _ _) F.slot_str_len F.entry_str_len (F.args_str_len_1 _) (gives_str_len (q l) tk) (by have:(0:Int)≤((q l).length:Int):=Int.natCast_nonneg _;omega) (by show ¬ ((l.length:Int) ≥ 2 ^ 63);omega) K) (fun fin s' h'=>?_) fun _ _ e=>e
 obtain ⟨r,rfl,hq⟩:=h'
 exact hq
section
variable {w:World} {G:Heap→Prop} {t D:Nat} {l l':List Nat} {u v:Tok}
theorem v_sne (h:l≠l'):ValOK pw_qz0137_01 w G (.bi (PySem.W.S.codeS "str.__ne__") [.str (q l) u,.str (q l') v]) (.bool true) 0 t D:=by
 have z:=v_val (w:=w) (G:=G) (t:=t) (D:=D) (id:="str.__ne__") (by decide +kernel) F.entry_str_ne (gives_str_ne (q l) (q l') u v)
 rw [show ((q l).cps.toList != (q l').cps.toList)=true from bne_iff_ne.mpr h] at z
 exact z
theorem v_seq (h:l≠l'):ValOK pw_qz0137_01 w G (.bi (PySem.W.S.codeS "str.__eq__") [.str (q l) u,.str (q l') v]) (.bool false) 0 t D:=by
 have z:=v_val (w:=w) (G:=G) (t:=t) (D:=D) (id:="str.__eq__") (by decide +kernel) F.entry_str_eq (gives_str_eq (q l) (q l') u v)
 rw [show ((q l).cps.toList == (q l').cps.toList)=false from beq_eq_false_iff_ne.mpr h] at z
 exact z
end
end
noncomputable section
theorem skips_run (w:World) (x t s d nm sp tn tw:Nat) (K:Nat→Nat) (tx wd:List Nat) (n k:Nat) (b1 b2:Bool):go (PP w b1 b2) [] 900 100000 (.call (.ref 352) ⟨[.ref s,.str (q wd) tw],[]⟩) [(s,oPT d),(d,dPT (PP w b1 b2) K tx n tn nm sp)] x 0 t 0 [1,0,0,2,0,2,0,0,0,2,3,0,0,0,0,3,0,0,0,3,3,0,4,2,3,0,0,0,0,3,0,0,0,3,3,0,4,2,3,0,0,0,0,3,0,0,0,3,3,0,4,0,0,2,0,2,0,2,0,2,3,0,2] (.val (fun t=>.int (Int.ofNat k) (a t 1)) 2 (.val (fun t=>.int (Int.ofNat (n+k)) t) 1 (.ask [0] 99 950 (Nat × Nat) (slSh tx n k (.int (Int.ofNat n) tn) (.int (Int.ofNat (n+k)) (a t 7))) (fun p=>.val (fun _=>.bool true) 0 (.keep [2,3])))))=(.val (.bi (PySem.W.S.codeS "len") [.str (q (wd)) tw]) (.int (Int.ofNat k) (a t 6)) 2 (a t 5) 1 (.val (.bi (PySem.W.S.codeS "int.__add__") [.int (Int.ofNat n) tn,.int (Int.ofNat k) (a t 6)]) (.int (Int.ofNat (n+k)) (a t 7)) 1 (a t 7) 1 (.ask (.bi (PySem.W.S.codeS "str.__getitem__") [.str (q (tx)) (K 1),.ref (a x 1)]) [((a x 1),⟨.type "slice",none,.fields ⟨[.int (Int.ofNat n) tn,.int (Int.ofNat (n+k)) (a t 7),.none]⟩,⟨[]⟩⟩)] [] x 2 t 8 1 950 (Nat × Nat) (slSh tx n k (Value.int (Int.ofNat n) tn) (Value.int (Int.ofNat (n+k)) (a t 7)) (Nat.add x 2) (Nat.add t 8)) (fun p=>(.val (.bi (PySem.W.S.codeS "str.__ne__") [.str (q (Mine.sub tx n k)) (p.1),.str (q (wd)) tw]) (.bool true) 0 (p.2) 1 (dn (.ok (.ret (.bool false))) [(s,⟨.ref 355,(some d),.plain,⟨[]⟩⟩),(d,⟨.type "dict",none,.dict ⟨[en (PP w b1 b2) (q [116,101,120,116]) (K 0) (.str (q (tx)) (K 1)),en (PP w b1 b2) (q [116,111,116,97,108]) (K 2) (.int 0 (K 3)),en (PP w b1 b2) (q [97,116]) (K 4) (.int (Int.ofNat n) tn),en (PP w b1 b2) (q [103,114,111,117,112,115]) (K 5) (.int 0 (K 6)),en (PP w b1 b2) (q [100,101,112,116,104]) (K 7) (.int 0 (K 8)),en (PP w b1 b2) (q [110,97,109,101,115]) (K 9) (.ref nm),en (PP w b1 b2) (q [115,112,111,107,101,110]) (K 10) (.ref sp)]⟩ 7,⟨[]⟩⟩)] (a x 2) 0 (p.2) 0 [x,x,d,s,s,s,s,x,d,s,s,s,s,x,d,s,s,s,s,x,x,x,x,x])))))):=by revert b1 b2;apply bq2<;>kernel_rfl
def skSh (P:Params) (K:Nat→Nat) (tx:List Nat) (n tn nm sp d:Nat) (x t:Nat) (p:Nat × Nat):Shape:=⟨.ok (.ret (.bool false)),[oPT d,dPT P K tx n tn nm sp],[],a x 2,0,p.2,0,[]⟩
theorem skips_ok {w:World} {kn:Led} {K:Nat→Nat} {tx wd:List Nat} {n tn nm sp s d tw x m t i:Nat} (h:n≤tx.length) (hsz:tx.length≤sizeLine) (hw:wd.length≤sizeLine) (hne:sub tx n wd.length≠wd):
  AskOK pw_qz0137_01 w (G0 w) (.fn 352 [.ref s,.str (q wd) tw]) [(s,oPT d),(d,dPT w.params K tx n tn nm sp)] kn x m t i 900 (skSh w.params K tx n tn nm sp d (Nat.add x m) (Nat.add t i)):=by
 have e:=skips_run w (Nat.add x m) (Nat.add t i) s d nm sp tn tw K tx wd n wd.length (w.params.followText "special-get-raises") (w.params.followText "comprehension-iter-twice")
 rw [← PP_self w] at e
 exact AskOK.shift (ask_run e (G0_ok w) (fun _ h=>h) fun g A R gs dr os _ _ H=>
  ⟨v_len rfl hw,v_add _ _ _ _,⟨(0,0)⟩,nble rfl,fun _=>rfl,slice_ok h hsz,fun p=>⟨v_sne hne,rfl,fun h' r=>H p h' r⟩⟩)
end
noncomputable section
def fbody:Stmt→List Stmt
 | .FunctionDef _ _ b ..=>b
 | _=>[]
def fenv (s:Stmt) (f c x:Nat):Env:=match s with
 | .FunctionDef name _ _ _ _ _ scope _ _ _=>{ scope,locals:=x,globals:=3,cells:=[],qual:=name++".<locals>.",func:=some f,code:=.ref c,frame:=some x,builtins:=0 }
 | _=>default
def whileOf (s:Stmt) (e:Env):Code:=match s with
 | .While t b o _=>.whileLoop t b o e
 | _=>.builtin "" ⟨[],[]⟩
def cgLoop (x:Nat):Code:=whileOf (sAt 2 (fbody (sAt 61 top))) (fenv (sAt 61 top) 476 475 x)
def cgF (P:Params) (K:Nat→Nat) (tx:List Nat) (n tn:Nat):Obj:=
 ⟨.type "frame",none,.dict ⟨[en P (q [116,101,120,116]) (K 0) (.str (q tx) (K 1)),en P (q [102,111,117,110,100]) (K 2) (.int 0 (K 3)),en P (q [97,116]) (K 4) (.int (Int.ofNat n) tn)]⟩ 3,⟨[]⟩⟩
end
noncomputable section
theorem cg_end (w:World) (x t f:Nat) (K:Nat→Nat) (tx:List Nat) (n k tn:Nat) (b1 b2:Bool):go (PP w b1 b2) [] 900 100000 (cgLoop f) [(f,cgF (PP w b1 b2) K tx n tn)] x 0 t 0 [0,2,0,0,2,0,2,0,2] (.val (fun t=>.int (Int.ofNat k) (a t 1)) 2 (.val (fun t=>.bool false) 0 (.keep [0])))=(.val (.bi (PySem.W.S.codeS "len") [.str (q (tx)) (K 1)]) (.int (Int.ofNat k) (a t 1)) 2 t 1 (.val (.bi (PySem.W.S.codeS "int.__lt__") [.int (Int.ofNat n) tn,.int (Int.ofNat k) (a t 1)]) (.bool false) 0 (a t 2) 1 (dn (.ok .next) [(f,⟨.type "frame",none,.dict ⟨[en (PP w b1 b2) (q [116,101,120,116]) (K 0) (.str (q (tx)) (K 1)),en (PP w b1 b2) (q [102,111,117,110,100]) (K 2) (.int 0 (K 3)),en (PP w b1 b2) (q [97,116]) (K 4) (.int (Int.ofNat n) tn)]⟩ 3,⟨[]⟩⟩)] x 0 t 2 [f,f]))):=by revert b1 b2;apply bq2<;>kernel_rfl
theorem cg_step (w:World) (x t f:Nat) (K:Nat→Nat) (tx:List Nat) (n k tn c:Nat) (b1 b2:Bool):go (PP w b1 b2) [] 900 100000 (cgLoop f) [(f,cgF (PP w b1 b2) K tx n tn)] x 0 t 0 [0,2,0,0,2,0,2,0,2,2,2,0,2,0,2,2,2,0,2,0,2,2,2,2,0,2,0,2,0,2,3,3,0,2,0,2,3,0,2,3,1,3] (.val (fun t=>.int (Int.ofNat k) (a t 1)) 2 (.val (fun t=>.bool true) 0 (.val (fun t=>.str (q [c]) t) 1 (.val (fun _=>.bool false) 0 (.val (fun t=>.str (q [c]) t) 1 (.val (fun _=>.bool false) 0 (.val (fun t=>.int (Int.ofNat (n+3)) t) 1 (.ask [0] 99 950 (Nat × Nat) (slSh tx n 3 (.int (Int.ofNat n) tn) (.int (Int.ofNat (n+3)) (a t 7))) (fun p=>.val (fun _=>.bool false) 0 (.val (fun t=>.str (q [c]) t) 1 (.val (fun _=>.bool false) 0 (.val (fun t=>.int (Int.ofNat (n+1)) t) 1 (.keep [1])))))))))))))=(.val (.bi (PySem.W.S.codeS "len") [.str (q (tx)) (K 1)]) (.int (Int.ofNat k) (a t 1)) 2 t 1 (.val (.bi (PySem.W.S.codeS "int.__lt__") [.int (Int.ofNat n) tn,.int (Int.ofNat k) (a t 1)]) (.bool true) 0 (a t 2) 1 (.val (.bi (PySem.W.S.codeS "str.__getitem__") [.str (q (tx)) (K 1),.int (Int.ofNat n) tn]) (.str (q [c]) (a t 2)) 1 (a t 2) 1 (.val (.bi (PySem.W.S.codeS "str.__eq__") [.str (q [c]) (a t 2),.str (q [92]) (a t 3)]) (.bool false) 0 (a t 4) 1 (.val (.bi (PySem.W.S.codeS "str.__getitem__") [.str (q (tx)) (K 1),.int (Int.ofNat n) tn]) (.str (q [c]) (a t 4)) 1 (a t 4) 1 (.val (.bi (PySem.W.S.codeS "str.__eq__") [.str (q [c]) (a t 4),.str (q [91]) (a t 5)]) (.bool false) 0 (a t 6) 1 (.val (.bi (PySem.W.S.codeS "int.__add__") [.int (Int.ofNat n) tn,.int 3 (a t 6)]) (.int (Int.ofNat (a n 3)) (a t 7)) 1 (a t 7) 1 (.ask (.bi (PySem.W.S.codeS "str.__getitem__") [.str (q (tx)) (K 1),.ref x]) [(x,⟨.type "slice",none,.fields ⟨[.int (Int.ofNat n) tn,.int (Int.ofNat (a n 3)) (a t 7),.none]⟩,⟨[]⟩⟩)] [] x 1 t 8 1 950 (Nat × Nat) (slSh tx n 3 (Value.int (Int.ofNat n) tn) (Value.int (Int.ofNat (n+3)) (a t 7)) (Nat.add x 1) (Nat.add t 8)) (fun p=>(.val (.bi (PySem.W.S.codeS "str.__eq__") [.str (q (Mine.sub tx n 3)) (p.1),.str (q [40,63,35]) (p.2)]) (.bool false) 0 (a (p.2) 1) 1 (.val (.bi (PySem.W.S.codeS "str.__getitem__") [.str (q (tx)) (K 1),.int (Int.ofNat n) tn]) (.str (q [c]) (a (p.2) 1)) 1 (a (p.2) 1) 1 (.val (.bi (PySem.W.S.codeS "str.__eq__") [.str (q [c]) (a (p.2) 1),.str (q [40]) (a (p.2) 2)]) (.bool false) 0 (a (p.2) 3) 1 (.val (.bi (PySem.W.S.codeS "int.__add__") [.int (Int.ofNat n) tn,.int 1 (a (p.2) 3)]) (.int (Int.ofNat (a n 1)) (a (p.2) 4)) 1 (a (p.2) 4) 1 (ag (cgLoop f) [(f,⟨.type "frame",none,.dict ⟨[en (PP w b1 b2) (q [116,101,120,116]) (K 0) (.str (q (tx)) (K 1)),en (PP w b1 b2) (q [102,111,117,110,100]) (K 2) (.int 0 (K 3)),en (PP w b1 b2) (q [97,116]) (K 4) (.int (Int.ofNat (a n 1)) (a (p.2) 4))]⟩ 3,⟨[]⟩⟩)] (a x 1) 0 (p.2) 6 [f,f,f,f,f,f,f,f,f,f,f,f,f,f])))))))))))))):=by revert b1 b2;apply bq2<;>kernel_rfl
theorem v_sget {w:World} {G:Heap→Prop} {t D n c:Nat} {l:List Nat} {u v:Tok} (h:l[n]?=some c) (hsz:l.length≤sizeLine):ValOK pw_qz0137_01 w G (.bi (PySem.W.S.codeS "str.__getitem__") [.str (q l) u,.int (Int.ofNat n) v]) (.str (q [c]) t) 1 t D:=by
 have hn:n < l.length:=(List.getElem?_eq_some_iff.mp h).1
 have hs:sizeLine=16777216:=rfl
 have ei:Int.ofNat n=(n:Int):=rfl
 have e1:seqIndex? (Int.ofNat n) (q l).length=some n:=by
  have:(q l).length=l.length:=rfl
  rw [this]
  unfold seqIndex?
  simp only [ei]
  split<;>(try split)<;>simp_all<;>omega
 refine v_str (by decide +kernel) F.entry_str_getitem (by show 1≤sizeLine;omega) (gives_str_getitem (q l) (Int.ofNat n) u v c ?_ ?_)
 ·simp only [ei,Bool.or_eq_false_iff,decide_eq_false_iff_not]
  omega
 ·rw [e1]
  show (⟨l⟩:Array Nat)[n]?=some c
  simpa using h
theorem v_lt_t {w:World} {G:Heap→Prop} {t D n k:Nat} {u v:Tok} (h:n < k):ValOK pw_qz0137_01 w G (.bi (PySem.W.S.codeS "int.__lt__") [.int (Int.ofNat n) u,.int (Int.ofNat k) v]) (.bool true) 0 t D:=by
 have z:=v_lt (w:=w) (G:=G) (t:=t) (D:=D) (Int.ofNat n) (Int.ofNat k) u v
 rw [decide_eq_true (by have a:Int.ofNat n=(n:Int):=rfl;have b:Int.ofNat k=(k:Int):=rfl;omega)] at z
 exact z
theorem v_lt_f {w:World} {G:Heap→Prop} {t D n k:Nat} {u v:Tok} (h:¬ n < k):ValOK pw_qz0137_01 w G (.bi (PySem.W.S.codeS "int.__lt__") [.int (Int.ofNat n) u,.int (Int.ofNat k) v]) (.bool false) 0 t D:=by
 have z:=v_lt (w:=w) (G:=G) (t:=t) (D:=D) (Int.ofNat n) (Int.ofNat k) u v
 rw [decide_eq_false (by have a:Int.ofNat n=(n:Int):=rfl;have b:Int.ofNat k=(k:Int):=rfl;omega)] at z
 exact z
end
noncomputable section
structure AB (tx:List Nat):Prop where
 sign:∀ c∈tx,c=97∨c=98
 size:tx.length≤1000
theorem AB.fits {tx:List Nat} (h:AB tx):tx.length≤sizeLine:=Nat.le_trans h.size (by show 1000≤16777216;omega)
theorem AB.ne {tx:List Nat} (h:AB tx) {n k:Nat} {c:Nat} {l:List Nat} (h1:c≠97) (h2:c≠98):sub tx n k≠c::l:=by
 intro e
 have:c∈sub tx n k:=e ▸ .head _
 have:=h.sign c (List.mem_of_mem_drop (List.mem_of_mem_take this))
 omega
theorem AB.ne1 {tx:List Nat} (h:AB tx) {c d:Nat} (hc:c∈tx) (h1:d≠97) (h2:d≠98):[c]≠[d]:=by
 intro e
 have:=h.sign c hc
 injection e with e
 omega
def cgSh (P:Params) (K:Nat→Nat) (tx:List Nat) (p:Nat × Nat × Nat):Shape:=⟨.ok .next,[cgF P K tx tx.length p.2.2],[],p.1,0,p.2.1,0,[]⟩
theorem cgLoop_ok {w:World} {K:Nat→Nat} {tx:List Nat} {f:Nat} (hT:AB tx):∀ (r n tn x t:Nat),n+r=tx.length →
  AskOK pw_qz0137_01 w (G0 w) (.code (cgLoop f)) [(f,cgF w.params K tx n tn)] [] x 0 t 0 900 (cgSh w.params K tx):=by
 intro r
 induction r with
 | zero=>
  intro n tn x t hn
  have e:=cg_end w x t f K tx n tx.length tn (w.params.followText "special-get-raises") (w.params.followText "comprehension-iter-twice")
  rw [← PP_self w] at e
  obtain rfl:n=tx.length:=by omega
  exact ask_run e (G0_ok w) (fun _ h=>h) fun g A R gs dr os _ _ H=>
   ⟨v_len rfl hT.fits,v_lt_f (Nat.lt_irrefl _),rfl,fun h' r=>H (x,a t 2,tn) h' r⟩
 | succ r ih=>
  intro n tn x t hn
  have hlt:n < tx.length:=by omega
  obtain ⟨c,hc⟩:∃ c,tx[n]?=some c:=⟨_,List.getElem?_eq_getElem hlt⟩
  have hm:c∈tx:=List.mem_of_getElem? hc
  have e:=cg_step w x t f K tx n tx.length tn c (w.params.followText "special-get-raises") (w.params.followText "comprehension-iter-twice")
  rw [← PP_self w] at e
  exact ask_run e (G0_ok w) (fun _ h=>h) fun g A R gs dr os hg low H=>
   ⟨v_len rfl hT.fits,v_lt_t hlt,v_sget hc hT.fits,v_seq (hT.ne1 hm (by decide) (by decide)),v_sget hc hT.fits,v_seq (hT.ne1 hm (by decide) (by decide)),v_add _ _ _ _,
    ⟨(0,0)⟩,nble rfl,fun _=>rfl,slice_ok (Nat.le_of_lt hlt) hT.fits,fun p=>
    ⟨v_seq (hT.ne (by decide) (by decide)),v_sget hc hT.fits,v_seq (hT.ne1 hm (by decide) (by decide)),v_add _ _ _ _,rfl,fun h' rep=>
     ih (n+1) (a p.2 4) (a x 1) (a p.2 6) (by omega) _ rfl g A R gs dr os h' hg (fun _ hq=>nomatch hq) low rep H⟩⟩
def cgK (t tk:Nat) (j:Nat):Nat:=match j with
 | 0=>t
 | 1=>tk
 | 2=>a t 2
 | 3=>a t 1
 | 4=>a t 4
 | _=>0
end
noncomputable section
theorem count_run (w:World) (x t tk:Nat) (tx:List Nat) (b1 b2:Bool):go (PP w b1 b2) [] 850 100000 (.call (.ref 476) ⟨[.str (q tx) tk],[]⟩) [] x 0 t 0 [1,0,0,2,0,0,0,2,0,2,0,2,2] (.ask [0] 99 900 (Nat × Nat × Nat) (fun x' t'=>cgSh (PP w b1 b2) (cgK t tk) tx) (fun p=>.keep []))=(.ask (.code (cgLoop x)) [(x,⟨.type "frame",none,.dict ⟨[en (PP w b1 b2) (q [116,101,120,116]) t (.str (q (tx)) tk),en (PP w b1 b2) (q [102,111,117,110,100]) (a t 2) (.int 0 (a t 1)),en (PP w b1 b2) (q [97,116]) (a t 4) (.int 0 (a t 3))]⟩ 3,⟨[]⟩⟩)] [] x 1 t 5 1 900 (Nat × Nat × Nat) ((fun x' t'=>cgSh (PP w b1 b2) (cgK t tk) tx) (Nat.add x 1) (Nat.add t 5)) (fun p=>(dn (.ok (.ret (.int 0 (a t 1)))) [] (p.1) 0 (p.snd.1) 0 [x,x,x,x,x,x,x]))):=by revert b1 b2;apply bq2<;>kernel_rfl
def ctSh (x t:Nat) (p:Nat × Nat × Nat):Shape:=⟨.ok (.ret (.int 0 (a t 1))),[],[],p.1,0,p.2.1,0,[]⟩
theorem count_ok {w:World} {kn:Led} {tx:List Nat} {tk x m t i:Nat} (hT:AB tx):AskOK pw_qz0137_01 w (G0 w) (.fn 476 [.str (q tx) tk]) [] kn x m t i 850 (ctSh (Nat.add x m) (Nat.add t i)):=by
 have e:=count_run w (Nat.add x m) (Nat.add t i) tk tx (w.params.followText "special-get-raises") (w.params.followText "comprehension-iter-twice")
 rw [← PP_self w] at e
 exact AskOK.shift (ask_run e (G0_ok w) (fun _ h=>h) fun g A R gs dr os _ _ H=>
  ⟨⟨(0,0,0)⟩,nble rfl,fun _=>rfl,AskOK.shift (cgLoop_ok (K:=cgK (Nat.add t i) tk) hT tx.length 0 _ _ _ (Nat.zero_add _)),fun p=>⟨rfl,fun h' r=>H p h' r⟩⟩)
end
noncomputable section
abbrev sg (c:Bool):Nat:=cond c 98 97
abbrev fl (f:Bool):List Nat:=cond f [105] []
def plSh (P:Params) (K:Nat→Nat) (tx:List Nat) (n tn nm sp d:Nat) (l:List Nat) (x t:Nat) (p:Nat × Nat):Shape:=⟨.ok (.ret (.str (q l) p.1)),[oPT d,dPT P K tx n tn nm sp],[],a x 2,0,p.2,0,[]⟩
theorem peek_l {w:World} {kn:Led} {K:Nat→Nat} {tx:List Nat} {n tn nm sp s d x m t i:Nat} {l:List Nat} (h:n≤tx.length) (hsz:tx.length≤sizeLine) (hl:sub tx n 1=l):
  AskOK pw_qz0137_01 w (G0 w) (.fn 345 [.ref s]) [(s,oPT d),(d,dPT w.params K tx n tn nm sp)] kn x m t i 900 (plSh w.params K tx n tn nm sp d l (Nat.add x m) (Nat.add t i)):=by
 subst hl
 exact peek_ok h hsz
theorem sub_some {l:List Nat} {n c:Nat} (h:l[n]?=some c):sub l n 1=[c]:=by
 unfold sub
 obtain ⟨hn,e⟩:=List.getElem?_eq_some_iff.mp h
 rw [List.drop_eq_getElem_cons hn,e]
 rfl
theorem sub_end {l:List Nat} {n:Nat} (h:l.length≤n):sub l n 1=[]:=by
 unfold sub
 rw [List.drop_eq_nil_of_le h]
 rfl
def oTup (l:List Value):Obj:=⟨.type "tuple",none,.seq ⟨l⟩ 0,⟨[]⟩⟩
def oLst (l:List Value) (e:Nat):Obj:=⟨.type "list",none,.seq ⟨l⟩ e,⟨[]⟩⟩
def rS (v:Value) (l:List Obj) (p:Nat × Nat):Shape:=⟨.ok (.ret v),l,[],p.1,0,p.2,0,[]⟩
abbrev stL (P:Params) (K:Nat→Nat) (tx:List Nat) (n tn nm sp d:Nat):List Obj:=[oPT d,dPT P K tx n tn nm sp]
def sW:List Nat:=[115,105,103,110]
def oSg (c:Nat) (f:Bool) (k1 k2:Nat):Obj:=oTup [.str (q sW) k1,.str (q [c]) k2,.bool f]
end
noncomputable section
theorem tc_run (w:World) (x t s d nm sp tn tf nd:Nat) (K:Nat→Nat) (tx:List Nat) (n:Nat) (c b1 b2:Bool):go (PP w b1 b2) [] 850 100000 (.call (.ref 516) ⟨[.ref s],[]⟩) [(s,oPT d),(d,dPT (PP w b1 b2) K tx n tn nm sp)] x 0 t 0 [1,0,0,2,0,0,0,2,3,0,0,0,3,0,0,0,3,0,0,0,0,3,4,0,2,2,0,2,0,0,2,0,0,0,0,0,0,0,0,0,2,0,0,2,0,2] (.ask [1,2] 99 900 (Nat × Nat) (plSh (PP w b1 b2) K tx n tn nm sp d [sg c]) fun p=>.keep [1,2])=(.ask (.fn 345 [.ref s]) [(s,(oPT d)),(d,(dPT (PP w b1 b2) K tx n tn nm sp))] [] x 1 t 1 1 900 (Nat × Nat) ((plSh (PP w b1 b2) K tx n tn nm sp d [sg c]) (Nat.add x 1) (Nat.add t 1)) (fun p=>(dn (.ok (.ret .none)) [(s,(oPT d)),(d,(dPT (PP w b1 b2) K tx n tn nm sp))] (a x 3) 0 (p.2) 5 [x,x,x,x,x,x,x,x,d,s,s,s,s,x,x,x]))):=by revert c b1 b2;apply bq3<;>kernel_rfl
theorem tc_end (w:World) (x t s d nm sp tn tf nd:Nat) (K:Nat→Nat) (tx:List Nat) (n:Nat) (b1 b2:Bool):go (PP w b1 b2) [] 850 100000 (.call (.ref 516) ⟨[.ref s],[]⟩) [(s,oPT d),(d,dPT (PP w b1 b2) K tx n tn nm sp)] x 0 t 0 [1,0,0,2,0,0,0,2,3,0,0,0,3,0,0,0,3,0,0,0,0,3,4,0,2,2,0,2,0,0,2,0,0,2,0,2] (.ask [1,2] 99 900 (Nat × Nat) (plSh (PP w b1 b2) K tx n tn nm sp d []) fun p=>.keep [1,2])=(.ask (.fn 345 [.ref s]) [(s,(oPT d)),(d,(dPT (PP w b1 b2) K tx n tn nm sp))] [] x 1 t 1 1 900 (Nat × Nat) ((plSh (PP w b1 b2) K tx n tn nm sp d []) (Nat.add x 1) (Nat.add t 1)) (fun p=>(dn (.ok (.ret .none)) [(s,(oPT d)),(d,(dPT (PP w b1 b2) K tx n tn nm sp))] (a x 3) 0 (p.2) 4 [x,x,x,x,x,x,x,d,s,s,s,s,x,x,x]))):=by revert b1 b2;apply bq2<;>kernel_rfl
theorem su_run (w:World) (x t s d nm sp tn tf nd:Nat) (K:Nat→Nat) (tx:List Nat) (n:Nat) (f b1 b2:Bool):go (PP w b1 b2) [] 850 100000 (.call (.ref 565) ⟨[.ref s,.str (q (fl f)) tf],[]⟩) [(s,oPT d),(d,dPT (PP w b1 b2) K tx n tn nm sp)] x 0 t 0 [1,0,0,2,0,2,0,0,0,2,3,0,0,0,3,0,0,0,3,0,0,0,0,3,4,0,2,2,0,0] (.ask [1,2] 99 900 (Nat × Nat) (skSh (PP w b1 b2) K tx n tn nm sp d) fun p=>.keep [1,2])=(.ask (.fn 352 [.ref s,.str (q [40,63,35]) (a t 2)]) [(s,(oPT d)),(d,(dPT (PP w b1 b2) K tx n tn nm sp))] [] x 1 t 3 1 900 (Nat × Nat) ((skSh (PP w b1 b2) K tx n tn nm sp d) (Nat.add x 1) (Nat.add t 3)) (fun p=>(dn (.ok (.ret (.bool false))) [(s,(oPT d)),(d,(dPT (PP w b1 b2) K tx n tn nm sp))] (a x 3) 0 (p.2) 1 [x,d,s,s,s,s,x,x,x,x,x]))):=by revert f b1 b2;apply bq3<;>kernel_rfl
theorem ri_run (w:World) (x t s d nm sp tn tf nd:Nat) (K:Nat→Nat) (tx:List Nat) (n:Nat) (f b1 b2:Bool):go (PP w b1 b2) [] 850 100000 (.call (.ref 577) ⟨[.ref s,.str (q (fl f)) tf],[]⟩) [(s,oPT d),(d,dPT (PP w b1 b2) K tx n tn nm sp)] x 0 t 0 [1,0,0,2,0,2,0,0,0,2,3,0,0,0,0,3,0,0,0,3,3,0,4,2,0,2,3,0,0,0,3,0,0,0,3,0,0,0,0,3,4,0,2] (.ask [1,2] 99 900 (Nat × Nat) (skSh (PP w b1 b2) K tx n tn nm sp d) fun p=>.keep [1,2])=(.ask (.fn 352 [.ref s,.str (q [40,63]) (a t 4)]) [(s,(oPT d)),(d,(dPT (PP w b1 b2) K tx n tn nm sp))] [] x 1 t 5 1 900 (Nat × Nat) ((skSh (PP w b1 b2) K tx n tn nm sp d) (Nat.add x 1) (Nat.add t 5)) (fun p=>(dn (.ok (.ret .none)) [(s,(oPT d)),(d,(dPT (PP w b1 b2) K tx n tn nm sp))] (a x 3) 0 (p.2) 0 [d,s,s,s,s,x,x,x,d,s,s,s,s,x,x,x,x,x]))):=by revert f b1 b2;apply bq3<;>kernel_rfl
theorem rc_run (w:World) (x t s d nm sp tn tf nd:Nat) (K:Nat→Nat) (tx:List Nat) (n:Nat) (f b1 b2:Bool):go (PP w b1 b2) [] 800 100000 (.call (.ref 605) ⟨[.ref s,.str (q (fl f)) tf,.ref nd],[]⟩) [(s,oPT d),(d,dPT (PP w b1 b2) K tx n tn nm sp)] x 0 t 0 [1,0,0,2,0,2,0,2,0,0,0,0,0,2,2,0,2,0,2,0,2,2,0,2,2] (.ask [1,2] 99 850 (Nat × Nat) (fun _ _=>rS (.bool false) (stL (PP w b1 b2) K tx n tn nm sp d)) fun p=>.ask [1,2] 99 850 (Nat × Nat) (fun _ _=>rS .none (stL (PP w b1 b2) K tx n tn nm sp d)) fun p=>.keep [1,2])=(.ask (.fn 565 [.ref s,.str (q (fl f)) tf]) [(s,(oPT d)),(d,(dPT (PP w b1 b2) K tx n tn nm sp))] [] x 1 t 3 2 850 (Nat × Nat) ((fun x x_1=>rS (Value.bool false) (stL (PP w b1 b2) K tx n tn nm sp d)) (Nat.add x 1) (Nat.add t 3)) (fun p=>(.ask (.fn 516 [.ref s]) [(s,(oPT d)),(d,(dPT (PP w b1 b2) K tx n tn nm sp))] [] (p.1) 0 (p.2) 0 1 850 (Nat × Nat) ((fun x x_1=>rS Value.none (stL (PP w b1 b2) K tx n tn nm sp d)) (Nat.add (p.1) 0) (Nat.add (p.2) 0)) (fun p=>(dn (.ok (.ret (.ref nd))) [(s,(oPT d)),(d,(dPT (PP w b1 b2) K tx n tn nm sp))] (p.1) 0 (p.2) 1 [x,x,x,x,x,x,x,x,x,x,x,x,x]))))):=by revert f b1 b2;apply bq3<;>kernel_rfl
theorem ra_run (w:World) (x t s d nm sp tn tf nd:Nat) (K:Nat→Nat) (tx:List Nat) (n:Nat) (f c b1 b2:Bool):go (PP w b1 b2) [] 850 100000 (.call (.ref 598) ⟨[.ref s,.str (q (fl f)) tf],[]⟩) [(s,oPT d),(d,dPT (PP w b1 b2) K tx n tn nm sp)] x 0 t 0 [1,0,0,2,0,2,0,0,0,2,3,0,0,0,3,0,0,0,3,0,0,0,0,3,4,0,2,2,0,2,0,0,2,0,0,2,0,0,2,0,0,0,0,0,0,0,0,0,2,0,0,2,3,0,0,0,0,3,0,0,0,3,3,0,4,0,2,3,0,0,0,0,3,0,0,3,0,3,0,0,0,3,0,4,2,4,2,0,0,2,0,0,2,0,0,2,2,0,0] (.ask [1,2] 99 900 (Nat × Nat) (plSh (PP w b1 b2) K tx n tn nm sp d [sg c]) fun p=>.val (fun t=>.int (Int.ofNat (n+1)) t) 1 <| .keep [0,2,3])=(.ask (.fn 345 [.ref s]) [(s,(oPT d)),(d,(dPT (PP w b1 b2) K tx n tn nm sp))] [] x 1 t 2 1 900 (Nat × Nat) ((plSh (PP w b1 b2) K tx n tn nm sp d [sg c]) (Nat.add x 1) (Nat.add t 2)) (fun p=>(.val (.bi (PySem.W.S.codeS "int.__add__") [.int (Int.ofNat n) tn,.int 1 (a (p.2) 7)]) (.int (Int.ofNat (a n 1)) (a (p.2) 8)) 1 (a (p.2) 8) 1 (dn (.ok (.ret (.ref (a x 3)))) [((a x 3),⟨.type "tuple",none,.seq ⟨[.str (q [115,105,103,110]) (a (p.2) 14),.str (q [(sg c)]) (p.1),.bool f]⟩ 0,⟨[]⟩⟩),(s,(oPT d)),(d,(dPT (PP w b1 b2) K tx (a n 1) (a (p.2) 8) nm sp))] (a x 3) 1 (p.2) 16 [x,x,x,x,x,d,d,d,s,s,s,s,s,d,s,s,s,s,x,x,x,x,x,x,x,x,d,s,s,s,s,x,x,x,x,x])))):=by revert f c b1 b2;apply bq4<;>kernel_rfl
theorem AB.at {tx:List Nat} (h:AB tx) {n:Nat} (hn:n < tx.length):∃ c:Bool,tx[n]?=some (sg c):=by
 have hm:tx[n]∈tx:=List.getElem_mem hn
 rcases h.sign _ hm with e | e
 ·exact ⟨false,by rw [List.getElem?_eq_getElem hn,e];rfl⟩
 ·exact ⟨true,by rw [List.getElem?_eq_getElem hn,e];rfl⟩
theorem AB.ne0 {tx:List Nat} (h:AB tx) {n k:Nat} {wd:List Nat} (hw:∃ c l,wd=c::l∧c≠97∧c≠98):sub tx n k≠wd:=by
 obtain ⟨c,l,rfl,h1,h2⟩:=hw
 exact h.ne h1 h2
section
variable {w:World} {kn:Led} {K:Nat→Nat} {tx:List Nat} {n tn nm sp s d tf nd x m t i:Nat} {f:Bool} (hT:AB tx) (hn:n≤tx.length)
include hT hn
theorem tc_ok:AskOK pw_qz0137_01 w (G0 w) (.fn 516 [.ref s]) [(s,oPT d),(d,dPT w.params K tx n tn nm sp)] kn x m t i 850 (rS .none (stL w.params K tx n tn nm sp d)):=by
 by_cases hlt:n < tx.length
 ·obtain ⟨c,hc⟩:=hT.at hlt
  have e:=tc_run w (Nat.add x m) (Nat.add t i) s d nm sp tn 0 0 K tx n c (w.params.followText "special-get-raises") (w.params.followText "comprehension-iter-twice")
  rw [← PP_self w] at e
  exact AskOK.shift (ask_run e (G0_ok w) (fun _ h=>h) fun g A R gs dr os hg low H=>
   ⟨⟨(0,0)⟩,nble rfl,fun _=>rfl,peek_l hn hT.fits (sub_some hc),fun p=>⟨rfl,fun h' r=>H (_,_) h' r⟩⟩)
 ·have e:=tc_end w (Nat.add x m) (Nat.add t i) s d nm sp tn 0 0 K tx n (w.params.followText "special-get-raises") (w.params.followText "comprehension-iter-twice")
  rw [← PP_self w] at e
  exact AskOK.shift (ask_run e (G0_ok w) (fun _ h=>h) fun g A R gs dr os hg low H=>
   ⟨⟨(0,0)⟩,nble rfl,fun _=>rfl,peek_l hn hT.fits (sub_end (by omega)),fun p=>⟨rfl,fun h' r=>H (_,_) h' r⟩⟩)
theorem su_ok:AskOK pw_qz0137_01 w (G0 w) (.fn 565 [.ref s,.str (q (fl f)) tf]) [(s,oPT d),(d,dPT w.params K tx n tn nm sp)] kn x m t i 850 (rS (.bool false) (stL w.params K tx n tn nm sp d)):=by
 have e:=su_run w (Nat.add x m) (Nat.add t i) s d nm sp tn tf 0 K tx n f (w.params.followText "special-get-raises") (w.params.followText "comprehension-iter-twice")
 rw [← PP_self w] at e
 exact AskOK.shift (ask_run e (G0_ok w) (fun _ h=>h) fun g A R gs dr os hg low H=>
  ⟨⟨(0,0)⟩,nble rfl,fun _=>rfl,skips_ok hn hT.fits (by decide) (hT.ne0 ⟨_,_,rfl,by decide,by decide⟩),fun p=>⟨rfl,fun h' r=>H (_,_) h' r⟩⟩)
theorem ri_ok:AskOK pw_qz0137_01 w (G0 w) (.fn 577 [.ref s,.str (q (fl f)) tf]) [(s,oPT d),(d,dPT w.params K tx n tn nm sp)] kn x m t i 850 (rS .none (stL w.params K tx n tn nm sp d)):=by
 have e:=ri_run w (Nat.add x m) (Nat.add t i) s d nm sp tn tf 0 K tx n f (w.params.followText "special-get-raises") (w.params.followText "comprehension-iter-twice")
 rw [← PP_self w] at e
 exact AskOK.shift (ask_run e (G0_ok w) (fun _ h=>h) fun g A R gs dr os hg low H=>
  ⟨⟨(0,0)⟩,nble rfl,fun _=>rfl,skips_ok hn hT.fits (by decide) (hT.ne0 ⟨_,_,rfl,by decide,by decide⟩),fun p=>⟨rfl,fun h' r=>H (_,_) h' r⟩⟩)
theorem rc_ok:AskOK pw_qz0137_01 w (G0 w) (.fn 605 [.ref s,.str (q (fl f)) tf,.ref nd]) [(s,oPT d),(d,dPT w.params K tx n tn nm sp)] kn x m t i 800 (rS (.ref nd) (stL w.params K tx n tn nm sp d)):=by
 have e:=rc_run w (Nat.add x m) (Nat.add t i) s d nm sp tn tf nd K tx n f (w.params.followText "special-get-raises") (w.params.followText "comprehension-iter-twice")
 rw [← PP_self w] at e
 exact AskOK.shift (ask_run e (G0_ok w) (fun _ h=>h) fun g A R gs dr os hg low H=>
  ⟨⟨(0,0)⟩,nble rfl,fun _=>rfl,su_ok hT hn,fun p=>⟨⟨(0,0)⟩,nble rfl,fun _=>rfl,tc_ok hT hn,fun p=>⟨rfl,fun h' r=>H (_,_) h' r⟩⟩⟩)
end
structure RA where
 r:Nat
 k1:Nat
 k2:Nat
 tn:Nat
 x:Nat
 t:Nat
def raSh (P:Params) (K:Nat→Nat) (tx:List Nat) (n nm sp d:Nat) (c:Nat) (f:Bool) (p:RA):Shape:=⟨.ok (.ret (.ref p.r)),stL P K tx (n+1) p.tn nm sp d,[(p.r,oSg c f p.k1 p.k2)],p.x,0,p.t,0,[]⟩
theorem ra_ok {w:World} {kn:Led} {K:Nat→Nat} {tx:List Nat} {n tn nm sp s d tf x m t i:Nat} {f c:Bool} (hT:AB tx) (hc:tx[n]?=some (sg c)):
  AskOK pw_qz0137_01 w (G0 w) (.fn 598 [.ref s,.str (q (fl f)) tf]) [(s,oPT d),(d,dPT w.params K tx n tn nm sp)] kn x m t i 850 (raSh w.params K tx n nm sp d (sg c) f):=by
 have e:=ra_run w (Nat.add x m) (Nat.add t i) s d nm sp tn tf 0 K tx n f c (w.params.followText "special-get-raises") (w.params.followText "comprehension-iter-twice")
 rw [← PP_self w] at e
 have hn:n < tx.length:=(List.getElem?_eq_some_iff.mp hc).1
 exact AskOK.shift (ask_run e (G0_ok w) (fun _ h=>h) fun g A R gs dr os hg low H=>
  ⟨⟨(0,0)⟩,nble rfl,fun _=>rfl,peek_l (Nat.le_of_lt hn) hT.fits (sub_some hc),fun p=>⟨v_add _ _ _ _,rfl,fun h' r=>H ⟨_,_,_,_,_,_⟩ h' r⟩⟩)
end
noncomputable section
def rbLoop (x:Nat):Code:=whileOf (sAt 1 (fbody (sAt 82 top))) (fenv (sAt 82 top) 591 590 x)
def rbF (P:Params) (J:Nat→Nat) (f g:Bool) (s pl:Nat):Obj:=
 ⟨.type "frame",none,.dict ⟨en P (q [115,116,97,116,101]) (J 0) (.ref s)::en P (q [102,108,97,103,115]) (J 1) (.str (q (fl f)) (J 2))::en P (q [112,97,114,116,115]) (J 3) (.ref pl)::cond g [en P (q [99,104,97,110,103,101,100]) (J 4) .none] []⟩ (cond g 4 3),⟨[]⟩⟩
theorem ask_meetsIn {w:World} {G:Heap→Prop} {id:String} {args:List Value} {b:Builtin} {S:PySem.Spec} {l kn:Led} {x m t i D:Nat} {P:Type} {sh:P→Shape} (hp:plainId id=true) (he:entryFor table id=some b) (M:MeetsIn pw_qz0137_01 w (b ⟨args,[]⟩) S)
  (H:∀ (g:Heap) (A:Around) (R:Result→Shared→Prop) (gs:Array GenState) (d:Drawn) (os:OsState) (h:Heap),G g→(∀ q∈kn,g.get? q.1=some q.2)→Low D A→Rep g l (Nat.add x m) h →
   (∀ p h',Rep g ((sh p).all l) (Nat.add (sh p).x (sh p).m) h'→R (sh p).r ⟨h',gs,d,Nat.add (sh p).t (sh p).i,os⟩)→S A R ⟨h,gs,d,Nat.add t i,os⟩):
  AskOK pw_qz0137_01 w G (.bi (PySem.W.S.codeS id) args) l kn x m t i D sh:=by
 intro c hc g A R gs d os h hg hkn low rep K
 obtain ⟨id',hn,rfl⟩:=hc
 have:id'=id:=PySem.code_inj _ _ (hn.trans (PySem.W.S.code_S _).symm)
 subst this
 refine codeAny_builtin he ?_
 rw [Around.under_plainId hp]
 exact M A R _ (H g A R gs d os h hg hkn low rep K)
theorem ask_meets {w:World} {G:Heap→Prop} {id:String} {args:List Value} {b:Builtin} {S:PySem.Spec} {l kn:Led} {x m t i D:Nat} {P:Type} {sh:P→Shape} (hp:plainId id=true) (he:entryFor table id=some b) (M:Meets (b ⟨args,[]⟩) S)
  (H:∀ (g:Heap) (A:Around) (R:Result→Shared→Prop) (gs:Array GenState) (d:Drawn) (os:OsState) (h:Heap),G g→(∀ q∈kn,g.get? q.1=some q.2)→Low D A→Rep g l (Nat.add x m) h →
   (∀ p h',Rep g ((sh p).all l) (Nat.add (sh p).x (sh p).m) h'→R (sh p).r ⟨h',gs,d,Nat.add (sh p).t (sh p).i,os⟩)→S A R ⟨h,gs,d,Nat.add t i,os⟩):
  AskOK pw_qz0137_01 w G (.bi (PySem.W.S.codeS id) args) l kn x m t i D sh:=ask_meetsIn hp he (M.inModel _ _) H
def kS (v:Nat→Value) (l:List Obj) (k:Nat) (x t:Nat) (_:Unit):Shape:=⟨.ok (.ret (v t)),l,[],x,0,t,k,[]⟩
theorem append_ok {w:World} {G:Heap→Prop} {kn:Led} {ps:List Value} {ep pl x m t i D:Nat} {v:Value} (hsz:ps.length≤sizeLine):
  AskOK pw_qz0137_01 w G (.bi (PySem.W.S.codeS "list.append") [.ref pl,v]) [(pl,oLst ps ep)] kn x m t i D (kS (fun _=>.none) [oLst (ps++[v]) (ep+1)] 0 (Nat.add x m) (Nat.add t i)):=by
 refine ask_meets (by decide +kernel) F.entry_list_append (AutoListH.list_append_list_val_0 pl ⟨ps⟩ ep v hsz) fun g A R gs d os h _ _ _ rep K=>⟨(rep.own _ (.head _)).1,?_⟩
 have z:=rep.update (p:=0) (q:=(pl,oLst ps ep)) (f:=Obj.mapSeq fun x=>x.push v) rfl rfl
 have e:Obj.mapSeq (fun x=>x.push v) (oLst ps ep)=oLst (ps++[v]) (ep+1):=by
  have h1:((Array.push (⟨ps⟩:Array Value) v).size == (⟨ps⟩:Array Value).size)=false:=by
   rw [Array.size_push]
   exact beq_eq_false_iff_ne.mpr (Nat.succ_ne_self _)
  show Obj.mk _ _ (.seq (Array.push ⟨ps⟩ v) (if ((Array.push (⟨ps⟩:Array Value) v).size == (⟨ps⟩:Array Value).size)=true then ep else ep+1)) _=Obj.mk _ _ (.seq ⟨ps++[v]⟩ (ep+1)) _
  rw [h1,List.push_toArray]
  rfl
 rw [e] at z
 exact K () _ z
open SeqAt in
theorem contains_nil_ok {w:World} {G:Heap→Prop} {kn:Led} {tl x m t i D:Nat} {k1 k2 k3 k4:Tok}:
  AskOK pw_qz0137_01 w G (.bi (PySem.W.S.codeS "tuple.__contains__") [.ref tl,.str (q []) k2]) [(tl,oTup [.str (q []) k1,.str (q [124]) k3,.str (q [41]) k4])] kn x m t i D (kS (fun _=>.bool true) [oTup [.str (q []) k1,.str (q [124]) k3,.str (q [41]) k4]] 0 (Nat.add x m) (Nat.add t i)):=by
 refine ask_meets (by decide +kernel) F.entry_tuple_contains (tuple_containsAt tl ⟨[.str (q []) k1,.str (q [124]) k3,.str (q [41]) k4]⟩ 0 none ⟨[]⟩ _ fun y=>match y with | .str a _=>a == q [] | _=>false) fun g A R gs d os h _ _ _ rep K=>⟨(rep.own _ (.head _)).1,?_,?_⟩
 ·intro y hy
  have:y∈[Value.str (q []) k1,.str (q [124]) k3,.str (q [41]) k4]:=Array.mem_toList_iff.mpr hy
  simp only [List.mem_cons,List.not_mem_nil,or_false] at this
  rcases this with rfl | rfl | rfl<;>exact EqAt.str_str _ _ _ _
 ·have:(Array.any (⟨[Value.str (q []) k1,.str (q [124]) k3,.str (q [41]) k4]⟩:Array Value) fun y=>match y with | .str a _=>a == q [] | _=>false)=true:=by
   rw [← Array.any_toList]
   rfl
  rw [this]
  exact K () _ rep
end
noncomputable section
theorem use_ask {w:World} {G:Heap→Prop} {qq:Asked} {l:Led} {x m t i D:Nat} {P:Type} {sh:P→Shape} (H:AskOK pw_qz0137_01 w G qq l [] x m t i D sh)
  (mono:∀ g g':Heap,(∀ b o,g.get? b=some o→g'.get? b=some o)→G g→G g') {c:Code} (hc:qq.Is c) {g:Heap} {A:Around} {R:Result→Shared→Prop} {gs:Array GenState} {dr:Drawn} {os:OsState} {h:Heap} {L:Led} {ps:List Nat}
  (hs:sel L ps=some l) (hg:G g) (low:Low D A) (rep:Rep g L (Nat.add x m) h) (hlen:∀ p,(sh p).upd.length=l.length)
  (K:∀ p h',Rep g ((sh p).new++puts L ps (sh p).upd++(sh p).tail) (Nat.add (sh p).x (sh p).m) h'→R (sh p).r ⟨h',gs,dr,Nat.add (sh p).t (sh p).i,os⟩):
  codeAny (model pw_qz0137_01 w) A c R ⟨h,gs,dr,Nat.add t i,os⟩:=by
 have s:=sel_spec hs
 exact H c hc (hideAll h (l.map (·.1))) A R gs dr os h (mono _ _ (sub_hide rep s.sub) hg) (fun _ hq=>nomatch hq) low (rep.hide s) fun p h' D'=>K p h' (rep.back s (hlen p) D')
theorem G0_mono (w:World):∀ g g':Heap,(∀ b o,g.get? b=some o→g'.get? b=some o)→G0 w g→G0 w g':=(G0_ok w).mono
structure Nd where
 r:Nat
 k1:Nat
 k2:Nat
def nodes (f:Bool):List Nat→List Nd→Led
 | [],_=>[]
 | c::cs,ts=>match ts with
  | []=>[]
  | n::ts=>(n.r,oSg c f n.k1 n.k2)::nodes f cs ts
def nrefs:List Nd→List Value
 | []=>[]
 | n::ts=>.ref n.r::nrefs ts
theorem rb_end (w:World) (x t fr s d nm sp tn pl ep:Nat) (J K:Nat→Nat) (tx:List Nat) (n:Nat) (ps:List Value) (f g b1 b2:Bool):go (PP w b1 b2) [] 750 100000 (rbLoop fr) [(fr,rbF (PP w b1 b2) J f g s pl),(s,oPT d),(d,dPT (PP w b1 b2) K tx n tn nm sp),(pl,oLst ps ep)] x 0 t 0 [0,2,3,0,0,0,3,0,0,0,3,0,0,0,0,3,4,0,2,2,2,0,2,2] (.ask [1,2] 99 900 (Nat × Nat) (plSh (PP w b1 b2) K tx n tn nm sp d []) fun p=>.ask [0] 99 950 Unit (kS (fun _=>.bool true) [oTup [.str (q []) p.2,.str (q [124]) (a p.2 1),.str (q [41]) (a p.2 2)]] 0) fun _=>.keep [1,2,3,4])=(.ask (.fn 345 [.ref s]) [(s,(oPT d)),(d,(dPT (PP w b1 b2) K tx n tn nm sp))] [] x 0 t 0 1 900 (Nat × Nat) ((plSh (PP w b1 b2) K tx n tn nm sp d []) (Nat.add x 0) (Nat.add t 0)) (fun p1=>(.ask (.bi (PySem.W.S.codeS "tuple.__contains__") [.ref (a x 2),.str (q []) (p1.1)]) [((a x 2),⟨.type "tuple",none,.seq ⟨[.str (q []) (p1.2),.str (q [124]) (a (p1.2) 1),.str (q [41]) (a (p1.2) 2)]⟩ 0,⟨[]⟩⟩)] [] (a x 2) 1 (p1.2) 3 1 950 (Unit) ((kS (fun x=>Value.bool true) [oTup [Value.str (q []) p1.snd,Value.str (q [124]) (a p1.snd 1),Value.str (q [41]) (a p1.snd 2)]] 0) (Nat.add (a x 2) 1) (Nat.add (p1.2) 3)) (fun p2=>(dn (.ok .next) [(fr,⟨.type "frame",none,.dict ⟨(cond g [en (PP w b1 b2) (q [115,116,97,116,101]) (J 0) (.ref s),en (PP w b1 b2) (q [102,108,97,103,115]) (J 1) (.str (q (fl f)) (J 2)),en (PP w b1 b2) (q [112,97,114,116,115]) (J 3) (.ref pl),en (PP w b1 b2) (q [99,104,97,110,103,101,100]) (J 4) .none] [en (PP w b1 b2) (q [115,116,97,116,101]) (J 0) (.ref s),en (PP w b1 b2) (q [102,108,97,103,115]) (J 1) (.str (q (fl f)) (J 2)),en (PP w b1 b2) (q [112,97,114,116,115]) (J 3) (.ref pl)])⟩ (cond g 4 3),⟨[]⟩⟩),(s,(oPT d)),(d,(dPT (PP w b1 b2) K tx n tn nm sp)),(pl,⟨.type "list",none,.seq ⟨(ps)⟩ ep,⟨[]⟩⟩)] (a x 3) 0 (a (p1.2) 3) 0 [(a x 2),(a x 2),(a x 2),d,s,s,s,s,fr]))))):=by revert f g b1 b2;apply bq4<;>kernel_rfl
theorem rb_step (w:World) (x t fr s d nm sp tn pl ep:Nat) (J K:Nat→Nat) (tx:List Nat) (n:Nat) (ps:List Value) (f g c b1 b2:Bool):go (PP w b1 b2) [] 750 100000 (rbLoop fr) [(fr,rbF (PP w b1 b2) J f g s pl),(s,oPT d),(d,dPT (PP w b1 b2) K tx n tn nm sp),(pl,oLst ps ep)] x 0 t 0 [0,2,3,0,0,0,3,0,0,0,3,0,0,0,0,3,4,0,2,2,2,0,2,0,2,0,0,0,0,0,0,0,3,3,0,2,0,3,3,0,2,3,1,3,3,6,6,6,6,0,3,3,0,3,3,0,2,0,2,0,7,2,3] (.ask [1,2] 99 900 (Nat × Nat) (plSh (PP w b1 b2) K tx n tn nm sp d [sg c]) fun p=>.ask [2,3] 99 850 (Nat × Nat) (fun _ _=>rS (.bool false) (stL (PP w b1 b2) K tx n tn nm sp d)) fun p=>.ask [2,3] 99 850 (Nat × Nat) (fun _ _=>rS .none (stL (PP w b1 b2) K tx n tn nm sp d)) fun p=>.ask [2,3] 99 850 RA (fun _ _=>raSh (PP w b1 b2) K tx n nm sp d (sg c) f) fun p=>.ask [3,4] 99 800 (Nat × Nat) (fun _ _=>rS (.ref p.r) (stL (PP w b1 b2) K tx (n+1) p.tn nm sp d)) fun p'=>.ask [5] 99 950 Unit (kS (fun _=>.none) [oLst (ps++[.ref p.r]) (ep+1)] 0) fun _=>.keep [2,3,4,5,0])=(.ask (.fn 345 [.ref s]) [(s,(oPT d)),(d,(dPT (PP w b1 b2) K tx n tn nm sp))] [] x 0 t 0 1 900 (Nat × Nat) ((plSh (PP w b1 b2) K tx n tn nm sp d [sg c]) (Nat.add x 0) (Nat.add t 0)) (fun p1=>(.ask (.fn 565 [.ref s,.str (q (fl f)) (J 2)]) [(s,(oPT d)),(d,(dPT (PP w b1 b2) K tx n tn nm sp))] [] (a x 2) 1 (p1.2) 3 1 850 (Nat × Nat) ((fun x x_1=>rS (Value.bool false) (stL (PP w b1 b2) K tx n tn nm sp d)) (Nat.add (a x 2) 1) (Nat.add (p1.2) 3)) (fun p2=>(.ask (.fn 577 [.ref s,.str (q (fl f)) (J 2)]) [(s,(oPT d)),(d,(dPT (PP w b1 b2) K tx n tn nm sp))] [] (p2.1) 0 (p2.2) 0 1 850 (Nat × Nat) ((fun x x_1=>rS Value.none (stL (PP w b1 b2) K tx n tn nm sp d)) (Nat.add (p2.1) 0) (Nat.add (p2.2) 0)) (fun p3=>(.ask (.fn 598 [.ref s,.str (q (fl f)) (J 2)]) [(s,(oPT d)),(d,(dPT (PP w b1 b2) K tx n tn nm sp))] [] (p3.1) 0 (p3.2) 1 1 850 (RA) ((fun x x_1=>raSh (PP w b1 b2) K tx n nm sp d (sg c) f) (Nat.add (p3.1) 0) (Nat.add (p3.2) 1)) (fun p4=>(.ask (.fn 605 [.ref s,.str (q (fl f)) (J 2),.ref (p4.1)]) [(s,(oPT d)),(d,(dPT (PP w b1 b2) K tx (a n 1) (p4.4) nm sp))] [] (p4.5) 0 (p4.6) 0 1 800 (Nat × Nat) ((fun x x_1=>rS (Value.ref p4.r) (stL (PP w b1 b2) K tx (n+1) p4.tn nm sp d)) (Nat.add (p4.5) 0) (Nat.add (p4.6) 0)) (fun p5=>(.ask (.bi (PySem.W.S.codeS "list.append") [.ref pl,.ref (p4.1)]) [(pl,⟨.type "list",none,.seq ⟨(ps)⟩ ep,⟨[]⟩⟩)] [] (p5.1) 0 (p5.2) 0 1 950 (Unit) ((kS (fun x=>Value.none) [oLst (ps++[Value.ref p4.r]) (ep+1)] 0) (Nat.add (p5.1) 0) (Nat.add (p5.2) 0)) (fun p6=>(ag (rbLoop fr) [(fr,⟨.type "frame",none,.dict ⟨[en (PP w b1 b2) (q [115,116,97,116,101]) (J 0) (.ref s),en (PP w b1 b2) (q [102,108,97,103,115]) (J 1) (.str (q (fl f)) (J 2)),en (PP w b1 b2) (q [112,97,114,116,115]) (J 3) (.ref pl),en (PP w b1 b2) (q [99,104,97,110,103,101,100]) (cond g (J 4) (p3.2)) .none]⟩ 4,⟨[]⟩⟩),(s,(oPT d)),(d,(dPT (PP w b1 b2) K tx (a n 1) (p4.4) nm sp)),(pl,⟨.type "list",none,.seq ⟨(ps++[Value.ref p4.r])⟩ (a ep 1),⟨[]⟩⟩),((p4.1),⟨.type "tuple",none,.seq ⟨[.str (q [115,105,103,110]) (p4.2),.str (q [(sg c)]) (p4.3),.bool f]⟩ 0,⟨[]⟩⟩)] (p5.1) 0 (p5.2) 0 [pl,fr,fr,fr,fr,pl,pl,pl,pl,fr,fr,fr,fr,fr,fr,fr,fr,(a x 2),(a x 2),(a x 2),(a x 2),d,s,s,s,s,fr]))))))))))))):=by cases f<;>(revert g c b1 b2;apply bq4<;>kernel_rfl)
def js (J:Nat→Nat) (v j:Nat):Nat:=match j with
 | 4=>v
 | j=>J j
structure RB (k:Nat) where
 ts:List Nd
 len:ts.length=k
 J:Nat→Nat
 g:Bool
 tn:Nat
 ep:Nat
 x:Nat
 t:Nat
theorem ne_RB (k:Nat):Nonempty (RB k):=⟨⟨List.replicate k ⟨0,0,0⟩,List.length_replicate,fun _=>0,false,0,0,0,0⟩⟩
def rbSh (P:Params) (K:Nat→Nat) (tx:List Nat) (f:Bool) (s d pl nm sp:Nat) (cs:List Nat) (ps:List Value) (p:RB cs.length):Shape:=
 ⟨.ok .next,[rbF P p.J f p.g s pl,oPT d,dPT P K tx tx.length p.tn nm sp,oLst (ps++nrefs p.ts) p.ep],[],p.x,0,p.t,0,nodes f cs p.ts⟩
theorem rbLoop_ok {w:World} {K:Nat→Nat} {tx:List Nat} {f:Bool} {fr s d pl nm sp:Nat} (hT:AB tx):∀ (cs:List Nat) (n tn ep x t:Nat) (J:Nat→Nat) (g:Bool) (ps:List Value),tx.drop n=cs→n≤tx.length→ps.length≤n →
  AskOK pw_qz0137_01 w (G0 w) (.code (rbLoop fr)) [(fr,rbF w.params J f g s pl),(s,oPT d),(d,dPT w.params K tx n tn nm sp),(pl,oLst ps ep)] [] x 0 t 0 750 (rbSh w.params K tx f s d pl nm sp cs ps):=by
 intro cs
 induction cs with
 | nil=>
  intro n tn ep x t J g ps hcs hn hps
  have e:=rb_end w x t fr s d nm sp tn pl ep J K tx n ps f g (w.params.followText "special-get-raises") (w.params.followText "comprehension-iter-twice")
  rw [← PP_self w] at e
  have hl:tx.length≤n:=by
   have:=congrArg List.length hcs
   rw [List.length_drop] at this
   simp at this
   omega
  obtain rfl:n=tx.length:=by omega
  exact ask_run e (G0_ok w) (fun _ h=>h) fun g' A R gs dr os hg low H=>
   ⟨⟨(0,0)⟩,nble rfl,fun _=>rfl,peek_l hn hT.fits (sub_end hl),fun p=>⟨⟨()⟩,nble rfl,fun _=>rfl,contains_nil_ok,fun _=>⟨rfl,fun h' r=>H ⟨[],rfl,J,g,tn,ep,_,_⟩ h' (by
    show Rep g' [(fr,rbF w.params J f g s pl),(s,oPT d),(d,dPT w.params K tx tx.length tn nm sp),(pl,oLst (ps++[]) ep)] _ h'
    rw [List.append_nil]
    cases g<;>exact r)⟩⟩⟩
 | cons c0 cs ih=>
  intro n tn ep x t J g ps hcs hn hps
  have hlt:n < tx.length:=by
   have:=congrArg List.length hcs
   rw [List.length_drop] at this
   simp at this
   omega
  obtain ⟨c,hc⟩:=hT.at hlt
  have hc0:sg c=c0:=by
   have e:=List.drop_eq_getElem_cons hlt
   rw [hcs] at e
   injection e with e1 e2
   rw [e1]
   rw [List.getElem?_eq_getElem hlt] at hc
   exact (Option.some.inj hc).symm
  subst hc0
  have hcs':tx.drop (n+1)=cs:=by
   have e:=List.drop_eq_getElem_cons hlt
   rw [hcs] at e
   injection e with e1 e2
   exact e2.symm
  have e:=rb_step w x t fr s d nm sp tn pl ep J K tx n ps f g c (w.params.followText "special-get-raises") (w.params.followText "comprehension-iter-twice")
  rw [← PP_self w] at e
  exact ask_run e (G0_ok w) (fun _ h=>h) fun g' A R gs dr os hg low H=>
   ⟨⟨(0,0)⟩,nble rfl,fun _=>rfl,peek_l hn hT.fits (sub_some hc),fun p1=>⟨⟨(0,0)⟩,nble rfl,fun _=>rfl,su_ok hT hn,fun p2=>⟨⟨(0,0)⟩,nble rfl,fun _=>rfl,ri_ok hT hn,fun p3=>
    ⟨⟨⟨0,0,0,0,0,0⟩⟩,nble rfl,fun _=>rfl,ra_ok hT hc,fun p4=>⟨⟨(0,0)⟩,nble rfl,fun _=>rfl,rc_ok hT hlt,fun p5=>⟨⟨()⟩,nble rfl,fun _=>rfl,append_ok (by have:=hT.size;have:sizeLine=16777216:=rfl;omega),fun _=>
    ⟨rfl,fun h' rep=>by
     refine use_ask (ps:=[0,1,2,3]) (ih (n+1) p4.tn (ep+1) _ _ (js J (cond g (J 4) p3.2)) true (ps++[.ref p4.r]) hcs' hlt (by rw [List.length_append,List.length_singleton];omega)) (G0_mono w) rfl rfl hg low rep (fun _=>rfl) fun p h'' r=>?_
     refine H ⟨⟨p4.r,p4.k1,p4.k2⟩::p.ts,by rw [List.length_cons,p.len,List.length_cons],p.J,p.g,p.tn,p.ep,p.x,p.t⟩ h'' ?_
     have e2:ps++[.ref p4.r]++nrefs p.ts=ps++nrefs (⟨p4.r,p4.k1,p4.k2⟩::p.ts):=by rw [List.append_assoc];rfl
     have r':Rep g' ([(fr,rbF w.params p.J f p.g s pl),(s,oPT d),(d,dPT w.params K tx tx.length p.tn nm sp),(pl,oLst (ps++[.ref p4.r]++nrefs p.ts) p.ep),(p4.r,oSg (sg c) f p4.k1 p4.k2)]++nodes f cs p.ts) (Nat.add p.x 0) h'':=r
     rw [e2] at r'
     exact r'⟩⟩⟩⟩⟩⟩⟩
end
noncomputable section
def sQ:List Nat:=[115,101,113]
structure RD (k:Nat) where
 ts:List Nd
 len:ts.length=k
 k1:Nat
 k2:Nat
 tn:Nat
 ep:Nat
 a1:Nat
 a2:Nat
 a3:Nat
 x:Nat
 t:Nat
theorem ne_RD (k:Nat):Nonempty (RD k):=⟨⟨List.replicate k ⟨0,0,0⟩,List.length_replicate,0,0,0,0,0,0,0,0,0⟩⟩
def seqL (ts:List Nd) (a2 a3 k1 ep:Nat):Led:=[(a2,oTup [.str (q sQ) k1,.ref a3]),(a3,oLst (nrefs ts) ep)]
def rdSh (P:Params) (K:Nat→Nat) (tx:List Nat) (f:Bool) (d nm sp:Nat) (cs:List Nat) (p:RD cs.length):Shape:=
 ⟨.ok (.ret (.ref p.a1)),stL P K tx tx.length p.tn nm sp d,(p.a1,oTup [.ref p.a2,.str (q (fl f)) p.k2])::seqL p.ts p.a2 p.a3 p.k1 p.ep,p.x,0,p.t,0,nodes f cs p.ts⟩
def ltSh (P:Params) (K:Nat→Nat) (tx:List Nat) (f:Bool) (d nm sp:Nat) (cs:List Nat) (p:RD cs.length):Shape:=
 ⟨.ok (.ret (.ref p.a2)),stL P K tx tx.length p.tn nm sp d,seqL p.ts p.a2 p.a3 p.k1 p.ep,p.x,0,p.t,0,nodes f cs p.ts⟩
end
noncomputable section
def ppK (tt t p2:Nat) (j:Nat):Nat:=match j with
 | 0=>a p2 4
 | 1=>tt
 | 2=>a p2 6
 | 3=>a t 2
 | 4=>a p2 9
 | 5=>a p2 12
 | 6=>a p2 10
 | 7=>a p2 15
 | 8=>a p2 13
 | 9=>a p2 17
 | 10=>a p2 19
 | _=>0
def oEmp:Obj:=⟨.type "dict",none,.dict ⟨[]⟩ 0,⟨[]⟩⟩
structure PR (k:Nat) where
 ts:List Nd
 len:ts.length=k
 k1:Nat
 k2:Nat
 ep:Nat
 a1:Nat
 a2:Nat
 a3:Nat
 nm:Nat
 x:Nat
 t:Nat
theorem ne_PR (k:Nat):Nonempty (PR k):=⟨⟨List.replicate k ⟨0,0,0⟩,List.length_replicate,0,0,0,0,0,0,0,0,0⟩⟩
def ppSh (f:Bool) (tx:List Nat) (p:PR tx.length):Shape:=
 ⟨.ok (.ret (.ref p.a1)),[],(p.a1,oTup [.ref p.a2,.int 0 p.k2,.ref p.nm])::(p.nm,oEmp)::seqL p.ts p.a2 p.a3 p.k1 p.ep,p.x,0,p.t,0,nodes f tx p.ts⟩
end
noncomputable section
theorem ask_wp {w:World} {G:Heap→Prop} {id:String} {args:List Value} {b:Builtin} {l kn:Led} {x m t i D:Nat} {P:Type} {sh:P→Shape} (hp:plainId id=true) (he:entryFor table id=some b)
  (H:∀ (g:Heap) (A:Around) (R:Result→Shared→Prop) (gs:Array GenState) (d:Drawn) (os:OsState) (h:Heap),G g→(∀ q∈kn,g.get? q.1=some q.2)→Low D A→Rep g l (Nat.add x m) h →
   (∀ p h',Rep g ((sh p).all l) (Nat.add (sh p).x (sh p).m) h'→R (sh p).r ⟨h',gs,d,Nat.add (sh p).t (sh p).i,os⟩) →
   wpAny (model pw_qz0137_01 w) A.in1 (b ⟨args,[]⟩) (fun fin s'=>match fin with | .done f=>R (.ok f) s' | .again c'=>c'.quiet=true∧codeAny (model pw_qz0137_01 w) A c' R s') (fun e s'=>R (.error e) s') ⟨h,gs,d,Nat.add t i,os⟩):
  AskOK pw_qz0137_01 w G (.bi (PySem.W.S.codeS id) args) l kn x m t i D sh:=by
 intro c hc g A R gs d os h hg hkn low rep K
 obtain ⟨id',hn,rfl⟩:=hc
 have:id'=id:=PySem.code_inj _ _ (hn.trans (PySem.W.S.code_S _).symm)
 subst this
 refine codeAny_builtin he ?_
 rw [Around.under_plainId hp]
 exact H g A R gs d os h hg hkn low rep K
def oIt (ty:String) (v:Value) (i:Nat):Obj:=⟨.type ty,none,.fields ⟨[v,.int (Int.ofNat i) 0]⟩,⟨[]⟩⟩
def oStop (t:Nat):Obj:=⟨.type "StopIteration",none,.fields ⟨[.ref t,.none,.none,.none,.bool false,.none]⟩,⟨[]⟩⟩
def endSh (ty:String) (i:Nat) (l:List Obj) (x t:Nat) (_:Unit):Shape:=⟨.error (.ref (a x 1)),oIt ty .none i::l,[(a x 1,oStop x),(x,oTup [])],x,2,t,0,[]⟩
theorem mapFields_oIt {ty:String} {v:Value} {i:Nat}:Obj.mapFields (·.setIfInBounds 1 (rawInt ((i:Int)+1))) (oIt ty v i)=oIt ty v (i+1):=by
 have:((⟨[v,.int (Int.ofNat i) 0]⟩:Array Value).setIfInBounds 1 (rawInt ((i:Int)+1)))=⟨[v,.int (Int.ofNat (i+1)) 0]⟩:=by
  simp [rawInt]
 exact congrArg (fun z=>(⟨.type ty,none,.fields z,⟨[]⟩⟩:Obj)) this
theorem mapFields_oIt0 {ty:String} {v:Value} {i:Nat}:Obj.mapFields (·.setIfInBounds 0 .none) (oIt ty v i)=oIt ty .none i:=by
 have:((⟨[v,.int (Int.ofNat i) 0]⟩:Array Value).setIfInBounds 0 .none)=⟨[.none,.int (Int.ofNat i) 0]⟩:=by simp
 exact congrArg (fun z=>(⟨.type ty,none,.fields z,⟨[]⟩⟩:Obj)) this
section
variable {w:World} {G:Heap→Prop} {kn:Led} {l it i ep x m t j D:Nat} {items:List Value}
theorem next_item {v:Value} (hG:∀ g,G g→g.get? l=some (oLst items ep)) (hx:items[i]?=some v):
  AskOK pw_qz0137_01 w G (.bi (PySem.W.S.codeS "list_iterator.__next__") [.ref it]) [(it,oIt "list_iterator" (.ref l) i)] kn x m t j D (kS (fun _=>v) [oIt "list_iterator" (.ref l) (i+1)] 0 (Nat.add x m) (Nat.add t j)):=by
 refine ask_wp (by decide +kernel) entry_listiter_next fun g A R gs d os h hg _ _ rep K=>?_
 have ho:h.get? it=some (oIt "list_iterator" (.ref l) i):=(rep.own _ (.head _)).1
 have hol:h.get? l=some (oLst items ep):=rep.keep _ _ (hG g hg)
 show wpAny _ _ (field (.ref it) 0 >>= _) _ _ _
 refine wpAny_bind (wpAny_field ho (vs:=⟨[.ref l,.int (Int.ofNat i) 0]⟩) rfl (x:=.ref l) rfl ?_)
 show wpAny _ _ (if (Value.ref l == Value.none)=true then _ else _) _ _ _
 rw [if_neg (show ¬ ((Value.ref l == Value.none)=true) from Bool.false_ne_true)]
 show wpAny _ _ (field (.ref it) 1 >>= _) _ _ _
 refine wpAny_bind (wpAny_field ho (vs:=⟨[.ref l,.int (Int.ofNat i) 0]⟩) rfl (x:=.int i 0) rfl ?_)
 show wpAny _ _ (seqItems? (.ref l) >>= _) _ _ _
 refine wpAny_bind (wpAny_seqItems hol rfl ?_)
 have hx':(⟨items⟩:Array Value)[i]?=some v:=by simpa using hx
 simp only [Int.toNat_natCast,hx']
 refine wpAny_bind (wpAny_setField ho rfl (by simp) (wpAny_pure ?_))
 have z:=rep.update (p:=0) (q:=(it,oIt "list_iterator" (.ref l) i)) (f:=Obj.mapFields (·.setIfInBounds 1 (rawInt ((i:Int)+1)))) rfl (by rw [mapFields_oIt];rfl)
 rw [mapFields_oIt] at z
 exact K () _ z
theorem next_end (hG:∀ g,G g→g.get? l=some (oLst items ep)) (hx:items.length≤i):
  AskOK pw_qz0137_01 w G (.bi (PySem.W.S.codeS "list_iterator.__next__") [.ref it]) [(it,oIt "list_iterator" (.ref l) i)] kn x m t j D (endSh "list_iterator" i [] (Nat.add x m) (Nat.add t j)):=by
 refine ask_wp (by decide +kernel) entry_listiter_next fun g A R gs d os h hg _ low rep K=>?_
 have ho:h.get? it=some (oIt "list_iterator" (.ref l) i):=(rep.own _ (.head _)).1
 have hol:h.get? l=some (oLst items ep):=rep.keep _ _ (hG g hg)
 show wpAny _ _ (field (.ref it) 0 >>= _) _ _ _
 refine wpAny_bind (wpAny_field ho (vs:=⟨[.ref l,.int (Int.ofNat i) 0]⟩) rfl (x:=.ref l) rfl ?_)
 show wpAny _ _ (if (Value.ref l == Value.none)=true then _ else _) _ _ _
 rw [if_neg (show ¬ ((Value.ref l == Value.none)=true) from Bool.false_ne_true)]
 show wpAny _ _ (field (.ref it) 1 >>= _) _ _ _
 refine wpAny_bind (wpAny_field ho (vs:=⟨[.ref l,.int (Int.ofNat i) 0]⟩) rfl (x:=.int i 0) rfl ?_)
 show wpAny _ _ (seqItems? (.ref l) >>= _) _ _ _
 refine wpAny_bind (wpAny_seqItems hol rfl ?_)
 have hx':(⟨items⟩:Array Value)[i]?=none:=by simpa using hx
 simp only [Int.toNat_natCast,hx']
 refine wpAny_bind (wpAny_rule (wpAny_bind (wpAny_setField ho rfl (by simp) ?_)))
 have z:=rep.update (p:=0) (q:=(it,oIt "list_iterator" (.ref l) i)) (f:=Obj.mapFields (·.setIfInBounds 0 .none)) rfl (by rw [mapFields_oIt0];rfl)
 rw [mapFields_oIt0] at z
 show wpAny _ _ (newExc (.type "StopIteration") [] >>= _) _ _ _
 refine wpAny_bind ?_
 simp only [newExc,newTuple]
 refine wpAny_bind (wpAny_newObj_type ?_ (by size_fits))
 have z2:=z.alloc (o:=oTup []) rfl
 refine wpAny_bind (m:=firstArgMember _ _) (wpAny_of_eq (a:=Value.none) (by first | rfl | (simp only [firstArgMember];rfl)) ?_)
 refine wpAny_newObj_type ?_ (by size_fits)
 have z3:=z2.alloc (o:=oStop (h.update it (Obj.mapFields (·.setIfInBounds 0 .none))).objs.size) rfl
 simp only [raiseNew]
 refine wpAny_bind (wpAny_handled ?_)
 rw [show A.in1.handled=none from low.1]
 refine wpAny_bind (wpAny_pure (wpAny_throw ?_))
 have e1:=z.size
 have e2:=z2.size
 have f1:(h.update it (Obj.mapFields (·.setIfInBounds 0 .none))).objs.size=Nat.add x m:=e1
 have f2:((h.update it (Obj.mapFields (·.setIfInBounds 0 .none))).push (oTup [])).objs.size=a (Nat.add x m) 1:=e2
 rw [f1] at z3
 rw [f2] at z3
 have k:=K () _ z3
 show R (.error (.ref ((h.update it (Obj.mapFields (·.setIfInBounds 0 .none))).push (oTup [])).objs.size)) ⟨((h.update it (Obj.mapFields (·.setIfInBounds 0 .none))).push (oTup [])).push (oStop (h.update it (Obj.mapFields (·.setIfInBounds 0 .none))).objs.size),gs,d,Nat.add t j,os⟩
 rw [f2,f1]
 exact k
end
theorem len_list_ok {w:World} {G:Heap→Prop} {kn:Led} {l ep x m t i D k:Nat} {items:List Value} (hk:items.length=k) (hf:k≤sizeLine):
  AskOK pw_qz0137_01 w G (.bi (PySem.W.S.codeS "len") [.ref l]) [(l,oLst items ep)] kn x m t i D (kS (fun t=>.int (Int.ofNat k) (a t 1)) [oLst items ep] 2 (Nat.add x m) (Nat.add t i)):=by
 subst hk
 refine ask_wp (by decide +kernel) entry_len fun g A R gs d os h hg _ _ rep K=>?_
 have hs:sizeLine=16777216:=rfl
 have hl:h.IsList l ⟨items⟩:=⟨_,(rep.own _ (.head _)).1,rfl,ep,rfl⟩
 refine wpAny_mono (wpAny_len_body_list (Q:=fun r s'=>R (.ok (.ret r)) s') hl (by show (items.length:Int) < 2 ^ 63;omega) (K () _ rep)) (fun fin s' h'=>?_) fun _ _ e=>e
 obtain ⟨r,rfl,hq⟩:=h'
 exact hq
def oStrs (ss:List (List Nat × Nat)):Obj:=oTup (ss.map fun p=>.str (q p.1) p.2)
theorem q_inj {a b:List Nat}:(q a == q b)=(a == b):=by
 rw [Bool.eq_iff_iff,beq_iff_eq,beq_iff_eq]
 constructor
 ·intro e
  have:=congrArg (fun z:Str=>z.cps.toList) e
  exact this
 ·intro e
  rw [e]
open SeqAt in
theorem contains_ok {w:World} {G:Heap→Prop} {kn:Led} {tl x m t i D:Nat} {l:List Nat} {k2:Tok} {b:Bool} (ss:List (List Nat × Nat)) (hb:(ss.any fun p=>p.1 == l)=b):
  AskOK pw_qz0137_01 w G (.bi (PySem.W.S.codeS "tuple.__contains__") [.ref tl,.str (q l) k2]) [(tl,oStrs ss)] kn x m t i D (kS (fun _=>.bool b) [oStrs ss] 0 (Nat.add x m) (Nat.add t i)):=by
 subst hb
 refine ask_meets (by decide +kernel) F.entry_tuple_contains (tuple_containsAt tl ⟨ss.map fun p=>Value.str (q p.1) p.2⟩ 0 none ⟨[]⟩ _ fun y=>match y with | .str a _=>a == q l | _=>false) fun g A R gs d os h _ _ _ rep K=>⟨(rep.own _ (.head _)).1,?_,?_⟩
 ·intro y hy
  have:y∈ss.map fun p=>Value.str (q p.1) p.2:=Array.mem_toList_iff.mpr hy
  obtain ⟨p,_,rfl⟩:=List.mem_map.mp this
  exact EqAt.str_str _ _ _ _
 ·have:(Array.any (⟨ss.map fun p=>Value.str (q p.1) p.2⟩:Array Value) fun y=>match y with | .str a _=>a == q l | _=>false)=(ss.any fun p=>p.1 == l):=by
   rw [← Array.any_toList,List.any_map]
   congr 1
   funext p
   exact q_inj
  rw [this]
  exact K () _ rep
end
noncomputable section
def forOf (s:Stmt) (it:Nat) (e:Env):Code:=match s with
 | .For tg _ b o _=>.forLoop tg (.ref it) b o e
 | _=>.builtin "" ⟨[],[]⟩
def fels (s:Stmt):List Stmt:=match s with
 | .If _ _ o _=>o
 | _=>[]
def fthen (s:Stmt):List Stmt:=match s with
 | .If _ b _ _=>b
 | _=>[]
def anLoop (it x:Nat):Code:=forOf (sAt 0 (fthen (sAt 0 (fels (sAt 1 (fbody (sAt 14 top))))))) it (fenv (sAt 14 top) 177 176 x)
def oRM (md:Nat):Obj:=⟨.ref 166,some md,.plain,⟨[]⟩⟩
def dRM (P:Params) (J:Nat→Nat) (rl:Nat):Obj:=⟨.type "dict",none,.dict ⟨[en P (q [114,111,119,115]) (J 0) (.ref rl),en P (q [114,101,103,105,115,116,101,114,115]) (J 1) (.int 0 (J 2))]⟩ 2,⟨[]⟩⟩
def anF (P:Params) (I:Nat→Nat) (mk nd:Nat) (g:Bool) (v:Value):Obj:=
 ⟨.type "frame",none,.dict ⟨en P (q [109,97,107,101,114]) (I 0) (.ref mk)::en P (q [110,111,100,101]) (I 1) (.ref nd)::en P (q [119,111,114,100]) (I 2) (.str (q sQ) (I 3))::cond g [en P (q [111,110,101]) (I 4) v] []⟩ (cond g 4 3),⟨[]⟩⟩
def GN (w:World) (a3:Nat) (all:List Value) (e3:Nat) (f:Bool) (cs:List Nat) (ts:List Nd):Heap→Prop:=fun g=>G0 w g∧g.get? a3=some (oLst all e3)∧∀ q∈nodes f cs ts,g.get? q.1=some q.2
end
noncomputable section
def GS (w:World) (nd a3 k1 e3:Nat) (f:Bool) (cs:List Nat) (ts:List Nd):Heap→Prop:=fun g=>GN w a3 (nrefs ts) e3 f cs ts g∧g.get? nd=some (oTup [.str (q sQ) k1,.ref a3])
def anI (t k1:Nat) (j:Nat):Nat:=match j with
 | 0=>t
 | 1=>a t 1
 | 2=>a t 3
 | 3=>k1
 | _=>0
structure XT where
 ep:Nat
 x:Nat
 t:Nat
def aqSh (P:Params) (J:Nat→Nat) (md rl:Nat) (ts:List Nd) (p:XT):Shape:=⟨.ok (.ret .none),[oRM md,dRM P J rl,oLst (nrefs ts) p.ep],[],p.x,0,p.t,0,[]⟩
def oPr (pd:Nat):Obj:=⟨.ref 131,some pd,.plain,⟨[]⟩⟩
def dPr (P:Params) (M:Nat→Nat) (rl gi tg ri tr nm:Nat):Obj:=
 ⟨.type "dict",none,.dict ⟨[en P (q [114,111,119,115]) (M 0) (.ref rl),en P (q [103,114,111,117,112,115]) (M 1) (.int (Int.ofNat gi) tg),en P (q [114,101,103,105,115,116,101,114,115]) (M 2) (.int (Int.ofNat ri) tr),en P (q [110,97,109,101,115]) (M 3) (.ref nm)]⟩ 4,⟨[]⟩⟩
structure CT where
 pr:Nat
 pd:Nat
 rl:Nat
 en:Nat
 M:Nat→Nat
 ke:Nat
 tg:Nat
 tr:Nat
 ep:Nat
 x:Nat
 t:Nat
def prL (P:Params) (ts:List Nd) (nm:Nat) (p:CT):Led:=[(p.pr,oPr p.pd),(p.pd,dPr P p.M p.rl 0 p.tg 0 p.tr nm),(p.rl,oLst (nrefs ts++[.ref p.en]) p.ep),(p.en,oTup [.str (q [101,110,100]) p.ke])]
def ctTSh (P:Params) (ts:List Nd) (nm:Nat) (p:CT):Shape:=⟨.ok (.ret (.ref p.pr)),[],prL P ts nm p,p.x,0,p.t,0,[]⟩
structure CP (k:Nat) where
 ts:List Nd
 len:ts.length=k
 nm:Nat
 c:CT
theorem ne_CP (k:Nat):Nonempty (CP k):=⟨⟨List.replicate k ⟨0,0,0⟩,List.length_replicate,0,⟨0,0,0,0,fun _=>0,0,0,0,0,0,0⟩⟩⟩
def cpSh (P:Params) (f:Bool) (tx:List Nat) (p:CP tx.length):Shape:=⟨.ok (.ret (.ref p.c.pr)),[],prL P p.ts p.nm p.c++[(p.nm,oEmp)],p.c.x,0,p.c.t,0,nodes f tx p.ts⟩
end
noncomputable section
def oBd (n tn:Nat) (sv:List Value) (e:Nat):Obj:=oLst (.int (Int.ofNat n) tn::sv) e
structure PG (mn:Nat) where
 r:Nat
 hr:r < mn
 tr:Nat
 tn:Nat
 x:Nat
 t:Nat
def pgSh (sv:List Value) (e n mn:Nat) (p:PG mn):Shape:=⟨.ok (.ret (.int (Int.ofNat p.r) p.tr)),[oBd (n+1) p.tn sv e],[],p.x,0,p.t,0,[]⟩
structure Ints (sv:List Value):Prop where
 each:∀ v∈sv,∃ i t,v=Value.int i t
 size:sv.length≤1000
end
noncomputable section
theorem m_li_get (l:Addr) (o:Obj) (items:Array Value) (ne:Nat) (k:Int) (t:Tok) (x:Value) (hd:o.data=.seq items ne) (h0:0≤k) (hfit:k < 2 ^ 63) (hx:items[k.toNat]?=some x):
  Meets (Builtin.«list.__getitem__» ⟨[.ref l,.int k t],[]⟩) (fun _ R s=>s.heap.get? l=some o∧R (.ok (.ret x)) s):=by
 refine .of_wp fun prog w A R s h=>?_
 obtain ⟨ho,h⟩:=h
 show wpAny _ _ (Builtin.List.listSubscript? (.int k t) >>= _) _ _ s
 refine wpAny_bind (wpAny_listSubscript_int (fitsIndex_of h0 hfit) ?_)
 clear hfit
 obtain ⟨j,rfl⟩:=Int.eq_ofNat_of_zero_le h0
 have hx':items[j]?=some x:=hx
 show wpAny _ _ ((seqItemAt l j >>= fun r=>pure (r.map (j,·))) >>= _) _ _ s
 refine wpAny_bind (wpAny_bind (wpAny_seqItemAt ho hd (wpAny_pure ?_)))
 rw [hx']
 exact wpAny_pure ⟨x,rfl,h⟩
theorem li_get {w:World} {G:Heap→Prop} {kn:Led} {b e x m t i D k:Nat} {u:Tok} {items:List Value} {v:Value} (hv:items[k]?=some v) (hf:items.length≤sizeLine):
  AskOK pw_qz0137_01 w G (.bi (PySem.W.S.codeS "list.__getitem__") [.ref b,.int (Int.ofNat k) u]) [(b,oLst items e)] kn x m t i D (kS (fun _=>v) [oLst items e] 0 (Nat.add x m) (Nat.add t i)):=by
 have hs:sizeLine=16777216:=rfl
 have hk:k < items.length:=(List.getElem?_eq_some_iff.mp hv).1
 have h0:(0:Int)≤Int.ofNat k:=Int.natCast_nonneg k
 have h1:Int.ofNat k < 2 ^ 63:=by have ei:Int.ofNat k=(k:Int):=rfl;omega
 have h2:(⟨items⟩:Array Value)[(Int.ofNat k).toNat]?=some v:=by
  show (⟨items⟩:Array Value)[k]?=some v
  simpa using hv
 generalize Int.ofNat k=z at h0 h1 h2
 have M:=m_li_get b (oLst items e) ⟨items⟩ e z u v rfl h0 h1 h2
 exact ask_meets (by decide +kernel) F.entry_list_getitem M fun g A R gs d os h hg _ _ rep K=>⟨(rep.own _ (.head _)).1,K () _ rep⟩
theorem li_set0 {w:World} {G:Heap→Prop} {kn:Led} {b e x m t i D:Nat} {u:Tok} {items:List Value} {v v':Value}:
  AskOK pw_qz0137_01 w G (.bi (PySem.W.S.codeS "list.__setitem__") [.ref b,.int 0 u,v']) [(b,oLst (v::items) e)] kn x m t i D (kS (fun _=>.none) [oLst (v'::items) e] 0 (Nat.add x m) (Nat.add t i)):=by
 refine ask_wp (by decide +kernel) F.entry_list_setitem fun g A R gs d os h hg _ _ rep K=>?_
 have ho:h.get? b=some (oLst (v::items) e):=(rep.own _ (.head _)).1
 have hfit:Builtin.List.listFitsIndex 0=true:=fitsIndex_of (by omega) (by omega)
 generalize hz:(0:Int)=z0 at hfit
 show wpAny _ _ (Builtin.List.listSubscript? (.int z0 u) >>= _) _ _ _
 refine wpAny_bind (wpAny_listSubscript_int hfit ?_)
 subst hz
 show wpAny _ _ ((seqItemAt b 0 >>= fun r=>pure (r.map (0,·))) >>= _) _ _ _
 refine wpAny_bind (wpAny_bind (wpAny_seqItemAt ho rfl (wpAny_pure ?_)))
 show wpAny _ _ (setSeqItemAt b 0 v' >>= _) _ _ _
 have e1:Obj.mapSeq (·.setIfInBounds 0 v') (oLst (v::items) e)=oLst (v'::items) e:=by
  have h2:((⟨v::items⟩:Array Value).setIfInBounds 0 v')=⟨v'::items⟩:=by simp
  have h1:(((⟨v::items⟩:Array Value).setIfInBounds 0 v').size == (⟨v::items⟩:Array Value).size)=true:=by simp
  show Obj.mk _ _ (.seq ((⟨v::items⟩:Array Value).setIfInBounds 0 v') (if (((⟨v::items⟩:Array Value).setIfInBounds 0 v').size == (⟨v::items⟩:Array Value).size)=true then e else e+1)) _=_
  rw [h1,h2]
  rfl
 have z:=rep.update (p:=0) (q:=(b,oLst (v::items) e)) (f:=Obj.mapSeq (·.setIfInBounds 0 v')) rfl (by rw [e1];rfl)
 rw [e1] at z
 exact wpAny_bind (wpAny_setSeqItemAt ho rfl (wpAny_pure (K () _ z)))
theorem log2_lt_of {n k:Nat} (h:n < 2 ^ k):(Int.ofNat n).natAbs.log2 < k+1:=by
 show Nat.log2 n < k+1
 by_cases h0:n=0
 ·subst h0;exact Nat.succ_pos _
 ·have:=(Nat.log2_lt h0).mpr h
  omega
section
variable {w:World} {G:Heap→Prop} {t D:Nat} {u v:Tok}
theorem v_addn {n k:Nat}:ValOK pw_qz0137_01 w G (.bi (PySem.W.S.codeS "int.__add__") [.int (Int.ofNat n) u,.int (Int.ofNat k) v]) (.int (Int.ofNat (n+k)) t) 1 t D:=v_add _ _ _ _
theorem v_mod (i j:Int) (h:j≠0):ValOK pw_qz0137_01 w G (.bi (PySem.W.S.codeS "int.__mod__") [.int i u,.int j v]) (.int (i.fmod j) t) 1 t D:=
 v_int (by decide +kernel) F.entry_int_mod (AutoIntG6.int___mod___int_int_1 i u j v (by simpa using h))
theorem v_modn {n k:Nat} (h:k≠0):ValOK pw_qz0137_01 w G (.bi (PySem.W.S.codeS "int.__mod__") [.int (Int.ofNat n) u,.int (Int.ofNat k) v]) (.int (Int.ofNat (n % k)) t) 1 t D:=by
 have z:=v_mod (w:=w) (G:=G) (t:=t) (D:=D) (u:=u) (v:=v) (Int.ofNat n) (Int.ofNat k) (by intro e;exact h (Int.ofNat.inj e))
 rw [show (Int.ofNat n).fmod (Int.ofNat k)=Int.ofNat (n % k) from by
  show (n:Int).fmod (k:Int)=((n % k:Nat):Int)
  rw [Int.fmod_eq_emod_of_nonneg _ (Int.natCast_nonneg k)];rfl] at z
 exact z
theorem v_fdivn {n k:Nat} (h:k≠0) (hn:n < 2 ^ 60) (hk:k < 2 ^ 60):ValOK pw_qz0137_01 w G (.bi (PySem.W.S.codeS "int.__floordiv__") [.int (Int.ofNat n) u,.int (Int.ofNat k) v]) (.int (Int.ofNat (n / k)) t) 1 t D:=by
 have z:=v_int (w:=w) (G:=G) (t:=t) (D:=D) (id:="int.__floordiv__") (by decide +kernel) F.entry_int_floordiv (AutoIntG4.int___floordiv___int_int_1 (Int.ofNat n) u (Int.ofNat k) v (by intro e;exact h (Int.ofNat.inj (eq_of_beq e))) (by rw [PyProof.noPylong_of_log2];exact Bool.false_ne_true;exact Nat.lt_of_lt_of_le (log2_lt_of hk) (by omega)))
 rw [show (Int.ofNat n).fdiv (Int.ofNat k)=Int.ofNat (n / k) from by
  show (n:Int).fdiv (k:Int)=((n / k:Nat):Int)
  rw [Int.fdiv_eq_ediv_of_nonneg _ (Int.natCast_nonneg k)];rfl] at z
 exact z
theorem v_muln {n k:Nat} (hn:n < 2 ^ 60):ValOK pw_qz0137_01 w G (.bi (PySem.W.S.codeS "int.__mul__") [.int (Int.ofNat n) u,.int (Int.ofNat k) v]) (.int (Int.ofNat (n * k)) t) 1 t D:=by
 refine v_int (by decide +kernel) F.entry_int_mul (gives_int_mul _ _ _ _ (IntMulOk.of_left ?_))
 unfold Builtin.Int.intBits
 split
 ·omega
 ·have:Nat.log2 n < 60+1:=log2_lt_of hn
  show Nat.log2 n+1≤64
  omega
end
end
noncomputable section
theorem stop_wp {w:World} {A:Around} {α:Type} {Q:α→Shared→Prop} {E:Value→Shared→Prop} {g h:Heap} {L:Led} {n:Nat} {gs:Array GenState} {d:Drawn} {tk:Nat} {os:OsState} (hh:A.handled=none) (rep:Rep g L n h)
  (K:∀ h',Rep g ((a n 1,oStop n)::(n,oTup [])::L) (n+2) h'→E (.ref (a n 1)) ⟨h',gs,d,tk,os⟩):wpAny (model pw_qz0137_01 w) A.in1 (do raiseNew (← newExc (.type "StopIteration") [])) Q E ⟨h,gs,d,tk,os⟩:=by
 show wpAny _ _ (newExc (.type "StopIteration") [] >>= _) _ _ _
 refine wpAny_bind ?_
 simp only [newExc,newTuple]
 refine wpAny_bind (wpAny_newObj_type ?_ (by size_fits))
 have z2:=rep.alloc (o:=oTup []) rfl
 refine wpAny_bind (m:=firstArgMember _ _) (wpAny_of_eq (a:=Value.none) (by first | rfl | (simp only [firstArgMember];rfl)) ?_)
 refine wpAny_newObj_type ?_ (by size_fits)
 have z3:=z2.alloc (o:=oStop h.objs.size) rfl
 simp only [raiseNew]
 refine wpAny_bind (wpAny_handled ?_)
 rw [show A.in1.handled=none from hh]
 refine wpAny_bind (wpAny_pure (wpAny_throw ?_))
 have f1:h.objs.size=n:=rep.size
 have f2:(h.push (oTup [])).objs.size=a n 1:=z2.size
 rw [f1] at z3
 rw [f2] at z3
 have k:=K _ z3
 show E (.ref (h.push (oTup [])).objs.size) ⟨(h.push (oTup [])).push (oStop h.objs.size),gs,d,tk,os⟩
 rw [f2,f1]
 exact k
def oRg (n t1 t2 t3:Nat):Obj:=⟨.type "range",none,.fields ⟨[.int 0 t1,.int (Int.ofNat n) t2,.int 1 t3]⟩,⟨[]⟩⟩
def oRi (v left:Nat):Obj:=⟨.type "range_iterator",none,.fields ⟨[.int (Int.ofNat v) 0,.int (Int.ofNat left) 0,.int 1 0]⟩,⟨[]⟩⟩
def newSh (v:Nat→Value) (o:Obj) (l:List Obj) (x t:Nat) (_:Unit):Shape:=⟨.ok (.ret (v x)),l,[(x,o)],x,1,t,0,[]⟩
theorem fitsLong {i:Int} (h0:-1≤i) (h1:i < 2 ^ 62):Builtin.Range.rangeFitsLong i=true:=by
 unfold Builtin.Range.rangeFitsLong
 simp only [Bool.and_eq_true,decide_eq_true_eq]
 omega
theorem rangeSize_n (n:Nat):Builtin.Range.rangeSize 0 (Int.ofNat n) 1=Int.ofNat n:=by
 have e:Int.ofNat n=(n:Int):=rfl
 unfold Builtin.Range.rangeSize
 rw [if_pos (by decide),e]
 split
 ·rw [Int.ediv_one];omega
 ·omega
section
variable {w:World} {G:Heap→Prop} {kn:Led} {r n t1 t2 t3 x m t i D it v left:Nat}
theorem range_iter_ok (hn:n < 2 ^ 60):AskOK pw_qz0137_01 w G (.bi (PySem.W.S.codeS "range.__iter__") [.ref r]) [(r,oRg n t1 t2 t3)] kn x m t i D (newSh (fun x=>.ref x) (oRi 0 n) [oRg n t1 t2 t3] (Nat.add x m) (Nat.add t i)):=by
 have e:Int.ofNat n=(n:Int):=rfl
 have b0:(Builtin.Range.rangeFitsLong 0 && Builtin.Range.rangeFitsLong (Int.ofNat n) && Builtin.Range.rangeFitsLong 1 && Builtin.Range.rangeFitsLong (Builtin.Range.rangeSize 0 (Int.ofNat n) 1) && (Builtin.Range.rangeSize 0 (Int.ofNat n) 1 == 0 || if (1:Int) > 0 then Builtin.Range.rangeFitsLong (Int.ofNat n+(1 - 1)) else Builtin.Range.rangeFitsLong (Int.ofNat n+(1+1))))=true:=by
  rw [rangeSize_n,if_pos (by decide),fitsLong (i:=0) (by decide) (by decide),fitsLong (i:=1) (by decide) (by decide),fitsLong (i:=Int.ofNat n) (by omega) (by omega),fitsLong (i:=Int.ofNat n+(1 - 1)) (by omega) (by omega)]
  simp
 refine ask_meets (by decide +kernel) F.entry_range_iter (AutoRange.range___iter___range_1 r 0 (Int.ofNat n) 1 t1 t2 t3 (by rw [b0];decide)) fun g A R gs d os h hg _ _ rep K=>⟨(rep.own _ (.head _)).1,?_⟩
 rw [if_pos b0,rangeSize_n]
 have z:=rep.alloc (o:=oRi 0 n) rfl
 rw [show h.objs.size=Nat.add x m from rep.size] at z
 show R (.ok (.ret (.ref h.objs.size))) ⟨h.push (oRi 0 n),gs,d,Nat.add t i,os⟩
 rw [show h.objs.size=Nat.add x m from rep.size]
 exact K () _ z
theorem rnext_item:AskOK pw_qz0137_01 w G (.bi (PySem.W.S.codeS "range_iterator.__next__") [.ref it]) [(it,oRi v (left+1))] kn x m t i D (kS (fun t=>.int (Int.ofNat v) t) [oRi (v+1) left] 1 (Nat.add x m) (Nat.add t i)):=by
 refine ask_meets (by decide +kernel) F.entry_range_iterator_next (AutoRange.range_iterator___next___range_iterator_1 it (Int.ofNat v) (Int.ofNat (left+1)) 1 (by have e:Int.ofNat (left+1)=((left+1:Nat):Int):=rfl;omega)) fun g A R gs d os h hg _ _ rep K=>⟨(rep.own _ (.head _)).1,?_⟩
 have z:=rep.update (p:=0) (q:=(it,oRi v (left+1))) (f:=Obj.mapFields fun x=>x.setIfInBounds 0 (rawInt (Int.ofNat v+1))) rfl rfl
 have z2:=z.update (p:=0) (q:=(it,Obj.mapFields (fun x=>x.setIfInBounds 0 (rawInt (Int.ofNat v+1))) (oRi v (left+1)))) (f:=Obj.mapFields fun x=>x.setIfInBounds 1 (rawInt (Int.ofNat (left+1) - 1))) rfl rfl
 have e:Obj.mapFields (fun x=>x.setIfInBounds 1 (rawInt (Int.ofNat (left+1) - 1))) (Obj.mapFields (fun x=>x.setIfInBounds 0 (rawInt (Int.ofNat v+1))) (oRi v (left+1)))=oRi (v+1) left:=by
  have h1:(Int.ofNat (left+1) - 1:Int)=Int.ofNat left:=by have e1:Int.ofNat (left+1)=((left+1:Nat):Int):=rfl;have e2:Int.ofNat left=(left:Int):=rfl;omega
  have h2:(Int.ofNat v+1:Int)=Int.ofNat (v+1):=rfl
  rw [h1,h2]
  have:((((⟨[.int (Int.ofNat v) 0,.int (Int.ofNat (left+1)) 0,.int 1 0]⟩:Array Value).setIfInBounds 0 (rawInt (Int.ofNat (v+1))))).setIfInBounds 1 (rawInt (Int.ofNat left)))=⟨[.int (Int.ofNat (v+1)) 0,.int (Int.ofNat left) 0,.int 1 0]⟩:=by
   simp [rawInt]
  exact congrArg (fun z=>(⟨.type "range_iterator",none,.fields z,⟨[]⟩⟩:Obj)) this
 rw [e] at z2
 exact K () _ z2
def rendSh (v:Nat) (x t:Nat) (_:Unit):Shape:=⟨.error (.ref (a x 1)),[oRi v 0],[(a x 1,oStop x),(x,oTup [])],x,2,t,0,[]⟩
theorem rnext_end:AskOK pw_qz0137_01 w G (.bi (PySem.W.S.codeS "range_iterator.__next__") [.ref it]) [(it,oRi v 0)] kn x m t i D (rendSh v (Nat.add x m) (Nat.add t i)):=by
 refine ask_wp (by decide +kernel) F.entry_range_iterator_next fun g A R gs d os h hg _ low rep K=>?_
 have hit:h.get? it=some (oRi v 0):=(rep.own _ (.head _)).1
 show wpAny _ _ (field (.ref it) 0 >>= _) _ _ _
 refine wpAny_bind (wpAny_field hit rfl (x:=rawInt (Int.ofNat v)) rfl ?_)
 show wpAny _ _ (field (.ref it) 1 >>= _) _ _ _
 refine wpAny_bind (wpAny_field hit rfl (x:=rawInt (Int.ofNat 0)) rfl ?_)
 show wpAny _ _ (field (.ref it) 2 >>= _) _ _ _
 refine wpAny_bind (wpAny_field hit rfl (x:=rawInt 1) rfl ?_)
 show wpAny _ _ (if (Int.ofNat 0)≤0 then _ else _) _ _ _
 rw [if_pos (by decide)]
 refine wpAny_bind (wpAny_rule ?_)
 refine wpAny_bind ?_
 exact stop_wp low.1 rep fun h' z=>K () h' z
end
end
noncomputable section
def compOf (e:Expr) (it acc:Nat) (env:Env) (loc:Nat):Code:=match e with
 | .ListComp _ _ scope _=>
  .compLoop e 0 (.ref it) (.ref acc) { scope:={ scope with names:=scope.names.map fun (n,k)=>if (k == .free && env.scope.kind == .function && env.kindOf n == some .cell) then (n,.cell) else (n,k) },locals:=loc,globals:=3,cells:=env.cells,qual:=env.qual,func:=none,code:=env.code,frame:=env.frame,builtins:=0 }
 | _=>.builtin "" ⟨[],[]⟩
def retE (s:Stmt):Expr:=match s with
 | .Return (some e) _=>e
 | .Assign _ e _=>e
 | _=>default
def argE (e:Expr):Expr:=match e with
 | .Call _ (a::_) _ _=>a
 | _=>default
def ltE:Expr:=argE (retE (sAt 0 (fbody (sAt 146 top))))
def ltLoop (it acc loc cl fr:Nat):Code:=compOf ltE it acc { fenv (sAt 146 top) 991 990 fr with cells:=[(Str.ofString "code",cl)] } loc
def oCell (v:Value):Obj:=⟨.type "cell",none,.cell (some v),⟨[]⟩⟩
def lcF (P:Params) (nm:List Nat) (g:Bool) (k:Nat) (v:Value):Obj:=⟨.type "dict",none,.dict ⟨cond g [en P (q nm) k v] []⟩ (cond g 1 0),⟨[]⟩⟩
def chars:List (Nat × Nat)→List Value
 | []=>[]
 | p::l=>.str (q [p.1]) p.2::chars l
structure TL (k:Nat) where
 cs:List (Nat × Nat)
 len:cs.length=k
 ab:∀ p∈cs,p.1=97∨p.1=98
 kt:Nat
 kv:Value
 ep:Nat
 x:Nat
 t:Nat
def gk (g:Bool) (k:Nat):Bool:=match k with
 | 0=>g
 | _+1=>true
def tlSh (P:Params) (cd tc v:Nat) (items:List Value) (g:Bool) (k:Nat) (p:TL k):Shape:=
 ⟨.ok .next,[oRi (v+k) 0,oLst (items++chars p.cs) p.ep,lcF P [107] (gk g k) p.kt p.kv,oCell (.int (Int.ofNat cd) tc)],[],p.x,0,p.t,0,[]⟩
theorem ne_TL (k:Nat):Nonempty (TL k):=⟨⟨List.replicate k (97,0),List.length_replicate,fun p hp=>.inl (by rw [(List.mem_replicate.mp hp).2]),0,.none,0,0,0⟩⟩
structure LT where
 tx:List Nat
 ab:AB tx
 ne:tx≠[]
 small:tx.length≤32
 tk:Nat
 x:Nat
 t:Nat
theorem ne_LT:Nonempty LT:=⟨⟨[97],⟨fun c h=>.inl (by simpa using h),by decide⟩,by decide,by decide,0,0,0⟩⟩
def ltxSh (p:LT):Shape:=⟨.ok (.ret (.str (q p.tx) p.tk)),[],[],p.x,0,p.t,0,[]⟩
end
noncomputable section
def cw (cs:List (Nat × Nat)):List (Str × Tok):=cs.map fun p=>(q [p.1],p.2)
theorem chars_eq:∀ cs:List (Nat × Nat),chars cs=strValues (cw cs)
 | []=>rfl
 | p::cs=>congrArg (Value.str (q [p.1]) p.2::·) (chars_eq cs)
theorem glued_fold:∀ (cs:List (Nat × Nat)) (l:List Nat),((cw cs).map (·.1)).foldl (fun acc p=>acc++(q []).cps++p.cps) (⟨l⟩:Array Nat)=⟨l++cs.map (·.1)⟩
 | [],l=>by
  show (⟨l⟩:Array Nat)=⟨l++[]⟩
  rw [List.append_nil]
 | p::cs,l=>by
  show ((cw cs).map (·.1)).foldl (fun acc p=>acc++(q []).cps++p.cps) ((⟨l⟩:Array Nat)++(q []).cps++(q [p.1]).cps)=_
  have e:((⟨l⟩:Array Nat)++(q []).cps++(q [p.1]).cps)=⟨l++[p.1]⟩:=by
   show ((⟨l⟩:Array Nat)++(⟨[]⟩:Array Nat)++(⟨[p.1]⟩:Array Nat))=_
   apply Array.toList_inj.mp
   simp
  rw [e,glued_fold cs (l++[p.1]),List.append_assoc]
  rfl
theorem glued_q {p:Nat × Nat} {cs:List (Nat × Nat)}:Builtin.Str.glued (q []) ((cw (p::cs)).map (·.1))=q ((p::cs).map (·.1)):=by
 have z:=glued_fold cs [p.1]
 exact congrArg (fun a:Array Nat=>(⟨a⟩:Str)) z
theorem sum_fold:∀ (cs:List (Nat × Nat)) (n:Nat),((cw cs).map (·.1)).foldl (·+·.length+(q []).length) n=n+cs.length
 | [],n=>rfl
 | p::cs,n=>by
  show ((cw cs).map (·.1)).foldl (·+·.length+(q []).length) (n+(q [p.1]).length+(q []).length)=_
  rw [sum_fold cs]
  show n+1+0+cs.length=n+(cs.length+1)
  omega
def jSh (l:List Nat) (o:Obj) (x:Nat) (p:Nat × Nat):Shape:=⟨.ok (.ret (.str (q l) p.1)),[o],[],x,0,p.2,0,[]⟩
theorem join_ok {w:World} {G:Heap→Prop} {kn:Led} {acc ep tk x m t i D:Nat} {cs:List (Nat × Nat)} (h0:cs≠[]) (hf:cs.length≤1000):
  AskOK pw_qz0137_01 w G (.bi (PySem.W.S.codeS "str.join") [.str (q []) tk,.ref acc]) [(acc,oLst (chars cs) ep)] kn x m t i D (jSh (cs.map (·.1)) (oLst (chars cs) ep) (Nat.add x m)):=by
 have hz:sizeLine=16777216:=rfl
 have hl:Builtin.Str.tooLong (((cw cs).map (·.1)).toArray.foldl (·+·.length+(q []).length) 0)=false:=by
  have:(((cw cs).map (·.1)).toArray.foldl (·+·.length+(q []).length) 0)=cs.length:=by
   rw [List.foldl_toArray,sum_fold,Nat.zero_add]
  rw [this]
  unfold Builtin.Str.tooLong
  exact decide_eq_false (by omega)
 refine ask_meets (by decide +kernel) F.entry_str_join (meets_str_join_list (q []) tk acc (cw cs) hl) fun g A R gs d os h hg _ _ rep K=>⟨⟨_,(rep.own _ (.head _)).1,rfl,ep,?_⟩,?_⟩
 ·show Data.seq ⟨chars cs⟩ ep=.seq ((strValues (cw cs)).toArray) ep
  rw [chars_eq]
 ·cases cs with
  | nil=>exact absurd rfl h0
  | cons p cs=>
   cases cs with
   | nil=>exact K (p.2,_) _ rep
   | cons p2 cs=>
    have e:joinMade (q []) (cw (p::p2::cs))=.str (q ((p::p2::cs).map (·.1))):=by
     show Made.str (Builtin.Str.glued (q []) ((cw (p::p2::cs)).map (·.1)))=_
     rw [glued_q]
    rw [e]
    refine ⟨?_,K (_,_) _ rep⟩
    show ((p::p2::cs).map (·.1)).length≤sizeLine
    rw [List.length_map]
    omega
end
noncomputable section
abbrev SB:=Str ⊕ Bool
def sbIs:SB→Value→Bool
 | .inl x,v=>Value.isStrOf x v
 | .inr b,v=>match v with
  | .bool c=>c == b
  | _=>false
theorem sbIs_inl {x:Str} {v:Value} (h:sbIs (.inl x) v=true):∃ t,v=.str x t:=Value.isStrOf_shape h
theorem sbIs_inr {b:Bool} {v:Value} (h:sbIs (.inr b) v=true):v=.bool b:=by
 cases v with
 | bool c=>exact congrArg Value.bool (eq_of_beq h)
 | _=>exact nomatch h
def hashB (b:Bool):Int:=cond b 1 0
section
variable {prog:Program} {w:World} {A:Around} {E:Value→Shared→Prop} {s:Shared}
theorem wpAny_pyHash_bool {b:Bool} {Q:Int→Shared→Prop} (h:Q (hashB b) { s with toks:=s.toks+1 }):
  wpAny (model prog w) A (pyHash (.bool b)) Q E s:=by
 cases b
 ·have hT:s.TypeIs (.bool false) "bool":=rfl
  unfold pyHash
  have hv:[Value.bool false].any Value.onHeap=false:=rfl
  refine wpAny_bind ?_
  rw [cRoomFor,if_neg (by rw [hv];exact Bool.false_ne_true)];refine wpAny_pure ?_
  refine wpAny_bind (wpAny_specialOf hT F.slot_bool_hash.lookup ?_)
  show wpAny _ _ (if (some (Value.builtin "int.__hash__") == some Value.none)=true then _ else _) Q E s
  rw [if_neg (by rw [beq_builtin_none];exact Bool.false_ne_true)]
  refine wpAny_bind (wpAny_specialOf hT F.slot_bool_hash.lookup ?_)
  show wpAny _ _ (callSpecialIfBoundUnlessNone? (.bool false) "__hash__" _ >>= _) Q E s
  refine wpAny_bind (wpAny_callSpecialIfBoundUnlessNone?_slot hT F.slot_bool_hash
   (wpAny_call_entry F.slot_bool_hash hT F.entry_int_hash
    (show wpAny _ _ (do ret (← mkInt (hashB false))) _ _ s from wpAny_ret_mkInt ?_) (F.args_int_hash_1 _)))
  show wpAny _ _ (if (decide (-(2:Int) ^ 63≤hashB false) && decide (hashB false < 2 ^ 63))=true then _ else _) Q E _
  rw [if_pos (by decide)]
  exact wpAny_pure h
 ·have hT:s.TypeIs (.bool true) "bool":=rfl
  unfold pyHash
  have hv:[Value.bool true].any Value.onHeap=false:=rfl
  refine wpAny_bind ?_
  rw [cRoomFor,if_neg (by rw [hv];exact Bool.false_ne_true)];refine wpAny_pure ?_
  refine wpAny_bind (wpAny_specialOf hT F.slot_bool_hash.lookup ?_)
  show wpAny _ _ (if (some (Value.builtin "int.__hash__") == some Value.none)=true then _ else _) Q E s
  rw [if_neg (by rw [beq_builtin_none];exact Bool.false_ne_true)]
  refine wpAny_bind (wpAny_specialOf hT F.slot_bool_hash.lookup ?_)
  show wpAny _ _ (callSpecialIfBoundUnlessNone? (.bool true) "__hash__" _ >>= _) Q E s
  refine wpAny_bind (wpAny_callSpecialIfBoundUnlessNone?_slot hT F.slot_bool_hash
   (wpAny_call_entry F.slot_bool_hash hT F.entry_int_hash
    (show wpAny _ _ (do ret (← mkInt (hashB true))) _ _ s from wpAny_ret_mkInt ?_) (F.args_int_hash_1 _)))
  show wpAny _ _ (if (decide (-(2:Int) ^ 63≤hashB true) && decide (hashB true < 2 ^ 63))=true then _ else _) Q E _
  rw [if_pos (by decide)]
  exact wpAny_pure h
end
def sbHash (w:World):SB→Int
 | .inl x=>hashStr w x
 | .inr b=>hashB b
open SeqAt in
def sbKind (prog:Program) (w:World):KeyKind prog w SB where
 is:=sbIs
 hash:=sbHash w
 inj:=fun v a b ha hb=>by
  cases a with
  | inl x=>
   obtain ⟨t,rfl⟩:=sbIs_inl ha
   cases b with
   | inl y=>obtain ⟨u,e⟩:=sbIs_inl hb;injection e with e;rw [e]
   | inr c=>exact nomatch sbIs_inr hb
  | inr c=>
   have e:=sbIs_inr ha
   subst e
   cases b with
   | inl y=>obtain ⟨u,e⟩:=sbIs_inl hb;exact nomatch e
   | inr c'=>have e:=sbIs_inr hb;injection e with e;rw [e]
 byValue:=fun k v h=>by
  cases k with
  | inl x=>obtain ⟨t,rfl⟩:=sbIs_inl h;rfl
  | inr b=>have e:=sbIs_inr h;subst e;rfl
 pyHash:=fun {A E s k v Q} hv h=>by
  cases k with
  | inl x=>obtain ⟨t,rfl⟩:=sbIs_inl hv;exact wpAny_pyHash_str h
  | inr b=>have e:=sbIs_inr hv;subst e;exact wpAny_pyHash_bool h
 eqBool:=fun {A E s a b u v Q} hu hv h=>by
  cases a with
  | inl x=>
   obtain ⟨t,rfl⟩:=sbIs_inl hu
   cases b with
   | inl y=>
    obtain ⟨t',rfl⟩:=sbIs_inl hv
    refine wpAny_eqBool_str ?_
    have e:decide ((Sum.inl x:SB)=.inl y)=decide (x=y):=by
     by_cases hxy:x=y
     ·subst hxy;simp
     ·rw [decide_eq_false hxy,decide_eq_false (fun e=>hxy (Sum.inl.inj e))]
    exact e ▸ h
   | inr c=>
    have e:=sbIs_inr hv;subst e
    exact EqAt.str_bool x t c _ _ _ _ (by rw [decide_eq_false (fun e=>nomatch e)] at h;exact h)
  | inr c=>
   have e:=sbIs_inr hu;subst e
   cases b with
   | inl y=>
    obtain ⟨t',rfl⟩:=sbIs_inl hv
    exact EqAt.bool_str c y t' _ _ _ _ (by rw [decide_eq_false (fun e=>nomatch e)] at h;exact h)
   | inr c'=>
    have e:=sbIs_inr hv;subst e
    refine EqAt.bool_bool c c' _ _ _ _ ?_
    have e:decide ((Sum.inr c:SB)=.inr c')=(c == c'):=by cases c<;>cases c'<;>rfl
    exact e ▸ h
 «strs»:=fun k x t v h=>by
  cases k with
  | inl y=>
   obtain ⟨u,hu⟩:=sbIs_inl h
   injection hu with hx
   subst hx
   cases v<;>rfl
  | inr c=>exact nomatch sbIs_inr h
end
noncomputable section
abbrev TK (w:World):=tupleKind (sbKind pw_qz0137_01 w)
abbrev Ent:=List SB × Addr × Value
def oDk (w:World) (xs:List Ent) (ep:Nat):Obj:=⟨.type "dict",none,.dict ⟨xs.map (entryOfKey (TK w))⟩ ep,⟨[]⟩⟩
def IsK (w:World) (g:Heap) (k:List SB) (a:Addr):Prop:=IsTupleKey (sbKind pw_qz0137_01 w) g k a
structure Keys (w:World) (xs:List Ent) (g:Heap):Prop where
 each:∀ x∈xs,IsK w g x.1 x.2.1
 nd:(xs.map (·.1)).Nodup
theorem IsK.mono {w:World} {g h:Heap} {k:List SB} {a:Addr} (x:IsK w g k a) (e:∀ b o,g.get? b=some o→h.get? b=some o):IsK w h k a:=
 let ⟨o,items,n,ho,r⟩:=x
 ⟨o,items,n,e _ _ ho,r⟩
theorem Keys.mono {w:World} {g h:Heap} {xs:List Ent} (x:Keys w xs g) (e:∀ b o,g.get? b=some o→h.get? b=some o):Keys w xs h:=⟨fun y hy=>(x.each y hy).mono e,x.nd⟩
theorem IsK.pair {w:World} {h:Heap} {a:Addr} {v1 v2:Value} {k1 k2:SB} (ho:h.get? a=some (oTup [v1,v2])) (h1:sbIs k1 v1=true) (h2:sbIs k2 v2=true):IsK w h [k1,k2] a:=
 ⟨_,_,0,ho,rfl,rfl,.cons h1 (.cons h2 .nil)⟩
theorem sbIs_str (l:List Nat) (t:Tok):sbIs (.inl (q l)) (.str (q l) t)=true:=by
 show (q l == q l)=true
 exact beq_self_eq_true _
theorem sbIs_bool (b:Bool):sbIs (.inr b) (.bool b)=true:=by cases b<;>rfl
theorem zipUp_self:∀ l:Led,zipUp l (l.map (·.2))=l
 | []=>rfl
 | q::l=>by
  show (q.1,q.2)::zipUp l (l.map (·.2))=q::l
  rw [zipUp_self l]
theorem dictOf {w:World} {g h:Heap} {xs:List Ent} {d ep n:Nat} {lk:Led} (rep:Rep g ((d,oDk w xs ep)::lk) n h) (K:Keys w xs h):h.DictOfH (TK w) d xs:=
 ⟨_,_,ep,(rep.own _ (.head _)).1,⟨rfl,rfl,rfl⟩,rfl,rfl,K.each,K.nd⟩
theorem room_ok {w:World} {A:Around} {D:Nat} (low:Low D A) (hD:D≤980):(TK w).room A.in1:=by
 show A.units+1 < cLine
 have:cLine=9900:=rfl
 have:=low.2.2
 omega
section
variable {w:World} {G:Heap→Prop} {kn:Led} {d ka ep x m t i D:Nat} {xs:List Ent} {k:List SB} {lk:Led} (hd:(d == sysModules)=false) (hkeys:∀ g h n,G g→Rep g ((d,oDk w xs ep)::lk) n h→Keys w xs h)
 (hkey:∀ g h n,G g→Rep g ((d,oDk w xs ep)::lk) n h→IsK w h k ka) (hD:D≤980)
include hkeys hkey hD
theorem zip_all {v:Nat→Value} {k:Nat} {x t:Nat} {l:Led} {g h:Heap} {n:Nat} (rep:Rep g l n h):Rep g ((kS v (l.map (·.2)) k x t ()).all l) n h:=by
 unfold Shape.all
 show Rep g ([]++zipUp l (l.map (·.2))++[]) n h
 rw [zipUp_self,List.append_nil]
 exact rep
include hd
theorem dget_ok {dflt:Value}:AskOK pw_qz0137_01 w G (.bi (PySem.W.S.codeS "dict.get") [.ref d,.ref ka,dflt]) ((d,oDk w xs ep)::lk) kn x m t i D
  (kS (fun _=>((atKey xs k).map (·.2)).getD dflt) (oDk w xs ep::lk.map (·.2)) (k.length+1) (Nat.add x m) (Nat.add t i)):=
 ask_meetsIn (by decide +kernel) F.entry_dict_get (meetsH_dict_get_default (TK w) d ka hd dflt) fun g A R gs dr os h hg _ low rep K=>
  ⟨room_ok low hD,k,xs,hkey g h _ hg rep,dictOf rep (hkeys g h _ hg rep),K () _ (zip_all hkeys hkey hD (l:=(d,oDk w xs ep)::lk) rep)⟩
theorem dget1_ok:AskOK pw_qz0137_01 w G (.bi (PySem.W.S.codeS "dict.get") [.ref d,.ref ka]) ((d,oDk w xs ep)::lk) kn x m t i D
  (kS (fun _=>((atKey xs k).map (·.2)).getD .none) (oDk w xs ep::lk.map (·.2)) (k.length+1) (Nat.add x m) (Nat.add t i)):=
 ask_meetsIn (by decide +kernel) F.entry_dict_get (meetsH_dict_get (TK w) d ka hd) fun g A R gs dr os h hg _ low rep K=>
  ⟨room_ok low hD,k,xs,hkey g h _ hg rep,dictOf rep (hkeys g h _ hg rep),K () _ (zip_all hkeys hkey hD (l:=(d,oDk w xs ep)::lk) rep)⟩
theorem dhas_ok {b:Bool} (hb:(atKey xs k).isSome=b):AskOK pw_qz0137_01 w G (.bi (PySem.W.S.codeS "dict.__contains__") [.ref d,.ref ka]) ((d,oDk w xs ep)::lk) kn x m t i D
  (kS (fun _=>.bool b) (oDk w xs ep::lk.map (·.2)) (k.length+1) (Nat.add x m) (Nat.add t i)):=by
 subst hb
 refine ask_wp (by decide +kernel) F.entry_dict_contains fun g A R gs dr os h hg _ low rep K=>?_
 have k':=K () _ (zip_all hkeys hkey hD (l:=(d,oDk w xs ep)::lk) rep)
 show wpAny _ _ (dictGet d (.ref ka) >>= _) _ _ _
 refine wpAny_bind (wpAny_dictGet_heap (room_ok low hD) (hkey g h _ hg rep) (dictOf rep (hkeys g h _ hg rep)) ?_)
 cases hf:atKey xs k with
 | some p=>
  rw [hf] at k'
  show wpAny _ _ (ret (.bool true)) _ _ _
  exact wpAny_pure k'
 | none=>
  rw [hf] at k'
  show wpAny _ _ (Builtin.Dict.pendingKey? d (.ref ka) >>= _) _ _ _
  exact wpAny_bind (wpAny_pendingKey_other hd (wpAny_pure k'))
omit hd in
theorem ditem_ok {p:Addr × Value} (hp:atKey xs k=some p):AskOK pw_qz0137_01 w G (.bi (PySem.W.S.codeS "dict.__getitem__") [.ref d,.ref ka]) ((d,oDk w xs ep)::lk) kn x m t i D
  (kS (fun _=>p.2) (oDk w xs ep::lk.map (·.2)) (k.length+1) (Nat.add x m) (Nat.add t i)):=by
 refine ask_wp (by decide +kernel) F.entry_dict_getitem fun g A R gs dr os h hg _ low rep K=>?_
 have k':=K () _ (zip_all hkeys hkey hD (l:=(d,oDk w xs ep)::lk) rep)
 show wpAny _ _ (dictGet d (.ref ka) >>= _) _ _ _
 refine wpAny_bind (wpAny_dictGet_heap (room_ok low hD) (hkey g h _ hg rep) (dictOf rep (hkeys g h _ hg rep)) ?_)
 rw [hp]
 exact wpAny_pure k'
end
theorem Rep.sameHead {g h h':Heap} {d:Nat} {o o':Obj} {L:Led} {n:Nat} (rep:Rep g ((d,o)::L) n h) (hs:Heap.SameBut d h h') (ho:h'.get? d=some o'):Rep g ((d,o')::L) n h':=by
 have hg:=(rep.own _ (.head _)).2
 refine ⟨by rw [hs.1,rep.size],fun q hq=>?_,rep.nd,fun b o2 e=>(hs.2 b fun z=>?_).trans (rep.keep b o2 e)⟩
 ·rcases List.mem_cons.mp hq with rfl | hq
  ·exact ⟨ho,hg⟩
  ·have y:=rep.own q (.tail _ hq)
   refine ⟨(hs.2 q.1 fun z=>?_).trans y.1,y.2⟩
   have nd:=rep.nd
   rw [List.map_cons,List.nodup_cons] at nd
   have hm:q.1∈L.map (·.1):=List.mem_map_of_mem hq
   rw [z] at hm
   exact nd.1 hm
 ·rw [z,hg] at e;cases e
theorem of_dictOf {w:World} {h:Heap} {d:Nat} {xs:List Ent} (x:h.DictOfH (TK w) d xs):∃ ep,h.get? d=some (oDk w xs ep):=by
 obtain ⟨o,es,ep,ho,⟨h1,h2,h3⟩,hd,he,_⟩:=x
 refine ⟨ep,?_⟩
 obtain ⟨c,dd,dt,sl⟩:=o
 cases h1
 cases h2
 cases h3
 cases hd
 obtain ⟨l⟩:=es
 cases he
 exact ho
def dsSh (w:World) (xs:List Ent) (lk:List Obj) (k x t:Nat) (ep:Nat):Shape:=⟨.ok (.ret .none),oDk w xs ep::lk,[],x,0,t,k,[]⟩
section
variable {w:World} {G:Heap→Prop} {kn:Led} {d ka ep x m t i D:Nat} {xs:List Ent} {k:List SB} {lk:Led} (hkeys:∀ g h n,G g→Rep g ((d,oDk w xs ep)::lk) n h→Keys w xs h)
 (hkey:∀ g h n,G g→Rep g ((d,oDk w xs ep)::lk) n h→IsK w h k ka) (hD:D≤980)
include hkeys hkey hD
theorem dset_ok {v:Value} (hsz:xs.length≤sizeLine):AskOK pw_qz0137_01 w G (.bi (PySem.W.S.codeS "dict.__setitem__") [.ref d,.ref ka,v]) ((d,oDk w xs ep)::lk) kn x m t i D
  (dsSh w (storedH xs k ka v) (lk.map (·.2)) (k.length+1) (Nat.add x m) (Nat.add t i)):=by
 refine ask_wp (by decide +kernel) F.entry_dict_setitem fun g A R gs dr os h hg _ low rep K=>?_
 have hT:(⟨h,gs,dr,Nat.add t i,os⟩:Shared).TypeIs (.ref d) "dict":=(dictOf rep (hkeys g h _ hg rep)).typeIs (s:=⟨h,gs,dr,Nat.add t i,os⟩)
 show wpAny _ _ (Builtin.Dict.notOrdered "__setitem__" ⟨[.ref d,.ref ka,v],[]⟩ >>= _) _ _ _
 refine wpAny_bind (wpAny_notOrdered_dict hT ?_)
 show wpAny _ _ (dictSet d (.ref ka) v >>= _) _ _ _
 refine wpAny_bind (wpAny_dictSet_heap (hsz:=hsz) (room_ok low hD) (hkey g h _ hg rep) (dictOf rep (hkeys g h _ hg rep)) fun h' hm' hs'=>wpAny_pure ?_)
 obtain ⟨ep',ho⟩:=of_dictOf hm'
 refine K ep' h' ?_
 have z:=rep.sameHead hs' ho
 unfold Shape.all
 show Rep g ([]++((d,oDk w (storedH xs k ka v) ep')::zipUp lk (lk.map (·.2)))++[]) _ h'
 rw [zipUp_self,List.append_nil]
 exact z
end
end
noncomputable section
def oRun (rd:Nat):Obj:=⟨.ref 697,some rd,.plain,⟨[]⟩⟩
def dRun (P:Params) (T V:Nat→Nat) (lm sv fr:Nat) (mt:Value) (pt st ts:Nat):Obj:=
 ⟨.type "dict",none,.dict ⟨[en P (q [104,101,97,112]) (T 0) .none,en P (q [99,111,117,110,116,101,114]) (T 1) .none,en P (q [115,116,97,115,104]) (T 2) .none,en P (q [108,105,109,105,116,115]) (T 3) (.ref lm),en P (q [110,111,100,101,115]) (T 4) (.ref (V 0)),en P (q [108,118,115]) (T 5) (.ref (V 1)),en P (q [115,116,97,116,101,109,101,110,116,115]) (T 6) (.ref (V 2)),en P (q [102,117,110,99,115]) (T 7) (.ref (V 3)),en P (q [111,112,101,114,97,116,111,114,115]) (T 8) (.ref (V 4)),en P (q [111,117,116]) (T 9) (.ref (V 5)),en P (q [101,114,114]) (T 10) (.ref (V 6)),en P (q [115,97,118,101,115]) (T 11) (.ref sv),en P (q [102,114,97,109,101,115]) (T 12) (.ref fr),en P (q [109,97,116,99,104]) (T 13) mt,en P (q [112,97,116,116,101,114,110,115]) (T 14) (.ref pt),en P (q [115,116,101,112,115]) (T 15) (.int (Int.ofNat st) ts),en P (q [109,101,116,104,111,100,115]) (T 16) .none,en P (q [99,97,108,108,95,99,111,100,101]) (T 17) .none,en P (q [99,111,109,112,105,108,101,95,116,101,120,116]) (T 18) .none]⟩ 19,⟨[]⟩⟩
def oLim (ld:Nat):Obj:=⟨.ref 766,some ld,.plain,⟨[]⟩⟩
def dLim (P:Params) (W:Nat→Nat) (v1:Value) (stp tst tx ttx:Nat):Obj:=
 ⟨.type "dict",none,.dict ⟨[en P (q [119,105,100,116,104]) (W 0) v1,en P (q [100,101,112,116,104]) (W 1) (.int 50 (W 2)),en P (q [115,116,101,112,115]) (W 3) (.int (Int.ofNat stp) tst),en P (q [116,101,120,116]) (W 4) (.int (Int.ofNat tx) ttx),en P (q [105,116,101,109,115]) (W 5) (.int 10000 (W 6))]⟩ 5,⟨[]⟩⟩
def kLast:List SB:=[.inl (q []),.inl (q [108,97,115,116])]
def kKept:List SB:=[.inl (q []),.inl (q [115,105,103,110,115])]
def kText (tx:List Nat) (i:Bool):List SB:=[.inl (q tx),.inl (q (fl i))]
def fg (g i:Bool):List Nat:=cond i (cond g [103,105] [105]) (cond g [103] [])
def KeptIs (xs:List Ent) (kp:Nat):Prop:=(∃ a tk,atKey xs kKept=some (a,.int (Int.ofNat kp) tk))∨(atKey xs kKept=none∧kp=0)
structure KP where
 tk:Nat
 ep:Nat
 ts:Nat
 x:Nat
 t:Nat
theorem ne_KP:Nonempty KP:=⟨⟨0,0,0,0,0⟩⟩
def kept1 (xs:List Ent) (kn tk:Nat) (tx:List Nat) (i:Bool) (ka pr:Nat):List Ent:=storedH (storedH xs kKept 729 (.int (Int.ofNat kn) tk)) (kText tx i) ka (.ref pr)
abbrev oKey (tx:List Nat) (i:Bool) (tt tf:Nat):Obj:=oTup [.str (q tx) tt,.str (q (fl i)) tf]
def kpSh (w:World) (T V:Nat→Nat) (rd lm sv fr:Nat) (mt:Value) (pt st:Nat) (tx:List Nat) (i:Bool) (tt tf ka pr kp:Nat) (xs:List Ent) (p:KP):Shape:=
 ⟨.ok (.ret .none),[oRun rd,dRun w.params T V lm sv fr mt pt (st+tx.length / 10) p.ts,oDk w (kept1 xs (kp+tx.length) p.tk tx i ka pr) p.ep,oKey tx i tt tf],[],p.x,0,p.t,0,[]⟩
def GL (w:World) (L0:Led) (xs:List Ent):Heap→Prop:=fun g=>G0 w g∧(∀ q∈L0,g.get? q.1=some q.2)∧Keys w xs g
def limL (w:World) (lm ld:Nat) (W:Nat→Nat) (v1:Value) (stp tst lim tl:Nat):Led:=[(lm,oLim ld),(ld,dLim w.params W v1 stp tst lim tl)]
def ofSh (i:Bool) (p:Nat × Nat × Nat):Shape:=⟨.ok (.ret (.str (q (fl i)) p.1)),[],[],p.2.1,0,p.2.2,0,[]⟩
end
noncomputable section
structure PM (n:Nat) where
 ka:Nat
 tf:Nat
 k:KP
 c:CP n
 x:Nat
 t:Nat
theorem ne_PM (k:Nat):Nonempty (PM k):=⟨⟨0,0,⟨0,0,0,0,0⟩,Classical.choice (ne_CP _),0,0⟩⟩
def newL (w:World) (tx:List Nat) (i:Bool) (tt:Nat) (p:PM tx.length):Led:=(p.ka,oKey tx i tt p.tf)::(prL w.params p.c.ts p.c.nm p.c.c++[(p.c.nm,oEmp)])
def pmSh (w:World) (T V:Nat→Nat) (rd lm sv fr:Nat) (mt:Value) (pt st:Nat) (tx:List Nat) (i:Bool) (tt kp:Nat) (xs:List Ent) (p:PM tx.length):Shape:=
 ⟨.ok (.ret (.ref p.c.c.pr)),[oRun rd,dRun w.params T V lm sv fr mt pt (st+tx.length / 10) p.k.ts,oDk w (kept1 xs (kp+tx.length) p.k.tk tx i p.ka p.c.c.pr) p.k.ep],newL w tx i tt p,p.x,0,p.t,0,nodes i tx p.c.ts⟩
end
noncomputable section
def hexec (P:Params) (kl:Led) (D:Nat) (st:HS) (ds:List Nat) (sc:Scr):Out:=exec (SS (kt P) kl P D) 100000 st.c st.κ (st.k []) st.L st.x st.m st.t st.i [] [] ds sc
def RoomP (k:List (Code × Pos)→Sem PySem.Fin):Prop:=∀ acts,unitsOf acts < cLine→k acts=k []
theorem room_of {k:List (Code × Pos)→Sem PySem.Fin} (F:Bool→Sem PySem.Fin) (h:∀ acts,k acts=F (Nat.ble 9900 (unitsOf acts))):RoomP k:=fun acts hu=>by
 rw [h acts,h []]
 have e:Nat.ble 9900 (unitsOf acts)=false:=by
  cases e:Nat.ble 9900 (unitsOf acts) with
  | false=>rfl
  | true=>
   have:=nble e
   have:cLine=9900:=rfl
   omega
 rw [e]
 rfl
end
noncomputable section
def exT (b:List Stmt) (env:Env):Sem PySem.Fin:=R.bindR (PySem.W.Fast.tw12563942051412417395 b env) fun f=>.pure (.done f)
def evT (e:Expr) (env:Env):Sem PySem.Fin:=R.bindR (PySem.W.Fast.tw14044960220447912780 e env) fun v=>.pure (.done (.ret v))
def goT (P:Params) (kl:Led) (D n:Nat) (c:Code) (tr:Sem PySem.Fin) (L:Led) (x m t i:Nat) (ds:List Nat) (sc:Scr):Out:=exec (SS (kt P) kl P D) n c .base tr L x m t i [] [] ds sc
abbrev MW (w:World):=model pw_qz0137_01 w
theorem run_tree {w:World} {G:Heap→Prop} {kl l:Led} {x m t i D n:Nat} {c:Code} {tr:Sem PySem.Fin} {ds:List Nat} {sc:Scr} {o:Out} {g h:Heap} {A:Around} {R0:Result→Shared→Prop} {gs:Array GenState} {d:Drawn} {os:OsState}
  (e:goT w.params kl D n c tr l x m t i ds sc=o) (hG:Grd w kl G) (hg:G g) (low:Low D A) (hw:c.weight≤5) (rep:Rep g l (Nat.add x m) h) (H:o.ok ⟨pw_qz0137_01,w,kt w.params,kl,G,D,g,A,R0,gs,d,os⟩):
  wpOwn (MW w) A c tr (postC pw_qz0137_01 w A R0) (postE R0) ⟨h,gs,d,Nat.add t i,os⟩:=by
 have O:(⟨pw_qz0137_01,w,kt w.params,kl,G,D,g,A,R0,gs,d,os⟩:Ctl).Ok:=⟨hg,hG.mono,hG.known,low⟩
 rw [← e] at H
 exact (exec_sound O (SS_ok rfl) n _ _ _ _ _ _ _ _ _ _ _ _ H).2 trivial hw h rep
theorem own_of_bind {w:World} {A:Around} {c:Code} {α:Type} {t:Sem α} {enc:α→Flow} {R0:Result→Shared→Prop} {s:Shared}
  (h:wpOwn (MW w) A c (t >>= fun v=>(Sem.pure (.done (enc v)):Sem PySem.Fin)) (postC pw_qz0137_01 w A R0) (postE R0) s):wpOwn (MW w) A c t (fun v s'=>R0 (.ok (enc v)) s') (fun e s'=>R0 (.error e) s') s:=fun Γ p hc hΓ=>by
 have z:=h Γ p hc hΓ
 rw [Sem.wp_bind'] at z
 exact z
section
variable {w:World} {A:Around} {c:Code} {s:Shared} {env:Env}
theorem own_execs {b:List Stmt} {R0:Result→Shared→Prop} (h:wpOwn (MW w) A c (exT b env) (postC pw_qz0137_01 w A R0) (postE R0) s):wpOwn (MW w) A c (execs b env) (fun f s'=>R0 (.ok f) s') (fun e s'=>R0 (.error e) s') s:=by
 refine own_of_bind (enc:=fun f=>f) ?_
 unfold exT at h
 rw [← R.bindR_eq,← Fast.te12563942051412417395] at h
 exact h
theorem own_eval {e:Expr} {R0:Result→Shared→Prop} (h:wpOwn (MW w) A c (evT e env) (postC pw_qz0137_01 w A R0) (postE R0) s):wpOwn (MW w) A c (eval e env) (fun v s'=>R0 (.ok (.ret v)) s') (fun e s'=>R0 (.error e) s') s:=by
 refine own_of_bind (enc:=fun v=>.ret v) ?_
 unfold evT at h
 rw [← R.bindR_eq,← Fast.te14044960220447912780] at h
 exact h
variable {E:Value→Shared→Prop}
def thenF (w:World) (A:Around) (c:Code) (b:List Stmt) (env:Env) (Q:Flow→Shared→Prop) (E:Value→Shared→Prop) (f:Flow) (s:Shared):Prop:=match f with
 | .next=>wpOwn (MW w) A c (execs b env) Q E s
 | f=>Q f s
theorem own_cons {st:Stmt} {rest:List Stmt} {Q:Flow→Shared→Prop} (h:wpOwn (MW w) A c (PySem.exec st env) (thenF w A c rest env Q E) E s):wpOwn (MW w) A c (execs (st::rest) env) Q E s:=by
 show wpOwn (MW w) A c (PySem.exec st env >>= fun f=>match f with | .next=>execs rest env | f=>pure f) Q E s
 refine wpOwn_bind (wpOwn_mono h (fun f s' h'=>?_) fun _ _ h=>h)
 cases f<;>first | exact h' | exact fun _ _ _ _=>h'
theorem execs_append:∀ (a b:List Stmt),execs (a++b) env=(execs a env >>= fun f=>match f with | .next=>execs b env | f=>pure f)
 | [],b=>rfl
 | st::a,b=>by
  show (PySem.exec st env >>= fun f=>match f with | .next=>execs (a++b) env | f=>pure f)=((PySem.exec st env >>= fun f=>match f with | .next=>execs a env | f=>pure f) >>= fun f=>match f with | .next=>execs b env | f=>pure f)
  rw [bind_assoc]
  congr 1
  funext f
  cases f with
  | next=>exact execs_append a b
  | _=>rfl
theorem own_append {a b:List Stmt} {Q:Flow→Shared→Prop} (h:wpOwn (MW w) A c (execs a env) (thenF w A c b env Q E) E s):wpOwn (MW w) A c (execs (a++b) env) Q E s:=by
 rw [execs_append]
 refine wpOwn_bind (wpOwn_mono h (fun f s' h'=>?_) fun _ _ h=>h)
 cases f<;>first | exact h' | exact fun _ _ _ _=>h'
theorem own_if {test:Expr} {b o:List Stmt} {pos:Pos} {Q:Flow→Shared→Prop} (h:wpOwn (MW w) A c (isTrue test env (eval test env)) (fun v s'=>wpOwn (MW w) A c (execs (cond v b o) env) Q E s') E s):wpOwn (MW w) A c (PySem.exec (.If test b o pos) env) Q E s:=by
 show wpOwn (MW w) A c (standAt pos >>= fun _=>isTrue test env (eval test env) >>= fun v=>if v=true then execs b env else execs o env) Q E s
 refine wpOwn_bind (wpOwn_of_wpAny (wpAny_standAt ?_))
 refine wpOwn_bind (wpOwn_mono h (fun v s' h'=>?_) fun _ _ h=>h)
 cases v<;>exact h'
theorem own_or {x y:Expr} {pos:Pos} {whole:Sem Value} {Q:Bool→Shared→Prop} (h:wpOwn (MW w) A c (isTrue x env (eval x env)) (fun v s'=>cond v (Q true s') (wpOwn (MW w) A c (isTrue y env (eval y env)) Q E s')) E s):wpOwn (MW w) A c (isTrue (.BoolOp .Or [x,y] pos) env whole) Q E s:=by
 show wpOwn (MW w) A c (allTrue .Or [x,y] env) Q E s
 show wpOwn (MW w) A c (isTrue x env (eval x env) >>= fun v=>_) Q E s
 refine wpOwn_bind (wpOwn_mono h (fun v s' h'=>?_) fun _ _ h=>h)
 cases v with
 | true=>exact fun _ _ _ _=>h'
 | false=>
  show wpOwn (MW w) A c (isTrue y env (eval y env) >>= fun v=>_) Q E s'
  refine wpOwn_bind (wpOwn_mono h' (fun v s' h'=>?_) fun _ _ h=>h)
  cases v<;>exact fun _ _ _ _=>h'
theorem own_cmp {l r:Expr} {op:CmpOp} {pos:Pos} {whole:Sem Value} {Q:Bool→Shared→Prop} (hm:markedEach [op] [r] (evalEach [r] env)=[eval r env]) (h:wpOwn (MW w) A c (eval l env) (fun a s'=>wpOwn (MW w) A c (eval r env) (fun b s'=>wpOwn (MW w) A c (compareOp op a b) (fun v s'=>∃ z,v=.bool z∧Q z s') E s') E s') E s):
  wpOwn (MW w) A c (isTrue (.Compare l [op] [r] pos) env whole) Q E s:=by
 show wpOwn (MW w) A c (eval l env >>= fun a=>testChain pos a [op] (markedEach [op] [r] (evalEach [r] env))) Q E s
 refine wpOwn_bind (wpOwn_mono h (fun a s' h'=>?_) fun _ _ h=>h)
 rw [hm]
 show wpOwn (MW w) A c (holding [a] (eval r env) >>= fun rv=>standAt pos >>= fun _=>operate [a,rv] (compareOp op a rv) >>= fun c=>holding [c] (truthy c)) Q E s'
 have hh:wpOwn (MW w) A c (holding [a] (eval r env)) (fun b s'=>wpOwn (MW w) A c (compareOp op a b) (fun v s'=>∃ z,v=.bool z∧Q z s') E s') E s':=fun Γ p hc hΓ=>by
  rw [Sem.wp_holding]
  exact h' Γ p hc hΓ
 refine wpOwn_bind (wpOwn_mono hh (fun b s2 h2=>?_) fun _ _ h=>h)
 refine wpOwn_bind (wpOwn_of_wpAny (wpAny_standAt ?_))
 have ho:wpOwn (MW w) A c (operate [a,b] (compareOp op a b)) (fun v s'=>∃ z,v=.bool z∧Q z s') E s2:=fun Γ p hc hΓ=>by
  rw [Sem.wp_operate]
  exact h2 Γ p hc hΓ
 refine wpOwn_bind (wpOwn_mono ho (fun v s3 h3=>?_) fun _ _ h=>h)
 obtain ⟨z,rfl,hz⟩:=h3
 exact wpOwn_of_wpAny (wpAny_holding (wpAny_truthy_bool hz))
theorem own_func {body:List Stmt} {R0:Result→Shared→Prop} (h:wpOwn (MW w) A (.func body env) (execs body env) (fun f s'=>match f with | .ret v=>R0 (.ok (.ret v)) s' | _=>R0 (.ok (.ret .none)) s') (fun _ _=>False) s):codeAny (MW w) A (.func body env) R0 s:=by
 refine codeAny_of_own ?_
 show wpOwn (MW w) A (.func body env) (point >>= fun _=>(execs body env).onRaise (leaving env) >>= fun f=>match f with | .ret v=>ret v | _=>ret .none) _ _ s
 refine wpOwn_bind (wpOwn_of_wpAny (wpAny_point ?_))
 have ho:wpOwn (MW w) A (.func body env) ((execs body env).onRaise (leaving env)) (fun f s'=>match f with | .ret v=>R0 (.ok (.ret v)) s' | _=>R0 (.ok (.ret .none)) s') (fun e s'=>R0 (.error e) s') s:=fun Γ p hc hΓ=>by
  rw [Sem.wp_onRaise]
  exact Sem.wp_mono _ Γ _ (fun _ _ _ h=>h) (fun _ _ _ h=>h.elim) p s (h Γ p hc hΓ)
 refine wpOwn_bind (wpOwn_mono ho (fun f s' h'=>?_) fun _ _ h=>h)
 cases f<;>exact fun _ _ _ _=>h'
end
end
noncomputable section
def testE (s:Stmt):Expr:=match s with
 | .If t _ _ _=>t
 | .While t _ _ _=>t
 | _=>default
def orL (e:Expr):Expr:=match e with
 | .BoolOp _ (x::_) _=>x
 | _=>default
def orR (e:Expr):Expr:=match e with
 | .BoolOp _ (_::y::_) _=>y
 | _=>default
def cmpL (e:Expr):Expr:=match e with
 | .Compare l _ _ _=>l
 | _=>default
def cmpR (e:Expr):Expr:=match e with
 | .Compare _ _ (r::_) _=>r
 | _=>default
def ckB:List Stmt:=fbody (sAt 104 top)
def ckEnv (x:Nat):Env:=fenv (sAt 104 top) 728 727 x
def ckCode (x:Nat):Code:=.func ckB (ckEnv x)
def ckCmp:Expr:=orL (testE (sAt 0 ckB))
def ckF (P:Params) (I:Nat→Nat) (rn:Nat) (tx:List Nat):Obj:=⟨.type "frame",none,.dict ⟨[en P (q [114,117,110]) (I 0) (.ref rn),en P (q [112,97,116,116,101,114,110]) (I 1) (.str (q tx) (I 2))]⟩ 2,⟨[]⟩⟩
def ifPos (s:Stmt):Pos:=match s with
 | .If _ _ _ p=>p
 | _=>default
def ePos (e:Expr):Pos:=match e with
 | .BoolOp _ _ p=>p
 | .Compare _ _ _ p=>p
 | _=>default
def lTail (l:List Stmt):List Stmt:=match l with
 | []=>[]
 | _::r=>r
theorem ckB_eq:ckB=.If (.BoolOp .Or [.Compare (cmpL ckCmp) [.Eq] [cmpR ckCmp] (ePos ckCmp),orR (testE (sAt 0 ckB))] (ePos (testE (sAt 0 ckB)))) (fthen (sAt 0 ckB)) (fels (sAt 0 ckB)) (ifPos (sAt 0 ckB))::lTail ckB:=by kernel_rfl
end
noncomputable section
def isT (e:Expr) (env:Env):Sem PySem.Fin:=R.bindR (PySem.W.Fast.tw15418851999007992765 e env (PySem.W.Fast.tw14044960220447912780 e env)) fun b=>.pure (.done (.ret (.bool b)))
def asT (e:Expr) (env:Env) (v:Value):Sem PySem.Fin:=R.bindR (PySem.W.Fast.tw17772580674575903948 e env v) fun _=>.pure (.done .next)
section
variable {w:World} {A:Around} {c:Code} {s:Shared} {env:Env}
theorem own_isTrue {e:Expr} {R0:Result→Shared→Prop} (h:wpOwn (MW w) A c (isT e env) (postC pw_qz0137_01 w A R0) (postE R0) s):wpOwn (MW w) A c (isTrue e env (eval e env)) (fun b s'=>R0 (.ok (.ret (.bool b))) s') (fun e s'=>R0 (.error e) s') s:=by
 refine own_of_bind (enc:=fun b=>.ret (.bool b)) ?_
 unfold isT at h
 rw [← R.bindR_eq,← Fast.te15418851999007992765,← Fast.te14044960220447912780] at h
 exact h
theorem own_assign {e:Expr} {v:Value} {R0:Result→Shared→Prop} (h:wpOwn (MW w) A c (asT e env v) (postC pw_qz0137_01 w A R0) (postE R0) s):wpOwn (MW w) A c (assign e env v) (fun _ s'=>R0 (.ok .next) s') (fun e s'=>R0 (.error e) s') s:=by
 refine own_of_bind (enc:=fun _=>.next) ?_
 unfold asT at h
 rw [← R.bindR_eq,← Fast.te17772580674575903948] at h
 exact h
variable {E:Value→Shared→Prop}
theorem own_assign_attr {o:Expr} {attr:Str} {pos' pos:Pos} {value:Expr} {Q:Flow→Shared→Prop} (hs:swapsWith value (some (.Attribute o attr pos')) pos.line env=pure false)
  (h:wpOwn (MW w) A c (eval value env) (fun v s'=>wpOwn (MW w) A c (assign (.Attribute o attr pos') env v) (fun _ s'=>Q .next s') E s') E s):wpOwn (MW w) A c (PySem.exec (.Assign [.Attribute o attr pos'] value pos) env) Q E s:=by
 rw [plainObj_exec_Assign_Attribute o attr pos' value pos hs]
 refine wpOwn_bind (wpOwn_of_wpAny (wpAny_standAt ?_))
 refine wpOwn_bind (wpOwn_mono h (fun v s' h'=>?_) fun _ _ h=>h)
 refine wpOwn_bind (wpOwn_mono h' (fun _ s' h'=>?_) fun _ _ h=>h)
 exact fun _ _ _ _=>h'
theorem own_dict1 {k v:Expr} {pos:Pos} {Q:Value→Shared→Prop}
  (h:wpOwn (MW w) A c (eval k env) (fun kv s1=>wpOwn (MW w) A c (eval v env) (fun vv s2=>wpOwn (MW w) A c (dictSet s.heap.objs.size kv vv) (fun _ s3=>Q (.ref s.heap.objs.size) s3) E s2) E s1) E { s with heap:=s.heap.push oEmp }):
  wpOwn (MW w) A c (eval (.Dict [some k] [v] pos) env) Q E s:=by
 rw [arm_eval_Dict]
 refine wpOwn_bind (wpOwn_of_wpAny (wpAny_standAt ?_))
 show wpOwn (MW w) A c (dictDisplay ([(eval k env,(do let x ← eval v env;standAt pos;pure x:Sem Value))].map fun p=>(some p.1,p.2))) Q E s
 rw [dictDisplay_pairs _ (by simp) (by simp)]
 refine wpOwn_bind ?_
 unfold subDict
 refine wpOwn_bind (wpOwn_of_wpAny (wpAny_alloc ?_))
 rw [if_pos (by simp)]
 refine wpOwn_bind ?_
 have hp:wpOwn (MW w) A c (evalPairs [(eval k env,(do let x ← eval v env;standAt pos;pure x:Sem Value))]) (fun vs s2=>∃ kv vv,vs=[(kv,vv)]∧wpOwn (MW w) A c (dictSet s.heap.objs.size kv vv) (fun _ s3=>Q (.ref s.heap.objs.size) s3) E s2) E { s with heap:=s.heap.push oEmp }:=by
  rw [evalPairs]
  refine wpOwn_bind (wpOwn_mono h (fun kv s1 h1=>?_) fun _ _ h=>h)
  have hh:wpOwn (MW w) A c (holding [kv] (do let x ← eval v env;standAt pos;pure x:Sem Value)) (fun vv s2=>wpOwn (MW w) A c (dictSet s.heap.objs.size kv vv) (fun _ s3=>Q (.ref s.heap.objs.size) s3) E s2) E s1:=fun Γ p hc hΓ=>by
   rw [Sem.wp_holding]
   refine (wpOwn_bind (wpOwn_mono h1 (fun vv s2 h2=>?_) fun _ _ h=>h):wpOwn (MW w) A c (eval v env >>= fun x=>standAt pos >>= fun _=>pure x) _ E s1) Γ p hc hΓ
   exact wpOwn_bind (wpOwn_of_wpAny (wpAny_standAt (fun _ _ _ _=>h2)))
  refine wpOwn_bind (wpOwn_mono hh (fun vv s2 h2=>?_) fun _ _ h=>h)
  refine wpOwn_bind (m:=holding [kv,vv] (evalPairs [])) (f:=fun r=>pure ((kv,vv)::r)) ?_
  exact wpOwn_of_wpAny (wpAny_holding (wpAny_pure (fun _ _ _ _=>⟨kv,vv,rfl,h2⟩)))
 have hin:wpOwn (MW w) A c (do
   let vs ← evalPairs [(eval k env,(do let x ← eval v env;standAt pos;pure x:Sem Value))]
   holding (vs.flatMap fun (k,v)=>[k,v]) do
    for (k,v) in vs do dictSet s.heap.objs.size k v) (fun _ s3=>Q (.ref s.heap.objs.size) s3) E { s with heap:=s.heap.push oEmp }:=by
  refine wpOwn_bind (wpOwn_mono hp (fun vs s2 h2=>?_) fun _ _ h=>h)
  obtain ⟨kv,vv,rfl,h2⟩:=h2
  intro Γ p hc hΓ
  rw [Sem.wp_holding]
  have:=h2 Γ p hc hΓ
  simp only [List.forIn_cons,List.forIn_nil,Sem.wp_bind',Sem.wp_pure']
  exact this
 intro Γ p hc hΓ
 rw [Sem.wp_holding]
 exact (wpOwn_mono hin (fun _ s3 h3=>(fun _ _ _ _ _ _ _ _=>h3:wpOwn (MW w) A c (pure s.heap.objs.size) (fun a s'=>wpOwn (MW w) A c (pure (Value.ref a)) Q E s') E s3)) fun _ _ h=>h) Γ p hc hΓ
end
end
noncomputable section
def lvV (l:Bool) (lp:Nat):Value:=cond l (.ref lp) .none
def kpB:List Stmt:=fbody (sAt 110 top)
def kpEnv (x:Nat):Env:=fenv (sAt 110 top) 748 747 x
def kpCode (x:Nat):Code:=.func kpB (kpEnv x)
def kpIf:Stmt:=sAt 3 kpB
def kpDi:Expr:=retE (sAt 0 (fthen kpIf))
def diK (e:Expr):Expr:=match e with
 | .Dict (some k::_) _ _=>k
 | _=>default
def diV (e:Expr):Expr:=match e with
 | .Dict _ (v::_) _=>v
 | _=>default
def diP (e:Expr):Pos:=match e with
 | .Dict _ _ p=>p
 | _=>default
def asTgt (s:Stmt):Expr:=match s with
 | .Assign (t::_) _ _=>t
 | _=>default
def asPos (s:Stmt):Pos:=match s with
 | .Assign _ _ p=>p
 | _=>default
def atO (e:Expr):Expr:=match e with
 | .Attribute o _ _=>o
 | _=>default
def atN (e:Expr):Str:=match e with
 | .Attribute _ n _=>n
 | _=>default
def atP (e:Expr):Pos:=match e with
 | .Attribute _ _ p=>p
 | _=>default
def kpF0 (P:Params) (I:Nat→Nat) (rn ka pr:Nat):Obj:=⟨.type "frame",none,.dict ⟨[en P (q [114,117,110]) (I 0) (.ref rn),en P (q [107,101,121]) (I 1) (.ref ka),en P (q [112,114,111,103,114,97,109]) (I 2) (.ref pr)]⟩ 3,⟨[]⟩⟩
def kpF (P:Params) (I:Nat→Nat) (rn ka pr n kv tv:Nat):Obj:=⟨.type "frame",none,.dict ⟨[en P (q [114,117,110]) (I 0) (.ref rn),en P (q [107,101,121]) (I 1) (.ref ka),en P (q [112,114,111,103,114,97,109]) (I 2) (.ref pr),en P (q [115,105,122,101]) (I 3) (.int (Int.ofNat n) (I 4)),en P (q [107,101,112,116]) (I 5) (.int (Int.ofNat kv) tv)]⟩ 5,⟨[]⟩⟩
theorem kpB_eq:kpB=[sAt 0 kpB,sAt 1 kpB,sAt 2 kpB]++(.If (testE kpIf) [.Assign [.Attribute (atO (asTgt (sAt 0 (fthen kpIf)))) (atN (asTgt (sAt 0 (fthen kpIf)))) (atP (asTgt (sAt 0 (fthen kpIf))))] (.Dict [some (diK kpDi)] [diV kpDi] (diP kpDi)) (asPos (sAt 0 (fthen kpIf))),sAt 1 (fthen kpIf)] [] (ifPos kpIf)::[sAt 4 kpB,sAt 5 kpB]):=by kernel_rfl
structure KF where
 nd:Nat
 hnd:(nd == sysModules)=false
 tk:Nat
 ep:Nat
 ts:Nat
 x:Nat
 t:Nat
theorem ne_KF:Nonempty KF:=⟨⟨0,rfl,0,0,0,0,0⟩⟩
def kfSh (w:World) (T V:Nat→Nat) (rd lm sv fr:Nat) (mt:Value) (st:Nat) (tx:List Nat) (i:Bool) (tt tf ka pr ep:Nat) (xs:List Ent) (lv:Value) (p:KF):Shape:=
 ⟨.ok (.ret .none),[oRun rd,dRun w.params T V lm sv fr mt p.nd (st+tx.length / 10) p.ts,oDk w xs ep,oKey tx i tt tf],[(p.nd,oDk w (kept1 [(kLast,15,lv)] tx.length p.tk tx i ka pr) p.ep)],p.x,0,p.t,0,[]⟩
structure PF (n:Nat) where
 ka:Nat
 tf:Nat
 k:KF
 c:CP n
 x:Nat
 t:Nat
theorem ne_PF (n:Nat):Nonempty (PF n):=⟨⟨0,0,⟨0,rfl,0,0,0,0,0⟩,Classical.choice (ne_CP _),0,0⟩⟩
def newF (w:World) (tx:List Nat) (i:Bool) (tt:Nat) (lv:Value) (p:PF tx.length):Led:=(p.k.nd,oDk w (kept1 [(kLast,15,lv)] tx.length p.k.tk tx i p.ka p.c.c.pr) p.k.ep)::(p.ka,oKey tx i tt p.tf)::(prL w.params p.c.ts p.c.nm p.c.c++[(p.c.nm,oEmp)])
def pfSh (w:World) (T V:Nat→Nat) (rd lm sv fr:Nat) (mt:Value) (st ep:Nat) (tx:List Nat) (i:Bool) (tt:Nat) (xs:List Ent) (lv:Value) (p:PF tx.length):Shape:=
 ⟨.ok (.ret (.ref p.c.c.pr)),[oRun rd,dRun w.params T V lm sv fr mt p.k.nd (st+tx.length / 10) p.k.ts,oDk w xs ep],newF w tx i tt lv p,p.x,0,p.t,0,nodes i tx p.c.ts⟩
end
noncomputable section
theorem tl_end (w:World) (x t cd tc v left it acc loc cl fr ep kt d1 d2 d3:Nat) (kv:Value) (items:List Value) (g b1 b2:Bool):go (PP w b1 b2) [] 860 100000 (ltLoop it acc loc cl fr) [(it,oRi v 0),(acc,oLst items ep),(loc,lcF (PP w b1 b2) [107] g kt kv),(cl,oCell (.int (Int.ofNat cd) tc))] x 0 t 0 [0,2,0,2,2,2] (.ask [0] 99 950 Unit (rendSh v) fun _=>.keep [2,3,4,5])=(.ask (.bi (PySem.W.S.codeS "range_iterator.__next__") [.ref it]) [(it,⟨.type "range_iterator",none,.fields ⟨[.int (Int.ofNat v) 0,.int 0 0,.int 1 0]⟩,⟨[]⟩⟩)] [] x 0 t 0 1 950 (Unit) ((rendSh v) (Nat.add x 0) (Nat.add t 0)) (fun p1=>(dn (.ok .next) ([(it,⟨.type "range_iterator",none,.fields ⟨[.int (Int.ofNat v) 0,.int 0 0,.int 1 0]⟩,⟨[]⟩⟩),(acc,⟨.type "list",none,.seq ⟨(items)⟩ ep,⟨[]⟩⟩),(loc,⟨.type "dict",none,.dict ⟨(cond g [en (PP w b1 b2) (q [107]) kt (kv)] [])⟩ (cond g 1 0),⟨[]⟩⟩),(cl,⟨.type "cell",none,.cell (some (.int (Int.ofNat cd) tc)),⟨[]⟩⟩)]) x 2 t 0 [(a x 1),it,it]))):=by revert g b1 b2;apply bq3<;>kernel_rfl
theorem tl_step (w:World) (x t cd tc v left it acc loc cl fr ep kt d1 d2 d3:Nat) (kv:Value) (items:List Value) (g c b1 b2:Bool):go (PP w b1 b2) [] 860 100000 (ltLoop it acc loc cl fr) [(it,oRi v (left+1)),(acc,oLst items ep),(loc,lcF (PP w b1 b2) [107] g kt kv),(cl,oCell (.int (Int.ofNat cd) tc))] x 0 t 0 [0,2,0,2,2,4,2,5,4,0,2,0,2,0,2,0,2,0,3,2,3] (.ask [0] 99 950 Unit (kS (fun t=>.int (Int.ofNat v) t) [oRi (v+1) left] 1) fun _=>.val (fun t=>.int (Int.ofNat d1) t) 1 <| .val (fun t=>.int (Int.ofNat d2) t) 1 <| .val (fun t=>.int (Int.ofNat d3) t) 1 <| .val (fun t=>.str (q [sg c]) t) 1 <| .ask [1] 99 950 Unit (kS (fun _=>.none) [oLst (items++[.str (q [sg c]) (a t 8)]) (ep+1)] 0) fun _=>.keep [0,1,2,3])=(.ask (.bi (PySem.W.S.codeS "range_iterator.__next__") [.ref it]) [(it,⟨.type "range_iterator",none,.fields ⟨[.int (Int.ofNat v) 0,.int (Int.ofNat (a left 1)) 0,.int 1 0]⟩,⟨[]⟩⟩)] [] x 0 t 0 1 950 (Unit) ((kS (fun t=>Value.int (Int.ofNat v) t) [oRi (v+1) left] 1) (Nat.add x 0) (Nat.add t 0)) (fun p1=>(.val (.bi (PySem.W.S.codeS "int.__add__") [.int (Int.ofNat cd) tc,.int (Int.ofNat v) t]) (.int (Int.ofNat d1) (a t 3)) 1 (a t 3) 1 (.val (.bi (PySem.W.S.codeS "int.__floordiv__") [.int (Int.ofNat d1) (a t 3),.int 3 (a t 4)]) (.int (Int.ofNat d2) (a t 5)) 1 (a t 5) 1 (.val (.bi (PySem.W.S.codeS "int.__mod__") [.int (Int.ofNat d2) (a t 5),.int 2 (a t 6)]) (.int (Int.ofNat d3) (a t 7)) 1 (a t 7) 1 (.val (.bi (PySem.W.S.codeS "str.__getitem__") [.str (q [97,98]) (a t 2),.int (Int.ofNat d3) (a t 7)]) (.str (q [(sg c)]) (a t 8)) 1 (a t 8) 1 (.ask (.bi (PySem.W.S.codeS "list.append") [.ref acc,.str (q [(sg c)]) (a t 8)]) [(acc,⟨.type "list",none,.seq ⟨(items)⟩ ep,⟨[]⟩⟩)] [] x 0 t 9 1 950 (Unit) ((kS (fun x=>Value.none) [oLst (items++[Value.str (q [sg c]) (a t 8)]) (ep+1)] 0) (Nat.add x 0) (Nat.add t 9)) (fun p2=>(ag (ltLoop it acc loc cl fr) [(it,⟨.type "range_iterator",none,.fields ⟨[.int (Int.ofNat (a v 1)) 0,.int (Int.ofNat left) 0,.int 1 0]⟩,⟨[]⟩⟩),(acc,⟨.type "list",none,.seq ⟨(items++[Value.str (q [sg c]) (a t 8)])⟩ (a ep 1),⟨[]⟩⟩),(loc,⟨.type "dict",none,.dict ⟨[en (PP w b1 b2) (q [107]) (cond g kt (a t 1)) (.int (Int.ofNat v) t)]⟩ 1,⟨[]⟩⟩),(cl,⟨.type "cell",none,.cell (some (.int (Int.ofNat cd) tc)),⟨[]⟩⟩)] x 0 (a t 9) 0 [acc,loc,cl,loc,loc,it,it]))))))))):=by revert g c b1 b2;apply bq4<;>kernel_rfl
theorem mod2 (n:Nat):∃ c:Bool,[97,98][n % 2]?=some (sg c):=by
 have:n % 2 < 2:=Nat.mod_lt _ (by decide)
 rcases (by omega:n % 2=0∨n % 2=1) with e | e
 ·exact ⟨false,by rw [e];rfl⟩
 ·exact ⟨true,by rw [e];rfl⟩
theorem tlLoop_ok {w:World} {cd tc it acc loc cl fr:Nat} (hcd:cd≤1000):∀ (left v ep kt x t:Nat) (kv:Value) (items:List Value) (g:Bool),v+left≤1000→items.length+left≤1000 →
  AskOK pw_qz0137_01 w (G0 w) (.code (ltLoop it acc loc cl fr)) [(it,oRi v left),(acc,oLst items ep),(loc,lcF w.params [107] g kt kv),(cl,oCell (.int (Int.ofNat cd) tc))] [] x 0 t 0 860 (tlSh w.params cd tc v items g left):=by
 intro left
 have hsz:sizeLine=16777216:=rfl
 induction left with
 | zero=>
  intro v ep kt x t kv items g h1 h2
  have e:=tl_end w x t cd tc v 0 it acc loc cl fr ep kt 0 0 0 kv items g (w.params.followText "special-get-raises") (w.params.followText "comprehension-iter-twice")
  rw [← PP_self w] at e
  exact ask_run e (G0_ok w) (fun _ h=>h) fun g' A R gs dr os hg low H=>
   ⟨⟨()⟩,nble rfl,fun _=>rfl,rnext_end,fun _=>⟨rfl,fun h' r=>H ⟨[],rfl,(fun _ hp=>nomatch hp),kt,kv,ep,_,_⟩ h' (by
    show Rep g' [(it,oRi v 0),(acc,oLst (items++[]) ep),(loc,lcF w.params [107] g kt kv),(cl,oCell (.int (Int.ofNat cd) tc))] _ h'
    rw [List.append_nil]
    cases g<;>exact r)⟩⟩
 | succ left ih=>
  intro v ep kt x t kv items g h1 h2
  obtain ⟨c,hc⟩:=mod2 ((cd+v) / 3)
  have e:=tl_step w x t cd tc v left it acc loc cl fr ep kt (cd+v) ((cd+v) / 3) ((cd+v) / 3 % 2) kv items g c (w.params.followText "special-get-raises") (w.params.followText "comprehension-iter-twice")
  rw [← PP_self w] at e
  exact ask_run e (G0_ok w) (fun _ h=>h) fun g' A R gs dr os hg low H=>
   ⟨⟨()⟩,nble rfl,fun _=>rfl,rnext_item,fun _=>⟨v_addn,v_fdivn (k:=3) (by omega) (by omega) (by omega),v_modn (k:=2) (by omega),v_sget hc (by decide),⟨⟨()⟩,nble rfl,fun _=>rfl,append_ok (by omega),fun _=>
    ⟨rfl,fun h' rep=>by
     refine use_ask (ps:=[0,1,2,3]) (ih (v+1) (ep+1) _ _ _ _ (items++[.str (q [sg c]) (a t 8)]) true (by omega) (by rw [List.length_append,List.length_singleton];omega)) (G0_mono w) rfl rfl hg low rep (fun _=>rfl) fun p h'' r=>?_
     refine H ⟨(sg c,a t 8)::p.cs,by rw [List.length_cons,p.len],?_,p.kt,p.kv,p.ep,p.x,p.t⟩ h'' ?_
     ·intro q hq
      rcases List.mem_cons.mp hq with rfl | hq
      ·cases c
       ·exact .inl rfl
       ·exact .inr rfl
      ·exact p.ab q hq
     ·have e2:items++[.str (q [sg c]) (a t 8)]++chars p.cs=items++chars ((sg c,a t 8)::p.cs):=by rw [List.append_assoc];rfl
      have e3:v+1+left=v+(left+1):=by omega
      have r':Rep g' ([(it,oRi (v+1+left) 0),(acc,oLst (items++[.str (q [sg c]) (a t 8)]++chars p.cs) p.ep),(loc,lcF w.params [107] (gk true left) p.kt p.kv),(cl,oCell (.int (Int.ofNat cd) tc))]++[]) _ h'':=r
      rw [e2,e3,show gk true left=true from by cases left<;>rfl] at r'
      exact r'⟩⟩⟩⟩
end
noncomputable section
theorem tx_run (w:World) (x t cd tc:Nat) (b1 b2:Bool):go (PP w b1 b2) [] 840 100000 (.call (.ref 991) ⟨[.int (Int.ofNat cd) tc],[]⟩) [] x 0 t 0 (cond b2 [1,0,0,2,0,0,0,0,0,2,0,2,0,2,0,0,0,0,2,2,0,2,0,2,2,2,0,2,2,2,0,2,2,2,0,0,2] [1,0,0,2,0,0,0,0,0,2,0,2,0,2,0,0,0,0,2,2,0,2,0,2,2,2,0,2,2,2,0,4,4,0,4,0,4,2,2,2,0,0,2]) (.val (fun t=>.int (Int.ofNat (cd % 32)) t) 1 <| .val (fun t=>.int (Int.ofNat (cd % 32+1)) t) 1 <| .ask [0] 99 950 Unit (newSh (fun x=>.ref x) (oRi 0 (cd % 32+1)) [oRg (cd % 32+1) (a t 5) (a t 4) (a t 6)]) fun _=>.ask [2,1,0,4] 99 860 (TL (cd % 32+1)) (fun _ _=>tlSh (PP w b1 b2) cd tc 0 [] false (cd % 32+1)) fun p=>.ask [1] 99 950 (Nat × Nat) (fun x' _=>jSh (p.cs.map (·.1)) (oLst (chars p.cs) p.ep) x') fun j=>.keep [])=(.val (.bi (PySem.W.S.codeS "int.__mod__") [.int (Int.ofNat cd) tc,.int 32 (a t 2)]) (.int (Int.ofNat (cd % 32)) (a t 3)) 1 (a t 3) 1 (.val (.bi (PySem.W.S.codeS "int.__add__") [.int 1 (a t 1),.int (Int.ofNat (cd % 32)) (a t 3)]) (.int (Int.ofNat (a (cd % 32) 1)) (a t 4)) 1 (a t 4) 1 (.ask (.bi (PySem.W.S.codeS "range.__iter__") [.ref (a x 2)]) [((a x 2),⟨.type "range",none,.fields ⟨[.int 0 (a t 5),.int (Int.ofNat (a (cd % 32) 1)) (a t 4),.int 1 (a t 6)]⟩,⟨[]⟩⟩)] [] x 3 t 7 1 950 (Unit) ((newSh (fun x=>Value.ref x) (oRi 0 (cd % 32+1)) [oRg (cd % 32+1) (a t 5) (a t 4) (a t 6)]) (Nat.add x 3) (Nat.add t 7)) (fun p1=>(.ask (.code (ltLoop (a x 3) (a x 4) (a x 5) (a x 1) x)) [((a x 3),⟨.type "range_iterator",none,.fields ⟨[.int 0 0,.int (Int.ofNat (a (cd % 32) 1)) 0,.int 1 0]⟩,⟨[]⟩⟩),((a x 4),⟨.type "list",none,.seq ⟨[]⟩ 0,⟨[]⟩⟩),((a x 5),⟨.type "dict",none,.dict ⟨[]⟩ 0,⟨[]⟩⟩),((a x 1),⟨.type "cell",none,.cell (some (.int (Int.ofNat cd) tc)),⟨[]⟩⟩)] [] (a x 3) 3 (a t 7) 0 1 860 (TL (cd % 32+1)) ((fun x x_1=>tlSh (PP w b1 b2) cd tc 0 [] false (cd % 32+1)) (Nat.add (a x 3) 3) (Nat.add (a t 7) 0)) (fun p2=>(.ask (.bi (PySem.W.S.codeS "str.join") [.str (q []) t,.ref (a x 4)]) [((a x 4),⟨.type "list",none,.seq ⟨([]++chars p2.cs)⟩ (p2.6),⟨[]⟩⟩)] [] (p2.7) 0 (p2.8) 0 1 950 (Nat × Nat) ((fun x' x=>jSh (List.map (fun x=>x.fst) p2.cs) (oLst (chars p2.cs) p2.ep) x') (Nat.add (p2.7) 0) (Nat.add (p2.8) 0)) (fun p3=>(dn (.ok (.ret (.str (q (List.map (fun x=>x.fst) p2.cs)) (p3.1)))) ([]) (p2.7) 0 (p3.2) 0 (cond b2 [(a x 5),(a x 5),(a x 5),(a x 3),(a x 2),(a x 2),(a x 2),(a x 2),(a x 2),(a x 2),(a x 2),(a x 1),(a x 1),(a x 1)] [(a x 5),(a x 5),(a x 5),(a x 3),(a x 3),(a x 3),(a x 3),(a x 3),(a x 2),(a x 2),(a x 2),(a x 2),(a x 2),(a x 2),(a x 2),(a x 1),(a x 1),(a x 1)])))))))))):=by revert b1 b2;apply bq2<;>kernel_rfl
theorem ne_nil_of {α:Type} {l:List α} {k:Nat} (h:l.length=k+1):l≠[]:=by
 rintro rfl
 exact absurd h (Nat.succ_ne_zero k).symm
theorem v_add1n {w:World} {G:Heap→Prop} {t D n:Nat} {u v:Tok}:ValOK pw_qz0137_01 w G (.bi (PySem.W.S.codeS "int.__add__") [.int 1 u,.int (Int.ofNat n) v]) (.int (Int.ofNat (n+1)) t) 1 t D:=by
 have z:=v_add (w:=w) (G:=G) (t:=t) (D:=D) 1 (Int.ofNat n) u v
 rw [show (1+Int.ofNat n:Int)=Int.ofNat (n+1) from Int.add_comm 1 (Int.ofNat n)] at z
 exact z
theorem ltx_ok {w:World} {kn:Led} {cd tc x m t i:Nat} (hcd:cd≤900):AskOK pw_qz0137_01 w (G0 w) (.fn 991 [.int (Int.ofNat cd) tc]) [] kn x m t i 840 ltxSh:=by
 have e:=tx_run w (Nat.add x m) (Nat.add t i) cd tc (w.params.followText "special-get-raises") (w.params.followText "comprehension-iter-twice")
 rw [← PP_self w] at e
 have hk:cd % 32 < 32:=Nat.mod_lt _ (by decide)
 exact AskOK.shift (ask_run e (G0_ok w) (fun _ h=>h) fun g A R gs dr os hg low H=>
  ⟨v_modn (k:=32) (by decide),v_add1n,⟨⟨()⟩,nble rfl,fun _=>rfl,range_iter_ok (by show cd % 32+1 < 2 ^ 60;omega),fun _=>⟨ne_TL _,nble rfl,fun _=>rfl,tlLoop_ok (by omega) (cd % 32+1) 0 0 0 _ _ .none [] false (by omega) (by show 0+(cd % 32+1)≤1000;omega),fun p=>
   ⟨⟨(0,0)⟩,nble rfl,fun _=>rfl,join_ok (ne_nil_of p.len) (by have:=p.len;omega),fun j=>⟨rfl,fun h' r=>H ⟨p.cs.map (fun z:Nat × Nat=>z.1),⟨fun c hc=>by obtain ⟨q,hq,rfl⟩:=List.mem_map.mp hc;exact p.ab q hq,by rw [List.length_map,p.len];omega⟩,ne_nil_of (by rw [List.length_map,p.len]),by rw [List.length_map,p.len];omega,j.1,p.x,j.2⟩ h' r⟩⟩⟩⟩⟩)
end
noncomputable section
theorem G0.get {w:World} {g:Heap} (h:G0 w g) {a:Addr} {o:Obj} (e:(kt w.params).get a=some o):g.get? a=some o:=by
 have z:=KT.Holds.get h e
 rw [Nat.one_mul,Nat.add_zero] at z
 exact z
theorem Keys.stored {w:World} {g:Heap} {xs:List Ent} {k:List SB} {a:Addr} {v:Value} (K:Keys w xs g) (h:IsK w g k a):Keys w (storedH xs k a v) g:=by
 cases e:atKey xs k with
 | none=>
  rw [storedH_new e]
  refine ⟨fun x hx=>?_,?_⟩
  ·rcases List.mem_append.mp hx with hx | hx
   ·exact K.each x hx
   ·rw [List.mem_singleton] at hx
    subst hx
    exact h
  ·rw [List.map_append,List.nodup_append]
   refine ⟨K.nd,by simp,?_⟩
   intro x hx y hy
   simp only [List.map_cons,List.map_nil,List.mem_singleton] at hy
   subst hy
   rintro rfl
   obtain ⟨z,hz,rfl⟩:=List.mem_map.mp hx
   have:(xs.find? fun x=>decide (x.1=z.1))=none:=by
    unfold atKey at e
    exact Option.map_eq_none_iff.mp e
   have:=List.find?_eq_none.mp this z hz
   simp at this
 | some p=>
  rw [storedH_old e]
  refine ⟨fun x hx=>?_,by rw [keys_map_putAt];exact K.nd⟩
  obtain ⟨y,hy,rfl⟩:=List.mem_map.mp hx
  unfold putAt
  split<;>exact K.each y hy
end
noncomputable section
theorem of_run (w:World) (x t tf:Nat) (i g b1 b2:Bool):go (PP w b1 b2) [] 350 100000 (.call (.ref 734) ⟨[.str (q (fg g i)) tf],[]⟩) [] x 0 t 0 (cond i (cond b2 [1,0,0,2,0,0,0,0,0,2,0,0,4,0,4,0,4,4,4,2,2,0,2,5,0,0,2,0,3,0,3,1,3,0,4,0,4,0,4,4,4,2,2,0,2,5,0,0,0,4,0,4,0,4,4,4,2,2,0,2,5,0,0,0,4,0,4,0,4,4,4,2,2,0,2,5,0,0,0,4,0,4,0,4,4,4,2,2,4,4,2,0,0,5,5] [1,0,0,2,0,0,0,0,0,2,0,4,4,0,4,0,4,0,4,0,4,0,4,4,4,2,2,0,2,5,0,0,2,0,3,0,3,1,3,0,4,0,4,0,4,4,4,2,2,0,2,5,0,0,0,4,0,4,0,4,4,4,2,2,0,2,5,0,0,0,4,0,4,0,4,4,4,2,2,0,2,5,0,0,0,4,0,4,0,4,4,4,2,2,4,4,2,0,0,5,5]) (cond b2 [1,0,0,2,0,0,0,0,0,2,0,0,4,0,4,0,4,4,4,2,2,0,2,5,0,0,0,4,0,4,0,4,4,4,2,2,0,2,5,0,0,0,4,0,4,0,4,4,4,2,2,0,2,5,0,0,0,4,0,4,0,4,4,4,2,2,0,2,5,0,0,0,4,0,4,0,4,4,4,2,2,4,4,2,0,0,5,5] [1,0,0,2,0,0,0,0,0,2,0,4,4,0,4,0,4,0,4,0,4,0,4,4,4,2,2,0,2,5,0,0,0,4,0,4,0,4,4,4,2,2,0,2,5,0,0,0,4,0,4,0,4,4,4,2,2,0,2,5,0,0,0,4,0,4,0,4,4,4,2,2,0,2,5,0,0,0,4,0,4,0,4,4,4,2,2,4,4,2,0,0,5,5])) (.keep [])=(dn (.ok (.ret (.str (q (fl i)) (a t (cond i 2 10))))) ([]) x 7 t (cond i 10 11) (cond i (cond b2 [(a x 3),(a x 3),(a x 4),(a x 4),(a x 4),(a x 6),(a x 2),(a x 2),(a x 2),(a x 2),(a x 2),(a x 2),(a x 1),(a x 4),(a x 4),(a x 4),(a x 2),(a x 2),(a x 2),(a x 2),(a x 2),(a x 2),(a x 1),(a x 4),(a x 4),(a x 4),(a x 2),(a x 2),(a x 2),(a x 2),(a x 2),(a x 2),(a x 1),(a x 4),(a x 4),(a x 4),(a x 2),(a x 2),(a x 2),(a x 2),(a x 2),(a x 2),(a x 3),(a x 3),(a x 3),(a x 3),(a x 4),(a x 1),(a x 4),(a x 4),(a x 4),(a x 2),(a x 2),(a x 2),(a x 2),(a x 2),(a x 2),(a x 2),(a x 1),(a x 1)] [(a x 3),(a x 3),(a x 4),(a x 4),(a x 4),(a x 6),(a x 2),(a x 2),(a x 2),(a x 2),(a x 2),(a x 2),(a x 1),(a x 4),(a x 4),(a x 4),(a x 2),(a x 2),(a x 2),(a x 2),(a x 2),(a x 2),(a x 1),(a x 4),(a x 4),(a x 4),(a x 2),(a x 2),(a x 2),(a x 2),(a x 2),(a x 2),(a x 1),(a x 4),(a x 4),(a x 4),(a x 2),(a x 2),(a x 2),(a x 2),(a x 2),(a x 2),(a x 3),(a x 3),(a x 3),(a x 3),(a x 4),(a x 1),(a x 4),(a x 4),(a x 4),(a x 2),(a x 2),(a x 2),(a x 2),(a x 2),(a x 2),(a x 2),(a x 2),(a x 2),(a x 2),(a x 2),(a x 1),(a x 1)]) (cond b2 [(a x 3),(a x 3),(a x 4),(a x 4),(a x 4),(a x 6),(a x 2),(a x 2),(a x 2),(a x 2),(a x 2),(a x 2),(a x 1),(a x 4),(a x 4),(a x 4),(a x 2),(a x 2),(a x 2),(a x 2),(a x 2),(a x 2),(a x 1),(a x 4),(a x 4),(a x 4),(a x 2),(a x 2),(a x 2),(a x 2),(a x 2),(a x 2),(a x 1),(a x 4),(a x 4),(a x 4),(a x 2),(a x 2),(a x 2),(a x 2),(a x 2),(a x 2),(a x 1),(a x 4),(a x 4),(a x 4),(a x 2),(a x 2),(a x 2),(a x 2),(a x 2),(a x 2),(a x 2),(a x 1),(a x 1)] [(a x 3),(a x 3),(a x 4),(a x 4),(a x 4),(a x 6),(a x 2),(a x 2),(a x 2),(a x 2),(a x 2),(a x 2),(a x 1),(a x 4),(a x 4),(a x 4),(a x 2),(a x 2),(a x 2),(a x 2),(a x 2),(a x 2),(a x 1),(a x 4),(a x 4),(a x 4),(a x 2),(a x 2),(a x 2),(a x 2),(a x 2),(a x 2),(a x 1),(a x 4),(a x 4),(a x 4),(a x 2),(a x 2),(a x 2),(a x 2),(a x 2),(a x 2),(a x 1),(a x 4),(a x 4),(a x 4),(a x 2),(a x 2),(a x 2),(a x 2),(a x 2),(a x 2),(a x 2),(a x 2),(a x 2),(a x 2),(a x 2),(a x 1),(a x 1)]))):=by revert i g b1 b2;apply bq4<;>kernel_rfl
theorem kp_run (w:World) (x t rn rd pt ep lm ld sv fr st ts ka tt tf pr n lim tl stp tst kp kt:Nat) (T V W:Nat→Nat) (tx:List Nat) (mt v1:Value) (xs:List Ent) (h i b1 b2:Bool):go (PP w b1 b2) [(lm,oLim ld),(ld,dLim (PP w b1 b2) W v1 stp tst lim tl)] 380 100000 (.call (.ref 748) ⟨[.ref rn,.ref ka,.ref pr],[]⟩) [(rn,oRun rd),(rd,dRun (PP w b1 b2) T V lm sv fr mt pt st ts),(pt,oDk w xs ep),(ka,oTup [.str (q tx) tt,.str (q (fl i)) tf])] x 0 t 0 [1,0,0,2,0,2,0,2,0,0,0,0,0,2,6,6,6,0,6,0,6,0,2,2,0,2,3,0,0,0,0,3,0,0,0,3,3,0,4,2,0,0,2,0,2,3,0,0,0,0,3,0,0,3,0,3,0,0,0,3,0,4,2,4,2,3,0,0,0,0,3,0,0,0,3,3,0,4,5,5,5,5,0,0,5,2,2,0,2,2,0,2,2,3,0,0,0,0,3,0,0,0,3,3,0,4,1,0,0,0,0,0,1,0,0,0,0,1,0,1,0,0,1,1,0,0,2,2,2,3,0,0,0,0,3,0,0,0,3,3,0,4,0,5,5,0,5,2,2,2,3,0,0,0,0,3,0,0,0,3,3,0,4,2,5,5,0,5,2] (.val (fun t=>.int (Int.ofNat n) (a t 1)) 2 <| .val (fun t=>.int (Int.ofNat (n / 10)) t) 1 <| .val (fun t=>.int (Int.ofNat (st+n / 10)) t) 1 <| .ask [3] 99 950 Unit (kS (fun _=>.int (Int.ofNat kp) (cond h kt (a t 13))) [oDk w xs ep] 3) fun _=>.val (fun t=>.int (Int.ofNat (kp+n)) t) 1 <| .val (fun _=>.bool false) 0 <| .ask [3] 99 950 Nat (dsSh w (storedH xs kKept 729 (.int (Int.ofNat (kp+n)) (a t 17))) [] 3) fun e1=>.ask [3,4] 99 950 Nat (dsSh w (storedH (storedH xs kKept 729 (.int (Int.ofNat (kp+n)) (a t 17))) (kText tx i) ka (.ref pr)) [oTup [.str (q tx) tt,.str (q (fl i)) tf]] 3) fun e2=>.keep [1,2,3,4])=(.val (.bi (PySem.W.S.codeS "len") [.str (q (tx)) tt]) (.int (Int.ofNat n) (a t 5)) 2 (a t 4) 1 (.val (.bi (PySem.W.S.codeS "int.__floordiv__") [.int (Int.ofNat n) (a t 5),.int 10 1338]) (.int (Int.ofNat (n / 10)) (a t 8)) 1 (a t 8) 1 (.val (.bi (PySem.W.S.codeS "int.__add__") [.int (Int.ofNat st) ts,.int (Int.ofNat (n / 10)) (a t 8)]) (.int (Int.ofNat (st+n / 10)) (a t 9)) 1 (a t 9) 1 (.ask (.bi (PySem.W.S.codeS "dict.get") [.ref pt,.ref 729,.int 0 (a t 13)]) [(pt,(oDk w xs ep))] [] x 1 t 14 1 950 (Unit) ((kS (fun x=>Value.int (Int.ofNat kp) (bif h then kt else a t 13)) [oDk w xs ep] 3) (Nat.add x 1) (Nat.add t 14)) (fun p1=>(.val (.bi (PySem.W.S.codeS "int.__add__") [.int (Int.ofNat kp) (cond h kt (a t 13)),.int (Int.ofNat n) (a t 5)]) (.int (Int.ofNat (kp+n)) (a t 17)) 1 (a t 17) 1 (.val (.bi (PySem.W.S.codeS "int.__gt__") [.int (Int.ofNat (kp+n)) (a t 17),.int (Int.ofNat lim) tl]) (.bool false) 0 (a t 21) 1 (.ask (.bi (PySem.W.S.codeS "dict.__setitem__") [.ref pt,.ref 729,.int (Int.ofNat (kp+n)) (a t 17)]) [(pt,(oDk w xs ep))] [] (a x 1) 0 (a t 14) 8 1 950 (Nat) ((dsSh w (storedH xs kKept 729 (Value.int (Int.ofNat (kp+n)) (a t 17))) [] 3) (Nat.add (a x 1) 0) (Nat.add (a t 14) 8)) (fun p2=>(.ask (.bi (PySem.W.S.codeS "dict.__setitem__") [.ref pt,.ref ka,.ref pr]) [(pt,⟨.type "dict",none,.dict ⟨(List.map (entryOfKey (TK w)) (storedH xs kKept 729 (Value.int (Int.ofNat (kp+n)) (a t 17))))⟩ p2,⟨[]⟩⟩),(ka,⟨.type "tuple",none,.seq ⟨[.str (q (tx)) tt,.str (q (fl i)) tf]⟩ 0,⟨[]⟩⟩)] [] (a x 1) 0 (a t 22) 4 1 950 (Nat) ((dsSh w (storedH (storedH xs kKept 729 (Value.int (Int.ofNat (kp+n)) (a t 17))) (kText tx i) ka (Value.ref pr)) [oTup [Value.str (q tx) tt,Value.str (q (fl i)) tf]] 3) (Nat.add (a x 1) 0) (Nat.add (a t 22) 4)) (fun p3=>(dn (.ok (.ret .none)) ([(rn,(oRun rd)),(rd,(dRun (PP w b1 b2) T V lm sv fr (mt) pt (st+n / 10) (a t 9))),(pt,⟨.type "dict",none,.dict ⟨(List.map (entryOfKey (TK w)) (storedH (storedH xs kKept 729 (Value.int (Int.ofNat (kp+n)) (a t 17))) (kText tx i) ka (Value.ref pr)))⟩ p3,⟨[]⟩⟩),(ka,⟨.type "tuple",none,.seq ⟨[.str (q (tx)) tt,.str (q (fl i)) tf]⟩ 0,⟨[]⟩⟩)]) (a x 1) 0 (a t 26) 3 [pt,pt,pt,x,rd,rn,rn,rn,rn,x,x,pt,pt,pt,rd,rn,rn,rn,rn,x,x,ld,lm,lm,lm,lm,rd,rn,rn,rn,rn,x,x,x,x,x,pt,pt,pt,pt,pt,rd,rn,rn,rn,rn,x,rd,rd,rd,rn,rn,rn,rn,rn,x,rd,rn,rn,rn,rn,x,x,x,ka,ka,ka,ka,ka,x,x,x,x,x,x,x])))))))))))):=by revert h i b1 b2;apply bq4<;>kernel_rfl
theorem of_ok {w:World} {kn:Led} {i g:Bool} {tf x m t i':Nat}:AskOK pw_qz0137_01 w (G0 w) (.fn 734 [.str (q (fg g i)) tf]) [] kn x m t i' 350 (ofSh i):=by
 have e:=of_run w (Nat.add x m) (Nat.add t i') tf i g (w.params.followText "special-get-raises") (w.params.followText "comprehension-iter-twice")
 rw [← PP_self w] at e
 exact AskOK.shift (ask_run e (G0_ok w) (fun _ h=>h) fun g A R gs dr os hg low H=>⟨rfl,fun h' r=>H (_,_,_) h' r⟩)
theorem GL_mono {w:World} {L0:Led} {xs:List Ent}:∀ g g':Heap,(∀ b o,g.get? b=some o→g'.get? b=some o)→GL w L0 xs g→GL w L0 xs g':=
 fun g g' k h=>⟨G0_mono w g g' k h.1,fun q hq=>k _ _ (h.2.1 q hq),h.2.2.mono k⟩
theorem GL_ok {w:World} {L0 kl:Led} {xs:List Ent} (h:∀ q∈kl,q∈L0):Grd w kl (GL w L0 xs):=⟨GL_mono,fun g hg=>⟨hg.1,fun q hq=>hg.2.1 q (h q hq)⟩⟩
theorem isLast {w:World} {g:Heap} (h:G0 w g):IsK w g kLast 15:=IsK.pair (h.get (by kernel_rfl:(kt w.params).get 15=some (oTup [.str (q []) 189,.str (q [108,97,115,116]) 190]))) (sbIs_str _ _) (sbIs_str _ _)
theorem isKept {w:World} {g:Heap} (h:G0 w g):IsK w g kKept 729:=IsK.pair (h.get (by kernel_rfl:(kt w.params).get 729=some (oTup [.str (q []) 1335,.str (q [115,105,103,110,115]) 1336]))) (sbIs_str _ _) (sbIs_str _ _)
theorem isText {w:World} {g h:Heap} {L:Led} {n ka tt tf:Nat} {tx:List Nat} {i:Bool} (rep:Rep g L n h) (hm:(ka,oKey tx i tt tf)∈L):IsK w h (kText tx i) ka:=IsK.pair (rep.own _ hm).1 (sbIs_str _ _) (sbIs_str _ _)
theorem stored_len (xs:List Ent) (k:List SB) (a:Addr) (v:Value):(storedH xs k a v).length≤xs.length+1:=by
 unfold storedH
 split
 ·rw [List.length_map];exact Nat.le_succ _
 ·rw [List.length_append];exact Nat.le_refl _
theorem v_gt_f {w:World} {G:Heap→Prop} {t D n k:Nat} {u v:Tok} (h:n≤k):ValOK pw_qz0137_01 w G (.bi (PySem.W.S.codeS "int.__gt__") [.int (Int.ofNat n) u,.int (Int.ofNat k) v]) (.bool false) 0 t D:=by
 have z:=v_gt (w:=w) (G:=G) (t:=t) (D:=D) (Int.ofNat n) (Int.ofNat k) u v
 rw [decide_eq_false (by have a:Int.ofNat n=(n:Int):=rfl;have b:Int.ofNat k=(k:Int):=rfl;omega)] at z
 exact z
theorem v_gt_t {w:World} {G:Heap→Prop} {t D n k:Nat} {u v:Tok} (h:k < n):ValOK pw_qz0137_01 w G (.bi (PySem.W.S.codeS "int.__gt__") [.int (Int.ofNat n) u,.int (Int.ofNat k) v]) (.bool true) 0 t D:=by
 have z:=v_gt (w:=w) (G:=G) (t:=t) (D:=D) (Int.ofNat n) (Int.ofNat k) u v
 rw [decide_eq_true (by have a:Int.ofNat n=(n:Int):=rfl;have b:Int.ofNat k=(k:Int):=rfl;omega)] at z
 exact z
theorem kp_ok {w:World} {kn L0:Led} {T V W:Nat→Nat} {rn rd lm ld sv fr pt st ts ep ka tt tf pr kp stp tst lim tl x m t i':Nat} {mt v1:Value} {tx:List Nat} {i:Bool} {xs:List Ent} (hT:AB tx)
  (hL:∀ q∈limL w lm ld W v1 stp tst lim tl,q∈L0) (hd:(pt == sysModules)=false) (hk:KeptIs xs kp) (hsz:xs.length≤1000) (hst:st≤1000000) (hfit:kp+tx.length≤lim):
  AskOK pw_qz0137_01 w (GL w L0 xs) (.fn 748 [.ref rn,.ref ka,.ref pr]) [(rn,oRun rd),(rd,dRun w.params T V lm sv fr mt pt st ts),(pt,oDk w xs ep),(ka,oKey tx i tt tf)] kn x m t i' 380
   (kpSh w T V rd lm sv fr mt pt st tx i tt tf ka pr kp xs):=by
 have hz:sizeLine=16777216:=rfl
 have hlen:=hT.size
 obtain ⟨h,kt,hkv⟩:∃ (h:Bool) (kt:Nat),∀ tk,((atKey xs kKept).map (·.2)).getD (.int 0 tk)=.int (Int.ofNat kp) (cond h kt tk):=by
  rcases hk with ⟨a,tk,e⟩ | ⟨e,rfl⟩
  ·exact ⟨true,tk,fun _=>by rw [e];rfl⟩
  ·exact ⟨false,0,fun _=>by rw [e];rfl⟩
 have e:=kp_run w (Nat.add x m) (Nat.add t i') rn rd pt ep lm ld sv fr st ts ka tt tf pr tx.length lim tl stp tst kp kt T V W tx mt v1 xs h i (w.params.followText "special-get-raises") (w.params.followText "comprehension-iter-twice")
 rw [← PP_self w] at e
 exact AskOK.shift (ask_run e (GL_ok hL) (fun _ h=>h) fun g A R gs dr os hg low H=>
  ⟨v_len rfl hT.fits,v_fdivn (k:=10) (by omega) (by omega) (by omega),v_addn,⟨⟨()⟩,nble rfl,fun _=>rfl,
   hkv _ ▸ dget_ok (lk:=[]) (k:=kKept) (ka:=729) (D:=950) hd (fun g h n hg rep=>hg.2.2.mono rep.keep) (fun g h n hg rep=>(isKept hg.1).mono rep.keep) (by decide),fun _=>⟨v_addn,v_gt_f hfit,⟨⟨0⟩,nble rfl,fun _=>rfl,
   dset_ok (lk:=[]) (k:=kKept) (ka:=729) (D:=950) (fun g h n hg rep=>hg.2.2.mono rep.keep) (fun g h n hg rep=>(isKept hg.1).mono rep.keep) (by decide) (by omega),fun e1=>⟨⟨0⟩,nble rfl,fun _=>rfl,
   dset_ok (lk:=[(ka,oKey tx i tt tf)]) (k:=kText tx i) (ka:=ka) (D:=950) (fun g h n hg rep=>(hg.2.2.stored (isKept hg.1)).mono rep.keep) (fun g h n hg rep=>isText rep (.tail _ (.head _))) (by decide) (by have:=stored_len xs kKept 729 (.int (Int.ofNat (kp+tx.length)) (a (Nat.add t i') 17));omega),fun e2=>
   ⟨rfl,fun h' rep=>H ⟨_,e2,_,_,_⟩ h' rep⟩⟩⟩⟩⟩⟩)
end
noncomputable section
theorem ck_in (w:World) (x t rn rd pt ep lm sv fr ef st ts tt f:Nat) (T V I:Nat→Nat) (tx:List Nat) (mt:Value) (b1 b2:Bool):go (PP w b1 b2) [] 360 100000 (.call (.ref 728) ⟨[.ref rn,.str (q tx) tt],[]⟩) [(rn,oRun rd),(rd,dRun (PP w b1 b2) T V lm sv fr mt pt st ts)] x 0 t 0 [1,0,0,2,0,2,0,0,3] (.keep [0,1,2])=(ag (ckCode x) [(x,⟨.type "frame",none,.dict ⟨[en (PP w b1 b2) (q [114,117,110]) t (.ref rn),en (PP w b1 b2) (q [112,97,116,116,101,114,110]) (a t 1) (.str (q (tx)) tt)]⟩ 2,⟨[]⟩⟩),(rn,(oRun rd)),(rd,(dRun (PP w b1 b2) T V lm sv fr (mt) pt st ts))] x 1 t 2 [x,x,x,x]):=by revert b1 b2;apply bq2<;>kernel_rfl
theorem ck_l (w:World) (x t rn rd pt ep lm sv fr ef st ts tt f:Nat) (T V I:Nat→Nat) (tx:List Nat) (mt:Value) (b1 b2:Bool):goT (PP w b1 b2) [] 360 100000 (ckCode f) (evT (cmpL ckCmp) (ckEnv f)) [(f,ckF (PP w b1 b2) I rn tx),(rn,oRun rd),(rd,dRun (PP w b1 b2) T V lm sv fr mt pt st ts)] x 0 t 0 [2,3,0,0,0,0,3,0,0,0,3,3,0,4] (.keep [0,1,2])=(dn (.ok (.ret (.ref fr))) ([(f,⟨.type "frame",none,.dict ⟨[en (PP w b1 b2) (q [114,117,110]) (I 0) (.ref rn),en (PP w b1 b2) (q [112,97,116,116,101,114,110]) (I 1) (.str (q (tx)) (I 2))]⟩ 2,⟨[]⟩⟩),(rn,(oRun rd)),(rd,(dRun (PP w b1 b2) T V lm sv fr (mt) pt st ts))]) x 0 t 1 [rd,rn,rn,rn,rn,f]):=by revert b1 b2;apply bq2<;>kernel_rfl
theorem ck_r (w:World) (x t rn rd pt ep lm sv fr ef st ts tt f:Nat) (T V I:Nat→Nat) (tx:List Nat) (mt:Value) (b1 b2:Bool):goT (PP w b1 b2) [] 360 100000 (ckCode f) (evT (cmpR ckCmp) (ckEnv f)) [(f,ckF (PP w b1 b2) I rn tx),(rn,oRun rd),(rd,dRun (PP w b1 b2) T V lm sv fr mt pt st ts)] x 0 t 0 [] (.keep [0,1,2,3])=(dn (.ok (.ret (.ref x))) ([(x,⟨.type "list",none,.seq ⟨[]⟩ 0,⟨[]⟩⟩),(f,⟨.type "frame",none,.dict ⟨[en (PP w b1 b2) (q [114,117,110]) (I 0) (.ref rn),en (PP w b1 b2) (q [112,97,116,116,101,114,110]) (I 1) (.str (q (tx)) (I 2))]⟩ 2,⟨[]⟩⟩),(rn,(oRun rd)),(rd,(dRun (PP w b1 b2) T V lm sv fr (mt) pt st ts))]) x 1 t 0 []):=by revert b1 b2;apply bq2<;>kernel_rfl
theorem ck_e (w:World) (x t rn rd pt ep lm sv fr ef st ts tt f:Nat) (T V I:Nat→Nat) (tx:List Nat) (mt:Value) (b1 b2:Bool):goT (PP w b1 b2) [] 360 100000 (ckCode f) (exT (fthen (sAt 0 ckB)) (ckEnv f)) [(f,ckF (PP w b1 b2) I rn tx),(rn,oRun rd),(rd,dRun (PP w b1 b2) T V lm sv fr mt pt st ts)] x 0 t 0 [] (.keep [1,2])=(dn (.ok (.ret .none)) ([(rn,(oRun rd)),(rd,(dRun (PP w b1 b2) T V lm sv fr (mt) pt st ts))]) x 0 t 0 []):=by revert b1 b2;apply bq2<;>kernel_rfl
theorem empty_lists {w:World} {A:Around} {g h:Heap} {L:Led} {n a1 a2 e1 e2:Nat} {gs:Array GenState} {d:Drawn} {t:Nat} {os:OsState} {Q:Value→Shared→Prop} {E:Value→Shared→Prop} (h1:h.get? a1=some (oLst [] e1)) (h2:h.get? a2=some (oLst [] e2)) (hu:A.units < cLine)
  (hQ:Q (.bool true) ⟨h,gs,d,t,os⟩):wpAny (MW w) A (compareOp .Eq (.ref a1) (.ref a2)) Q E ⟨h,gs,d,t,os⟩:=
 SeqAt.eq_listAt (items:=#[]) (items2:=#[]) (e:=fun _=>true) ⟨_,h1,rfl,e1,rfl⟩ ⟨_,h2,rfl,e2,rfl⟩ rfl hu (fun j hj=>absurd hj (Nat.not_lt_zero j)) hQ
theorem under_room {A:Around} {D:Nat} {c:Code} (low:Low D A) (hD:D≤980):(A.under c).units < cLine:=by
 have:=units_le c
 have h2:=low.2.2
 show A.units+c.cUnits < 9900
 omega
section
variable {w:World} {L0:Led} {T V I:Nat→Nat} {rn rd lm sv fr pt st ts ef tt f:Nat} {mt:Value} {tx:List Nat} {xs:List Ent}
theorem ckBody {g h:Heap} {A:Around} {R0:Result→Shared→Prop} {gs:Array GenState} {d:Drawn} {os:OsState} {x t:Nat} (hfr:(fr,oLst [] ef)∈L0) (hg:GL w L0 xs g) (low:Low 360 A)
  (rep:Rep g [(f,ckF w.params I rn tx),(rn,oRun rd),(rd,dRun w.params T V lm sv fr mt pt st ts)] x h)
  (K:∀ h' x' t',Rep g [(rn,oRun rd),(rd,dRun w.params T V lm sv fr mt pt st ts)] x' h'→R0 (.ok (.ret .none)) ⟨h',gs,d,t',os⟩):codeAny (MW w) A (ckCode f) R0 ⟨h,gs,d,t,os⟩:=by
 have e1:=ck_l w x t rn rd pt 0 lm sv fr ef st ts 0 f T V I tx mt (w.params.followText "special-get-raises") (w.params.followText "comprehension-iter-twice")
 have e2:=ck_r w x (a t 1) rn rd pt 0 lm sv fr ef st ts 0 f T V I tx mt (w.params.followText "special-get-raises") (w.params.followText "comprehension-iter-twice")
 have e3:=ck_e w (a x 1) (a t 1) rn rd pt 0 lm sv fr ef st ts 0 f T V I tx mt (w.params.followText "special-get-raises") (w.params.followText "comprehension-iter-twice")
 rw [← PP_self w] at e1 e2 e3
 have hG:Grd w [] (GL w L0 xs):=GL_ok fun _ hq=>nomatch hq
 refine own_func ?_
 rw [ckB_eq]
 refine own_cons (own_if (own_or (own_cmp rfl ?_)))
 refine wpOwn_mono (own_eval (R0:=fun r s'=>match r with | .ok (.ret v)=>v=.ref fr∧∃ h',s'=⟨h',gs,d,a t 1,os⟩∧Rep g [(f,ckF w.params I rn tx),(rn,oRun rd),(rd,dRun w.params T V lm sv fr mt pt st ts)] x h' | _=>False) (run_tree (x:=x) (m:=0) (t:=t) (i:=0) e1 hG hg low (weight_le rfl) rep ⟨rfl,fun h' r=>⟨rfl,h',rfl,r⟩⟩)) (fun v s' hv=>?_) (fun _ _ h=>h.elim)
 obtain ⟨rfl,h1,rfl,rep1⟩:=hv
 refine wpOwn_mono (own_eval (R0:=fun r s'=>match r with | .ok (.ret v)=>v=.ref x∧∃ h',s'=⟨h',gs,d,a t 1,os⟩∧Rep g [(x,oLst [] 0),(f,ckF w.params I rn tx),(rn,oRun rd),(rd,dRun w.params T V lm sv fr mt pt st ts)] (a x 1) h' | _=>False) (run_tree (x:=x) (m:=0) (t:=a t 1) (i:=0) e2 hG hg low (weight_le rfl) rep1 ⟨rfl,fun h' r=>⟨rfl,h',rfl,r⟩⟩)) (fun v s' hv=>?_) (fun _ _ h=>h.elim)
 obtain ⟨rfl,h2,rfl,rep2⟩:=hv
 refine wpOwn_of_wpAny (empty_lists (e1:=ef) (e2:=0) (g:=g) (L:=[]) (n:=0) (rep2.keep _ _ (hg.2.1 _ hfr)) (rep2.own _ (.head _)).1 (under_room low (by decide)) ?_)
 refine ⟨true,rfl,?_⟩
 have rep3:Rep g [(f,ckF w.params I rn tx),(rn,oRun rd),(rd,dRun w.params T V lm sv fr mt pt st ts)] (a x 1) h2:=rep2.sel (ps:=[1,2,3]) (sel_spec rfl)
 refine wpOwn_mono (own_execs (R0:=fun r s'=>match r with | .ok f=>f=.ret .none∧∃ h',s'=⟨h',gs,d,a t 1,os⟩∧Rep g [(rn,oRun rd),(rd,dRun w.params T V lm sv fr mt pt st ts)] (a x 1) h' | _=>False) (run_tree (x:=a x 1) (m:=0) (t:=a t 1) (i:=0) e3 hG hg low (weight_le rfl) rep3 ⟨rfl,fun h' r=>⟨rfl,h',rfl,r⟩⟩)) (fun v s' hv=>?_) (fun _ _ h=>h.elim)
 obtain ⟨rfl,h3,rfl,rep4⟩:=hv
 exact K h3 _ _ rep4
theorem ck_ok {kn:Led} {x m t i':Nat} (hfr:(fr,oLst [] ef)∈L0):
  AskOK pw_qz0137_01 w (GL w L0 xs) (.fn 728 [.ref rn,.str (q tx) tt]) [(rn,oRun rd),(rd,dRun w.params T V lm sv fr mt pt st ts)] kn x m t i' 360 (rS .none [oRun rd,dRun w.params T V lm sv fr mt pt st ts]):=by
 have e:=ck_in w (Nat.add x m) (Nat.add t i') rn rd pt 0 lm sv fr ef st ts tt 0 T V (fun _=>0) tx mt (w.params.followText "special-get-raises") (w.params.followText "comprehension-iter-twice")
 rw [← PP_self w] at e
 exact AskOK.shift (ask_run e (GL_ok fun _ hq=>nomatch hq) (fun _ h=>h) fun g A R gs dr os hg low H=>⟨rfl,fun h' rep=>
  ckBody (I:=fun j=>match j with | 0=>Nat.add t i' | 1=>a (Nat.add t i') 1 | _=>tt) hfr hg low rep fun h2 x2 t2 rep2=>H (x2,t2) h2 rep2⟩)
end
end
noncomputable section
theorem an_end (w:World) (x t it fr mk md rl nd a3 ep e3 i r k1 k2 len:Nat) (I J:Nat→Nat) (all rs:List Value) (v:Value) (g b1 b2:Bool):go (PP w b1 b2) [] 520 100000 (anLoop it fr) [(fr,anF (PP w b1 b2) I mk nd g v),(it,oIt "list_iterator" (.ref a3) i),(mk,oRM md),(md,dRM (PP w b1 b2) J rl),(rl,oLst rs ep)] x 0 t 0 [0,3,0,3,2,2,0] (.ask [1] 99 950 Unit (endSh "list_iterator" i []) fun _=>.keep [2,3,4,5,6])=(.ask (.bi (PySem.W.S.codeS "list_iterator.__next__") [.ref it]) [(it,⟨.type "list_iterator",none,.fields ⟨[.ref a3,.int (Int.ofNat i) 0]⟩,⟨[]⟩⟩)] [] x 0 t 0 1 950 (Unit) ((endSh "list_iterator" i []) (Nat.add x 0) (Nat.add t 0)) (fun p1=>(dn (.ok .next) ([(fr,⟨.type "frame",none,.dict ⟨(cond g [en (PP w b1 b2) (q [109,97,107,101,114]) (I 0) (.ref mk),en (PP w b1 b2) (q [110,111,100,101]) (I 1) (.ref nd),en (PP w b1 b2) (q [119,111,114,100]) (I 2) (.str (q [115,101,113]) (I 3)),en (PP w b1 b2) (q [111,110,101]) (I 4) (v)] [en (PP w b1 b2) (q [109,97,107,101,114]) (I 0) (.ref mk),en (PP w b1 b2) (q [110,111,100,101]) (I 1) (.ref nd),en (PP w b1 b2) (q [119,111,114,100]) (I 2) (.str (q [115,101,113]) (I 3))])⟩ (cond g 4 3),⟨[]⟩⟩),(it,⟨.type "list_iterator",none,.fields ⟨[.none,.int (Int.ofNat i) 0]⟩,⟨[]⟩⟩),(mk,⟨.ref 166,(some md),.plain,⟨[]⟩⟩),(md,⟨.type "dict",none,.dict ⟨[en (PP w b1 b2) (q [114,111,119,115]) (J 0) (.ref rl),en (PP w b1 b2) (q [114,101,103,105,115,116,101,114,115]) (J 1) (.int 0 (J 2))]⟩ 2,⟨[]⟩⟩),(rl,⟨.type "list",none,.seq ⟨(rs)⟩ ep,⟨[]⟩⟩)]) x 2 t 0 [(a x 1),it,it]))):=by revert g b1 b2;apply bq3<;>kernel_rfl
theorem an_step (w:World) (x t it fr mk md rl nd a3 ep e3 i r k1 k2 len:Nat) (I J:Nat→Nat) (all rs:List Value) (v:Value) (f c g b1 b2:Bool):go (PP w b1 b2) [(r,oSg (sg c) f k1 k2)] 520 100000 (anLoop it fr) [(fr,anF (PP w b1 b2) I mk nd g v),(it,oIt "list_iterator" (.ref a3) i),(mk,oRM md),(md,dRM (PP w b1 b2) J rl),(rl,oLst rs ep)] x 0 t 0 [0,3,0,3,2,2,0,0,2,2,0,1,0,0,2,0,2,0,0,0,2,1,0,1,0,1,0,0,1,0,0,1,0,2,0,2,2,2,0,2,2,3,6,0,0,0,6,0,0,0,6,0,0,0,0,6,7,3,0,1,0,0,2,0,2,0,0,0,2,7,0,0,0,0,7,0,0,0,7,7,0,8,9,9,9,9,2,0,9,2,0,0,2,7,0,0,0,0,7,0,0,0,7,7,0,8,0,2,0,2,3] (.ask [1] 99 950 Unit (kS (fun _=>.ref r) [oIt "list_iterator" (.ref a3) (i+1)] 0) fun _=>.ask [0] 99 950 Unit (kS (fun _=>.bool true) [(oStrs [([115,105,103,110],a t 5),([97,110,121],a t 6),([115,101,116],a t 7),([97,116],a t 8),([98,97,99,107],a t 9)])] 0) fun _=>.ask [7] 99 950 Unit (kS (fun _=>.none) [oLst (rs++[.ref r]) (ep+1)] 0) fun _=>.ask [7] 99 950 Unit (kS (fun t=>.int (Int.ofNat (len+1)) (a t 1)) [oLst (rs++[.ref r]) (ep+1)] 2) fun _=>.val (fun t=>.int (Int.ofNat len) t) 1 <| .keep [3,4,5,6,7])=(.ask (.bi (PySem.W.S.codeS "list_iterator.__next__") [.ref it]) [(it,⟨.type "list_iterator",none,.fields ⟨[.ref a3,.int (Int.ofNat i) 0]⟩,⟨[]⟩⟩)] [] x 0 t 0 1 950 (Unit) ((kS (fun x=>Value.ref r) [oIt "list_iterator" (Value.ref a3) (i+1)] 0) (Nat.add x 0) (Nat.add t 0)) (fun p1=>(.ask (.bi (PySem.W.S.codeS "tuple.__contains__") [.ref (a x 1),.str (q [115,105,103,110]) k1]) [((a x 1),⟨.type "tuple",none,.seq ⟨[.str (q [115,105,103,110]) (a t 5),.str (q [97,110,121]) (a t 6),.str (q [115,101,116]) (a t 7),.str (q [97,116]) (a t 8),.str (q [98,97,99,107]) (a t 9)]⟩ 0,⟨[]⟩⟩)] [] x 2 t 10 2 950 (Unit) ((kS (fun x=>Value.bool true) [oStrs [([115,105,103,110],a t 5),([97,110,121],a t 6),([115,101,116],a t 7),([97,116],a t 8),([98,97,99,107],a t 9)]] 0) (Nat.add x 2) (Nat.add t 10)) (fun p2=>(.ask (.bi (PySem.W.S.codeS "list.append") [.ref rl,.ref r]) [(rl,⟨.type "list",none,.seq ⟨(rs)⟩ ep,⟨[]⟩⟩)] [] (a x 2) 1 (a t 10) 3 3 950 (Unit) ((kS (fun x=>Value.none) [oLst (rs++[Value.ref r]) (ep+1)] 0) (Nat.add (a x 2) 1) (Nat.add (a t 10) 3)) (fun p3=>(.ask (.bi (PySem.W.S.codeS "len") [.ref rl]) [(rl,⟨.type "list",none,.seq ⟨(rs++[Value.ref r])⟩ (a ep 1),⟨[]⟩⟩)] [] (a x 3) 0 (a t 13) 1 3 950 (Unit) ((kS (fun t=>Value.int (Int.ofNat (len+1)) (a t 1)) [oLst (rs++[Value.ref r]) (ep+1)] 2) (Nat.add (a x 3) 0) (Nat.add (a t 13) 1)) (fun p4=>(.val (.bi (PySem.W.S.codeS "int.__sub__") [.int (Int.ofNat (a len 1)) (a t 15),.int 1 (a t 16)]) (.int (Int.ofNat len) (a t 17)) 1 (a t 17) 3 (ag (anLoop it fr) [(fr,⟨.type "frame",none,.dict ⟨[en (PP w b1 b2) (q [109,97,107,101,114]) (I 0) (.ref mk),en (PP w b1 b2) (q [110,111,100,101]) (I 1) (.ref nd),en (PP w b1 b2) (q [119,111,114,100]) (I 2) (.str (q [115,101,113]) (I 3)),en (PP w b1 b2) (q [111,110,101]) (cond g (I 4) t) (.ref r)]⟩ 4,⟨[]⟩⟩),(it,⟨.type "list_iterator",none,.fields ⟨[.ref a3,.int (Int.ofNat (a i 1)) 0]⟩,⟨[]⟩⟩),(mk,⟨.ref 166,(some md),.plain,⟨[]⟩⟩),(md,⟨.type "dict",none,.dict ⟨[en (PP w b1 b2) (q [114,111,119,115]) (J 0) (.ref rl),en (PP w b1 b2) (q [114,101,103,105,115,116,101,114,115]) (J 1) (.int 0 (J 2))]⟩ 2,⟨[]⟩⟩),(rl,⟨.type "list",none,.seq ⟨(rs++[Value.ref r])⟩ (a ep 1),⟨[]⟩⟩)] (a x 3) 0 (a t 14) 4 [md,mk,mk,mk,mk,(a x 2),rl,(a x 2),rl,rl,rl,rl,md,mk,mk,mk,mk,(a x 2),(a x 2),(a x 2),(a x 2),(a x 2),x,md,mk,mk,mk,mk,x,(a x 1),(a x 1),(a x 1),x,x,x,r,r,r,r,r,x,x,x,x,x,fr,fr,fr,fr,it,it])))))))))):=by cases f<;>(revert c g b1 b2;apply bq4<;>kernel_rfl)
theorem GN_mono {w:World} {a3:Nat} {all:List Value} {e3:Nat} {f:Bool} {cs:List Nat} {ts:List Nd}:∀ g g':Heap,(∀ b o,g.get? b=some o→g'.get? b=some o)→GN w a3 all e3 f cs ts g→GN w a3 all e3 f cs ts g':=
 fun g g' k h=>⟨G0_mono w g g' k h.1,k _ _ h.2.1,fun q hq=>k _ _ (h.2.2 q hq)⟩
theorem v_sub1 {w:World} {G:Heap→Prop} {t D n:Nat} {u v:Tok}:ValOK pw_qz0137_01 w G (.bi (PySem.W.S.codeS "int.__sub__") [.int (Int.ofNat (n+1)) u,.int 1 v]) (.int (Int.ofNat n) t) 1 t D:=by
 have z:=v_sub (w:=w) (G:=G) (t:=t) (D:=D) (Int.ofNat (n+1)) 1 u v
 rw [show (Int.ofNat (n+1) - 1:Int)=Int.ofNat n by have h1:Int.ofNat (n+1)=((n+1:Nat):Int):=rfl;have h2:Int.ofNat n=(n:Int):=rfl;omega] at z
 exact z
structure AN where
 I:Nat→Nat
 g:Bool
 v:Value
 ep:Nat
 x:Nat
 t:Nat
def anSh (P:Params) (J:Nat→Nat) (md mk nd rl:Nat) (rs all:List Value) (ts:List Nd) (p:AN):Shape:=
 ⟨.ok .next,[anF P p.I mk nd p.g p.v,oIt "list_iterator" .none all.length,oRM md,dRM P J rl,oLst (rs++nrefs ts) p.ep],[],p.x,0,p.t,0,[]⟩
theorem nrefs_len:∀ ts:List Nd,(nrefs ts).length=ts.length
 | []=>rfl
 | _::ts=>congrArg Nat.succ (nrefs_len ts)
theorem anLoop_ok {w:World} {J:Nat→Nat} {f:Bool} {it fr mk md rl nd a3 e3:Nat} {all:List Value}:∀ (cs:List Nat) (ts:List Nd) (i:Nat) (ep x t:Nat) (I:Nat→Nat) (g:Bool) (v:Value) (pre rs:List Value),ts.length=cs.length→(∀ c∈cs,c=97∨c=98)→all=pre++nrefs ts→pre.length=i →
  rs.length+cs.length≤1000→AskOK pw_qz0137_01 w (GN w a3 all e3 f cs ts) (.code (anLoop it fr)) [(fr,anF w.params I mk nd g v),(it,oIt "list_iterator" (.ref a3) i),(mk,oRM md),(md,dRM w.params J rl),(rl,oLst rs ep)] [] x 0 t 0 520 (anSh w.params J md mk nd rl rs all ts):=by
 intro cs
 have hsz:sizeLine=16777216:=rfl
 induction cs with
 | nil=>
  intro ts i ep x t I g v pre rs hlen hab hall hi hfit
  obtain rfl:ts=[]:=List.eq_nil_of_length_eq_zero hlen
  have hi':i=all.length:=by rw [hall,List.length_append];exact hi.symm
  have e:=an_end w x t it fr mk md rl nd a3 ep e3 i 0 0 0 0 I J all rs v g (w.params.followText "special-get-raises") (w.params.followText "comprehension-iter-twice")
  rw [← PP_self w] at e
  exact ask_run e ⟨GN_mono,fun _ h=>⟨h.1,fun _ hq=>nomatch hq⟩⟩ (fun _ h=>h) fun g' A R gs dr os hg low H=>
   ⟨⟨()⟩,nble rfl,fun _=>rfl,next_end (fun _ h=>h.2.1) (Nat.le_of_eq hi'.symm),fun _=>⟨rfl,fun h' r=>H ⟨I,g,v,ep,_,_⟩ h' (by
    subst hi'
    show Rep g' [(fr,anF w.params I mk nd g v),(it,oIt "list_iterator" .none all.length),(mk,oRM md),(md,dRM w.params J rl),(rl,oLst (rs++[]) ep)] _ h'
    rw [List.append_nil]
    cases g<;>exact r)⟩⟩
 | cons c0 cs ih=>
  intro ts i ep x t I g v pre rs hlen hab hall hi hfit
  cases ts with
  | nil=>cases hlen
  | cons n ts=>
  have hlen':ts.length=cs.length:=Nat.succ.inj hlen
  rw [List.length_cons] at hfit
  obtain ⟨c,hc⟩:∃ c:Bool,sg c=c0:=by
   rcases hab c0 (.head _) with e | e
   ·exact ⟨false,e.symm⟩
   ·exact ⟨true,e.symm⟩
  subst hc
  have e:=an_step w x t it fr mk md rl nd a3 ep e3 i n.r n.k1 n.k2 rs.length I J all rs v f c g (w.params.followText "special-get-raises") (w.params.followText "comprehension-iter-twice")
  rw [← PP_self w] at e
  have hx:all[i]?=some (.ref n.r):=by
   rw [hall,List.getElem?_append_right (Nat.le_of_eq hi),hi,Nat.sub_self]
   rfl
  refine ask_run e ⟨GN_mono,fun g hg=>⟨hg.1,fun q hq=>?_⟩⟩ (fun _ h=>h) fun g' A R gs dr os hg low H=>
   ⟨⟨()⟩,nble rfl,fun _=>rfl,next_item (fun _ h=>h.2.1) hx,fun _=>⟨⟨()⟩,nble rfl,fun _=>rfl,contains_ok [([115,105,103,110],a t 5),([97,110,121],a t 6),([115,101,116],a t 7),([97,116],a t 8),([98,97,99,107],a t 9)] rfl,fun _=>⟨⟨()⟩,nble rfl,fun _=>rfl,append_ok (by omega),fun _=>
    ⟨⟨()⟩,nble rfl,fun _=>rfl,len_list_ok (by rw [List.length_append];rfl) (by omega),fun _=>⟨v_sub1,rfl,fun h' rep=>by
     refine use_ask (ps:=[0,1,2,3,4]) (ih ts (i+1) (ep+1) _ _ (js I (cond g (I 4) t)) true (.ref n.r) (pre++[.ref n.r]) (rs++[.ref n.r]) hlen' (fun c h=>hab c (.tail _ h)) ?_ ?_ ?_) GN_mono rfl rfl ⟨hg.1,hg.2.1,fun q hq=>hg.2.2 q (.tail _ hq)⟩ low rep (fun _=>rfl) fun p h'' r=>?_
     ·rw [hall,List.append_assoc];rfl
     ·rw [List.length_append,hi];rfl
     ·rw [List.length_append];show rs.length+1+cs.length≤1000;omega
     ·refine H p h'' ?_
      have e2:rs++[.ref n.r]++nrefs ts=rs++nrefs (n::ts):=by rw [List.append_assoc];rfl
      have r':Rep g' ([(fr,anF w.params p.I mk nd p.g p.v),(it,oIt "list_iterator" .none all.length),(mk,oRM md),(md,dRM w.params J rl),(rl,oLst (rs++[.ref n.r]++nrefs ts) p.ep)]++[]) _ h'':=r
      rw [e2] at r'
      exact r'⟩⟩⟩⟩⟩
  ·rcases List.mem_cons.mp hq with rfl | hq
   ·exact hg.2.2 _ (.head _)
   ·cases hq
end
noncomputable section
theorem rd_run (w:World) (x t s d nm sp tn tf:Nat) (K:Nat→Nat) (tx cs:List Nat) (n:Nat) (f b1 b2:Bool):go (PP w b1 b2) [] 700 100000 (.call (.ref 591) ⟨[.ref s,.str (q (fl f)) tf],[]⟩) [(s,oPT d),(d,dPT (PP w b1 b2) K tx n tn nm sp)] x 0 t 0 [1,0,0,2,0,2,0,0,0,3,1,2,3,4] (.ask [1,2,3,0] 99 750 (RB cs.length) (fun _ _=>rbSh (PP w b1 b2) K tx f s d (a x 1) nm sp cs []) fun p=>.keepT [0,1,2,4,5] 6)=(.ask (.code (rbLoop x)) [(x,⟨.type "frame",none,.dict ⟨[en (PP w b1 b2) (q [115,116,97,116,101]) t (.ref s),en (PP w b1 b2) (q [102,108,97,103,115]) (a t 1) (.str (q (fl f)) tf),en (PP w b1 b2) (q [112,97,114,116,115]) (a t 2) (.ref (a x 1))]⟩ 3,⟨[]⟩⟩),(s,(oPT d)),(d,(dPT (PP w b1 b2) K tx n tn nm sp)),((a x 1),⟨.type "list",none,.seq ⟨[]⟩ 0,⟨[]⟩⟩)] [] x 2 t 3 1 750 (RB cs.length) ((fun x_1 x_2=>rbSh (PP w b1 b2) K tx f s d (a x 1) nm sp cs []) (Nat.add x 2) (Nat.add t 3)) (fun p1=>(dn (.ok (.ret (.ref (a (p1.7) 1)))) ([((a (p1.7) 1),⟨.type "tuple",none,.seq ⟨[.ref (p1.7),.str (q (fl f)) (p1.3 2)]⟩ 0,⟨[]⟩⟩),((p1.7),⟨.type "tuple",none,.seq ⟨[.str (q [115,101,113]) (p1.8),.ref (a x 1)]⟩ 0,⟨[]⟩⟩),((a x 1),⟨.type "list",none,.seq ⟨([]++nrefs p1.ts)⟩ (p1.6),⟨[]⟩⟩),(s,(oPT d)),(d,(dPT (PP w b1 b2) K tx (tx.length) (p1.5) nm sp))]++(rbSh (PP w b1 b2) K tx f s d (a x 1) nm sp cs [] p1).tail) (p1.7) 2 (p1.8) 1 [x,x,x,x,x,x,x,x]))):=by revert f b1 b2;apply bq3<;>kernel_rfl
theorem lt_run (w:World) (x t s d nm sp tn tf:Nat) (K:Nat→Nat) (tx cs:List Nat) (n:Nat) (f b1 b2:Bool):go (PP w b1 b2) [] 650 100000 (.call (.ref 584) ⟨[.ref s,.str (q (fl f)) tf],[]⟩) [(s,oPT d),(d,dPT (PP w b1 b2) K tx n tn nm sp)] x 0 t 0 [1,0,0,2,0,2,0,0,0,3,1,0,0,3,3,0,2,2,2,2,0,2,0,2,2,0,2,0,2,2,3,2,0,2,0,2,0,2,2,3,2,0,2,0,2,0,2,2,3,2,0,2,9,7,9,7,9,8,8,8,8,9,0,8,0,8,6,8,9,10,0,0,0,10,0,0,0,10,0,0,0,0,10,11,0,2,0,0,9,0,0,8,0,8,0,8,0,0,9,8,8,8,0,8,0,8] (.ask [2,3] 99 700 (RD cs.length) (fun _ _=>rdSh (PP w b1 b2) K tx f d nm sp cs) fun p=>.ask [8,9] 10 900 (Nat × Nat) (skSh (PP w b1 b2) K tx tx.length p.tn nm sp d) fun p'=>.keepT [4,5,8,9] 10)=(.ask (.fn 591 [.ref s,.str (q (fl f)) tf]) [(s,(oPT d)),(d,(dPT (PP w b1 b2) K tx n tn nm sp))] [] x 2 t 3 2 700 (RD cs.length) ((fun x x_1=>rdSh (PP w b1 b2) K tx f d nm sp cs) (Nat.add x 2) (Nat.add t 3)) (fun p1=>(.ask (.fn 352 [.ref s,.str (q [124]) (a (p1.11) 2)]) [(s,(oPT d)),(d,(dPT (PP w b1 b2) K tx (tx.length) (p1.5) nm sp))] ((rdSh (PP w b1 b2) K tx f d nm sp cs p1).tail) (p1.10) 3 (p1.11) 3 2 900 (Nat × Nat) ((skSh (PP w b1 b2) K tx tx.length p1.tn nm sp d) (Nat.add (p1.10) 3) (Nat.add (p1.11) 3)) (fun p2=>(dn (.ok (.ret (.ref (p1.8)))) ([((p1.8),⟨.type "tuple",none,.seq ⟨[.str (q [115,101,113]) (p1.3),.ref (p1.9)]⟩ 0,⟨[]⟩⟩),((p1.9),⟨.type "list",none,.seq ⟨(nrefs p1.ts)⟩ (p1.6),⟨[]⟩⟩),(s,(oPT d)),(d,(dPT (PP w b1 b2) K tx (tx.length) (p1.5) nm sp))]++(rdSh (PP w b1 b2) K tx f d nm sp cs p1).tail++[]) (a (p1.10) 5) 0 (p2.2) 4 [(a x 1),(a x 1),(a x 1),(a x 1),(a x 1),x,(a x 1),(a x 1),(a x 1),x,d,s,s,s,s,x,(a x 1),(a x 1),(a x 1),(a x 1),x,(a x 1),(a x 1),(a x 1),(a x 1),x,x,x,x,x,(a (p1.10) 2),(p1.10),(p1.10),(p1.7),(p1.10),(p1.10),(p1.10),(p1.10),(p1.10),(p1.10),(p1.7),(p1.10),(p1.10),(p1.10),(p1.10),(p1.10),(p1.10),(p1.7),(p1.10),(p1.10),(p1.10),(p1.10),(p1.10),(p1.7),(p1.7),(p1.7),(p1.7),x,x,x,x,x,x,x,x]))))):=by revert f b1 b2;apply bq3<;>kernel_rfl
theorem rd_ok {w:World} {kn:Led} {K:Nat→Nat} {tx cs:List Nat} {n tn nm sp s d tf x m t i:Nat} {f:Bool} (hT:AB tx) (hn:n≤tx.length) (hcs:tx.drop n=cs):
  AskOK pw_qz0137_01 w (G0 w) (.fn 591 [.ref s,.str (q (fl f)) tf]) [(s,oPT d),(d,dPT w.params K tx n tn nm sp)] kn x m t i 700 (rdSh w.params K tx f d nm sp cs):=by
 have e:=rd_run w (Nat.add x m) (Nat.add t i) s d nm sp tn tf K tx cs n f (w.params.followText "special-get-raises") (w.params.followText "comprehension-iter-twice")
 rw [← PP_self w] at e
 exact AskOK.shift (ask_run e (G0_ok w) (fun _ h=>h) fun g A R gs dr os hg low H=>
  ⟨ne_RB _,nble rfl,fun _=>rfl,by
   have z:=rbLoop_ok (w:=w) (K:=K) (f:=f) (fr:=Nat.add x m) (s:=s) (d:=d) (pl:=a (Nat.add x m) 1) (nm:=nm) (sp:=sp) hT cs n tn 0 (Nat.add (Nat.add x m) 2) (Nat.add (Nat.add t i) 3) (fun j=>match j with | 0=>Nat.add t i | 1=>a (Nat.add t i) 1 | 2=>tf | 3=>a (Nat.add t i) 2 | _=>0) false [] hcs hn (Nat.zero_le _)
   exact z,fun p=>⟨rfl,fun h' r=>H ⟨p.ts,p.len,p.t,p.J 2,p.tn,p.ep,a p.x 1,p.x,a (Nat.add x m) 1,_,_⟩ h' r⟩⟩)
theorem lt_ok {w:World} {kn:Led} {K:Nat→Nat} {tx cs:List Nat} {n tn nm sp s d tf x m t i:Nat} {f:Bool} (hT:AB tx) (hn:n≤tx.length) (hcs:tx.drop n=cs):
  AskOK pw_qz0137_01 w (G0 w) (.fn 584 [.ref s,.str (q (fl f)) tf]) [(s,oPT d),(d,dPT w.params K tx n tn nm sp)] kn x m t i 650 (ltSh w.params K tx f d nm sp cs):=by
 have e:=lt_run w (Nat.add x m) (Nat.add t i) s d nm sp tn tf K tx cs n f (w.params.followText "special-get-raises") (w.params.followText "comprehension-iter-twice")
 rw [← PP_self w] at e
 exact AskOK.shift (ask_run e (G0_ok w) (fun _ h=>h) fun g A R gs dr os hg low H=>
  ⟨ne_RD _,nble rfl,fun _=>rfl,rd_ok hT hn hcs,fun p=>⟨⟨(0,0)⟩,nble rfl,fun _=>rfl,skips_ok (Nat.le_refl _) hT.fits (by decide) (hT.ne0 ⟨_,_,rfl,by decide,by decide⟩),fun p2=>
   ⟨rfl,fun h' r=>H ⟨p.ts,p.len,p.k1,p.k2,p.tn,p.ep,p.a1,p.a2,p.a3,a p.x 5,Nat.add p2.2 4⟩ h' (by
    have r':Rep g ([(p.a2,oTup [.str (q sQ) p.k1,.ref p.a3]),(p.a3,oLst (nrefs p.ts) p.ep),(s,oPT d),(d,dPT w.params K tx tx.length p.tn nm sp)]++(nodes f cs p.ts++[])) _ h':=r
    rw [List.append_nil] at r'
    exact r')⟩⟩⟩)
end
noncomputable section
theorem pp_run (w:World) (x t tt tf:Nat) (tx:List Nat) (f b1 b2:Bool):go (PP w b1 b2) [] 600 100000 (.call (.ref 652) ⟨[.str (q tx) tt,.str (q (fl f)) tf],[]⟩) [] x 0 t 0 (cond f (cond b2 [1,0,0,3,1,2,0,0,0,0,3,0,3,0,2,0,0,0,0,0,0,0,0,0,0,0,0,0,0,0,0,0,0,0,0,0,0,0,0,0,0,0,0,0,0,0,0,0,2,0,2,0,0,0,0,1,0,0,2,0,2,0,2,0,0,0,2,2,3,0,0,0,0,3,0,0,3,0,3,0,0,0,3,0,4,2,4,2,2,3,0,0,0,0,3,0,0,3,0,3,0,0,0,3,0,4,2,4,2,3,0,0,0,0,3,0,0,3,0,3,0,0,0,3,0,4,2,4,2,3,0,0,0,0,3,0,0,3,0,3,0,0,0,3,0,4,2,4,2,3,0,0,0,0,3,0,0,3,0,3,0,0,0,3,0,4,2,4,3,4,0,0,0,0,4,0,0,4,0,4,0,0,0,4,0,5,3,5,4,5,0,0,0,0,5,0,0,5,0,5,0,0,0,5,0,6,4,6,8,6,0,8,0,0,0,2,0,0,4,0,4,0,4,4,4,2,2,0,2,10,0,0,2,0,3,0,3,1,3,0,4,0,4,0,4,4,4,2,2,0,2,10,0,0,0,4,0,4,0,4,4,4,2,2,0,2,10,0,0,0,4,0,4,0,4,4,4,2,2,0,2,10,0,0,0,4,0,4,0,4,4,4,2,2,4,4,2,0,0,5,5,0,2,15,13,15,12,0,0,0,0,12,0,0,0,12,12,0,13,0,0,15,0,2,0,2,15,12,0,0,0,0,12,0,0,0,12,12,0,13,9,9,0,9,0,2,0,2,0,2,0,2,2,10,2,0,2,0,18,18,15,0,0,0,0,15,0,0,0,15,15,0,16,18,15,0,0,0,0,15,0,0,0,15,15,0,16] [1,0,0,3,1,2,0,0,0,0,3,0,3,0,2,0,0,0,0,0,0,0,0,0,0,0,0,0,0,0,0,0,0,0,0,0,0,0,0,0,0,0,0,0,0,0,0,0,2,0,2,0,0,0,0,1,0,0,2,0,2,0,2,0,0,0,2,2,3,0,0,0,0,3,0,0,3,0,3,0,0,0,3,0,4,2,4,2,2,3,0,0,0,0,3,0,0,3,0,3,0,0,0,3,0,4,2,4,2,3,0,0,0,0,3,0,0,3,0,3,0,0,0,3,0,4,2,4,2,3,0,0,0,0,3,0,0,3,0,3,0,0,0,3,0,4,2,4,2,3,0,0,0,0,3,0,0,3,0,3,0,0,0,3,0,4,2,4,3,4,0,0,0,0,4,0,0,4,0,4,0,0,0,4,0,5,3,5,4,5,0,0,0,0,5,0,0,5,0,5,0,0,0,5,0,6,4,6,8,6,0,8,0,0,0,2,0,4,4,0,4,0,4,0,4,0,4,0,4,4,4,2,2,0,2,10,0,0,2,0,3,0,3,1,3,0,4,0,4,0,4,4,4,2,2,0,2,10,0,0,0,4,0,4,0,4,4,4,2,2,0,2,10,0,0,0,4,0,4,0,4,4,4,2,2,0,2,10,0,0,0,4,0,4,0,4,4,4,2,2,4,4,2,0,0,5,5,0,2,15,13,15,12,0,0,0,0,12,0,0,0,12,12,0,13,0,0,15,0,2,0,2,15,12,0,0,0,0,12,0,0,0,12,12,0,13,9,9,0,9,0,2,0,2,0,2,0,2,2,10,2,0,2,0,18,18,15,0,0,0,0,15,0,0,0,15,15,0,16,18,15,0,0,0,0,15,0,0,0,15,15,0,16]) (cond b2 [1,0,0,3,1,2,0,0,0,0,3,0,3,0,2,0,0,0,0,0,0,0,0,0,0,0,0,0,0,0,0,0,0,0,0,0,0,0,0,0,0,0,0,0,0,0,0,0,2,0,2,0,0,0,0,1,0,0,2,0,2,0,2,0,0,0,2,2,3,0,0,0,0,3,0,0,3,0,3,0,0,0,3,0,4,2,4,2,2,3,0,0,0,0,3,0,0,3,0,3,0,0,0,3,0,4,2,4,2,3,0,0,0,0,3,0,0,3,0,3,0,0,0,3,0,4,2,4,2,3,0,0,0,0,3,0,0,3,0,3,0,0,0,3,0,4,2,4,2,3,0,0,0,0,3,0,0,3,0,3,0,0,0,3,0,4,2,4,3,4,0,0,0,0,4,0,0,4,0,4,0,0,0,4,0,5,3,5,4,5,0,0,0,0,5,0,0,5,0,5,0,0,0,5,0,6,4,6,8,6,0,8,0,0,0,2,0,0,4,0,4,0,4,4,4,2,2,0,2,10,0,0,0,4,0,4,0,4,4,4,2,2,0,2,10,0,0,0,4,0,4,0,4,4,4,2,2,0,2,10,0,0,0,4,0,4,0,4,4,4,2,2,0,2,10,0,0,0,4,0,4,0,4,4,4,2,2,4,4,2,0,0,5,5,0,2,15,13,15,12,0,0,0,0,12,0,0,0,12,12,0,13,0,0,15,0,2,0,2,15,12,0,0,0,0,12,0,0,0,12,12,0,13,9,9,0,9,0,2,0,2,0,2,0,2,2,10,2,0,2,0,18,18,15,0,0,0,0,15,0,0,0,15,15,0,16,18,15,0,0,0,0,15,0,0,0,15,15,0,16] [1,0,0,3,1,2,0,0,0,0,3,0,3,0,2,0,0,0,0,0,0,0,0,0,0,0,0,0,0,0,0,0,0,0,0,0,0,0,0,0,0,0,0,0,0,0,0,0,2,0,2,0,0,0,0,1,0,0,2,0,2,0,2,0,0,0,2,2,3,0,0,0,0,3,0,0,3,0,3,0,0,0,3,0,4,2,4,2,2,3,0,0,0,0,3,0,0,3,0,3,0,0,0,3,0,4,2,4,2,3,0,0,0,0,3,0,0,3,0,3,0,0,0,3,0,4,2,4,2,3,0,0,0,0,3,0,0,3,0,3,0,0,0,3,0,4,2,4,2,3,0,0,0,0,3,0,0,3,0,3,0,0,0,3,0,4,2,4,3,4,0,0,0,0,4,0,0,4,0,4,0,0,0,4,0,5,3,5,4,5,0,0,0,0,5,0,0,5,0,5,0,0,0,5,0,6,4,6,8,6,0,8,0,0,0,2,0,4,4,0,4,0,4,0,4,0,4,0,4,4,4,2,2,0,2,10,0,0,0,4,0,4,0,4,4,4,2,2,0,2,10,0,0,0,4,0,4,0,4,4,4,2,2,0,2,10,0,0,0,4,0,4,0,4,4,4,2,2,0,2,10,0,0,0,4,0,4,0,4,4,4,2,2,4,4,2,0,0,5,5,0,2,15,13,15,12,0,0,0,0,12,0,0,0,12,12,0,13,0,0,15,0,2,0,2,15,12,0,0,0,0,12,0,0,0,12,12,0,13,9,9,0,9,0,2,0,2,0,2,0,2,2,10,2,0,2,0,18,18,15,0,0,0,0,15,0,0,0,15,15,0,16,18,15,0,0,0,0,15,0,0,0,15,15,0,16])) (.ask [] 99 850 (Nat × Nat × Nat) (fun x' t'=>ctSh x' t') fun p=>.ask [8,9] 99 650 (RD tx.length) (fun _ _=>ltSh (PP w b1 b2) (ppK tt t p.2.1) tx f p.1 (a p.1 3) (a p.1 4) tx) fun r=>.val (fun t=>.int (Int.ofNat tx.length) (a t 1)) 2 <| .val (fun _=>.bool false) 0 <| .keepT [0,12,4,5] 18)=(.ask (.fn 476 [.str (q (tx)) tt]) [] [] x 2 t 1 1 850 (Nat × Nat × Nat) ((fun x' t'=>ctSh x' t') (Nat.add x 2) (Nat.add t 1)) (fun p1=>(.ask (.fn 584 [.ref (a (p1.1) 1),.str (q (fl f)) (a (p1.snd.1) (cond f 22 30))]) [((a (p1.1) 1),(oPT (p1.1))),((p1.1),⟨.type "dict",none,.dict ⟨[en (PP w b1 b2) (q [116,101,120,116]) (a (p1.snd.1) 4) (.str (q (tx)) tt),en (PP w b1 b2) (q [116,111,116,97,108]) (a (p1.snd.1) 6) (.int 0 (a t 2)),en (PP w b1 b2) (q [97,116]) (a (p1.snd.1) 9) (.int 0 (a (p1.snd.1) 7)),en (PP w b1 b2) (q [103,114,111,117,112,115]) (a (p1.snd.1) 12) (.int 0 (a (p1.snd.1) 10)),en (PP w b1 b2) (q [100,101,112,116,104]) (a (p1.snd.1) 15) (.int 0 (a (p1.snd.1) 13)),en (PP w b1 b2) (q [110,97,109,101,115]) (a (p1.snd.1) 17) (.ref (a (p1.1) 3)),en (PP w b1 b2) (q [115,112,111,107,101,110]) (a (p1.snd.1) 19) (.ref (a (p1.1) 4))]⟩ 7,⟨[]⟩⟩)] [] (p1.1) 10 (p1.snd.1) (cond f 30 31) 1 650 (RD tx.length) ((fun x x_1=>ltSh (PP w b1 b2) (ppK tt t p1.snd.fst) tx f p1.fst (a p1.fst 3) (a p1.fst 4) tx) (Nat.add (p1.1) 10) (Nat.add (p1.snd.1) (cond f 30 31))) (fun p2=>(.val (.bi (PySem.W.S.codeS "len") [.str (q (tx)) tt]) (.int (Int.ofNat (tx.length)) (a (p2.11) 3)) 2 (a (p2.11) 2) 1 (.val (.bi (PySem.W.S.codeS "int.__lt__") [.int (Int.ofNat (tx.length)) (p2.5),.int (Int.ofNat (tx.length)) (a (p2.11) 3)]) (.bool false) 0 (a (p2.11) 4) 1 (dn (.ok (.ret (.ref (a (p2.10) 3)))) ([((a (p2.10) 3),⟨.type "tuple",none,.seq ⟨[.ref (p2.8),.int 0 (a (p1.snd.1) 10),.ref (a (p1.1) 3)]⟩ 0,⟨[]⟩⟩),((a (p1.1) 3),⟨.type "dict",none,.dict ⟨[]⟩ 0,⟨[]⟩⟩),((p2.8),⟨.type "tuple",none,.seq ⟨[.str (q [115,101,113]) (p2.3),.ref (p2.9)]⟩ 0,⟨[]⟩⟩),((p2.9),⟨.type "list",none,.seq ⟨(nrefs p2.ts)⟩ (p2.6),⟨[]⟩⟩)]++(ltSh (PP w b1 b2) (ppK tt t p1.snd.fst) tx f p1.fst (a p1.fst 3) (a p1.fst 4) tx p2).tail) (p2.10) 4 (p2.11) 7 (cond f (cond b2 [(p1.1),(a (p1.1) 1),(a (p1.1) 1),(a (p1.1) 1),(a (p1.1) 1),x,(p1.1),(a (p1.1) 1),(a (p1.1) 1),(a (p1.1) 1),(a (p1.1) 1),x,x,(a (p2.10) 2),(p2.10),(p2.10),(a (p1.1) 4),(p2.10),(p2.10),(p2.10),(p2.10),(p2.10),(a (p1.1) 4),(a (p1.1) 4),(a (p1.1) 4),(p1.1),(a (p1.1) 1),(a (p1.1) 1),(a (p1.1) 1),(a (p1.1) 1),x,x,(p1.1),(a (p1.1) 1),(a (p1.1) 1),(a (p1.1) 1),(a (p1.1) 1),x,x,x,(a (p1.1) 6),(a (p1.1) 6),(a (p1.1) 7),(a (p1.1) 7),(a (p1.1) 7),(a (p1.1) 9),(a (p1.1) 5),(a (p1.1) 5),(a (p1.1) 5),(a (p1.1) 5),(a (p1.1) 5),(a (p1.1) 5),(a x 1),(a (p1.1) 7),(a (p1.1) 7),(a (p1.1) 7),(a (p1.1) 5),(a (p1.1) 5),(a (p1.1) 5),(a (p1.1) 5),(a (p1.1) 5),(a (p1.1) 5),(a x 1),(a (p1.1) 7),(a (p1.1) 7),(a (p1.1) 7),(a (p1.1) 5),(a (p1.1) 5),(a (p1.1) 5),(a (p1.1) 5),(a (p1.1) 5),(a (p1.1) 5),(a x 1),(a (p1.1) 7),(a (p1.1) 7),(a (p1.1) 7),(a (p1.1) 5),(a (p1.1) 5),(a (p1.1) 5),(a (p1.1) 5),(a (p1.1) 5),(a (p1.1) 5),(a (p1.1) 6),(a (p1.1) 6),(a (p1.1) 6),(a (p1.1) 6),(a (p1.1) 7),(a x 1),(a (p1.1) 7),(a (p1.1) 7),(a (p1.1) 7),(a (p1.1) 5),(a (p1.1) 5),(a (p1.1) 5),(a (p1.1) 5),(a (p1.1) 5),(a (p1.1) 5),(a (p1.1) 5),x,x,x,(p1.1),(p1.1),(p1.1),(a (p1.1) 1),(a (p1.1) 1),(a (p1.1) 1),(a (p1.1) 1),(a (p1.1) 1),(a (p1.1) 2),(p1.1),(p1.1),(p1.1),(a (p1.1) 1),(a (p1.1) 1),(a (p1.1) 1),(a (p1.1) 1),(a (p1.1) 1),(a (p1.1) 2),(p1.1),(p1.1),(p1.1),(a (p1.1) 1),(a (p1.1) 1),(a (p1.1) 1),(a (p1.1) 1),(a (p1.1) 1),(a (p1.1) 2),(p1.1),(p1.1),(p1.1),(a (p1.1) 1),(a (p1.1) 1),(a (p1.1) 1),(a (p1.1) 1),(a (p1.1) 1),(a (p1.1) 2),(p1.1),(p1.1),(p1.1),(a (p1.1) 1),(a (p1.1) 1),(a (p1.1) 1),(a (p1.1) 1),(a (p1.1) 1),(a (p1.1) 2),(p1.1),(p1.1),(p1.1),(a (p1.1) 1),(a (p1.1) 1),(a (p1.1) 1),(a (p1.1) 1),(a (p1.1) 1),(a (p1.1) 2),(a (p1.1) 2),(p1.1),(p1.1),(p1.1),(a (p1.1) 1),(a (p1.1) 1),(a (p1.1) 1),(a (p1.1) 1),(a (p1.1) 1),(a (p1.1) 2),(a (p1.1) 2),(a (p1.1) 2),(a (p1.1) 2),(a (p1.1) 2),(a (p1.1) 2),(a (p1.1) 2),(a (p1.1) 2),(a (p1.1) 1),(a (p1.1) 1),x,x,(a x 1),(a x 1),x,x] [(p1.1),(a (p1.1) 1),(a (p1.1) 1),(a (p1.1) 1),(a (p1.1) 1),x,(p1.1),(a (p1.1) 1),(a (p1.1) 1),(a (p1.1) 1),(a (p1.1) 1),x,x,(a (p2.10) 2),(p2.10),(p2.10),(a (p1.1) 4),(p2.10),(p2.10),(p2.10),(p2.10),(p2.10),(a (p1.1) 4),(a (p1.1) 4),(a (p1.1) 4),(p1.1),(a (p1.1) 1),(a (p1.1) 1),(a (p1.1) 1),(a (p1.1) 1),x,x,(p1.1),(a (p1.1) 1),(a (p1.1) 1),(a (p1.1) 1),(a (p1.1) 1),x,x,x,(a (p1.1) 6),(a (p1.1) 6),(a (p1.1) 7),(a (p1.1) 7),(a (p1.1) 7),(a (p1.1) 9),(a (p1.1) 5),(a (p1.1) 5),(a (p1.1) 5),(a (p1.1) 5),(a (p1.1) 5),(a (p1.1) 5),(a x 1),(a (p1.1) 7),(a (p1.1) 7),(a (p1.1) 7),(a (p1.1) 5),(a (p1.1) 5),(a (p1.1) 5),(a (p1.1) 5),(a (p1.1) 5),(a (p1.1) 5),(a x 1),(a (p1.1) 7),(a (p1.1) 7),(a (p1.1) 7),(a (p1.1) 5),(a (p1.1) 5),(a (p1.1) 5),(a (p1.1) 5),(a (p1.1) 5),(a (p1.1) 5),(a x 1),(a (p1.1) 7),(a (p1.1) 7),(a (p1.1) 7),(a (p1.1) 5),(a (p1.1) 5),(a (p1.1) 5),(a (p1.1) 5),(a (p1.1) 5),(a (p1.1) 5),(a (p1.1) 6),(a (p1.1) 6),(a (p1.1) 6),(a (p1.1) 6),(a (p1.1) 7),(a x 1),(a (p1.1) 7),(a (p1.1) 7),(a (p1.1) 7),(a (p1.1) 5),(a (p1.1) 5),(a (p1.1) 5),(a (p1.1) 5),(a (p1.1) 5),(a (p1.1) 5),(a (p1.1) 5),(a (p1.1) 5),(a (p1.1) 5),(a (p1.1) 5),(a (p1.1) 5),x,x,x,(p1.1),(p1.1),(p1.1),(a (p1.1) 1),(a (p1.1) 1),(a (p1.1) 1),(a (p1.1) 1),(a (p1.1) 1),(a (p1.1) 2),(p1.1),(p1.1),(p1.1),(a (p1.1) 1),(a (p1.1) 1),(a (p1.1) 1),(a (p1.1) 1),(a (p1.1) 1),(a (p1.1) 2),(p1.1),(p1.1),(p1.1),(a (p1.1) 1),(a (p1.1) 1),(a (p1.1) 1),(a (p1.1) 1),(a (p1.1) 1),(a (p1.1) 2),(p1.1),(p1.1),(p1.1),(a (p1.1) 1),(a (p1.1) 1),(a (p1.1) 1),(a (p1.1) 1),(a (p1.1) 1),(a (p1.1) 2),(p1.1),(p1.1),(p1.1),(a (p1.1) 1),(a (p1.1) 1),(a (p1.1) 1),(a (p1.1) 1),(a (p1.1) 1),(a (p1.1) 2),(p1.1),(p1.1),(p1.1),(a (p1.1) 1),(a (p1.1) 1),(a (p1.1) 1),(a (p1.1) 1),(a (p1.1) 1),(a (p1.1) 2),(a (p1.1) 2),(p1.1),(p1.1),(p1.1),(a (p1.1) 1),(a (p1.1) 1),(a (p1.1) 1),(a (p1.1) 1),(a (p1.1) 1),(a (p1.1) 2),(a (p1.1) 2),(a (p1.1) 2),(a (p1.1) 2),(a (p1.1) 2),(a (p1.1) 2),(a (p1.1) 2),(a (p1.1) 2),(a (p1.1) 1),(a (p1.1) 1),x,x,(a x 1),(a x 1),x,x]) (cond b2 [(p1.1),(a (p1.1) 1),(a (p1.1) 1),(a (p1.1) 1),(a (p1.1) 1),x,(p1.1),(a (p1.1) 1),(a (p1.1) 1),(a (p1.1) 1),(a (p1.1) 1),x,x,(a (p2.10) 2),(p2.10),(p2.10),(a (p1.1) 4),(p2.10),(p2.10),(p2.10),(p2.10),(p2.10),(a (p1.1) 4),(a (p1.1) 4),(a (p1.1) 4),(p1.1),(a (p1.1) 1),(a (p1.1) 1),(a (p1.1) 1),(a (p1.1) 1),x,x,(p1.1),(a (p1.1) 1),(a (p1.1) 1),(a (p1.1) 1),(a (p1.1) 1),x,x,x,(a (p1.1) 6),(a (p1.1) 6),(a (p1.1) 7),(a (p1.1) 7),(a (p1.1) 7),(a (p1.1) 9),(a (p1.1) 5),(a (p1.1) 5),(a (p1.1) 5),(a (p1.1) 5),(a (p1.1) 5),(a (p1.1) 5),(a x 1),(a (p1.1) 7),(a (p1.1) 7),(a (p1.1) 7),(a (p1.1) 5),(a (p1.1) 5),(a (p1.1) 5),(a (p1.1) 5),(a (p1.1) 5),(a (p1.1) 5),(a x 1),(a (p1.1) 7),(a (p1.1) 7),(a (p1.1) 7),(a (p1.1) 5),(a (p1.1) 5),(a (p1.1) 5),(a (p1.1) 5),(a (p1.1) 5),(a (p1.1) 5),(a x 1),(a (p1.1) 7),(a (p1.1) 7),(a (p1.1) 7),(a (p1.1) 5),(a (p1.1) 5),(a (p1.1) 5),(a (p1.1) 5),(a (p1.1) 5),(a (p1.1) 5),(a x 1),(a (p1.1) 7),(a (p1.1) 7),(a (p1.1) 7),(a (p1.1) 5),(a (p1.1) 5),(a (p1.1) 5),(a (p1.1) 5),(a (p1.1) 5),(a (p1.1) 5),(a (p1.1) 5),x,x,x,(p1.1),(p1.1),(p1.1),(a (p1.1) 1),(a (p1.1) 1),(a (p1.1) 1),(a (p1.1) 1),(a (p1.1) 1),(a (p1.1) 2),(p1.1),(p1.1),(p1.1),(a (p1.1) 1),(a (p1.1) 1),(a (p1.1) 1),(a (p1.1) 1),(a (p1.1) 1),(a (p1.1) 2),(p1.1),(p1.1),(p1.1),(a (p1.1) 1),(a (p1.1) 1),(a (p1.1) 1),(a (p1.1) 1),(a (p1.1) 1),(a (p1.1) 2),(p1.1),(p1.1),(p1.1),(a (p1.1) 1),(a (p1.1) 1),(a (p1.1) 1),(a (p1.1) 1),(a (p1.1) 1),(a (p1.1) 2),(p1.1),(p1.1),(p1.1),(a (p1.1) 1),(a (p1.1) 1),(a (p1.1) 1),(a (p1.1) 1),(a (p1.1) 1),(a (p1.1) 2),(p1.1),(p1.1),(p1.1),(a (p1.1) 1),(a (p1.1) 1),(a (p1.1) 1),(a (p1.1) 1),(a (p1.1) 1),(a (p1.1) 2),(a (p1.1) 2),(p1.1),(p1.1),(p1.1),(a (p1.1) 1),(a (p1.1) 1),(a (p1.1) 1),(a (p1.1) 1),(a (p1.1) 1),(a (p1.1) 2),(a (p1.1) 2),(a (p1.1) 2),(a (p1.1) 2),(a (p1.1) 2),(a (p1.1) 2),(a (p1.1) 2),(a (p1.1) 2),(a (p1.1) 1),(a (p1.1) 1),x,x,(a x 1),(a x 1),x,x] [(p1.1),(a (p1.1) 1),(a (p1.1) 1),(a (p1.1) 1),(a (p1.1) 1),x,(p1.1),(a (p1.1) 1),(a (p1.1) 1),(a (p1.1) 1),(a (p1.1) 1),x,x,(a (p2.10) 2),(p2.10),(p2.10),(a (p1.1) 4),(p2.10),(p2.10),(p2.10),(p2.10),(p2.10),(a (p1.1) 4),(a (p1.1) 4),(a (p1.1) 4),(p1.1),(a (p1.1) 1),(a (p1.1) 1),(a (p1.1) 1),(a (p1.1) 1),x,x,(p1.1),(a (p1.1) 1),(a (p1.1) 1),(a (p1.1) 1),(a (p1.1) 1),x,x,x,(a (p1.1) 6),(a (p1.1) 6),(a (p1.1) 7),(a (p1.1) 7),(a (p1.1) 7),(a (p1.1) 9),(a (p1.1) 5),(a (p1.1) 5),(a (p1.1) 5),(a (p1.1) 5),(a (p1.1) 5),(a (p1.1) 5),(a x 1),(a (p1.1) 7),(a (p1.1) 7),(a (p1.1) 7),(a (p1.1) 5),(a (p1.1) 5),(a (p1.1) 5),(a (p1.1) 5),(a (p1.1) 5),(a (p1.1) 5),(a x 1),(a (p1.1) 7),(a (p1.1) 7),(a (p1.1) 7),(a (p1.1) 5),(a (p1.1) 5),(a (p1.1) 5),(a (p1.1) 5),(a (p1.1) 5),(a (p1.1) 5),(a x 1),(a (p1.1) 7),(a (p1.1) 7),(a (p1.1) 7),(a (p1.1) 5),(a (p1.1) 5),(a (p1.1) 5),(a (p1.1) 5),(a (p1.1) 5),(a (p1.1) 5),(a x 1),(a (p1.1) 7),(a (p1.1) 7),(a (p1.1) 7),(a (p1.1) 5),(a (p1.1) 5),(a (p1.1) 5),(a (p1.1) 5),(a (p1.1) 5),(a (p1.1) 5),(a (p1.1) 5),(a (p1.1) 5),(a (p1.1) 5),(a (p1.1) 5),(a (p1.1) 5),x,x,x,(p1.1),(p1.1),(p1.1),(a (p1.1) 1),(a (p1.1) 1),(a (p1.1) 1),(a (p1.1) 1),(a (p1.1) 1),(a (p1.1) 2),(p1.1),(p1.1),(p1.1),(a (p1.1) 1),(a (p1.1) 1),(a (p1.1) 1),(a (p1.1) 1),(a (p1.1) 1),(a (p1.1) 2),(p1.1),(p1.1),(p1.1),(a (p1.1) 1),(a (p1.1) 1),(a (p1.1) 1),(a (p1.1) 1),(a (p1.1) 1),(a (p1.1) 2),(p1.1),(p1.1),(p1.1),(a (p1.1) 1),(a (p1.1) 1),(a (p1.1) 1),(a (p1.1) 1),(a (p1.1) 1),(a (p1.1) 2),(p1.1),(p1.1),(p1.1),(a (p1.1) 1),(a (p1.1) 1),(a (p1.1) 1),(a (p1.1) 1),(a (p1.1) 1),(a (p1.1) 2),(p1.1),(p1.1),(p1.1),(a (p1.1) 1),(a (p1.1) 1),(a (p1.1) 1),(a (p1.1) 1),(a (p1.1) 1),(a (p1.1) 2),(a (p1.1) 2),(p1.1),(p1.1),(p1.1),(a (p1.1) 1),(a (p1.1) 1),(a (p1.1) 1),(a (p1.1) 1),(a (p1.1) 1),(a (p1.1) 2),(a (p1.1) 2),(a (p1.1) 2),(a (p1.1) 2),(a (p1.1) 2),(a (p1.1) 2),(a (p1.1) 2),(a (p1.1) 2),(a (p1.1) 1),(a (p1.1) 1),x,x,(a x 1),(a x 1),x,x]))))))))):=by revert f b1 b2;apply bq3<;>kernel_rfl
theorem pp_ok {w:World} {kn:Led} {tx:List Nat} {tt tf x m t i:Nat} {f:Bool} (hT:AB tx):
  AskOK pw_qz0137_01 w (G0 w) (.fn 652 [.str (q tx) tt,.str (q (fl f)) tf]) [] kn x m t i 600 (ppSh f tx):=by
 have e:=pp_run w (Nat.add x m) (Nat.add t i) tt tf tx f (w.params.followText "special-get-raises") (w.params.followText "comprehension-iter-twice")
 rw [← PP_self w] at e
 exact AskOK.shift (ask_run e (G0_ok w) (fun _ h=>h) fun g A R gs dr os hg low H=>
  ⟨⟨(0,0,0)⟩,nble rfl,fun _=>rfl,count_ok hT,fun p=>⟨ne_RD _,nble rfl,fun _=>rfl,lt_ok (K:=ppK tt (Nat.add t i) p.2.1) (n:=0) (tn:=a p.2.1 7) (cs:=tx) hT (Nat.zero_le _) rfl,fun r=>⟨v_len rfl hT.fits,v_lt_f (Nat.lt_irrefl _),rfl,fun h' rep=>
   H ⟨r.ts,r.len,r.k1,a p.2.1 10,r.ep,a r.x 3,r.a2,r.a3,a p.1 3,a r.x 4,Nat.add r.t 7⟩ h' rep⟩⟩⟩)
end
noncomputable section
theorem aq_run (w:World) (x t mk md rl nd a3 k1 e3:Nat) (J:Nat→Nat) (cs:List Nat) (ts:List Nd) (b1 b2:Bool):go (PP w b1 b2) [(nd,oTup [.str (q sQ) k1,.ref a3]),(a3,oLst (nrefs ts) e3)] 500 100000 (.call (.ref 177) ⟨[.ref mk,.ref nd],[]⟩) [(mk,oRM md),(md,dRM (PP w b1 b2) J rl),(rl,oLst [] 0)] x 0 t 0 [1,0,0,2,0,2,0,0,0,2,1,0,1,0,1,0,0,1,0,0,1,0,2,0,2,2,2,0,2,0,2,0,0,0,0,0,0,0,0,0,0,3,0,0,3,1,0,1,0,1,0,0,1,0,0,1,0,1,1,1,1,0,1,1,0,2,2] (.ask [2,0,3,4,5] 99 520 AN (fun _ _=>anSh (PP w b1 b2) J md mk nd rl [] (nrefs ts) ts) fun p=>.keep [3,4,5])=(.ask (.code (anLoop (a x 2) x)) [(x,⟨.type "frame",none,.dict ⟨[en (PP w b1 b2) (q [109,97,107,101,114]) t (.ref mk),en (PP w b1 b2) (q [110,111,100,101]) (a t 1) (.ref nd),en (PP w b1 b2) (q [119,111,114,100]) (a t 3) (.str (q [115,101,113]) k1)]⟩ 3,⟨[]⟩⟩),((a x 2),⟨.type "list_iterator",none,.fields ⟨[.ref a3,.int 0 0]⟩,⟨[]⟩⟩),(mk,⟨.ref 166,(some md),.plain,⟨[]⟩⟩),(md,⟨.type "dict",none,.dict ⟨[en (PP w b1 b2) (q [114,111,119,115]) (J 0) (.ref rl),en (PP w b1 b2) (q [114,101,103,105,115,116,101,114,115]) (J 1) (.int 0 (J 2))]⟩ 2,⟨[]⟩⟩),(rl,⟨.type "list",none,.seq ⟨[]⟩ 0,⟨[]⟩⟩)] [] x 3 t 11 1 520 (AN) ((fun x x_1=>anSh (PP w b1 b2) J md mk nd rl [] (nrefs ts) ts) (Nat.add x 3) (Nat.add t 11)) (fun p1=>(dn (.ok (.ret .none)) ([(mk,⟨.ref 166,(some md),.plain,⟨[]⟩⟩),(md,⟨.type "dict",none,.dict ⟨[en (PP w b1 b2) (q [114,111,119,115]) (J 0) (.ref rl),en (PP w b1 b2) (q [114,101,103,105,115,116,101,114,115]) (J 1) (.int 0 (J 2))]⟩ 2,⟨[]⟩⟩),(rl,⟨.type "list",none,.seq ⟨([]++nrefs ts)⟩ (p1.4),⟨[]⟩⟩)]) (p1.5) 0 (p1.6) 0 [(a x 2),a3,a3,a3,nd,nd,nd,nd,nd,x,x,(a x 1),(a x 1),(a x 1),(a x 1),x,x,x,nd,nd,nd,nd,nd,x,x,x,x,x]))):=by revert b1 b2;apply bq2<;>kernel_rfl
theorem ct_run (w:World) (x t nd a3 k1 e3 tg nm:Nat) (cs:List Nat) (ts:List Nd) (b1 b2:Bool):go (PP w b1 b2) [] 450 100000 (.call (.ref 219) ⟨[.ref nd,.int 0 tg,.ref nm],[]⟩) [] x 0 t 0 [1,0,0,2,0,2,0,2,0,0,0,0,0,0,0,0,0,0,0,0,0,0,0,0,0,0,0,0,0,0,0,0,0,0,0,0,0,0,0,0,2,0,2,0,0,0,0,1,0,0,2,0,0,0,3,4,0,0,0,0,4,0,0,4,0,4,0,0,0,4,0,5,3,5,3,4,0,0,0,0,4,0,0,4,0,4,0,0,0,4,0,5,3,5,6,4,0,6,6,0,2,6,4,0,0,0,4,0,0,0,4,0,0,0,0,4,5,0,1,0,0,2,0,2,0,0,0,2,6,0,0,0,0,6,0,0,0,6,6,0,7,4,4,4,4,2,0,4,2,0,0,2,6,0,0,0,0,6,0,0,0,6,6,0,7,0,2,0,2,0,8,6,0,0,0,0,6,0,0,0,6,6,0,7,8,8,6,0,0,0,0,6,0,0,0,6,6,0,7,8,0,0,0,0,0,0,0,0,0,0,0,0,0,0,0,0,0,0,0,0,0,0,0,0,0,0,0,0,0,0,0,0,0,2,0,2,0,0,0,0,1,0,0,2,0,2,0,2,0,2,0,2,0,0,0,2,2,3,0,0,0,0,3,0,0,3,0,3,0,0,0,3,0,4,2,4,2,2,3,0,0,0,0,3,0,0,3,0,3,0,0,0,3,0,4,2,4,2,2,3,0,0,0,0,3,0,0,3,0,3,0,0,0,3,0,4,2,4,2,2,3,0,0,0,0,3,0,0,3,0,3,0,0,0,3,0,4,2,4] (.ask [2,3,0] 99 500 XT (fun _ _=>aqSh (PP w b1 b2) (fun j=>match j with | 0=>a t 5 | 1=>a t 8 | _=>a t 6) (a x 1) (a x 4) ts) fun p=>.ask [2] 99 950 Unit (kS (fun _=>.none) [oLst (nrefs ts++[.ref p.x]) (p.ep+1)] 0) fun _=>.ask [2] 99 950 Unit (kS (fun t=>.int (Int.ofNat (ts.length+1)) (a t 1)) [oLst (nrefs ts++[.ref p.x]) (p.ep+1)] 2) fun _=>.val (fun t=>.int (Int.ofNat ts.length) t) 1 <| .keep [1,2,5,4])=(.ask (.fn 177 [.ref (a x 2),.ref nd]) [((a x 2),⟨.ref 166,(some (a x 1)),.plain,⟨[]⟩⟩),((a x 1),⟨.type "dict",none,.dict ⟨[en (PP w b1 b2) (q [114,111,119,115]) (a t 5) (.ref (a x 4)),en (PP w b1 b2) (q [114,101,103,105,115,116,101,114,115]) (a t 8) (.int 0 (a t 6))]⟩ 2,⟨[]⟩⟩),((a x 4),⟨.type "list",none,.seq ⟨[]⟩ 0,⟨[]⟩⟩)] [] x 5 t 10 1 500 (XT) ((fun x_1 x_2=>aqSh (PP w b1 b2) (fun j=>match j with | 0=>a t 5 | 1=>a t 8 | x=>a t 6) (a x 1) (a x 4) ts) (Nat.add x 5) (Nat.add t 10)) (fun p1=>(.ask (.bi (PySem.W.S.codeS "list.append") [.ref (a x 4),.ref (p1.2)]) [((a x 4),⟨.type "list",none,.seq ⟨(nrefs ts)⟩ (p1.1),⟨[]⟩⟩)] [] (p1.2) 2 (p1.3) 4 2 950 (Unit) ((kS (fun x=>Value.none) [oLst (nrefs ts++[Value.ref p1.x]) (p1.ep+1)] 0) (Nat.add (p1.2) 2) (Nat.add (p1.3) 4)) (fun p2=>(.ask (.bi (PySem.W.S.codeS "len") [.ref (a x 4)]) [((a x 4),⟨.type "list",none,.seq ⟨(nrefs ts++[Value.ref p1.x])⟩ (a (p1.1) 1),⟨[]⟩⟩)] [] (a (p1.2) 2) 0 (a (p1.3) 4) 1 2 950 (Unit) ((kS (fun t=>Value.int (Int.ofNat (ts.length+1)) (a t 1)) [oLst (nrefs ts++[Value.ref p1.x]) (p1.ep+1)] 2) (Nat.add (a (p1.2) 2) 0) (Nat.add (a (p1.3) 4) 1)) (fun p3=>(.val (.bi (PySem.W.S.codeS "int.__sub__") [.int (Int.ofNat (a (ts.length) 1)) (a (p1.3) 6),.int 1 (a (p1.3) 7)]) (.int (Int.ofNat (ts.length)) (a (p1.3) 8)) 1 (a (p1.3) 8) 2 (dn (.ok (.ret (.ref (a (p1.2) 3)))) ([((a (p1.2) 3),⟨.ref 131,(some (a (p1.2) 2)),.plain,⟨[]⟩⟩),((a (p1.2) 2),⟨.type "dict",none,.dict ⟨[en (PP w b1 b2) (q [114,111,119,115]) (a (p1.3) 17) (.ref (a x 4)),en (PP w b1 b2) (q [103,114,111,117,112,115]) (a (p1.3) 19) (.int 0 tg),en (PP w b1 b2) (q [114,101,103,105,115,116,101,114,115]) (a (p1.3) 21) (.int 0 (a t 6)),en (PP w b1 b2) (q [110,97,109,101,115]) (a (p1.3) 23) (.ref nm)]⟩ 4,⟨[]⟩⟩),((a x 4),⟨.type "list",none,.seq ⟨(nrefs ts++[Value.ref p1.x])⟩ (a (p1.1) 1),⟨[]⟩⟩),((p1.2),⟨.type "tuple",none,.seq ⟨[.str (q [101,110,100]) (p1.3)]⟩ 0,⟨[]⟩⟩)]) (a (p1.2) 2) 3 (a (p1.3) 5) 19 [(a (p1.2) 2),(a (p1.2) 2),(a (p1.2) 2),(a (p1.2) 3),(a (p1.2) 3),(a (p1.2) 3),(a (p1.2) 3),(a (p1.2) 3),(a (p1.2) 4),(a (p1.2) 4),(a (p1.2) 2),(a (p1.2) 2),(a (p1.2) 2),(a (p1.2) 3),(a (p1.2) 3),(a (p1.2) 3),(a (p1.2) 3),(a (p1.2) 3),(a (p1.2) 4),(a (p1.2) 4),(a (p1.2) 2),(a (p1.2) 2),(a (p1.2) 2),(a (p1.2) 3),(a (p1.2) 3),(a (p1.2) 3),(a (p1.2) 3),(a (p1.2) 3),(a (p1.2) 4),(a (p1.2) 4),(a (p1.2) 2),(a (p1.2) 2),(a (p1.2) 2),(a (p1.2) 3),(a (p1.2) 3),(a (p1.2) 3),(a (p1.2) 3),(a (p1.2) 3),(a (p1.2) 4),(a (p1.2) 4),(a (p1.2) 4),(a (p1.2) 4),(a (p1.2) 4),(a (p1.2) 4),(a (p1.2) 4),(a (p1.2) 4),(a (p1.2) 4),(a (p1.2) 4),(a (p1.2) 4),(a (p1.2) 4),(a (p1.2) 3),(a (p1.2) 3),x,(a x 1),(a x 2),(a x 2),(a x 2),(a x 2),x,x,(a x 1),(a x 2),(a x 2),(a x 2),(a x 2),x,(a x 1),(a x 2),(a x 2),(a x 2),(a x 2),(a (p1.2) 1),(a x 4),(a (p1.2) 1),(a x 4),(a x 4),(a x 4),(a x 4),(a x 1),(a x 2),(a x 2),(a x 2),(a x 2),(a (p1.2) 1),(a (p1.2) 1),(a (p1.2) 1),(a (p1.2) 1),(a (p1.2) 1),(a x 1),(a x 2),(a x 2),(a x 2),(a x 2),x,x,x,x,x,(a x 1),(a x 1),(a x 1),(a x 2),(a x 2),(a x 2),(a x 2),(a x 2),(a x 3),(a x 1),(a x 1),(a x 1),(a x 2),(a x 2),(a x 2),(a x 2),(a x 2),(a x 3),(a x 3),(a x 3),(a x 2),(a x 2),x,x,x,x,x,x])))))))):=by revert b1 b2;apply bq2<;>kernel_rfl
theorem cp_run (w:World) (x t tt tf:Nat) (tx:List Nat) (f b1 b2:Bool):go (PP w b1 b2) [] 400 100000 (.call (.ref 659) ⟨[.str (q tx) tt,.str (q (fl f)) tf],[]⟩) [] x 0 t 0 [1,0,0,2,0,2,0,0,0,0,2,2,0,2,2,2,2,0,2,0,2,2,0,2,0,2,2,3,2,0,2,0,2,0,2,2,3,2,0,2,0,2,0,2,2,3,2,0,2,0,2,0,2,2,3,2,0,2,9,7,9,7,9,7,0,9,9,9,0,2] (.ask [] 99 600 (PR tx.length) (fun _ _=>ppSh f tx) fun p=>.ask [] 0 450 CT (fun _ _=>ctTSh (PP w b1 b2) p.ts p.nm) fun c=>.keepT [0,1,2,3,8] 12)=(.ask (.fn 652 [.str (q (tx)) tt,.str (q (fl f)) tf]) [] [] x 1 t 2 1 600 (PR tx.length) ((fun x x_1=>ppSh f tx) (Nat.add x 1) (Nat.add t 2)) (fun p1=>(.ask (.fn 219 [.ref (p1.7),.int 0 (p1.4),.ref (p1.9)]) [] ([((a (p1.10) 2),⟨.type "StopIteration",none,.fields ⟨[.ref (a (p1.10) 1),.none,.none,.none,.bool false,.none]⟩,⟨[]⟩⟩),((a (p1.10) 1),⟨.type "tuple",none,.seq ⟨[]⟩ 0,⟨[]⟩⟩),((p1.10),⟨.type "tuple_iterator",none,.fields ⟨[.none,.int 3 0]⟩,⟨[]⟩⟩),((p1.6),⟨.type "tuple",none,.seq ⟨[.ref (p1.7),.int 0 (p1.4),.ref (p1.9)]⟩ 0,⟨[]⟩⟩),((p1.9),⟨.type "dict",none,.dict ⟨[]⟩ 0,⟨[]⟩⟩),((p1.7),⟨.type "tuple",none,.seq ⟨[.str (q [115,101,113]) (p1.3),.ref (p1.8)]⟩ 0,⟨[]⟩⟩),((p1.8),⟨.type "list",none,.seq ⟨(nrefs p1.ts)⟩ (p1.5),⟨[]⟩⟩),(x,⟨.type "frame",none,.dict ⟨[en (PP w b1 b2) (q [116,101,120,116]) t (.str (q (tx)) tt),en (PP w b1 b2) (q [102,108,97,103,115]) (a t 1) (.str (q (fl f)) tf),en (PP w b1 b2) (q [110,111,100,101]) (p1.11) (.ref (p1.7)),en (PP w b1 b2) (q [103,114,111,117,112,115]) (a (p1.11) 1) (.int 0 (p1.4)),en (PP w b1 b2) (q [110,97,109,101,115]) (a (p1.11) 2) (.ref (p1.9))]⟩ 5,⟨[]⟩⟩)]++(ppSh f tx p1).tail) (p1.10) 3 (p1.11) 3 1 450 (CT) ((fun x x_1=>ctTSh (PP w b1 b2) p1.ts p1.nm) (Nat.add (p1.10) 3) (Nat.add (p1.11) 3)) (fun p2=>(dn (.ok (.ret (.ref (p2.1)))) ([((p2.1),⟨.ref 131,(some (p2.2)),.plain,⟨[]⟩⟩),((p2.2),⟨.type "dict",none,.dict ⟨[en (PP w b1 b2) (q [114,111,119,115]) (p2.5 0) (.ref (p2.3)),en (PP w b1 b2) (q [103,114,111,117,112,115]) (p2.5 1) (.int 0 (p2.7)),en (PP w b1 b2) (q [114,101,103,105,115,116,101,114,115]) (p2.5 2) (.int 0 (p2.8)),en (PP w b1 b2) (q [110,97,109,101,115]) (p2.5 3) (.ref (p1.9))]⟩ 4,⟨[]⟩⟩),((p2.3),⟨.type "list",none,.seq ⟨(nrefs p1.ts++[Value.ref p2.en])⟩ (p2.9),⟨[]⟩⟩),((p2.4),⟨.type "tuple",none,.seq ⟨[.str (q [101,110,100]) (p2.6)]⟩ 0,⟨[]⟩⟩),((p1.9),⟨.type "dict",none,.dict ⟨[]⟩ 0,⟨[]⟩⟩)]++(ppSh f tx p1).tail++[]) (p2.10) 0 (p2.11) 0 [x,x,x,x,x,x,x,x,x,(a (p1.10) 2),(p1.10),(p1.10),(p1.6),(p1.10),(p1.10),(p1.10),(p1.10),(p1.10),(p1.10),(p1.6),(p1.10),(p1.10),(p1.10),(p1.10),(p1.10),(p1.10),(p1.6),(p1.10),(p1.10),(p1.10),(p1.10),(p1.10),(p1.10),(p1.6),(p1.10),(p1.10),(p1.10),(p1.10),(p1.10),(p1.6),(p1.6),(p1.6),(p1.6),x,x,x,x,x,x]))))):=by revert f b1 b2;apply bq3<;>kernel_rfl
theorem GS_mono {w:World} {nd a3 k1 e3:Nat} {f:Bool} {cs:List Nat} {ts:List Nd}:∀ g g':Heap,(∀ b o,g.get? b=some o→g'.get? b=some o)→GS w nd a3 k1 e3 f cs ts g→GS w nd a3 k1 e3 f cs ts g':=
 fun g g' k h=>⟨GN_mono g g' k h.1,k _ _ h.2⟩
theorem ne_AN:Nonempty AN:=⟨⟨fun _=>0,false,.none,0,0,0⟩⟩
theorem ne_XT:Nonempty XT:=⟨⟨0,0,0⟩⟩
theorem ne_CT:Nonempty CT:=⟨⟨0,0,0,0,fun _=>0,0,0,0,0,0,0⟩⟩
theorem aq_ok {w:World} {kn:Led} {J:Nat→Nat} {f:Bool} {mk md rl nd a3 k1 e3 x m t i:Nat} {cs:List Nat} {ts:List Nd} (hlen:ts.length=cs.length) (hab:∀ c∈cs,c=97∨c=98) (hfit:cs.length≤1000):
  AskOK pw_qz0137_01 w (GS w nd a3 k1 e3 f cs ts) (.fn 177 [.ref mk,.ref nd]) [(mk,oRM md),(md,dRM w.params J rl),(rl,oLst [] 0)] kn x m t i 500 (aqSh w.params J md rl ts):=by
 have e:=aq_run w (Nat.add x m) (Nat.add t i) mk md rl nd a3 k1 e3 J cs ts (w.params.followText "special-get-raises") (w.params.followText "comprehension-iter-twice")
 rw [← PP_self w] at e
 refine AskOK.shift (ask_run e ⟨GS_mono,fun g hg=>⟨hg.1.1,fun q hq=>?_⟩⟩ (fun _ h=>h) fun g' A R gs dr os hg low H=>
  ⟨ne_AN,nble rfl,fun _=>rfl,(anLoop_ok (all:=nrefs ts) cs ts 0 0 _ _ (anI (Nat.add t i) k1) false .none [] [] hlen hab rfl rfl (by show 0+cs.length≤1000;omega)).mono (fun _ h=>h.1),fun p=>⟨rfl,fun h' r=>H ⟨p.ep,p.x,p.t⟩ h' r⟩⟩)
 rcases List.mem_cons.mp hq with rfl | hq
 ·exact hg.2
 ·rcases List.mem_cons.mp hq with rfl | hq
  ·exact hg.1.2.1
  ·cases hq
theorem ct_ok {w:World} {kn:Led} {f:Bool} {nd a3 k1 e3 tg nm x m t i:Nat} {cs:List Nat} {ts:List Nd} (hlen:ts.length=cs.length) (hab:∀ c∈cs,c=97∨c=98) (hfit:cs.length≤1000):
  AskOK pw_qz0137_01 w (GS w nd a3 k1 e3 f cs ts) (.fn 219 [.ref nd,.int 0 tg,.ref nm]) [] kn x m t i 450 (ctTSh w.params ts nm):=by
 have hsz:sizeLine=16777216:=rfl
 have hl:(nrefs ts).length=ts.length:=nrefs_len ts
 have e:=ct_run w (Nat.add x m) (Nat.add t i) nd a3 k1 e3 tg nm cs ts (w.params.followText "special-get-raises") (w.params.followText "comprehension-iter-twice")
 rw [← PP_self w] at e
 refine AskOK.shift (ask_run e ⟨GS_mono,fun g hg=>⟨hg.1.1,fun q hq=>nomatch hq⟩⟩ (fun _ h=>h) fun g' A R gs dr os hg low H=>
  ⟨ne_XT,nble rfl,fun _=>rfl,aq_ok (J:=fun j=>match j with | 0=>a (Nat.add t i) 5 | 1=>a (Nat.add t i) 8 | _=>a (Nat.add t i) 6) hlen hab hfit,fun p=>⟨⟨()⟩,nble rfl,fun _=>rfl,append_ok (by omega),fun _=>
   ⟨⟨()⟩,nble rfl,fun _=>rfl,len_list_ok (by rw [List.length_append,hl];rfl) (by omega),fun _=>⟨v_sub1,rfl,fun h' r=>
    H ⟨a p.x 3,a p.x 2,a (Nat.add x m) 4,p.x,fun j=>match j with | 0=>a p.t 17 | 1=>a p.t 19 | 2=>a p.t 21 | _=>a p.t 23,p.t,tg,a (Nat.add t i) 6,a p.ep 1,Nat.add (a p.x 2) 3,Nat.add (a p.t 5) 19⟩ h' r⟩⟩⟩⟩)
theorem AskOK.know {w:World} {G:Heap→Prop} {q:Asked} {l kn:Led} {x m t i D:Nat} {P:Type} {sh:P→Shape} {G':Heap→Prop} (h:AskOK pw_qz0137_01 w G' q l kn x m t i D sh) (k:∀ g,G g→(∀ q∈kn,g.get? q.1=some q.2)→G' g):AskOK pw_qz0137_01 w G q l kn x m t i D sh:=
 fun c hc g A R gs d os hp hg hk=>h c hc g A R gs d os hp (k g hg hk) hk
theorem cp_ok {w:World} {kn:Led} {tx:List Nat} {tt tf x m t i:Nat} {f:Bool} (hT:AB tx):
  AskOK pw_qz0137_01 w (G0 w) (.fn 659 [.str (q tx) tt,.str (q (fl f)) tf]) [] kn x m t i 400 (cpSh w.params f tx):=by
 have e:=cp_run w (Nat.add x m) (Nat.add t i) tt tf tx f (w.params.followText "special-get-raises") (w.params.followText "comprehension-iter-twice")
 rw [← PP_self w] at e
 exact AskOK.shift (ask_run e (G0_ok w) (fun _ h=>h) fun g A R gs dr os hg low H=>
  ⟨ne_PR _,nble rfl,fun _=>rfl,pp_ok hT,fun p=>⟨ne_CT,nble rfl,fun _=>rfl,
   (ct_ok (f:=f) (nd:=p.a2) (a3:=p.a3) (k1:=p.k1) (e3:=p.ep) (cs:=tx) p.len hT.sign hT.size).know (fun g h k=>⟨⟨h,k (p.a3,oLst (nrefs p.ts) p.ep) (.tail _ (.tail _ (.tail _ (.tail _ (.tail _ (.tail _ (.head _))))))),fun q hq=>k q (.tail _ (.tail _ (.tail _ (.tail _ (.tail _ (.tail _ (.tail _ (.tail _ hq))))))))⟩,k (p.a2,oTup [.str (q sQ) p.k1,.ref p.a3]) (.tail _ (.tail _ (.tail _ (.tail _ (.tail _ (.head _))))))⟩),fun c=>⟨rfl,fun h' r=>H ⟨p.ts,p.len,p.nm,c⟩ h' (by
    have r':Rep g (prL w.params p.ts p.nm c++[(p.nm,oEmp)]++(nodes f tx p.ts++[])) _ h':=r
    rw [List.append_nil] at r'
    exact r')⟩⟩⟩)
end
noncomputable section
theorem pf_hit (w:World) (x t rn rd pt ep lm ld sv fr ef st ts tt tg pr lim tl stp tst kp:Nat) (T V W:Nat→Nat) (tx:List Nat) (mt v1:Value) (xs:List Ent) (i g b1 b2:Bool):go (PP w b1 b2) [] 340 100000 (.call (.ref 741) ⟨[.ref rn,.str (q tx) tt,.str (q (fg g i)) tg],[]⟩) [(rn,oRun rd),(rd,dRun (PP w b1 b2) T V lm sv fr mt pt st ts),(pt,oDk w xs ep)] x 0 t 0 [1,0,0,2,0,2,0,2,0,0,0,2,0,2,0,2,3,1,3,3,4,0,0,0,0,4,0,0,0,4,4,0,5,6,6,0,6,2,3,4,0,0,0,0,4,0,0,0,4,4,0,5,3,6,6,6,0,6,2,0] (.ask [] 99 350 (Nat × Nat × Nat) (fun _ _=>ofSh i) fun p=>.ask [4,0] 99 950 Unit (kS (fun _=>.bool true) [oDk w xs ep,oKey tx i tt p.1] 3) fun _=>.ask [4,0] 99 950 Unit (kS (fun _=>.ref pr) [oDk w xs ep,oKey tx i tt p.1] 3) fun _=>.keep [2,3,4])=(.ask (.fn 734 [.str (q (cond i (cond g [103,105] [105]) (cond g [103] []))) tg]) [] [] x 1 t 3 1 350 (Nat × Nat × Nat) ((fun x x_1=>ofSh i) (Nat.add x 1) (Nat.add t 3)) (fun p1=>(.ask (.bi (PySem.W.S.codeS "dict.__contains__") [.ref pt,.ref (p1.snd.1)]) [(pt,(oDk w xs ep)),((p1.snd.1),⟨.type "tuple",none,.seq ⟨[.str (q (tx)) tt,.str (q (fl i)) (p1.1)]⟩ 0,⟨[]⟩⟩)] [] (p1.snd.1) 1 (p1.snd.2) 2 1 950 (Unit) ((kS (fun x=>Value.bool true) [oDk w xs ep,oKey tx i tt p1.fst] 3) (Nat.add (p1.snd.1) 1) (Nat.add (p1.snd.2) 2)) (fun p2=>(.ask (.bi (PySem.W.S.codeS "dict.__getitem__") [.ref pt,.ref (p1.snd.1)]) [(pt,(oDk w xs ep)),((p1.snd.1),⟨.type "tuple",none,.seq ⟨[.str (q (tx)) tt,.str (q (fl i)) (p1.1)]⟩ 0,⟨[]⟩⟩)] [] (a (p1.snd.1) 1) 0 (a (p1.snd.2) 2) 4 1 950 (Unit) ((kS (fun x=>Value.ref pr) [oDk w xs ep,oKey tx i tt p1.fst] 3) (Nat.add (a (p1.snd.1) 1) 0) (Nat.add (a (p1.snd.2) 2) 4)) (fun p3=>(dn (.ok (.ret (.ref pr))) ([(rn,(oRun rd)),(rd,(dRun (PP w b1 b2) T V lm sv fr (mt) pt st ts)),(pt,(oDk w xs ep))]) (a (p1.snd.1) 1) 0 (a (p1.snd.2) 6) 3 [pt,pt,pt,pt,x,rd,rn,rn,rn,rn,x,pt,pt,pt,rd,rn,rn,rn,rn,x,x,x,x,x,x,x,x,x,x,x,x]))))))):=by revert i g b1 b2;apply bq4<;>kernel_rfl
theorem pf_miss (w:World) (x t rn rd pt ep lm ld sv fr ef st ts tt tg pr lim tl stp tst kp:Nat) (T V W:Nat→Nat) (tx:List Nat) (mt v1:Value) (xs:List Ent) (i g b1 b2:Bool):go (PP w b1 b2) [] 340 100000 (.call (.ref 741) ⟨[.ref rn,.str (q tx) tt,.str (q (fg g i)) tg],[]⟩) [(rn,oRun rd),(rd,dRun (PP w b1 b2) T V lm sv fr mt pt st ts),(pt,oDk w xs ep)] x 0 t 0 [1,0,0,2,0,2,0,2,0,0,0,2,0,2,0,2,3,1,3,3,4,0,0,0,0,4,0,0,0,4,4,0,5,6,6,0,6,2,0,3,3,0,2,0,3,3,0,3,3,2,2,2,0,2,0,2,0,2,0,2,8,9,0,0,0,0,9,0,0,0,9,9,0,10,8,11,11,11,0,11,2,0] (.ask [] 99 350 (Nat × Nat × Nat) (fun _ _=>ofSh i) fun p=>.ask [4,0] 99 950 Unit (kS (fun _=>.bool false) [oDk w xs ep,oKey tx i tt p.1] 3) fun _=>.ask [2,3] 99 360 (Nat × Nat) (fun _ _=>rS .none [oRun rd,dRun (PP w b1 b2) T V lm sv fr mt pt st ts]) fun _=>.ask [] 99 400 (CP tx.length) (fun _ _=>cpSh (PP w b1 b2) i tx) fun c=>.ask [7,8,9,5] 10 380 KP (fun _ _=>kpSh w T V rd lm sv fr mt pt st tx i tt p.1 p.2.1 c.c.pr kp xs) fun k=>.ask [9,5] 10 950 Unit (kS (fun _=>.ref c.c.pr) [oDk w (kept1 xs (kp+tx.length) k.tk tx i p.2.1 c.c.pr) k.ep,oKey tx i tt p.1] 3) fun _=>.keepT [5,0,1,2,3,4,7,8,9] 10)=(.ask (.fn 734 [.str (q (cond i (cond g [103,105] [105]) (cond g [103] []))) tg]) [] [] x 1 t 3 1 350 (Nat × Nat × Nat) ((fun x x_1=>ofSh i) (Nat.add x 1) (Nat.add t 3)) (fun p1=>(.ask (.bi (PySem.W.S.codeS "dict.__contains__") [.ref pt,.ref (p1.snd.1)]) [(pt,(oDk w xs ep)),((p1.snd.1),⟨.type "tuple",none,.seq ⟨[.str (q (tx)) tt,.str (q (fl i)) (p1.1)]⟩ 0,⟨[]⟩⟩)] [] (p1.snd.1) 1 (p1.snd.2) 2 1 950 (Unit) ((kS (fun x=>Value.bool false) [oDk w xs ep,oKey tx i tt p1.fst] 3) (Nat.add (p1.snd.1) 1) (Nat.add (p1.snd.2) 2)) (fun p2=>(.ask (.fn 728 [.ref rn,.str (q (tx)) tt]) [(rn,(oRun rd)),(rd,(dRun (PP w b1 b2) T V lm sv fr (mt) pt st ts))] [] (a (p1.snd.1) 1) 0 (a (p1.snd.2) 2) 3 1 360 (Nat × Nat) ((fun x x_1=>rS Value.none [oRun rd,dRun (PP w b1 b2) T V lm sv fr mt pt st ts]) (Nat.add (a (p1.snd.1) 1) 0) (Nat.add (a (p1.snd.2) 2) 3)) (fun p3=>(.ask (.fn 659 [.str (q (tx)) tt,.str (q (fl i)) (p1.1)]) [] [] (p3.1) 0 (p3.2) 1 1 400 (CP tx.length) ((fun x x_1=>cpSh (PP w b1 b2) i tx) (Nat.add (p3.1) 0) (Nat.add (p3.2) 1)) (fun p4=>(.ask (.fn 748 [.ref rn,.ref (p1.snd.1),.ref (p4.c.pr)]) [(rn,(oRun rd)),(rd,(dRun (PP w b1 b2) T V lm sv fr (mt) pt st ts)),(pt,(oDk w xs ep)),((p1.snd.1),⟨.type "tuple",none,.seq ⟨[.str (q (tx)) tt,.str (q (fl i)) (p1.1)]⟩ 0,⟨[]⟩⟩)] ((cpSh (PP w b1 b2) i tx p4).tail) ((cpSh (PP w b1 b2) i tx p4).x) 0 ((cpSh (PP w b1 b2) i tx p4).t) 0 1 380 (KP) ((fun x x_1=>kpSh w T V rd lm sv fr mt pt st tx i tt p1.fst p1.snd.fst p4.c.pr kp xs) (Nat.add ((cpSh (PP w b1 b2) i tx p4).x) 0) (Nat.add ((cpSh (PP w b1 b2) i tx p4).t) 0)) (fun p5=>(.ask (.bi (PySem.W.S.codeS "dict.__getitem__") [.ref pt,.ref (p1.snd.1)]) [(pt,⟨.type "dict",none,.dict ⟨(List.map (entryOfKey (TK w)) (kept1 xs (kp+tx.length) p5.tk tx i p1.snd.fst p4.c.pr))⟩ (p5.2),⟨[]⟩⟩),((p1.snd.1),⟨.type "tuple",none,.seq ⟨[.str (q (tx)) tt,.str (q (fl i)) (p1.1)]⟩ 0,⟨[]⟩⟩)] ((cpSh (PP w b1 b2) i tx p4).tail++[]) (p5.4) 0 (p5.5) 1 1 950 (Unit) ((kS (fun x=>Value.ref p4.c.pr) [oDk w (kept1 xs (kp+tx.length) p5.tk tx i p1.snd.fst p4.c.pr) p5.ep,oKey tx i tt p1.fst] 3) (Nat.add (p5.4) 0) (Nat.add (p5.5) 1)) (fun p6=>(dn (.ok (.ret (.ref (p4.c.pr)))) ([((p1.snd.1),⟨.type "tuple",none,.seq ⟨[.str (q (tx)) tt,.str (q (fl i)) (p1.1)]⟩ 0,⟨[]⟩⟩),((p4.c.1),(oPr (p4.c.pd))),((p4.c.2),⟨.type "dict",none,.dict ⟨[en (PP w b1 b2) (q [114,111,119,115]) (p4.c.M 0) (.ref (p4.c.rl)),en (PP w b1 b2) (q [103,114,111,117,112,115]) (p4.c.M 1) (.int 0 (p4.c.tg)),en (PP w b1 b2) (q [114,101,103,105,115,116,101,114,115]) (p4.c.M 2) (.int 0 (p4.c.tr)),en (PP w b1 b2) (q [110,97,109,101,115]) (p4.c.M 3) (.ref (p4.3))]⟩ 4,⟨[]⟩⟩),((p4.c.3),⟨.type "list",none,.seq ⟨(nrefs p4.ts++[Value.ref p4.c.en])⟩ (p4.c.ep),⟨[]⟩⟩),((p4.c.4),⟨.type "tuple",none,.seq ⟨[.str (q [101,110,100]) (p4.c.ke)]⟩ 0,⟨[]⟩⟩),((p4.3),⟨.type "dict",none,.dict ⟨[]⟩ 0,⟨[]⟩⟩),(rn,(oRun rd)),(rd,(dRun (PP w b1 b2) T V lm sv fr (mt) pt (st+tx.length / 10) (p5.3))),(pt,⟨.type "dict",none,.dict ⟨(List.map (entryOfKey (TK w)) (kept1 xs (kp+tx.length) p5.tk tx i p1.snd.fst p4.c.pr))⟩ (p5.2),⟨[]⟩⟩)]++(cpSh (PP w b1 b2) i tx p4).tail++[]++[]) (p5.4) 0 (a (p5.5) 1) 3 [pt,pt,pt,pt,x,rd,rn,rn,rn,rn,x,(p1.snd.1),(p1.snd.1),(p1.snd.1),(p1.snd.1),(p1.snd.1),x,x,x,x,x,x,pt,pt,pt,rd,rn,rn,rn,rn,x,x,x,x,x,x,x,x,x,x,x,x]))))))))))))):=by revert i g b1 b2;apply bq4<;>kernel_rfl
theorem atKey_stored_same {xs:List Ent} {k:List SB} {a:Addr} {v:Value} (h:atKey xs k=none):atKey (storedH xs k a v) k=some (a,v):=by
 rw [storedH_new h]
 unfold atKey at h ⊢
 have h':(xs.find? fun x=>decide (x.1=k))=none:=Option.map_eq_none_iff.mp h
 rw [List.find?_append,h']
 simp
theorem atKey_stored_ne {xs:List Ent} {k k2:List SB} {a:Addr} {v:Value} (hne:k2≠k):atKey (storedH xs k a v) k2=atKey xs k2:=by
 cases e:atKey xs k with
 | none=>
  rw [storedH_new e]
  unfold atKey
  rw [List.find?_append]
  cases h:xs.find? fun x=>decide (x.1=k2) with
  | some y=>rfl
  | none=>
   simp [Ne.symm hne]
 | some p=>
  rw [storedH_old e]
  unfold atKey
  clear e
  induction xs with
  | nil=>rfl
  | cons y xs ih=>
   rw [List.map_cons,List.find?_cons,List.find?_cons]
   have e1:(putAt k v y).1=y.1:=by unfold putAt;split<;>rfl
   rw [e1]
   by_cases hy:y.1=k2
   ·rw [decide_eq_true hy]
    have:putAt k v y=y:=by
     unfold putAt
     rw [if_neg (by rw [hy];exact hne)]
    simp [this]
   ·rw [decide_eq_false hy]
    exact ih
theorem text_ne_kept {tx:List Nat} {i:Bool} (h:tx≠[]):kText tx i≠kKept:=by
 intro e
 have:=congrArg (fun l:List SB=>l.head?) e
 simp [kText,kKept] at this
 exact h (congrArg (fun z:Str=>z.cps.toList) this)
theorem text_ne_last {tx:List Nat} {i:Bool} (h:tx≠[]):kText tx i≠kLast:=by
 intro e
 have:=congrArg (fun l:List SB=>l.head?) e
 simp [kText,kLast] at this
 exact h (congrArg (fun z:Str=>z.cps.toList) this)
section
variable {w:World} {kn L0:Led} {T V W:Nat→Nat} {rn rd lm ld sv fr ef pt st ts ep tt tg stp tst lim tl x m t i':Nat} {mt v1:Value} {tx:List Nat} {i gg:Bool} {xs:List Ent}
theorem pf_hit_ok {pr:Nat} {ka:Addr} (hd:(pt == sysModules)=false) (hp:atKey xs (kText tx i)=some (ka,.ref pr)):
  AskOK pw_qz0137_01 w (GL w L0 xs) (.fn 741 [.ref rn,.str (q tx) tt,.str (q (fg gg i)) tg]) [(rn,oRun rd),(rd,dRun w.params T V lm sv fr mt pt st ts),(pt,oDk w xs ep)] kn x m t i' 340
   (rS (.ref pr) [oRun rd,dRun w.params T V lm sv fr mt pt st ts,oDk w xs ep]):=by
 have e:=pf_hit w (Nat.add x m) (Nat.add t i') rn rd pt ep lm 0 sv fr 0 st ts tt tg pr 0 0 0 0 0 T V (fun _=>0) tx mt .none xs i gg (w.params.followText "special-get-raises") (w.params.followText "comprehension-iter-twice")
 rw [← PP_self w] at e
 exact AskOK.shift (ask_run e (GL_ok fun _ hq=>nomatch hq) (fun _ h=>h) fun g A R gs dr os hg low H=>
  ⟨⟨(0,0,0)⟩,nble rfl,fun _=>rfl,(of_ok (i:=i) (g:=gg)).mono (fun _ (h:GL w L0 xs _)=>h.1),fun p=>⟨⟨()⟩,nble rfl,fun _=>rfl,
   dhas_ok (lk:=[(p.2.1,oKey tx i tt p.1)]) (k:=kText tx i) (D:=950) hd (fun g h n hg rep=>hg.2.2.mono rep.keep) (fun g h n hg rep=>isText rep (.tail _ (.head _))) (by decide) (by rw [hp];rfl),fun _=>⟨⟨()⟩,nble rfl,fun _=>rfl,
   ditem_ok (lk:=[(p.2.1,oKey tx i tt p.1)]) (k:=kText tx i) (D:=950) (fun g h n hg rep=>hg.2.2.mono rep.keep) (fun g h n hg rep=>isText rep (.tail _ (.head _))) (by decide) hp,fun _=>⟨rfl,fun h' rep=>H (_,_) h' rep⟩⟩⟩⟩)
theorem pf_miss_ok {kp:Nat} (hT:AB tx) (hne:tx≠[]) (hL:∀ q∈limL w lm ld W v1 stp tst lim tl,q∈L0) (hfr:(fr,oLst [] ef)∈L0) (hd:(pt == sysModules)=false) (hk:KeptIs xs kp) (hsz:xs.length≤1000) (hst:st≤1000000) (hfit:kp+tx.length≤lim) (hp:atKey xs (kText tx i)=none):
  AskOK pw_qz0137_01 w (GL w L0 xs) (.fn 741 [.ref rn,.str (q tx) tt,.str (q (fg gg i)) tg]) [(rn,oRun rd),(rd,dRun w.params T V lm sv fr mt pt st ts),(pt,oDk w xs ep)] kn x m t i' 340
   (pmSh w T V rd lm sv fr mt pt st tx i tt kp xs):=by
 have hz:sizeLine=16777216:=rfl
 have e:=pf_miss w (Nat.add x m) (Nat.add t i') rn rd pt ep lm ld sv fr ef st ts tt tg 0 lim tl stp tst kp T V W tx mt v1 xs i gg (w.params.followText "special-get-raises") (w.params.followText "comprehension-iter-twice")
 rw [← PP_self w] at e
 exact AskOK.shift (ask_run e (GL_ok fun _ hq=>nomatch hq) (fun _ h=>h) fun g A R gs dr os hg low H=>
  ⟨⟨(0,0,0)⟩,nble rfl,fun _=>rfl,(of_ok (i:=i) (g:=gg)).mono (fun _ (h:GL w L0 xs _)=>h.1),fun p=>⟨⟨()⟩,nble rfl,fun _=>rfl,
   dhas_ok (lk:=[(p.2.1,oKey tx i tt p.1)]) (k:=kText tx i) (D:=950) hd (fun g h n hg rep=>hg.2.2.mono rep.keep) (fun g h n hg rep=>isText rep (.tail _ (.head _))) (by decide) (by rw [hp];rfl),fun _=>⟨⟨(0,0)⟩,nble rfl,fun _=>rfl,ck_ok hfr,fun _=>
   ⟨ne_CP _,nble rfl,fun _=>rfl,(cp_ok hT).mono (fun _ (h:GL w L0 xs _)=>h.1),fun c=>⟨ne_KP,nble rfl,fun _=>rfl,kp_ok hT hL hd hk hsz hst hfit,fun k=>⟨⟨()⟩,nble rfl,fun _=>rfl,
   ditem_ok (lk:=[(p.2.1,oKey tx i tt p.1)]) (k:=kText tx i) (p:=(p.2.1,.ref c.c.pr)) (D:=950) (fun g h n hg rep=>((hg.2.2.stored (isKept hg.1)).mono rep.keep).stored (isText rep (.tail _ (.head _)))) (fun g h n hg rep=>isText rep (.tail _ (.head _))) (by decide) (atKey_stored_same (by rw [atKey_stored_ne (text_ne_kept hne)];exact hp)),fun _=>
   ⟨rfl,fun h' rep=>H ⟨p.2.1,p.1,k,c,k.x,Nat.add (a k.t 1) 3⟩ h' (by
    have r':Rep g ((p.2.1,oKey tx i tt p.1)::(prL w.params c.ts c.nm c.c++[(c.nm,oEmp)])++[(rn,oRun rd),(rd,dRun w.params T V lm sv fr mt pt (st+tx.length / 10) k.ts),(pt,oDk w (kept1 xs (kp+tx.length) k.tk tx i p.2.1 c.c.pr) k.ep)]++(nodes i tx c.ts++[]++[])) _ h':=rep
    rw [List.append_nil,List.append_nil] at r'
    exact r')⟩⟩⟩⟩⟩⟩⟩)
end
end
noncomputable section
theorem own_func2 {w:World} {A:Around} {s:Shared} {env:Env} {c:Code} {body body':List Stmt} {R0:Result→Shared→Prop} (hc:c=.func body env) (e:body=body')
  (h:wpOwn (MW w) A c (execs body' env) (fun f s'=>match f with | .ret v=>R0 (.ok (.ret v)) s' | _=>R0 (.ok (.ret .none)) s') (fun _ _=>False) s):codeAny (MW w) A c R0 s:=by
 subst hc
 subst e
 exact own_func h
section
variable {w:World} {G:Heap→Prop} {kl l:Led} {x m t i D n:Nat} {c:Code} {ds:List Nat} {sc:Scr} {o:Out} {g h:Heap} {A:Around} {gs:Array GenState} {d:Drawn} {os:OsState} {env:Env} {E:Value→Shared→Prop}
 (hG:Grd w kl G) (hg:G g) (low:Low D A) (hw:c.weight≤5) (rep:Rep g l (Nat.add x m) h)
include hG hg low hw rep
theorem piece_eval {ex:Expr} {Q:Value→Shared→Prop} (e:goT w.params kl D n c (evT ex env) l x m t i ds sc=o)
  (H:o.ok ⟨pw_qz0137_01,w,kt w.params,kl,G,D,g,A,fun r s'=>match r with | .ok (.ret v)=>Q v s' | _=>False,gs,d,os⟩):wpOwn (MW w) A c (eval ex env) Q E ⟨h,gs,d,Nat.add t i,os⟩:=
 wpOwn_mono (own_eval (R0:=fun r s'=>match r with | .ok (.ret v)=>Q v s' | _=>False) (run_tree e hG hg low hw rep H)) (fun _ _ h=>h) (fun _ _ h=>h.elim)
theorem piece_execs {b:List Stmt} {Q:Flow→Shared→Prop} (e:goT w.params kl D n c (exT b env) l x m t i ds sc=o)
  (H:o.ok ⟨pw_qz0137_01,w,kt w.params,kl,G,D,g,A,fun r s'=>match r with | .ok f=>Q f s' | _=>False,gs,d,os⟩):wpOwn (MW w) A c (execs b env) Q E ⟨h,gs,d,Nat.add t i,os⟩:=
 wpOwn_mono (own_execs (R0:=fun r s'=>match r with | .ok f=>Q f s' | _=>False) (run_tree e hG hg low hw rep H)) (fun _ _ h=>h) (fun _ _ h=>h.elim)
theorem piece_isTrue {ex:Expr} {Q:Bool→Shared→Prop} (e:goT w.params kl D n c (isT ex env) l x m t i ds sc=o)
  (H:o.ok ⟨pw_qz0137_01,w,kt w.params,kl,G,D,g,A,fun r s'=>match r with | .ok (.ret (.bool b))=>Q b s' | _=>False,gs,d,os⟩):wpOwn (MW w) A c (isTrue ex env (eval ex env)) Q E ⟨h,gs,d,Nat.add t i,os⟩:=
 wpOwn_mono (own_isTrue (R0:=fun r s'=>match r with | .ok (.ret (.bool b))=>Q b s' | _=>False) (run_tree e hG hg low hw rep H)) (fun _ _ h=>h) (fun _ _ h=>h.elim)
theorem piece_assign {ex:Expr} {v:Value} {Q:Unit→Shared→Prop} (e:goT w.params kl D n c (asT ex env v) l x m t i ds sc=o)
  (H:o.ok ⟨pw_qz0137_01,w,kt w.params,kl,G,D,g,A,fun r s'=>match r with | .ok .next=>Q () s' | _=>False,gs,d,os⟩):wpOwn (MW w) A c (assign ex env v) Q E ⟨h,gs,d,Nat.add t i,os⟩:=
 wpOwn_mono (own_assign (R0:=fun r s'=>match r with | .ok .next=>Q () s' | _=>False) (run_tree e hG hg low hw rep H)) (fun _ _ h=>h) (fun _ _ h=>h.elim)
end
end
noncomputable section
theorem kf_in (w:World) (x t f rn rd pt nd ep e0 lm ld sv fr st ts ka tt tf pr n lim tl stp tst kp kt kv tv lp:Nat) (T V W I:Nat→Nat) (tx:List Nat) (mt v1:Value) (xs ys:List Ent) (i b1 b2:Bool):go (PP w b1 b2) [] 380 100000 (.call (.ref 748) ⟨[.ref rn,.ref ka,.ref pr],[]⟩) [(rn,oRun rd),(rd,dRun (PP w b1 b2) T V lm sv fr mt pt st ts),(pt,oDk w xs ep),(ka,oTup [.str (q tx) tt,.str (q (fl i)) tf])] x 0 t 0 [1,0,0,2,0,2,0,2,0,0,3] (.keep [0,1,2,3,4])=(ag (kpCode x) [(x,⟨.type "frame",none,.dict ⟨[en (PP w b1 b2) (q [114,117,110]) t (.ref rn),en (PP w b1 b2) (q [107,101,121]) (a t 1) (.ref ka),en (PP w b1 b2) (q [112,114,111,103,114,97,109]) (a t 2) (.ref pr)]⟩ 3,⟨[]⟩⟩),(rn,(oRun rd)),(rd,(dRun (PP w b1 b2) T V lm sv fr (mt) pt st ts)),(pt,(oDk w xs ep)),(ka,⟨.type "tuple",none,.seq ⟨[.str (q (tx)) tt,.str (q (fl i)) tf]⟩ 0,⟨[]⟩⟩)] x 1 t 3 [x,x,x,x,x,x]):=by revert i b1 b2;apply bq3<;>kernel_rfl
theorem kf_a (w:World) (x t f rn rd pt nd ep e0 lm ld sv fr st ts ka tt tf pr n lim tl stp tst kp kt kv tv lp:Nat) (T V W I:Nat→Nat) (tx:List Nat) (mt v1:Value) (xs ys:List Ent) (h i b1 b2:Bool):goT (PP w b1 b2) [] 380 100000 (kpCode f) (exT [sAt 0 kpB,sAt 1 kpB,sAt 2 kpB] (kpEnv f)) [(f,kpF0 (PP w b1 b2) I rn ka pr),(rn,oRun rd),(rd,dRun (PP w b1 b2) T V lm sv fr mt pt st ts),(pt,oDk w xs ep),(ka,oTup [.str (q tx) tt,.str (q (fl i)) tf])] x 0 t 0 [0,0,2,6,6,6,0,6,0,6,0,2,2,0,2,3,0,0,0,0,3,0,0,0,3,3,0,4,2,0,0,2,0,2,3,0,0,0,0,3,0,0,3,0,3,0,0,0,3,0,4,2,4,2,3,0,0,0,0,3,0,0,0,3,3,0,4,5,5,5,5,0,0,5,2,2,0,2,2,0] (.val (fun t=>.int (Int.ofNat n) (a t 1)) 2 <| .val (fun t=>.int (Int.ofNat (n / 10)) t) 1 <| .val (fun t=>.int (Int.ofNat (st+n / 10)) t) 1 <| .ask [3] 99 950 Unit (kS (fun _=>.int (Int.ofNat kp) (cond h kt (a t 10))) [oDk w xs ep] 3) fun _=>.val (fun t=>.int (Int.ofNat (kp+n)) t) 1 <| .keep [0,1,2,3,4])=(.val (.bi (PySem.W.S.codeS "len") [.str (q (tx)) tt]) (.int (Int.ofNat n) (a t 2)) 2 (a t 1) 1 (.val (.bi (PySem.W.S.codeS "int.__floordiv__") [.int (Int.ofNat n) (a t 2),.int 10 1338]) (.int (Int.ofNat (n / 10)) (a t 5)) 1 (a t 5) 1 (.val (.bi (PySem.W.S.codeS "int.__add__") [.int (Int.ofNat st) ts,.int (Int.ofNat (n / 10)) (a t 5)]) (.int (Int.ofNat (st+n / 10)) (a t 6)) 1 (a t 6) 1 (.ask (.bi (PySem.W.S.codeS "dict.get") [.ref pt,.ref 729,.int 0 (a t 10)]) [(pt,(oDk w xs ep))] [] x 0 t 11 1 950 (Unit) ((kS (fun x=>Value.int (Int.ofNat kp) (bif h then kt else a t 10)) [oDk w xs ep] 3) (Nat.add x 0) (Nat.add t 11)) (fun p1=>(.val (.bi (PySem.W.S.codeS "int.__add__") [.int (Int.ofNat kp) (cond h kt (a t 10)),.int (Int.ofNat n) (a t 2)]) (.int (Int.ofNat (kp+n)) (a t 14)) 1 (a t 14) 1 (dn (.ok .next) ([(f,⟨.type "frame",none,.dict ⟨[en (PP w b1 b2) (q [114,117,110]) (I 0) (.ref rn),en (PP w b1 b2) (q [107,101,121]) (I 1) (.ref ka),en (PP w b1 b2) (q [112,114,111,103,114,97,109]) (I 2) (.ref pr),en (PP w b1 b2) (q [115,105,122,101]) (a t 3) (.int (Int.ofNat n) (a t 2)),en (PP w b1 b2) (q [107,101,112,116]) (a t 15) (.int (Int.ofNat (kp+n)) (a t 14))]⟩ 5,⟨[]⟩⟩),(rn,(oRun rd)),(rd,(dRun (PP w b1 b2) T V lm sv fr (mt) pt (st+n / 10) (a t 6))),(pt,(oDk w xs ep)),(ka,⟨.type "tuple",none,.seq ⟨[.str (q (tx)) tt,.str (q (fl i)) tf]⟩ 0,⟨[]⟩⟩)]) x 0 (a t 11) 5 [f,f,f,pt,pt,pt,pt,pt,rd,rn,rn,rn,rn,f,rd,rd,rd,rn,rn,rn,rn,rn,f,rd,rn,rn,rn,rn,f,f,f,ka,ka,ka,ka,ka,f]))))))):=by revert h i b1 b2;apply bq4<;>kernel_rfl
theorem kf_t (w:World) (x t f rn rd pt nd ep e0 lm ld sv fr st ts ka tt tf pr n lim tl stp tst kp kt kv tv lp:Nat) (T V W I:Nat→Nat) (tx:List Nat) (mt v1:Value) (xs ys:List Ent) (i b1 b2:Bool):goT (PP w b1 b2) [(lm,oLim ld),(ld,dLim (PP w b1 b2) W v1 stp tst lim tl)] 380 100000 (kpCode f) (isT (testE kpIf) (kpEnv f)) [(f,kpF (PP w b1 b2) I rn ka pr n kv tv),(rn,oRun rd),(rd,dRun (PP w b1 b2) T V lm sv fr mt pt st ts),(pt,oDk w xs ep),(ka,oTup [.str (q tx) tt,.str (q (fl i)) tf])] x 0 t 0 [2,2,3,0,0,0,0,3,0,0,0,3,3,0,4,1,0,0,0,0,0,1,0,0,0,0,1,0,1,0,0,1,1,0,0,2] (.val (fun _=>.bool true) 0 <| .keep [0,1,2,3,4])=(.val (.bi (PySem.W.S.codeS "int.__gt__") [.int (Int.ofNat kv) tv,.int (Int.ofNat lim) tl]) (.bool true) 0 (a t 2) 1 (dn (.ok (.ret (.bool true))) ([(f,⟨.type "frame",none,.dict ⟨[en (PP w b1 b2) (q [114,117,110]) (I 0) (.ref rn),en (PP w b1 b2) (q [107,101,121]) (I 1) (.ref ka),en (PP w b1 b2) (q [112,114,111,103,114,97,109]) (I 2) (.ref pr),en (PP w b1 b2) (q [115,105,122,101]) (I 3) (.int (Int.ofNat n) (I 4)),en (PP w b1 b2) (q [107,101,112,116]) (I 5) (.int (Int.ofNat kv) tv)]⟩ 5,⟨[]⟩⟩),(rn,(oRun rd)),(rd,(dRun (PP w b1 b2) T V lm sv fr (mt) pt st ts)),(pt,(oDk w xs ep)),(ka,⟨.type "tuple",none,.seq ⟨[.str (q (tx)) tt,.str (q (fl i)) tf]⟩ 0,⟨[]⟩⟩)]) x 0 t 2 [ld,lm,lm,lm,lm,rd,rn,rn,rn,rn,f,f])):=by revert i b1 b2;apply bq3<;>kernel_rfl
theorem kf_k (w:World) (x t f rn rd pt nd ep e0 lm ld sv fr st ts ka tt tf pr n lim tl stp tst kp kt kv tv lp:Nat) (T V W I:Nat→Nat) (tx:List Nat) (mt v1:Value) (xs ys:List Ent) (i b1 b2:Bool):goT (PP w b1 b2) [] 380 100000 (kpCode f) (evT (diK kpDi) (kpEnv f)) [(nd,oDk w [] 0),(f,kpF (PP w b1 b2) I rn ka pr n kv tv),(rn,oRun rd),(rd,dRun (PP w b1 b2) T V lm sv fr mt pt st ts),(pt,oDk w xs ep),(ka,oTup [.str (q tx) tt,.str (q (fl i)) tf])] x 0 t 0 [0] (.keep [0,1,2,3,4,5])=(dn (.ok (.ret (.ref 15))) ([(nd,⟨.type "dict",none,.dict ⟨[]⟩ 0,⟨[]⟩⟩),(f,⟨.type "frame",none,.dict ⟨[en (PP w b1 b2) (q [114,117,110]) (I 0) (.ref rn),en (PP w b1 b2) (q [107,101,121]) (I 1) (.ref ka),en (PP w b1 b2) (q [112,114,111,103,114,97,109]) (I 2) (.ref pr),en (PP w b1 b2) (q [115,105,122,101]) (I 3) (.int (Int.ofNat n) (I 4)),en (PP w b1 b2) (q [107,101,112,116]) (I 5) (.int (Int.ofNat kv) tv)]⟩ 5,⟨[]⟩⟩),(rn,(oRun rd)),(rd,(dRun (PP w b1 b2) T V lm sv fr (mt) pt st ts)),(pt,(oDk w xs ep)),(ka,⟨.type "tuple",none,.seq ⟨[.str (q (tx)) tt,.str (q (fl i)) tf]⟩ 0,⟨[]⟩⟩)]) x 0 t 0 []):=by revert i b1 b2;apply bq3<;>kernel_rfl
theorem kf_v (w:World) (x t f rn rd pt nd ep e0 lm ld sv fr st ts ka tt tf pr n lim tl stp tst kp kt kv tv lp:Nat) (T V W I:Nat→Nat) (tx:List Nat) (mt v1:Value) (xs ys:List Ent) (l i b1 b2:Bool):goT (PP w b1 b2) [] 380 100000 (kpCode f) (evT (diV kpDi) (kpEnv f)) [(nd,oDk w [] 0),(f,kpF (PP w b1 b2) I rn ka pr n kv tv),(rn,oRun rd),(rd,dRun (PP w b1 b2) T V lm sv fr mt pt st ts),(pt,oDk w xs ep),(ka,oTup [.str (q tx) tt,.str (q (fl i)) tf])] x 0 t 0 [0,3,0,1,0,0,2,0,0,0,2,5,0,0,0,0,5,0,0,0,5,5,0,6,7,7,7,7,0,0,7,2] (.ask [5] 99 950 Unit (kS (fun _=>lvV l lp) [oDk w xs ep] 3) fun _=>.keep [1,2,3,4,5,6])=(.ask (.bi (PySem.W.S.codeS "dict.get") [.ref pt,.ref 15]) [(pt,(oDk w xs ep))] [] x 1 t 2 2 950 (Unit) ((kS (fun x=>lvV l lp) [oDk w xs ep] 3) (Nat.add x 1) (Nat.add t 2)) (fun p1=>(dn (.ok (.ret (cond l (.ref lp) .none))) ([(nd,⟨.type "dict",none,.dict ⟨[]⟩ 0,⟨[]⟩⟩),(f,⟨.type "frame",none,.dict ⟨[en (PP w b1 b2) (q [114,117,110]) (I 0) (.ref rn),en (PP w b1 b2) (q [107,101,121]) (I 1) (.ref ka),en (PP w b1 b2) (q [112,114,111,103,114,97,109]) (I 2) (.ref pr),en (PP w b1 b2) (q [115,105,122,101]) (I 3) (.int (Int.ofNat n) (I 4)),en (PP w b1 b2) (q [107,101,112,116]) (I 5) (.int (Int.ofNat kv) tv)]⟩ 5,⟨[]⟩⟩),(rn,(oRun rd)),(rd,(dRun (PP w b1 b2) T V lm sv fr (mt) pt st ts)),(pt,(oDk w xs ep)),(ka,⟨.type "tuple",none,.seq ⟨[.str (q (tx)) tt,.str (q (fl i)) tf]⟩ 0,⟨[]⟩⟩)]) (a x 1) 0 (a t 2) 3 [pt,pt,pt,pt,pt,rd,rn,rn,rn,rn,x,x,x,f]))):=by revert l i b1 b2;apply bq4<;>kernel_rfl
theorem kf_s (w:World) (x t f rn rd pt nd ep e0 lm ld sv fr st ts ka tt tf pr n lim tl stp tst kp kt kv tv lp:Nat) (T V W I:Nat→Nat) (tx:List Nat) (mt v1:Value) (xs ys:List Ent) (i b1 b2:Bool):goT (PP w b1 b2) [] 380 100000 (kpCode f) (asT (asTgt (sAt 0 (fthen kpIf))) (kpEnv f) (.ref nd)) [(nd,oDk w ys e0),(f,kpF (PP w b1 b2) I rn ka pr n kv tv),(rn,oRun rd),(rd,dRun (PP w b1 b2) T V lm sv fr mt pt st ts),(pt,oDk w xs ep),(ka,oTup [.str (q tx) tt,.str (q (fl i)) tf])] x 0 t 0 [3,4,0,0,0,0,4,0,0,4,0,4,0,0,0,4,0,5,3,5] (.keep [0,1,2,3,4,5])=(dn (.ok .next) ([(nd,⟨.type "dict",none,.dict ⟨(List.map (entryOfKey (TK w)) ys)⟩ e0,⟨[]⟩⟩),(f,⟨.type "frame",none,.dict ⟨[en (PP w b1 b2) (q [114,117,110]) (I 0) (.ref rn),en (PP w b1 b2) (q [107,101,121]) (I 1) (.ref ka),en (PP w b1 b2) (q [112,114,111,103,114,97,109]) (I 2) (.ref pr),en (PP w b1 b2) (q [115,105,122,101]) (I 3) (.int (Int.ofNat n) (I 4)),en (PP w b1 b2) (q [107,101,112,116]) (I 5) (.int (Int.ofNat kv) tv)]⟩ 5,⟨[]⟩⟩),(rn,(oRun rd)),(rd,(dRun (PP w b1 b2) T V lm sv fr (mt) nd st ts)),(pt,(oDk w xs ep)),(ka,⟨.type "tuple",none,.seq ⟨[.str (q (tx)) tt,.str (q (fl i)) tf]⟩ 0,⟨[]⟩⟩)]) x 0 t 2 [rd,rd,rd,rn,rn,rn,rn,rn,f]):=by revert i b1 b2;apply bq3<;>kernel_rfl
theorem kf_b (w:World) (x t f rn rd pt nd ep e0 lm ld sv fr st ts ka tt tf pr n lim tl stp tst kp kt kv tv lp:Nat) (T V W I:Nat→Nat) (tx:List Nat) (mt v1:Value) (xs ys:List Ent) (i b1 b2:Bool):goT (PP w b1 b2) [] 380 100000 (kpCode f) (exT [sAt 1 (fthen kpIf)] (kpEnv f)) [(nd,oDk w ys e0),(f,kpF (PP w b1 b2) I rn ka pr n kv tv),(rn,oRun rd),(rd,dRun (PP w b1 b2) T V lm sv fr mt nd st ts),(pt,oDk w xs ep),(ka,oTup [.str (q tx) tt,.str (q (fl i)) tf])] x 0 t 0 [3,3,1] (.keep [0,1,2,3,4,5])=(dn (.ok .next) ([(nd,⟨.type "dict",none,.dict ⟨(List.map (entryOfKey (TK w)) ys)⟩ e0,⟨[]⟩⟩),(f,⟨.type "frame",none,.dict ⟨[en (PP w b1 b2) (q [114,117,110]) (I 0) (.ref rn),en (PP w b1 b2) (q [107,101,121]) (I 1) (.ref ka),en (PP w b1 b2) (q [112,114,111,103,114,97,109]) (I 2) (.ref pr),en (PP w b1 b2) (q [115,105,122,101]) (I 3) (.int (Int.ofNat n) (I 4)),en (PP w b1 b2) (q [107,101,112,116]) (I 5) (.int (Int.ofNat n) (I 4))]⟩ 5,⟨[]⟩⟩),(rn,(oRun rd)),(rd,(dRun (PP w b1 b2) T V lm sv fr (mt) nd st ts)),(pt,(oDk w xs ep)),(ka,⟨.type "tuple",none,.seq ⟨[.str (q (tx)) tt,.str (q (fl i)) tf]⟩ 0,⟨[]⟩⟩)]) x 0 t 1 [f,f,f]):=by revert i b1 b2;apply bq3<;>kernel_rfl
theorem kf_c (w:World) (x t f rn rd pt nd ep e0 lm ld sv fr st ts ka tt tf pr n lim tl stp tst kp kt kv tv lp:Nat) (T V W I:Nat→Nat) (tx:List Nat) (mt v1:Value) (xs ys:List Ent) (i b1 b2:Bool):goT (PP w b1 b2) [] 380 100000 (kpCode f) (exT [sAt 4 kpB,sAt 5 kpB] (kpEnv f)) [(nd,oDk w ys e0),(f,kpF (PP w b1 b2) I rn ka pr n n (I 4)),(rn,oRun rd),(rd,dRun (PP w b1 b2) T V lm sv fr mt nd st ts),(pt,oDk w xs ep),(ka,oTup [.str (q tx) tt,.str (q (fl i)) tf])] x 0 t 0 [3,3,4,0,0,0,0,4,0,0,0,4,4,0,5,0,2,2,0,2,2,3,3,4,0,0,0,0,4,0,0,0,4,4,0,5,3,2,2,0,2,2] (.ask [0] 99 950 Nat (dsSh w (storedH ys kKept 729 (.int (Int.ofNat n) (I 4))) [] 3) fun e1=>.ask [0,5] 99 950 Nat (dsSh w (storedH (storedH ys kKept 729 (.int (Int.ofNat n) (I 4))) (kText tx i) ka (.ref pr)) [oTup [.str (q tx) tt,.str (q (fl i)) tf]] 3) fun e2=>.keep [0,2,3,4,5])=(.ask (.bi (PySem.W.S.codeS "dict.__setitem__") [.ref nd,.ref 729,.int (Int.ofNat n) (I 4)]) [(nd,⟨.type "dict",none,.dict ⟨(List.map (entryOfKey (TK w)) ys)⟩ e0,⟨[]⟩⟩)] [] x 0 t 1 1 950 (Nat) ((dsSh w (storedH ys kKept 729 (Value.int (Int.ofNat n) (I 4))) [] 3) (Nat.add x 0) (Nat.add t 1)) (fun p1=>(.ask (.bi (PySem.W.S.codeS "dict.__setitem__") [.ref nd,.ref ka,.ref pr]) [(nd,⟨.type "dict",none,.dict ⟨(List.map (entryOfKey (TK w)) (storedH ys kKept 729 (Value.int (Int.ofNat n) (I 4))))⟩ p1,⟨[]⟩⟩),(ka,⟨.type "tuple",none,.seq ⟨[.str (q (tx)) tt,.str (q (fl i)) tf]⟩ 0,⟨[]⟩⟩)] [] x 0 (a t 1) 4 1 950 (Nat) ((dsSh w (storedH (storedH ys kKept 729 (Value.int (Int.ofNat n) (I 4))) (kText tx i) ka (Value.ref pr)) [oTup [Value.str (q tx) tt,Value.str (q (fl i)) tf]] 3) (Nat.add x 0) (Nat.add (a t 1) 4)) (fun p2=>(dn (.ok .next) ([(nd,⟨.type "dict",none,.dict ⟨(List.map (entryOfKey (TK w)) (storedH (storedH ys kKept 729 (Value.int (Int.ofNat n) (I 4))) (kText tx i) ka (Value.ref pr)))⟩ p2,⟨[]⟩⟩),(rn,(oRun rd)),(rd,(dRun (PP w b1 b2) T V lm sv fr (mt) nd st ts)),(pt,(oDk w xs ep)),(ka,⟨.type "tuple",none,.seq ⟨[.str (q (tx)) tt,.str (q (fl i)) tf]⟩ 0,⟨[]⟩⟩)]) x 0 (a t 5) 3 [nd,nd,nd,f,rd,rn,rn,rn,rn,f,f,nd,nd,nd,rd,rn,rn,rn,rn,f,f]))))):=by revert i b1 b2;apply bq3<;>kernel_rfl
section
variable {w:World} {L0:Led} {T V W I:Nat→Nat} {rn rd lm ld sv fr pt st ts ep ka tt tf pr kp stp tst lim tl f lp:Nat} {mt v1:Value} {tx:List Nat} {i lb:Bool} {xs:List Ent}
theorem kfBody {g h:Heap} {A:Around} {R0:Result→Shared→Prop} {gs:Array GenState} {d:Drawn} {os:OsState} {x t:Nat} (hT:AB tx)
  (hL:∀ q∈limL w lm ld W v1 stp tst lim tl,q∈L0) (hd:(pt == sysModules)=false) (hk:KeptIs xs kp) (hsz:xs.length≤1000) (hst:st≤1000000) (hfit:lim < kp+tx.length)
  (hlast:((atKey xs kLast).map (·.2)).getD .none=lvV lb lp) (hg:GL w L0 xs g) (low:Low 380 A)
  (rep:Rep g [(f,kpF0 w.params I rn ka pr),(rn,oRun rd),(rd,dRun w.params T V lm sv fr mt pt st ts),(pt,oDk w xs ep),(ka,oKey tx i tt tf)] x h)
  (K:∀ (p:KF) h',Rep g ((kfSh w T V rd lm sv fr mt st tx i tt tf ka pr ep xs (lvV lb lp) p).all [(rn,oRun rd),(rd,dRun w.params T V lm sv fr mt pt st ts),(pt,oDk w xs ep),(ka,oKey tx i tt tf)]) p.x h'→R0 (.ok (.ret .none)) ⟨h',gs,d,p.t,os⟩):
  codeAny (MW w) A (kpCode f) R0 ⟨h,gs,d,t,os⟩:=by
 have hz:sizeLine=16777216:=rfl
 have hlen:=hT.size
 obtain ⟨hb,kt,hkv⟩:∃ (h:Bool) (kt:Nat),∀ tk,((atKey xs kKept).map (·.2)).getD (.int 0 tk)=.int (Int.ofNat kp) (cond h kt tk):=by
  rcases hk with ⟨a,tk,e⟩ | ⟨e,rfl⟩
  ·exact ⟨true,tk,fun _=>by rw [e];rfl⟩
  ·exact ⟨false,0,fun _=>by rw [e];rfl⟩
 have hG:∀ kl,(∀ q∈kl,q∈L0)→Grd w kl (GL w L0 xs):=fun kl h=>GL_ok h
 have hG0:=hG [] fun _ hq=>nomatch hq
 have hw:(kpCode f).weight≤5:=weight_le rfl
 let I2:Nat→Nat:=fun j=>match j with | 0=>I 0 | 1=>I 1 | 2=>I 2 | 3=>a t 3 | 4=>a t 2 | _=>a t 15
 have b1:=w.params.followText "special-get-raises"
 have b2:=w.params.followText "comprehension-iter-twice"
 have ea:=kf_a w x t f rn rd pt 0 ep 0 lm ld sv fr st ts ka tt tf pr tx.length lim tl stp tst kp kt 0 0 lp T V W I tx mt v1 xs [] hb i (w.params.followText "special-get-raises") (w.params.followText "comprehension-iter-twice")
 rw [← PP_self w] at ea
 refine own_func2 (body:=kpB) rfl kpB_eq ?_
 refine own_append (piece_execs (x:=x) (m:=0) (t:=t) (i:=0) hG0 hg low hw rep ea ⟨v_len rfl hT.fits,v_fdivn (k:=10) (by omega) (by omega) (by omega),v_addn,⟨⟨()⟩,nble rfl,fun _=>rfl,
  hkv _ ▸ dget_ok (lk:=[]) (k:=kKept) (ka:=729) (D:=950) hd (fun g h n hg rep=>hg.2.2.mono rep.keep) (fun g h n hg rep=>(isKept hg.1).mono rep.keep) (by decide),fun _=>⟨v_addn,rfl,fun h1 rep1=>?_⟩⟩⟩)
 have et:=kf_t w x (Nat.add (a t 11) 5) f rn rd pt 0 ep 0 lm ld sv fr (st+tx.length / 10) (a t 6) ka tt tf pr tx.length lim tl stp tst kp kt (kp+tx.length) (a t 14) lp T V W I2 tx mt v1 xs [] i (w.params.followText "special-get-raises") (w.params.followText "comprehension-iter-twice")
 rw [← PP_self w] at et
 refine own_cons (own_if (piece_isTrue (x:=x) (m:=0) (t:=Nat.add (a t 11) 5) (i:=0) (hG _ hL) hg low hw rep1 et ⟨v_gt_t hfit,rfl,fun h2 rep2=>?_⟩))
 have h3:(h2.objs.size == sysModules)=false:=by
  obtain ⟨o3,e3⟩:=Option.isSome_iff_exists.mp (by kernel_rfl:((Mine.kt w.params).get 3).isSome=true)
  have:=Heap.lt_size (rep2.keep _ _ (hg.1.get e3))
  refine beq_eq_false_iff_ne.mpr fun e=>?_
  rw [e] at this
  exact absurd this (by decide)
 refine own_cons (own_assign_attr rfl (own_dict1 ?_))
 have rep3:=rep2.alloc (o:=oDk w [] 0) rfl
 show wpOwn (MW w) A (kpCode f) (eval (diK kpDi) (kpEnv f)) _ _ ⟨h2.push (oDk w [] 0),gs,d,Nat.add (Nat.add (Nat.add (a t 11) 5) 0) 2,os⟩
 generalize h2.objs.size=nd at h3 rep3 ⊢
 have ek:=kf_k w (a x 1) (Nat.add (Nat.add (Nat.add (a t 11) 5) 0) 2) f rn rd pt nd ep 0 lm ld sv fr (st+tx.length / 10) (a t 6) ka tt tf pr tx.length lim tl stp tst kp kt (kp+tx.length) (a t 14) lp T V W I2 tx mt v1 xs [] i (w.params.followText "special-get-raises") (w.params.followText "comprehension-iter-twice")
 rw [← PP_self w] at ek
 refine piece_eval (x:=a x 1) (m:=0) (t:=Nat.add (Nat.add (Nat.add (a t 11) 5) 0) 2) (i:=0) hG0 hg low hw rep3 ek ⟨rfl,fun h4 rep4=>?_⟩
 have ev:=kf_v w (a x 1) (Nat.add (Nat.add (Nat.add (Nat.add (a t 11) 5) 0) 2) 0) f rn rd pt nd ep 0 lm ld sv fr (st+tx.length / 10) (a t 6) ka tt tf pr tx.length lim tl stp tst kp kt (kp+tx.length) (a t 14) lp T V W I2 tx mt v1 xs [] lb i (w.params.followText "special-get-raises") (w.params.followText "comprehension-iter-twice")
 rw [← PP_self w] at ev
 refine piece_eval (x:=a x 1) (m:=0) (t:=Nat.add (Nat.add (Nat.add (Nat.add (a t 11) 5) 0) 2) 0) (i:=0) hG0 hg low hw rep4 ev ⟨⟨()⟩,nble rfl,fun _=>rfl,
  hlast ▸ dget1_ok (lk:=[]) (k:=kLast) (ka:=15) (D:=950) hd (fun g h n hg rep=>hg.2.2.mono rep.keep) (fun g h n hg rep=>(isLast hg.1).mono rep.keep) (by decide),fun _=>⟨rfl,fun h5 rep5=>?_⟩⟩
 have est:storedH ([]:List Ent) kLast 15 (lvV lb lp)=[(kLast,15,lvV lb lp)]:=rfl
 refine wpOwn_of_wpAny (wpAny_dictSet_heap (knd:=TK w) (xs:=[]) (k:=kLast) (under_room low (by decide)) ((isLast hg.1).mono rep5.keep) ⟨_,_,0,(rep5.own _ (.head _)).1,⟨rfl,rfl,rfl⟩,rfl,rfl,(fun x hx=>nomatch hx),List.nodup_nil⟩ (fun h6 hm6 hs6=>?_) (hsz:=Nat.zero_le _))
 have hm7:h6.DictOfH (TK w) nd [(kLast,15,lvV lb lp)]:=hm6
 obtain ⟨e0,ho6⟩:=of_dictOf hm7
 have rep6:=rep5.sameHead hs6 ho6
 generalize hT6:(Nat.add (Nat.add (Nat.add (Nat.add (Nat.add (Nat.add (a t 11) 5) 0) 2) 0) 2) 3+(TK w).draws kLast:Nat)=T6
 have es:=kf_s w (a (a x 1) 1) T6 f rn rd pt nd ep e0 lm ld sv fr (st+tx.length / 10) (a t 6) ka tt tf pr tx.length lim tl stp tst kp kt (kp+tx.length) (a t 14) lp T V W I2 tx mt v1 xs [(kLast,15,lvV lb lp)] i (w.params.followText "special-get-raises") (w.params.followText "comprehension-iter-twice")
 rw [← PP_self w] at es
 refine piece_assign (x:=a (a x 1) 1) (m:=0) (t:=T6) (i:=0) hG0 hg low hw rep6 es ⟨rfl,fun h7 rep7=>?_⟩
 have eb:=kf_b w (a (a x 1) 1) (Nat.add T6 2) f rn rd pt nd ep e0 lm ld sv fr (st+tx.length / 10) (a t 6) ka tt tf pr tx.length lim tl stp tst kp kt (kp+tx.length) (a t 14) lp T V W I2 tx mt v1 xs [(kLast,15,lvV lb lp)] i (w.params.followText "special-get-raises") (w.params.followText "comprehension-iter-twice")
 rw [← PP_self w] at eb
 refine piece_execs (x:=a (a x 1) 1) (m:=0) (t:=Nat.add T6 2) (i:=0) hG0 hg low hw rep7 eb ⟨rfl,fun h8 rep8=>?_⟩
 have ec:=kf_c w (a (a x 1) 1) (Nat.add (Nat.add T6 2) 1) f rn rd pt nd ep e0 lm ld sv fr (st+tx.length / 10) (a t 6) ka tt tf pr tx.length lim tl stp tst kp kt (kp+tx.length) (a t 14) lp T V W I2 tx mt v1 xs [(kLast,15,lvV lb lp)] i (w.params.followText "special-get-raises") (w.params.followText "comprehension-iter-twice")
 rw [← PP_self w] at ec
 have hkl:∀ g,GL w L0 xs g→Keys w [(kLast,15,lvV lb lp)] g:=fun g hg=>⟨fun y hy=>by
  rw [List.mem_singleton] at hy
  subst hy
  exact isLast hg.1,by simp⟩
 exact piece_execs (x:=a (a x 1) 1) (m:=0) (t:=Nat.add (Nat.add T6 2) 1) (i:=0) hG0 hg low hw rep8 ec ⟨⟨0⟩,nble rfl,fun _=>rfl,
   dset_ok (lk:=[]) (k:=kKept) (ka:=729) (D:=950) (fun g h n hg rep=>(hkl g hg).mono rep.keep) (fun g h n hg rep=>(isKept hg.1).mono rep.keep) (by decide) (by show 1≤_;omega),fun e1=>⟨⟨0⟩,nble rfl,fun _=>rfl,
   dset_ok (lk:=[(ka,oKey tx i tt tf)]) (k:=kText tx i) (ka:=ka) (D:=950) (fun g h n hg rep=>((hkl g hg).stored (isKept hg.1)).mono rep.keep) (fun g h n hg rep=>isText rep (.tail _ (.head _))) (by decide) (Nat.le_trans (stored_len _ _ _ _) (by show 2≤sizeLine;omega)),fun e2=>
   ⟨rfl,fun h9 rep9=>K ⟨nd,h3,I2 4,e2,a t 6,a (a x 1) 1,Nat.add (a (Nat.add (Nat.add T6 2) 1) 5) 3⟩ h9 rep9⟩⟩⟩
theorem kf_ok {kn:Led} {x m t i':Nat} (hT:AB tx)
  (hL:∀ q∈limL w lm ld W v1 stp tst lim tl,q∈L0) (hd:(pt == sysModules)=false) (hk:KeptIs xs kp) (hsz:xs.length≤1000) (hst:st≤1000000) (hfit:lim < kp+tx.length)
  (hlast:((atKey xs kLast).map (·.2)).getD .none=lvV lb lp):
  AskOK pw_qz0137_01 w (GL w L0 xs) (.fn 748 [.ref rn,.ref ka,.ref pr]) [(rn,oRun rd),(rd,dRun w.params T V lm sv fr mt pt st ts),(pt,oDk w xs ep),(ka,oKey tx i tt tf)] kn x m t i' 380
   (kfSh w T V rd lm sv fr mt st tx i tt tf ka pr ep xs (lvV lb lp)):=by
 have e:=kf_in w (Nat.add x m) (Nat.add t i') 0 rn rd pt 0 ep 0 lm ld sv fr st ts ka tt tf pr tx.length lim tl stp tst kp 0 0 0 lp T V W (fun _=>0) tx mt v1 xs [] i (w.params.followText "special-get-raises") (w.params.followText "comprehension-iter-twice")
 rw [← PP_self w] at e
 exact AskOK.shift (ask_run e (GL_ok fun _ hq=>nomatch hq) (fun _ h=>h) fun g A R gs dr os hg low H=>⟨rfl,fun h' rep=>
  kfBody (I:=fun j=>match j with | 0=>Nat.add t i' | 1=>a (Nat.add t i') 1 | _=>a (Nat.add t i') 2) hT hL hd hk hsz hst hfit hlast hg low rep fun p h2 rep2=>H p h2 rep2⟩)
end
end
noncomputable section
theorem pf_flush (w:World) (x t rn rd pt ep lm sv fr st ts tt tg lp:Nat) (T V:Nat→Nat) (tx:List Nat) (mt:Value) (xs:List Ent) (lb i g b1 b2:Bool):go (PP w b1 b2) [] 340 100000 (.call (.ref 741) ⟨[.ref rn,.str (q tx) tt,.str (q (fg g i)) tg],[]⟩) [(rn,oRun rd),(rd,dRun (PP w b1 b2) T V lm sv fr mt pt st ts),(pt,oDk w xs ep)] x 0 t 0 [1,0,0,2,0,2,0,2,0,0,0,2,0,2,0,2,3,1,3,3,4,0,0,0,0,4,0,0,0,4,4,0,5,6,6,0,6,2,0,3,3,0,2,0,3,3,0,3,3,2,2,2,0,2,0,2,0,2,0,2,9,10,0,0,0,0,10,0,0,0,10,10,0,11,9,2,2,2,0,2,2,0] (.ask [] 99 350 (Nat × Nat × Nat) (fun _ _=>ofSh i) fun p=>.ask [4,0] 99 950 Unit (kS (fun _=>.bool false) [oDk w xs ep,oKey tx i tt p.1] 3) fun _=>.ask [2,3] 99 360 (Nat × Nat) (fun _ _=>rS .none [oRun rd,dRun (PP w b1 b2) T V lm sv fr mt pt st ts]) fun _=>.ask [] 99 400 (CP tx.length) (fun _ _=>cpSh (PP w b1 b2) i tx) fun c=>.ask [7,8,9,5] 10 380 KF (fun _ _=>kfSh w T V rd lm sv fr mt st tx i tt p.1 p.2.1 c.c.pr ep xs (lvV lb lp)) fun k=>.ask [0,6] 11 950 Unit (kS (fun _=>.ref c.c.pr) [oDk w (kept1 [(kLast,15,lvV lb lp)] tx.length k.tk tx i p.2.1 c.c.pr) k.ep,oKey tx i tt p.1] 3) fun _=>.keepT [0,6,1,2,3,4,5,8,9,10] 11)=(.ask (.fn 734 [.str (q (cond i (cond g [103,105] [105]) (cond g [103] []))) tg]) [] [] x 1 t 3 1 350 (Nat × Nat × Nat) ((fun x x_1=>ofSh i) (Nat.add x 1) (Nat.add t 3)) (fun p1=>(.ask (.bi (PySem.W.S.codeS "dict.__contains__") [.ref pt,.ref (p1.snd.1)]) [(pt,(oDk w xs ep)),((p1.snd.1),⟨.type "tuple",none,.seq ⟨[.str (q (tx)) tt,.str (q (fl i)) (p1.1)]⟩ 0,⟨[]⟩⟩)] [] (p1.snd.1) 1 (p1.snd.2) 2 1 950 (Unit) ((kS (fun x=>Value.bool false) [oDk w xs ep,oKey tx i tt p1.fst] 3) (Nat.add (p1.snd.1) 1) (Nat.add (p1.snd.2) 2)) (fun p2=>(.ask (.fn 728 [.ref rn,.str (q (tx)) tt]) [(rn,(oRun rd)),(rd,(dRun (PP w b1 b2) T V lm sv fr (mt) pt st ts))] [] (a (p1.snd.1) 1) 0 (a (p1.snd.2) 2) 3 1 360 (Nat × Nat) ((fun x x_1=>rS Value.none [oRun rd,dRun (PP w b1 b2) T V lm sv fr mt pt st ts]) (Nat.add (a (p1.snd.1) 1) 0) (Nat.add (a (p1.snd.2) 2) 3)) (fun p3=>(.ask (.fn 659 [.str (q (tx)) tt,.str (q (fl i)) (p1.1)]) [] [] (p3.1) 0 (p3.2) 1 1 400 (CP tx.length) ((fun x x_1=>cpSh (PP w b1 b2) i tx) (Nat.add (p3.1) 0) (Nat.add (p3.2) 1)) (fun p4=>(.ask (.fn 748 [.ref rn,.ref (p1.snd.1),.ref (p4.c.pr)]) [(rn,(oRun rd)),(rd,(dRun (PP w b1 b2) T V lm sv fr (mt) pt st ts)),(pt,(oDk w xs ep)),((p1.snd.1),⟨.type "tuple",none,.seq ⟨[.str (q (tx)) tt,.str (q (fl i)) (p1.1)]⟩ 0,⟨[]⟩⟩)] ((cpSh (PP w b1 b2) i tx p4).tail) ((cpSh (PP w b1 b2) i tx p4).x) 0 ((cpSh (PP w b1 b2) i tx p4).t) 0 1 380 (KF) ((fun x x_1=>kfSh w T V rd lm sv fr mt st tx i tt p1.fst p1.snd.fst p4.c.pr ep xs (lvV lb lp)) (Nat.add ((cpSh (PP w b1 b2) i tx p4).x) 0) (Nat.add ((cpSh (PP w b1 b2) i tx p4).t) 0)) (fun p5=>(.ask (.bi (PySem.W.S.codeS "dict.__getitem__") [.ref (p5.1),.ref (p1.snd.1)]) [((p5.1),⟨.type "dict",none,.dict ⟨(List.map (entryOfKey (TK w)) (kept1 [(kLast,15,lvV lb lp)] tx.length p5.tk tx i p1.snd.fst p4.c.pr))⟩ (p5.4),⟨[]⟩⟩),((p1.snd.1),⟨.type "tuple",none,.seq ⟨[.str (q (tx)) tt,.str (q (fl i)) (p1.1)]⟩ 0,⟨[]⟩⟩)] ((cpSh (PP w b1 b2) i tx p4).tail++[]) (p5.6) 0 (p5.7) 1 1 950 (Unit) ((kS (fun x=>Value.ref p4.c.pr) [oDk w (kept1 [(kLast,15,lvV lb lp)] tx.length p5.tk tx i p1.snd.fst p4.c.pr) p5.ep,oKey tx i tt p1.fst] 3) (Nat.add (p5.6) 0) (Nat.add (p5.7) 1)) (fun p6=>(dn (.ok (.ret (.ref (p4.c.pr)))) ([((p5.1),⟨.type "dict",none,.dict ⟨(List.map (entryOfKey (TK w)) (kept1 [(kLast,15,lvV lb lp)] tx.length p5.tk tx i p1.snd.fst p4.c.pr))⟩ (p5.4),⟨[]⟩⟩),((p1.snd.1),⟨.type "tuple",none,.seq ⟨[.str (q (tx)) tt,.str (q (fl i)) (p1.1)]⟩ 0,⟨[]⟩⟩),((p4.c.1),(oPr (p4.c.pd))),((p4.c.2),⟨.type "dict",none,.dict ⟨[en (PP w b1 b2) (q [114,111,119,115]) (p4.c.M 0) (.ref (p4.c.rl)),en (PP w b1 b2) (q [103,114,111,117,112,115]) (p4.c.M 1) (.int 0 (p4.c.tg)),en (PP w b1 b2) (q [114,101,103,105,115,116,101,114,115]) (p4.c.M 2) (.int 0 (p4.c.tr)),en (PP w b1 b2) (q [110,97,109,101,115]) (p4.c.M 3) (.ref (p4.3))]⟩ 4,⟨[]⟩⟩),((p4.c.3),⟨.type "list",none,.seq ⟨(nrefs p4.ts++[Value.ref p4.c.en])⟩ (p4.c.ep),⟨[]⟩⟩),((p4.c.4),⟨.type "tuple",none,.seq ⟨[.str (q [101,110,100]) (p4.c.ke)]⟩ 0,⟨[]⟩⟩),((p4.3),⟨.type "dict",none,.dict ⟨[]⟩ 0,⟨[]⟩⟩),(rn,(oRun rd)),(rd,(dRun (PP w b1 b2) T V lm sv fr (mt) (p5.1) (st+tx.length / 10) (p5.5))),(pt,(oDk w xs ep))]++(cpSh (PP w b1 b2) i tx p4).tail++[]++[]) (p5.6) 0 (a (p5.7) 1) 3 [(p5.1),(p5.1),(p5.1),(p5.1),x,rd,rn,rn,rn,rn,x,(p1.snd.1),(p1.snd.1),(p1.snd.1),(p1.snd.1),(p1.snd.1),x,x,x,x,x,x,pt,pt,pt,rd,rn,rn,rn,rn,x,x,x,x,x,x,x,x,x,x,x,x]))))))))))))):=by cases lb<;>(revert i g b1 b2;apply bq4<;>kernel_rfl)
section
variable {w:World} {kn L0:Led} {T V W:Nat→Nat} {rn rd lm ld sv fr ef pt st ts ep tt tg stp tst lim tl lp x m t i':Nat} {mt v1:Value} {tx:List Nat} {i gg lb:Bool} {xs:List Ent}
theorem isLastKeys {g:Heap} {v:Value} (h:G0 w g):Keys w [(kLast,15,v)] g:=⟨fun y hy=>by
  rw [List.mem_singleton] at hy
  subst hy
  exact isLast h,by simp⟩
theorem last_ne {v:Value} {k:List SB} (h:k≠kLast):atKey [((kLast,15,v):Ent)] k=none:=by
 unfold atKey
 simp [Ne.symm h]
theorem pf_flush_ok {kp:Nat} (hT:AB tx) (hne:tx≠[]) (hL:∀ q∈limL w lm ld W v1 stp tst lim tl,q∈L0) (hfr:(fr,oLst [] ef)∈L0) (hd:(pt == sysModules)=false) (hk:KeptIs xs kp) (hsz:xs.length≤1000) (hst:st≤1000000) (hfit:lim < kp+tx.length) (hp:atKey xs (kText tx i)=none)
  (hlast:((atKey xs kLast).map (·.2)).getD .none=lvV lb lp):
  AskOK pw_qz0137_01 w (GL w L0 xs) (.fn 741 [.ref rn,.str (q tx) tt,.str (q (fg gg i)) tg]) [(rn,oRun rd),(rd,dRun w.params T V lm sv fr mt pt st ts),(pt,oDk w xs ep)] kn x m t i' 340
   (pfSh w T V rd lm sv fr mt st ep tx i tt xs (lvV lb lp)):=by
 have hz:sizeLine=16777216:=rfl
 have e:=pf_flush w (Nat.add x m) (Nat.add t i') rn rd pt ep lm sv fr st ts tt tg lp T V tx mt xs lb i gg (w.params.followText "special-get-raises") (w.params.followText "comprehension-iter-twice")
 rw [← PP_self w] at e
 exact AskOK.shift (ask_run e (GL_ok fun _ hq=>nomatch hq) (fun _ h=>h) fun g A R gs dr os hg low H=>
  ⟨⟨(0,0,0)⟩,nble rfl,fun _=>rfl,(of_ok (i:=i) (g:=gg)).mono (fun _ (h:GL w L0 xs _)=>h.1),fun p=>⟨⟨()⟩,nble rfl,fun _=>rfl,
   dhas_ok (lk:=[(p.2.1,oKey tx i tt p.1)]) (k:=kText tx i) (D:=950) hd (fun g h n hg rep=>hg.2.2.mono rep.keep) (fun g h n hg rep=>isText rep (.tail _ (.head _))) (by decide) (by rw [hp];rfl),fun _=>⟨⟨(0,0)⟩,nble rfl,fun _=>rfl,ck_ok hfr,fun _=>
   ⟨ne_CP _,nble rfl,fun _=>rfl,(cp_ok hT).mono (fun _ (h:GL w L0 xs _)=>h.1),fun c=>⟨ne_KF,nble rfl,fun _=>rfl,kf_ok hT hL hd hk hsz hst hfit hlast,fun k=>⟨⟨()⟩,nble rfl,fun _=>rfl,
   ditem_ok (lk:=[(p.2.1,oKey tx i tt p.1)]) (k:=kText tx i) (p:=(p.2.1,.ref c.c.pr)) (D:=950) (fun g h n hg rep=>(((isLastKeys hg.1).stored (isKept hg.1)).mono rep.keep).stored (isText rep (.tail _ (.head _)))) (fun g h n hg rep=>isText rep (.tail _ (.head _))) (by decide) (atKey_stored_same (by rw [atKey_stored_ne (text_ne_kept hne)];exact last_ne (text_ne_last hne))),fun _=>
   ⟨rfl,fun h' rep=>H ⟨p.2.1,p.1,k,c,k.x,Nat.add (a k.t 1) 3⟩ h' (by
    have r':Rep g (newF w tx i tt (lvV lb lp) ⟨p.2.1,p.1,k,c,k.x,Nat.add (a k.t 1) 3⟩++[(rn,oRun rd),(rd,dRun w.params T V lm sv fr mt k.nd (st+tx.length / 10) k.ts),(pt,oDk w xs ep)]++(nodes i tx c.ts++[]++[])) _ h':=rep
    rw [List.append_nil,List.append_nil] at r'
    exact r')⟩⟩⟩⟩⟩⟩⟩)
end
end
noncomputable section
def endS (ty:String) (i:Nat) (x t:Nat) (_:Unit):Shape:=⟨.error (.ref (a x 1)),[oIt ty .none i],[(a x 1,oStop x),(x,oTup [])],x,2,t,0,[]⟩
section
variable {w:World} {G:Heap→Prop} {kn:Led} {it i x m t j D tk:Nat} {tx:List Nat}
theorem snext_item {c:Nat} (hx:tx[i]?=some c):
  AskOK pw_qz0137_01 w G (.bi (PySem.W.S.codeS "str_ascii_iterator.__next__") [.ref it]) [(it,oIt "str_ascii_iterator" (.str (q tx) tk) i)] kn x m t j D (kS (fun t=>.str (q [c]) t) [oIt "str_ascii_iterator" (.str (q tx) tk) (i+1)] 1 (Nat.add x m) (Nat.add t j)):=by
 refine ask_wp (by decide +kernel) F.entry_str_ascii_iterator_next fun g A R gs d os h hg _ _ rep K=>?_
 have ho:h.get? it=some (oIt "str_ascii_iterator" (.str (q tx) tk) i):=(rep.own _ (.head _)).1
 show wpAny _ _ (field (.ref it) 0 >>= _) _ _ _
 refine wpAny_bind (wpAny_field ho (vs:=⟨[.str (q tx) tk,.int (Int.ofNat i) 0]⟩) rfl (x:=.str (q tx) tk) rfl ?_)
 show wpAny _ _ (field (.ref it) 1 >>= _) _ _ _
 refine wpAny_bind (wpAny_field ho (vs:=⟨[.str (q tx) tk,.int (Int.ofNat i) 0]⟩) rfl (x:=.int i 0) rfl ?_)
 have hx':(q tx).cps[i]?=some c:=by show (⟨tx⟩:Array Nat)[i]?=some c;simpa using hx
 simp only [Int.toNat_natCast,hx']
 refine wpAny_bind (wpAny_setField ho rfl (by simp) (wpAny_bind (wpAny_mkStr (wpAny_pure ?_))))
 have z:=rep.update (p:=0) (q:=(it,oIt "str_ascii_iterator" (.str (q tx) tk) i)) (f:=Obj.mapFields (·.setIfInBounds 1 (rawInt ((i:Int)+1)))) rfl (by rw [mapFields_oIt];rfl)
 rw [mapFields_oIt] at z
 exact K () _ z
theorem snext_end (hx:tx.length≤i):
  AskOK pw_qz0137_01 w G (.bi (PySem.W.S.codeS "str_ascii_iterator.__next__") [.ref it]) [(it,oIt "str_ascii_iterator" (.str (q tx) tk) i)] kn x m t j D (endS "str_ascii_iterator" i (Nat.add x m) (Nat.add t j)):=by
 refine ask_wp (by decide +kernel) F.entry_str_ascii_iterator_next fun g A R gs d os h hg _ low rep K=>?_
 have ho:h.get? it=some (oIt "str_ascii_iterator" (.str (q tx) tk) i):=(rep.own _ (.head _)).1
 show wpAny _ _ (field (.ref it) 0 >>= _) _ _ _
 refine wpAny_bind (wpAny_field ho (vs:=⟨[.str (q tx) tk,.int (Int.ofNat i) 0]⟩) rfl (x:=.str (q tx) tk) rfl ?_)
 show wpAny _ _ (field (.ref it) 1 >>= _) _ _ _
 refine wpAny_bind (wpAny_field ho (vs:=⟨[.str (q tx) tk,.int (Int.ofNat i) 0]⟩) rfl (x:=.int i 0) rfl ?_)
 have hx':(q tx).cps[i]?=none:=by show (⟨tx⟩:Array Nat)[i]?=none;simpa using hx
 simp only [Int.toNat_natCast,hx']
 refine wpAny_bind (wpAny_rule (wpAny_bind (wpAny_setField ho rfl (by simp) (wpAny_bind (wpAny_letGo ?_)))))
 have z:=rep.update (p:=0) (q:=(it,oIt "str_ascii_iterator" (.str (q tx) tk) i)) (f:=Obj.mapFields (·.setIfInBounds 0 .none)) rfl (by rw [mapFields_oIt0];rfl)
 rw [mapFields_oIt0] at z
 exact stop_wp low.1 z fun h' z=>K () h' z
end
def newLs (items:List Value) (l:List Obj) (x t:Nat) (_:Unit):Shape:=⟨.ok (.ret (.ref x)),l,[(x,oLst items 0)],x,1,t,0,[]⟩
theorem ladd_ok {w:World} {G:Heap→Prop} {kn:Led} {l1 l2 e1 e2 x m t i D:Nat} {xs ys:List Value} (hf:xs.length+ys.length≤sizeLine):
  AskOK pw_qz0137_01 w G (.bi (PySem.W.S.codeS "list.__add__") [.ref l1,.ref l2]) [(l1,oLst xs e1),(l2,oLst ys e2)] kn x m t i D (newLs (xs++ys) [oLst xs e1,oLst ys e2] (Nat.add x m) (Nat.add t i)):=by
 refine ask_meets (by decide +kernel) F.entry_list_add (AutoSeq1.list___add___list_list_0 l1 ⟨xs⟩ e1 l2 ⟨ys⟩ e2 hf) fun g A R gs d os h hg _ _ rep K=>⟨(rep.own _ (.head _)).1,(rep.own _ (.tail _ (.head _))).1,?_⟩
 have z:=rep.alloc (o:=oLst (xs++ys) 0) rfl
 rw [show h.objs.size=Nat.add x m from rep.size] at z
 have e:((⟨xs⟩:Array Value)++⟨ys⟩)=⟨xs++ys⟩:=by simp
 rw [e]
 show R (.ok (.ret (.ref h.objs.size))) ⟨h.push (oLst (xs++ys) 0),gs,d,Nat.add t i,os⟩
 rw [show h.objs.size=Nat.add x m from rep.size]
 exact K () _ z
theorem foldl_app:∀ (n:Nat) (v:Value) (acc:List Value),List.foldl (fun x1 x2=>x1++x2) (⟨acc⟩:Array Value) (List.replicate n ⟨[v]⟩)=⟨acc++List.replicate n v⟩
 | 0,v,acc=>by simp
 | n+1,v,acc=>by
  rw [List.replicate_succ,List.foldl_cons]
  have e:((⟨acc⟩:Array Value)++⟨[v]⟩)=⟨acc++[v]⟩:=by simp
  rw [e,foldl_app n v (acc++[v]),List.append_assoc]
  rfl
theorem lmul_ok {w:World} {G:Heap→Prop} {kn:Led} {l e x m t i D n u:Nat} {v:Value} (hf:n≤100000):
  AskOK pw_qz0137_01 w G (.bi (PySem.W.S.codeS "list.__mul__") [.ref l,.int (Int.ofNat n) u]) [(l,oLst [v] e)] kn x m t i D (newLs (List.replicate n v) [oLst [v] e] (Nat.add x m) (Nat.add t i)):=by
 have hz:sizeLine=16777216:=rfl
 have en:Int.ofNat n=(n:Int):=rfl
 have c0:Builtin.List.listFitsIndex (Int.ofNat n)=true:=fitsIndex_of (Int.natCast_nonneg n) (by omega)
 have c1:¬ (⟨[v]⟩:Array Value).size * (Int.ofNat n).toNat > (2 ^ 63 - 1) / 8:=by
  show ¬ 1 * n > _
  omega
 have c2:¬ Builtin.List.listTooLong ((⟨[v]⟩:Array Value).size * (Int.ofNat n).toNat)=true:=by
  show ¬ Builtin.List.listTooLong (1 * n)=true
  unfold Builtin.List.listTooLong
  rw [decide_eq_true_eq]
  omega
 have hj:(List.foldl (fun x1 x2=>x1++x2) (⟨[]⟩:Array Value) (List.replicate (if (⟨[v]⟩:Array Value).isEmpty=true then 0 else (Int.ofNat n).toNat) ⟨[v]⟩))=⟨List.replicate n v⟩:=by
  have h2:(if (⟨[v]⟩:Array Value).isEmpty=true then 0 else (Int.ofNat n).toNat)=n:=rfl
  rw [h2]
  exact foldl_app n v []
 generalize Int.ofNat n=z0 at c0 c1 c2 hj
 have M:=AutoListH.list___mul___list_int_3 l ⟨[v]⟩ e z0 u (by rw [c0];decide) c1 c2
 refine ask_meets (by decide +kernel) F.entry_list_mul M fun g A R gs d os h hg _ _ rep K=>⟨(rep.own _ (.head _)).1,?_⟩
 have z:=rep.alloc (o:=oLst (List.replicate n v) 0) rfl
 rw [show h.objs.size=Nat.add x m from rep.size] at z
 rw [show (#[]:Array Value)=⟨[]⟩ from rfl,hj]
 show R (.ok (.ret (.ref h.objs.size))) ⟨h.push (oLst (List.replicate n v) 0),gs,d,Nat.add t i,os⟩
 rw [show h.objs.size=Nat.add x m from rep.size]
 exact K () _ z
abbrev sk (w:World):=strKind pw_qz0137_01 w
def oSd (es:List DictEntry) (ep:Nat):Obj:=⟨.type "dict",none,.dict ⟨es⟩ ep,⟨[]⟩⟩
theorem mapOf {w:World} {h:Heap} {d ep:Nat} {es:List DictEntry} (ho:h.get? d=some (oSd es ep)) (hk:KeysOf (sk w) ⟨es⟩):h.MapOf (sk w) d (findBy (sk w).is ⟨es⟩):=
 ⟨_,⟨es⟩,ep,ho,⟨rfl,rfl,rfl⟩,rfl,hk,fun _=>rfl⟩
section
variable {w:World} {G:Heap→Prop} {kn:Led} {d ep x m t i D u:Nat} {es:List DictEntry} {k:Str} (hk:KeysOf (sk w) ⟨es⟩)
include hk
end
theorem keys_nil (w:World):KeysOf (sk w) ⟨[]⟩:=fun e he=>by simp at he
theorem keyHash_eq (w:World) (s:Str):PyData.keyHash w.params s=hashStr w s:=rfl
theorem keys_en {w:World}:∀ es:List DictEntry,(∀ e∈es,∃ s u v,e=en w.params s u v)→KeysOf (sk w) ⟨es⟩:=fun es H e he=>by
 obtain ⟨s,u,v,rfl⟩:=H e (by simpa using he)
 exact ⟨s,strKind_is _ _ _ _,rfl⟩
end
noncomputable section
structure SL where
 ys:List Value
 ok:Ints ys
theorem ne_SL:Nonempty SL:=⟨{ ys:=[],ok:={ each:=fun _ h=>(List.not_mem_nil h).elim,size:=Nat.zero_le _ } }⟩
def slS (l:List Obj) (x t:Nat) (p:SL):Shape:=⟨.ok (.ret (.ref x)),l,[(x,oLst p.ys 0)],x,1,t,0,[]⟩
structure SD (w:World) (k:Str) (v:Value) where
 es:List DictEntry
 ep:Nat
 keys:KeysOf (sk w) ⟨es⟩
 val:findBy (sk w).is ⟨es⟩ k=some v
theorem SD.one (w:World) (k:Str) (v:Value):findBy (sk w).is ⟨[en w.params k 0 v]⟩ k=some v:=by
 unfold findBy
 simp [strKind_is]
theorem ne_SD (w:World) (k:Str) (v:Value):Nonempty (SD w k v):=⟨⟨[en w.params k 0 v],0,keys_en _ fun e he=>⟨k,0,v,by simpa using he⟩,SD.one w k v⟩⟩
def sdSh (w:World) (k:Str) (v:Value) (x t:Nat) (p:SD w k v):Shape:=⟨.ok (.ret .none),[oSd p.es p.ep],[],x,0,t,1,[]⟩
theorem sset_ok {w:World} {G:Heap→Prop} {kn:Led} {d x m t i D u:Nat} {k:Str} {v:Value}:
  AskOK pw_qz0137_01 w G (.bi (PySem.W.S.codeS "dict.__setitem__") [.ref d,.str k u,v]) [(d,oEmp)] kn x m t i D (sdSh w k v (Nat.add x m) (Nat.add t i)):=by
 refine ask_meetsIn (by decide +kernel) F.entry_dict_setitem (meets_dict_setitem (knd:=sk w) (k:=k) d (strKind_is _ _ _ _) v) fun g A R gs dr os h hg _ _ rep K=>⟨_,mapOf (es:=[]) (ep:=0) (rep.own _ (.head _)).1 (keys_nil w),?_,fun h' hm hs=>?_⟩
 ·intro o es ep ho hd
  have:o=oEmp:=Option.some.inj (ho.symm.trans (rep.own _ (.head _)).1)
  subst this
  cases hd
  exact Nat.zero_le _
 ·obtain ⟨o,es,ep,ho,⟨h1,h2,h3⟩,hd,hk,hf⟩:=hm
  obtain ⟨c,dd,dt,sl⟩:=o
  cases h1
  cases h2
  cases h3
  cases hd
  obtain ⟨l⟩:=es
  have hf':findBy (sk w).is ⟨l⟩ k=some v:=(hf k).trans (if_pos rfl)
  exact K ⟨l,ep,hk,hf'⟩ h' (rep.sameHead hs ho)
end
noncomputable section
def nxT (it:Value):Sem PySem.Fin:=R.bindR (PySem.W.Fast.tw9404975358583537561 it) fun o=>.pure (.done (match o with | some v=>.ret v | none=>.next))
section
variable {w:World} {A:Around} {c:Code} {s:Shared} {env:Env}
theorem own_next {it:Value} {R0:Result→Shared→Prop} (h:wpOwn (MW w) A c (nxT it) (postC pw_qz0137_01 w A R0) (postE R0) s):
  wpOwn (MW w) A c (pyNext it) (fun o s'=>R0 (.ok (match o with | some v=>.ret v | none=>.next)) s') (fun e s'=>R0 (.error e) s') s:=by
 refine own_of_bind (enc:=fun o=>match o with | some v=>.ret v | none=>.next) ?_
 unfold nxT at h
 rw [← R.bindR_eq,← Fast.te9404975358583537561] at h
 exact h
theorem own_for {tg:Expr} {it:Value} {b o:List Stmt} {R0:Result→Shared→Prop} (hc:c=.forLoop tg it b o env) (hl:∀ v,letOwnedTupleGo tg it v=pure ())
  (h:wpOwn (MW w) A c (pyNext it) (fun o s1=>∃ v,o=some v∧wpOwn (MW w) A c (assign tg env v) (fun _ s2=>wpOwn (MW w) A c (execs b env) (fun f s3=>match f with
   | .ret v=>R0 (.ok (.ret v)) s3
   | .brk=>R0 (.ok .next) s3
   | _=>codeAny (MW w) A c R0 s3) (fun _ _=>False) s2) (fun _ _=>False) s1) (fun _ _=>False) s):codeAny (MW w) A c R0 s:=by
 refine codeAny_of_own ?_
 subst hc
 show wpOwn (MW w) A _ ((forTurn tg it b o env).onRaise _) _ _ s
 have ho:wpOwn (MW w) A (.forLoop tg it b o env) (forTurn tg it b o env) (postC pw_qz0137_01 w A R0) (fun _ _=>False) s:=by
  unfold forTurn
  refine wpOwn_bind (wpOwn_of_wpAny (wpAny_standAt ?_))
  have h1:wpOwn (MW w) A (.forLoop tg it b o env) ((pyNext it).onRaise (fun _=>standAt { tg.pos with line:=0 })) _ (fun _ _=>False) s:=fun Γ p hc hΓ=>by
   rw [Sem.wp_onRaise]
   exact Sem.wp_mono _ Γ _ (fun _ _ _ h=>h) (fun _ _ _ h=>h.elim) p s (h Γ p hc hΓ)
  refine wpOwn_bind (wpOwn_mono h1 (fun o' s1 h2=>?_) fun _ _ h=>h)
  obtain ⟨v,rfl,h2⟩:=h2
  show wpOwn (MW w) A _ (letOwnedTupleGo tg it v >>= _) _ _ s1
  rw [hl v]
  show wpOwn (MW w) A _ (assign tg env v >>= _) _ _ s1
  refine wpOwn_bind (wpOwn_mono h2 (fun _ s2 h3=>?_) fun _ _ h=>h)
  refine wpOwn_bind (wpOwn_mono h3 (fun f s3 h4=>?_) fun _ _ h=>h)
  cases f with
  | next=>exact fun _ _ _ _=>⟨rfl,h4⟩
  | cont=>exact fun _ _ _ _=>⟨rfl,h4⟩
  | brk=>exact fun _ _ _ _=>h4
  | ret v=>exact fun _ _ _ _=>h4
 exact fun Γ p hc hΓ=>by
  rw [Sem.wp_onRaise]
  exact Sem.wp_mono _ Γ _ (fun _ _ _ h=>h) (fun _ _ _ h=>h.elim) p s (ho Γ p hc hΓ)
theorem piece_next {G:Heap→Prop} {kl l:Led} {x m t i D n:Nat} {ds:List Nat} {sc:Scr} {o:Out} {g h:Heap} {gs:Array GenState} {d:Drawn} {os:OsState} {E:Value→Shared→Prop}
  (hG:Grd w kl G) (hg:G g) (low:Low D A) (hw:c.weight≤5) (rep:Rep g l (Nat.add x m) h) {it:Value} {Q:Value→Shared→Prop} (e:goT w.params kl D n c (nxT it) l x m t i ds sc=o)
  (H:o.ok ⟨pw_qz0137_01,w,kt w.params,kl,G,D,g,A,fun r s'=>match r with | .ok (.ret v)=>Q v s' | _=>False,gs,d,os⟩):wpOwn (MW w) A c (pyNext it) (fun o s1=>∃ v,o=some v∧Q v s1) E ⟨h,gs,d,Nat.add t i,os⟩:=
 wpOwn_mono (own_next (R0:=fun r s'=>match r with | .ok (.ret v)=>Q v s' | _=>False) (run_tree e hG hg low hw rep H)) (fun o s' h'=>by
  cases o with
  | none=>exact h'.elim
  | some v=>exact ⟨v,rfl,h'⟩) (fun _ _ h=>h.elim)
end
end
noncomputable section
def forB (s:Stmt):List Stmt:=match s with
 | .For _ _ b _ _=>b
 | _=>[]
def forT (s:Stmt):Expr:=match s with
 | .For t _ _ _ _=>t
 | _=>default
def binL (e:Expr):Expr:=match e with
 | .BinOp l _ _ _=>l
 | _=>default
def lwB:List Stmt:=fbody (sAt 148 top)
def lwEnv (fr cl:Nat):Env:={ fenv (sAt 148 top) 1003 1002 fr with cells:=[(Str.ofString "key",cl)] }
def lwLoop (it fr cl:Nat):Code:=forOf (sAt 3 lwB) it (lwEnv fr cl)
def bd (k:Nat):Stmt:=sAt k (forB (sAt 3 lwB))
def rwCmp:Expr:=orL (testE (bd 3))
def crE:Expr:=binL (cmpR rwCmp)
def crLoop (it acc loc fr cl:Nat):Code:=compOf crE it acc (lwEnv fr cl) loc
def oKey2 (tx:List Nat) (i:Bool) (tt:Nat):Obj:=oTup [.str (q tx) tt,.bool i]
structure CR (k:Nat) where
 ts:List Nd
 len:ts.length=k
 kt:Nat
 kv:Value
 ep:Nat
 x:Nat
 t:Nat
theorem ne_CR (k:Nat):Nonempty (CR k):=⟨⟨List.replicate k ⟨0,0,0⟩,List.length_replicate,0,.none,0,0,0⟩⟩
def crSh (P:Params) (ka:Nat) (tx:List Nat) (i:Bool) (tt:Nat) (cs:List Nat) (items:List Value) (g:Bool) (p:CR cs.length):Shape:=
 ⟨.ok .next,[oIt "str_ascii_iterator" .none tx.length,oLst (items++nrefs p.ts) p.ep,lcF P [115,105,103,110] (gk g cs.length) p.kt p.kv,oCell (.ref ka),oKey2 tx i tt],[],p.x,0,p.t,0,nodes i cs p.ts⟩
end
noncomputable section
theorem cr_end (w:World) (x t it acc loc fr cl n tu ep kt ka tt:Nat) (kv:Value) (tx:List Nat) (items:List Value) (g i b1 b2:Bool):go (PP w b1 b2) [] 330 100000 (crLoop it acc loc fr cl) [(it,oIt "str_ascii_iterator" (.str (q tx) tu) n),(acc,oLst items ep),(loc,lcF (PP w b1 b2) [115,105,103,110] g kt kv),(cl,oCell (.ref ka)),(ka,oKey2 tx i tt)] x 0 t 0 [0,2,0,2,2,2] (.ask [0] 99 950 Unit (endS "str_ascii_iterator" n) fun _=>.keep [2,3,4,5,6])=(.ask (.bi (PySem.W.S.codeS "str_ascii_iterator.__next__") [.ref it]) [(it,⟨.type "str_ascii_iterator",none,.fields ⟨[.str (q (tx)) tu,.int (Int.ofNat n) 0]⟩,⟨[]⟩⟩)] [] x 0 t 0 1 950 (Unit) ((endS "str_ascii_iterator" n) (Nat.add x 0) (Nat.add t 0)) (fun p1=>(dn (.ok .next) ([(it,⟨.type "str_ascii_iterator",none,.fields ⟨[.none,.int (Int.ofNat n) 0]⟩,⟨[]⟩⟩),(acc,⟨.type "list",none,.seq ⟨(items)⟩ ep,⟨[]⟩⟩),(loc,⟨.type "dict",none,.dict ⟨(cond g [en (PP w b1 b2) (q [115,105,103,110]) kt (kv)] [])⟩ (cond g 1 0),⟨[]⟩⟩),(cl,⟨.type "cell",none,.cell (some (.ref ka)),⟨[]⟩⟩),(ka,⟨.type "tuple",none,.seq ⟨[.str (q (tx)) tt,.bool i]⟩ 0,⟨[]⟩⟩)]) x 2 t 0 [(a x 1),it,it]))):=by revert g i b1 b2;apply bq4<;>kernel_rfl
theorem cr_step (w:World) (x t it acc loc fr cl n tu ep kt ka tt:Nat) (kv:Value) (tx:List Nat) (items:List Value) (g i c b1 b2:Bool):go (PP w b1 b2) [] 330 100000 (crLoop it acc loc fr cl) [(it,oIt "str_ascii_iterator" (.str (q tx) tu) n),(acc,oLst items ep),(loc,lcF (PP w b1 b2) [115,105,103,110] g kt kv),(cl,oCell (.ref ka)),(ka,oKey2 tx i tt)] x 0 t 0 [0,2,0,2,2,4,2,4,5,6,6,6,0,6,0,6,0,4,2,3] (.ask [0] 99 950 Unit (kS (fun t=>.str (q [sg c]) t) [oIt "str_ascii_iterator" (.str (q tx) tu) (n+1)] 1) fun _=>.ask [2] 99 950 Unit (kS (fun _=>.none) [oLst (items++[.ref (a x 0)]) (ep+1)] 0) fun _=>.keep [1,2,3,4,5,0])=(.ask (.bi (PySem.W.S.codeS "str_ascii_iterator.__next__") [.ref it]) [(it,⟨.type "str_ascii_iterator",none,.fields ⟨[.str (q (tx)) tu,.int (Int.ofNat n) 0]⟩,⟨[]⟩⟩)] [] x 0 t 0 1 950 (Unit) ((kS (fun t=>Value.str (q [sg c]) t) [oIt "str_ascii_iterator" (Value.str (q tx) tu) (n+1)] 1) (Nat.add x 0) (Nat.add t 0)) (fun p1=>(.ask (.bi (PySem.W.S.codeS "list.append") [.ref acc,.ref x]) [(acc,⟨.type "list",none,.seq ⟨(items)⟩ ep,⟨[]⟩⟩)] [] x 1 t 4 1 950 (Unit) ((kS (fun x=>Value.none) [oLst (items++[Value.ref (a x 0)]) (ep+1)] 0) (Nat.add x 1) (Nat.add t 4)) (fun p2=>(ag (crLoop it acc loc fr cl) [(it,⟨.type "str_ascii_iterator",none,.fields ⟨[.str (q (tx)) tu,.int (Int.ofNat (a n 1)) 0]⟩,⟨[]⟩⟩),(acc,⟨.type "list",none,.seq ⟨(items++[Value.ref (a x 0)])⟩ (a ep 1),⟨[]⟩⟩),(loc,⟨.type "dict",none,.dict ⟨[en (PP w b1 b2) (q [115,105,103,110]) (cond g kt (a t 1)) (.str (q [(sg c)]) t)]⟩ 1,⟨[]⟩⟩),(cl,⟨.type "cell",none,.cell (some (.ref ka)),⟨[]⟩⟩),(ka,⟨.type "tuple",none,.seq ⟨[.str (q (tx)) tt,.bool i]⟩ 0,⟨[]⟩⟩),(x,⟨.type "tuple",none,.seq ⟨[.str (q [115,105,103,110]) (a t 2),.str (q [(sg c)]) t,.bool i]⟩ 0,⟨[]⟩⟩)] (a x 1) 0 (a t 4) 0 [acc,ka,ka,ka,ka,ka,cl,loc,loc,loc,it,it]))))):=by cases g<;>(revert i c b1 b2;apply bq4<;>kernel_rfl)
theorem crLoop_ok {w:World} {tx:List Nat} {i:Bool} {it acc loc fr cl tu ka tt:Nat} (hT:AB tx):∀ (cs:List Nat) (n ep kt x t:Nat) (kv:Value) (g:Bool) (items:List Value),tx.drop n=cs→n≤tx.length→items.length≤n →
  AskOK pw_qz0137_01 w (G0 w) (.code (crLoop it acc loc fr cl)) [(it,oIt "str_ascii_iterator" (.str (q tx) tu) n),(acc,oLst items ep),(loc,lcF w.params [115,105,103,110] g kt kv),(cl,oCell (.ref ka)),(ka,oKey2 tx i tt)] [] x 0 t 0 330 (crSh w.params ka tx i tt cs items g):=by
 intro cs
 induction cs with
 | nil=>
  intro n ep kt x t kv g items hcs hn hps
  have e:=cr_end w x t it acc loc fr cl n tu ep kt ka tt kv tx items g i (w.params.followText "special-get-raises") (w.params.followText "comprehension-iter-twice")
  rw [← PP_self w] at e
  have hl:tx.length≤n:=by
   have:=congrArg List.length hcs
   rw [List.length_drop] at this
   simp at this
   omega
  obtain rfl:n=tx.length:=by omega
  exact ask_run e (G0_ok w) (fun _ h=>h) fun g' A R gs dr os hg low H=>
   ⟨⟨()⟩,nble rfl,fun _=>rfl,snext_end (Nat.le_refl _),fun _=>⟨rfl,fun h' r=>H ⟨[],rfl,kt,kv,ep,_,_⟩ h' (by
    show Rep g' [(it,oIt "str_ascii_iterator" .none tx.length),(acc,oLst (items++[]) ep),(loc,lcF w.params [115,105,103,110] g kt kv),(cl,oCell (.ref ka)),(ka,oKey2 tx i tt)] _ h'
    rw [List.append_nil]
    cases g<;>exact r)⟩⟩
 | cons c0 cs ih=>
  intro n ep kt x t kv g items hcs hn hps
  have hlt:n < tx.length:=by
   have:=congrArg List.length hcs
   rw [List.length_drop] at this
   simp at this
   omega
  obtain ⟨c,hc⟩:=hT.at hlt
  have hc0:sg c=c0:=by
   have e:=List.drop_eq_getElem_cons hlt
   rw [hcs] at e
   injection e with e1 e2
   rw [e1]
   rw [List.getElem?_eq_getElem hlt] at hc
   exact (Option.some.inj hc).symm
  subst hc0
  have hcs':tx.drop (n+1)=cs:=by
   have e:=List.drop_eq_getElem_cons hlt
   rw [hcs] at e
   injection e with e1 e2
   exact e2.symm
  have e:=cr_step w x t it acc loc fr cl n tu ep kt ka tt kv tx items g i c (w.params.followText "special-get-raises") (w.params.followText "comprehension-iter-twice")
  rw [← PP_self w] at e
  exact ask_run e (G0_ok w) (fun _ h=>h) fun g' A R gs dr os hg low H=>
   ⟨⟨()⟩,nble rfl,fun _=>rfl,snext_item hc,fun _=>⟨⟨()⟩,nble rfl,fun _=>rfl,append_ok (by have:=hT.size;have:sizeLine=16777216:=rfl;omega),fun _=>
    ⟨rfl,fun h' rep=>by
     refine use_ask (ps:=[0,1,2,3,4]) (ih (n+1) (ep+1) _ _ _ _ true (items++[.ref x]) hcs' hlt (by rw [List.length_append,List.length_singleton];omega)) (G0_mono w) rfl rfl hg low rep (fun _=>rfl) fun p h'' r=>?_
     refine H ⟨⟨x,a t 2,t⟩::p.ts,by rw [List.length_cons,p.len,List.length_cons],p.kt,p.kv,p.ep,p.x,p.t⟩ h'' ?_
     have e2:items++[.ref x]++nrefs p.ts=items++nrefs (⟨x,a t 2,t⟩::p.ts):=by rw [List.append_assoc];rfl
     have r':Rep g' ([(it,oIt "str_ascii_iterator" .none tx.length),(acc,oLst (items++[.ref x]++nrefs p.ts) p.ep),(loc,lcF w.params [115,105,103,110] (gk true cs.length) p.kt p.kv),(cl,oCell (.ref ka)),(ka,oKey2 tx i tt),(x,oSg (sg c) i (a t 2) t)]++nodes i cs p.ts) (Nat.add p.x 0) h'':=r
     rw [e2,show gk true cs.length=true from by cases cs.length<;>rfl] at r'
     exact r'⟩⟩⟩
end
noncomputable section
def toV (tb:Bool) (to tk:Nat):Value:=cond tb (.int (Int.ofNat to) tk) .none
def lwG (P:Params) (I:Nat→Nat) (V0:Value) (g lb tb:Bool) (m:Nat) (bdA rn kd sg st to tu:Nat) (tx fx:List Nat) (pr lp:Nat):Obj:=
 ⟨.type "frame",none,.dict ⟨[en P (q [115,99,114,105,112,116]) (I 0) V0,en P (q [98,111,97,114,100]) (I 1) (.ref bdA),en P (q [114,117,110]) (I 2) (.ref rn),en P (q [107,101,112,116]) (I 3) (.ref kd),en P (q [115,105,103,110,115]) (I 4) (.int (Int.ofNat sg) (I 5)),en P (q [115,116,101,112,115]) (I 6) (.int (Int.ofNat st) (I 7)),en P (q [116,111,108,100]) (I 8) (toV tb to (I 9))]++List.take (cond g 5 m) [en P (q [116,117,114,110]) (I 10) (.int (Int.ofNat tu) (I 11)),en P (q [102,108,97,103,115]) (I 14) (.str (q fx) (I 15)),en P (q [116,101,120,116]) (I 12) (.str (q tx) (I 13)),en P (q [112,114,111,103,114,97,109]) (I 16) (.ref pr),en P (q [108,97,115,116]) (I 17) (lvV lb lp)]⟩ (Nat.add 7 (cond g 5 m)),⟨[]⟩⟩
def oCl (g:Bool) (ka:Nat):Obj:=⟨.type "cell",none,.cell (cond g (some (.ref ka)) none),⟨[]⟩⟩
structure FG where
 g:Bool
 i:Bool
 tk:Nat
theorem ne_FG:Nonempty FG:=⟨⟨false,false,0⟩⟩
def fgSh (l:List Obj) (x t:Nat) (p:FG):Shape:=⟨.ok (.ret (.str (q (fg p.g p.i)) p.tk)),l,[],x,0,t,0,[]⟩
def crSh2 (P:Params) (ka:Nat) (tx:List Nat) (i:Bool) (tt:Nat) (p:CR tx.length):Shape:=
 ⟨.ok .next,[oIt "str_ascii_iterator" .none tx.length,oLst (nrefs p.ts) p.ep,lcF P [115,105,103,110] true p.kt p.kv,oCell (.ref ka),oKey2 tx i tt],[],p.x,0,p.t,0,nodes i tx p.ts⟩
theorem crLoop_ok2 {w:World} {tx:List Nat} {i:Bool} {it acc loc fr cl tu ka tt x m t j:Nat} (hT:AB tx) (hne:tx≠[]):
  AskOK pw_qz0137_01 w (G0 w) (.code (crLoop it acc loc fr cl)) [(it,oIt "str_ascii_iterator" (.str (q tx) tu) 0),(acc,oLst [] 0),(loc,lcF w.params [115,105,103,110] false 0 .none),(cl,oCell (.ref ka)),(ka,oKey2 tx i tt)] [] x m t j 330 (crSh2 w.params ka tx i tt):=by
 have z:=AskOK.shift (x:=x) (m:=m) (t:=t) (i:=j) (crLoop_ok (w:=w) (it:=it) (acc:=acc) (loc:=loc) (fr:=fr) (cl:=cl) (tu:=tu) (ka:=ka) (tt:=tt) (i:=i) hT tx 0 0 0 (Nat.add x m) (Nat.add t j) .none false [] rfl (Nat.zero_le _) (Nat.le_refl _))
 have e:gk false tx.length=true:=by
  cases tx with
  | nil=>exact absurd rfl hne
  | cons c l=>rfl
 have e2:crSh w.params ka tx i tt tx [] false=crSh2 w.params ka tx i tt:=by
  funext p
  unfold crSh crSh2
  rw [e,List.nil_append]
 rw [e2] at z
 exact z
theorem siter_ok {w:World} {G:Heap→Prop} {kn:Led} {x m t i D u:Nat} {tx:List Nat} (hT:AB tx):
  AskOK pw_qz0137_01 w G (.bi (PySem.W.S.codeS "str.__iter__") [.str (q tx) u]) [] kn x m t i D (newSh (fun x=>.ref x) (oIt "str_ascii_iterator" (.str (q tx) u) 0) [] (Nat.add x m) (Nat.add t i)):=by
 have ha:(q tx).cps.all (· < 128)=true:=by
  show (⟨tx⟩:Array Nat).all (· < 128)=true
  simp only [List.all_toArray,List.all_eq_true,decide_eq_true_eq]
  intro c hc
  rcases hT.sign c hc with rfl | rfl<;>decide
 refine ask_wp (by decide +kernel) F.entry_str_iter fun g A R gs d os h hg _ low rep K=>?_
 show wpAny _ _ (do ret (← newFields (if (true && (q tx).cps.all (· < 128))=true then "str_ascii_iterator" else "str_iterator") [.str (q tx) u,rawInt 0])) _ _ _
 rw [ha]
 have z:=rep.alloc (o:=oIt "str_ascii_iterator" (.str (q tx) u) 0) rfl
 rw [show h.objs.size=Nat.add x m from rep.size] at z
 refine wpAny_bind (wpAny_newObj_type (wpAny_pure ?_))
 show R (.ok (.ret (.ref h.objs.size))) ⟨h.push (oIt "str_ascii_iterator" (.str (q tx) u) 0),gs,d,Nat.add t i,os⟩
 rw [show h.objs.size=Nat.add x m from rep.size]
 exact K () _ z
def upI (I:Nat→Nat) (l:List (Nat × Nat)) (j:Nat):Nat:=match l with
 | []=>I j
 | p::r=>cond (Nat.beq p.1 j) p.2 (upI I r j)
def kKey (tx:List Nat) (i:Bool):List SB:=[.inl (q tx),.inr i]
end
noncomputable section
theorem lt_next (w:World) (x t it v left bdA n tn fr cl rn kd sg st to tu pr lp ka t0:Nat) (I:Nat→Nat) (V0:Value) (tx fx:List Nat) (sv:List Value) (b1 b2:Bool):goT (PP w b1 b2) [] 320 100000 (lwLoop it fr cl) (nxT (.ref it)) [(it,oRi v (left+1))] x 0 t 0 [2,0,2,2] (.ask [0] 99 950 Unit (kS (fun t=>.int (Int.ofNat v) t) [oRi (v+1) left] 1) fun _=>.keep [0])=(.ask (.bi (PySem.W.S.codeS "range_iterator.__next__") [.ref it]) [(it,⟨.type "range_iterator",none,.fields ⟨[.int (Int.ofNat v) 0,.int (Int.ofNat (a left 1)) 0,.int 1 0]⟩,⟨[]⟩⟩)] [] x 0 t 0 1 950 (Unit) ((kS (fun t=>Value.int (Int.ofNat v) t) [oRi (v+1) left] 1) (Nat.add x 0) (Nat.add t 0)) (fun p1=>(dn (.ok (.ret (.int (Int.ofNat v) t))) ([(it,⟨.type "range_iterator",none,.fields ⟨[.int (Int.ofNat (a v 1)) 0,.int (Int.ofNat left) 0,.int 1 0]⟩,⟨[]⟩⟩)]) x 0 t 1 [it,it]))):=by revert b1 b2;apply bq2<;>kernel_rfl
theorem lt_tu (w:World) (lb tb:Bool) (x t it v left bdA n tn fr cl rn kd sg st to tu pr lp ka t0:Nat) (I:Nat→Nat) (V0:Value) (tx fx:List Nat) (sv:List Value) (g b1 b2:Bool):goT (PP w b1 b2) [] 320 100000 (lwLoop it fr cl) (asT (forT (sAt 3 lwB)) (lwEnv fr cl) (.int (Int.ofNat v) t0)) [(fr,lwG (PP w b1 b2) I V0 g lb tb 0 bdA rn kd sg st to tu tx fx pr lp)] x 0 t 0 [2,0] (.keep [0])=(dn (.ok .next) ([(fr,⟨.type "frame",none,.dict ⟨(cond g [en (PP w b1 b2) (q [115,99,114,105,112,116]) (I 0) (V0),en (PP w b1 b2) (q [98,111,97,114,100]) (I 1) (.ref bdA),en (PP w b1 b2) (q [114,117,110]) (I 2) (.ref rn),en (PP w b1 b2) (q [107,101,112,116]) (I 3) (.ref kd),en (PP w b1 b2) (q [115,105,103,110,115]) (I 4) (.int (Int.ofNat sg) (I 5)),en (PP w b1 b2) (q [115,116,101,112,115]) (I 6) (.int (Int.ofNat st) (I 7)),en (PP w b1 b2) (q [116,111,108,100]) (I 8) (Bool.rec ((fun _=>Value.none) ()) ((fun _=>Value.int (Int.ofNat to) (I 9)) ()) tb),en (PP w b1 b2) (q [116,117,114,110]) (I 10) (.int (Int.ofNat v) t0),en (PP w b1 b2) (q [102,108,97,103,115]) (I 14) (.str (q (fx)) (I 15)),en (PP w b1 b2) (q [116,101,120,116]) (I 12) (.str (q (tx)) (I 13)),en (PP w b1 b2) (q [112,114,111,103,114,97,109]) (I 16) (.ref pr),en (PP w b1 b2) (q [108,97,115,116]) (I 17) (Bool.rec ((fun _=>Value.none) ()) ((fun _=>Value.ref lp) ()) lb)] [en (PP w b1 b2) (q [115,99,114,105,112,116]) (I 0) (V0),en (PP w b1 b2) (q [98,111,97,114,100]) (I 1) (.ref bdA),en (PP w b1 b2) (q [114,117,110]) (I 2) (.ref rn),en (PP w b1 b2) (q [107,101,112,116]) (I 3) (.ref kd),en (PP w b1 b2) (q [115,105,103,110,115]) (I 4) (.int (Int.ofNat sg) (I 5)),en (PP w b1 b2) (q [115,116,101,112,115]) (I 6) (.int (Int.ofNat st) (I 7)),en (PP w b1 b2) (q [116,111,108,100]) (I 8) (Bool.rec ((fun _=>Value.none) ()) ((fun _=>Value.int (Int.ofNat to) (I 9)) ()) tb),en (PP w b1 b2) (q [116,117,114,110]) t (.int (Int.ofNat v) t0)])⟩ (cond g 12 8),⟨[]⟩⟩)]) x 0 t 1 [fr,fr]):=by revert g b1 b2;apply bq3<;>kernel_rfl
theorem lt_a (w:World) (lb tb:Bool) (x t it v left bdA n tn fr cl rn kd sg st to tu pr lp ka t0:Nat) (I:Nat→Nat) (V0:Value) (tx fx:List Nat) (sv:List Value) (g b1 b2:Bool):goT (PP w b1 b2) [] 320 100000 (lwLoop it fr cl) (exT [bd 0,bd 1] (lwEnv fr cl)) [(bdA,oBd n tn sv 0),(fr,lwG (PP w b1 b2) I V0 g lb tb 1 bdA rn kd sg st to tu tx fx pr lp),(cl,oCl g ka)] x 0 t 0 [0,0,3,0,2,0,2,0,4,0,2,2,2,2,0,2,2,0,2,2,2,0,2,0,2,2,0,2,0,2,2,3,2,0,2,0,2,0,2,2,3,2,0,2,0,2,0,2,2,3,2,0,2,8,6,8,6,8,8,0,2,10,8] (.ask [0] 99 900 (PG 64) (fun _ _=>pgSh sv 0 n 64) fun pg=>.ask [] 99 840 LT (fun _ _=>ltxSh) fun l=>.ask [1] 99 900 (PG 4) (fun _ _=>pgSh sv 0 (n+1) 4) fun pg4=>.ask [0] 99 950 FG (fgSh [oTup [.str (q []) l.t,.str (q [103]) (a l.t 1),.str (q [105]) (a l.t 2),.str (q [103,105]) (a l.t 3)]]) fun f=>.val (fun t=>.bool f.i) 0 <| .keep [6,7,8,0])=(.ask (.fn 986 [.ref bdA,.int 64 t]) [(bdA,⟨.type "list",none,.seq ⟨((.int (Int.ofNat n) tn)::sv)⟩ 0,⟨[]⟩⟩)] [] x 0 t 1 1 900 (PG 64) ((fun x x_1=>pgSh sv 0 n 64) (Nat.add x 0) (Nat.add t 1)) (fun p1=>(.ask (.fn 991 [.int (Int.ofNat (p1.1)) (p1.3)]) [] [] (p1.5) 0 (p1.6) 0 1 840 (Mine.LT) ((fun x x_1=>ltxSh) (Nat.add (p1.5) 0) (Nat.add (p1.6) 0)) (fun p2=>(.ask (.fn 986 [.ref bdA,.int 4 (a (p2.7) 4)]) [(bdA,⟨.type "list",none,.seq ⟨((.int (Int.ofNat (a n 1)) (p1.4))::sv)⟩ 0,⟨[]⟩⟩)] [] (p2.6) 1 (p2.7) 5 1 900 (PG 4) ((fun x x_1=>pgSh sv 0 (n+1) 4) (Nat.add (p2.6) 1) (Nat.add (p2.7) 5)) (fun p3=>(.ask (.bi (PySem.W.S.codeS "tuple.__getitem__") [.ref (p2.6),.int (Int.ofNat (p3.1)) (p3.3)]) [((p2.6),⟨.type "tuple",none,.seq ⟨[.str (q []) (p2.7),.str (q [103]) (a (p2.7) 1),.str (q [105]) (a (p2.7) 2),.str (q [103,105]) (a (p2.7) 3)]⟩ 0,⟨[]⟩⟩)] [] (p3.5) 0 (p3.6) 0 1 950 (FG) ((fgSh [oTup [Value.str (q []) p2.t,Value.str (q [103]) (a p2.t 1),Value.str (q [105]) (a p2.t 2),Value.str (q [103,105]) (a p2.t 3)]]) (Nat.add (p3.5) 0) (Nat.add (p3.6) 0)) (fun p4=>(.val (.bi (PySem.W.S.codeS "str.__contains__") [.str (q (fg p4.g p4.i)) (p4.3),.str (q [105]) (a (p3.6) 2)]) (.bool (p4.2)) 0 (a (p3.6) 3) 1 (dn (.ok .next) ([(bdA,⟨.type "list",none,.seq ⟨((.int (Int.ofNat (a n 2)) (p3.4))::sv)⟩ 0,⟨[]⟩⟩),(fr,⟨.type "frame",none,.dict ⟨(cond g [en (PP w b1 b2) (q [115,99,114,105,112,116]) (I 0) (V0),en (PP w b1 b2) (q [98,111,97,114,100]) (I 1) (.ref bdA),en (PP w b1 b2) (q [114,117,110]) (I 2) (.ref rn),en (PP w b1 b2) (q [107,101,112,116]) (I 3) (.ref kd),en (PP w b1 b2) (q [115,105,103,110,115]) (I 4) (.int (Int.ofNat sg) (I 5)),en (PP w b1 b2) (q [115,116,101,112,115]) (I 6) (.int (Int.ofNat st) (I 7)),en (PP w b1 b2) (q [116,111,108,100]) (I 8) (Bool.rec ((fun _=>Value.none) ()) ((fun _=>Value.int (Int.ofNat to) (I 9)) ()) tb),en (PP w b1 b2) (q [116,117,114,110]) (I 10) (.int (Int.ofNat tu) (I 11)),en (PP w b1 b2) (q [102,108,97,103,115]) (I 14) (.str (q (fg p4.g p4.i)) (p4.3)),en (PP w b1 b2) (q [116,101,120,116]) (I 12) (.str (q (p2.tx)) (p2.5)),en (PP w b1 b2) (q [112,114,111,103,114,97,109]) (I 16) (.ref pr),en (PP w b1 b2) (q [108,97,115,116]) (I 17) (Bool.rec ((fun _=>Value.none) ()) ((fun _=>Value.ref lp) ()) lb)] [en (PP w b1 b2) (q [115,99,114,105,112,116]) (I 0) (V0),en (PP w b1 b2) (q [98,111,97,114,100]) (I 1) (.ref bdA),en (PP w b1 b2) (q [114,117,110]) (I 2) (.ref rn),en (PP w b1 b2) (q [107,101,112,116]) (I 3) (.ref kd),en (PP w b1 b2) (q [115,105,103,110,115]) (I 4) (.int (Int.ofNat sg) (I 5)),en (PP w b1 b2) (q [115,116,101,112,115]) (I 6) (.int (Int.ofNat st) (I 7)),en (PP w b1 b2) (q [116,111,108,100]) (I 8) (Bool.rec ((fun _=>Value.none) ()) ((fun _=>Value.int (Int.ofNat to) (I 9)) ()) tb),en (PP w b1 b2) (q [116,117,114,110]) (I 10) (.int (Int.ofNat tu) (I 11)),en (PP w b1 b2) (q [102,108,97,103,115]) (p3.6) (.str (q (fg p4.g p4.i)) (p4.3)),en (PP w b1 b2) (q [116,101,120,116]) (a (p3.6) 1) (.str (q (p2.tx)) (p2.5))])⟩ (cond g 12 10),⟨[]⟩⟩),(cl,⟨.type "cell",none,.cell (some (.ref (a (p3.5) 4))),⟨[]⟩⟩),((a (p3.5) 4),⟨.type "tuple",none,.seq ⟨[.str (q (p2.tx)) (p2.5),.bool (p4.2)]⟩ 0,⟨[]⟩⟩)]) (p3.5) 5 (p3.6) 3 [cl,cl,fr,fr,fr,fr,fr,fr,(a (p3.5) 3),(a (p3.5) 1),(a (p3.5) 1),(p3.5),(a (p3.5) 1),(a (p3.5) 1),(a (p3.5) 1),(a (p3.5) 1),(a (p3.5) 1),(a (p3.5) 1),(p3.5),(a (p3.5) 1),(a (p3.5) 1),(a (p3.5) 1),(a (p3.5) 1),(a (p3.5) 1),(a (p3.5) 1),(p3.5),(a (p3.5) 1),(a (p3.5) 1),(a (p3.5) 1),(a (p3.5) 1),(a (p3.5) 1),(p3.5),(p3.5),(p3.5),(p3.5),(p2.6),(p2.6),(p2.6),(p2.6),fr,fr])))))))))):=by revert g b1 b2;apply bq3<;>kernel_rfl
theorem lt_b_hit (w:World) (lb tb gg i:Bool) (x t it bdA fr cl rn kd sg st ls to tu pr lp pr0 pt ep rd lm sa fm ts kp:Nat) (I:Nat→Nat) (T V:Nat→Nat) (V0 mt:Value) (tx:List Nat) (xs:List Ent) (g b1 b2:Bool):goT (PP w b1 b2) [] 320 100000 (lwLoop it fr cl) (exT [bd 2] (lwEnv fr cl)) [(fr,lwG (PP w b1 b2) I V0 g lb tb 3 bdA rn kd sg ls to tu tx (fg gg i) pr0 lp),(rn,oRun rd),(rd,dRun (PP w b1 b2) T V lm sa fm mt pt st ts),(pt,oDk w xs ep)] x 0 t 0 [0,2,2,2,0,2,2,0] (.ask [1,2,3] 99 340 (Nat × Nat) (fun _ _=>rS (.ref pr) [oRun rd,dRun (PP w b1 b2) T V lm sa fm mt pt st ts,oDk w xs ep]) fun p=>.keep [0,1,2,3])=(.ask (.fn 741 [.ref rn,.str (q (tx)) (I 13),.str (q (fg gg i)) (I 15)]) [(rn,(oRun rd)),(rd,(dRun (PP w b1 b2) T V lm sa fm (mt) pt st ts)),(pt,(oDk w xs ep))] [] x 0 t 0 1 340 (Nat × Nat) ((fun x x_1=>rS (Value.ref pr) [oRun rd,dRun (PP w b1 b2) T V lm sa fm mt pt st ts,oDk w xs ep]) (Nat.add x 0) (Nat.add t 0)) (fun p1=>(dn (.ok .next) ([(fr,⟨.type "frame",none,.dict ⟨(cond g [en (PP w b1 b2) (q [115,99,114,105,112,116]) (I 0) (V0),en (PP w b1 b2) (q [98,111,97,114,100]) (I 1) (.ref bdA),en (PP w b1 b2) (q [114,117,110]) (I 2) (.ref rn),en (PP w b1 b2) (q [107,101,112,116]) (I 3) (.ref kd),en (PP w b1 b2) (q [115,105,103,110,115]) (I 4) (.int (Int.ofNat sg) (I 5)),en (PP w b1 b2) (q [115,116,101,112,115]) (I 6) (.int (Int.ofNat ls) (I 7)),en (PP w b1 b2) (q [116,111,108,100]) (I 8) (Bool.rec ((fun _=>Value.none) ()) ((fun _=>Value.int (Int.ofNat to) (I 9)) ()) tb),en (PP w b1 b2) (q [116,117,114,110]) (I 10) (.int (Int.ofNat tu) (I 11)),en (PP w b1 b2) (q [102,108,97,103,115]) (I 14) (.str (q (fg gg i)) (I 15)),en (PP w b1 b2) (q [116,101,120,116]) (I 12) (.str (q (tx)) (I 13)),en (PP w b1 b2) (q [112,114,111,103,114,97,109]) (I 16) (.ref pr),en (PP w b1 b2) (q [108,97,115,116]) (I 17) (Bool.rec ((fun _=>Value.none) ()) ((fun _=>Value.ref lp) ()) lb)] [en (PP w b1 b2) (q [115,99,114,105,112,116]) (I 0) (V0),en (PP w b1 b2) (q [98,111,97,114,100]) (I 1) (.ref bdA),en (PP w b1 b2) (q [114,117,110]) (I 2) (.ref rn),en (PP w b1 b2) (q [107,101,112,116]) (I 3) (.ref kd),en (PP w b1 b2) (q [115,105,103,110,115]) (I 4) (.int (Int.ofNat sg) (I 5)),en (PP w b1 b2) (q [115,116,101,112,115]) (I 6) (.int (Int.ofNat ls) (I 7)),en (PP w b1 b2) (q [116,111,108,100]) (I 8) (Bool.rec ((fun _=>Value.none) ()) ((fun _=>Value.int (Int.ofNat to) (I 9)) ()) tb),en (PP w b1 b2) (q [116,117,114,110]) (I 10) (.int (Int.ofNat tu) (I 11)),en (PP w b1 b2) (q [102,108,97,103,115]) (I 14) (.str (q (fg gg i)) (I 15)),en (PP w b1 b2) (q [116,101,120,116]) (I 12) (.str (q (tx)) (I 13)),en (PP w b1 b2) (q [112,114,111,103,114,97,109]) (p1.2) (.ref pr)])⟩ (cond g 12 11),⟨[]⟩⟩),(rn,(oRun rd)),(rd,(dRun (PP w b1 b2) T V lm sa fm (mt) pt st ts)),(pt,(oDk w xs ep))]) (p1.1) 0 (p1.2) 1 [fr,fr,fr,fr,fr]))):=by revert g b1 b2;apply bq3<;>kernel_rfl
theorem lt_b_miss (w:World) (lb tb gg i:Bool) (x t it bdA fr cl rn kd sg st ls to tu pr lp pr0 pt ep rd lm sa fm ts kp:Nat) (I:Nat→Nat) (T V:Nat→Nat) (V0 mt:Value) (tx:List Nat) (xs:List Ent) (g b1 b2:Bool):goT (PP w b1 b2) [] 320 100000 (lwLoop it fr cl) (exT [bd 2] (lwEnv fr cl)) [(fr,lwG (PP w b1 b2) I V0 g lb tb 3 bdA rn kd sg ls to tu tx (fg gg i) pr0 lp),(rn,oRun rd),(rd,dRun (PP w b1 b2) T V lm sa fm mt pt st ts),(pt,oDk w xs ep)] x 0 t 0 [0,2,2,2,0,2,8,6] (.ask [1,2,3] 99 340 (PM tx.length) (fun _ _=>pmSh w T V rd lm sa fm mt pt st tx i (I 13) kp xs) fun p=>.keepT [0,1,2,3,4,5,6,7,8,9] 10)=(.ask (.fn 741 [.ref rn,.str (q (tx)) (I 13),.str (q (fg gg i)) (I 15)]) [(rn,(oRun rd)),(rd,(dRun (PP w b1 b2) T V lm sa fm (mt) pt st ts)),(pt,(oDk w xs ep))] [] x 0 t 0 1 340 (PM tx.length) ((fun x x_1=>pmSh w T V rd lm sa fm mt pt st tx i (I 13) kp xs) (Nat.add x 0) (Nat.add t 0)) (fun p1=>(dn (.ok .next) ([((p1.1),⟨.type "tuple",none,.seq ⟨[.str (q (tx)) (I 13),.str (q (fl i)) (p1.2)]⟩ 0,⟨[]⟩⟩),((p1.c.c.1),(oPr (p1.c.c.pd))),((p1.c.c.2),⟨.type "dict",none,.dict ⟨[en (PP w b1 b2) (q [114,111,119,115]) (p1.c.c.M 0) (.ref (p1.c.c.rl)),en (PP w b1 b2) (q [103,114,111,117,112,115]) (p1.c.c.M 1) (.int 0 (p1.c.c.tg)),en (PP w b1 b2) (q [114,101,103,105,115,116,101,114,115]) (p1.c.c.M 2) (.int 0 (p1.c.c.tr)),en (PP w b1 b2) (q [110,97,109,101,115]) (p1.c.c.M 3) (.ref (p1.c.nm))]⟩ 4,⟨[]⟩⟩),((p1.c.c.3),⟨.type "list",none,.seq ⟨(nrefs p1.c.ts++[Value.ref p1.c.c.en])⟩ (p1.c.c.ep),⟨[]⟩⟩),((p1.c.c.4),⟨.type "tuple",none,.seq ⟨[.str (q [101,110,100]) (p1.c.c.ke)]⟩ 0,⟨[]⟩⟩),((p1.c.3),⟨.type "dict",none,.dict ⟨[]⟩ 0,⟨[]⟩⟩),(fr,⟨.type "frame",none,.dict ⟨(cond g [en (PP w b1 b2) (q [115,99,114,105,112,116]) (I 0) (V0),en (PP w b1 b2) (q [98,111,97,114,100]) (I 1) (.ref bdA),en (PP w b1 b2) (q [114,117,110]) (I 2) (.ref rn),en (PP w b1 b2) (q [107,101,112,116]) (I 3) (.ref kd),en (PP w b1 b2) (q [115,105,103,110,115]) (I 4) (.int (Int.ofNat sg) (I 5)),en (PP w b1 b2) (q [115,116,101,112,115]) (I 6) (.int (Int.ofNat ls) (I 7)),en (PP w b1 b2) (q [116,111,108,100]) (I 8) (Bool.rec ((fun _=>Value.none) ()) ((fun _=>Value.int (Int.ofNat to) (I 9)) ()) tb),en (PP w b1 b2) (q [116,117,114,110]) (I 10) (.int (Int.ofNat tu) (I 11)),en (PP w b1 b2) (q [102,108,97,103,115]) (I 14) (.str (q (fg gg i)) (I 15)),en (PP w b1 b2) (q [116,101,120,116]) (I 12) (.str (q (tx)) (I 13)),en (PP w b1 b2) (q [112,114,111,103,114,97,109]) (I 16) (.ref (p1.c.c.pr)),en (PP w b1 b2) (q [108,97,115,116]) (I 17) (Bool.rec ((fun _=>Value.none) ()) ((fun _=>Value.ref lp) ()) lb)] [en (PP w b1 b2) (q [115,99,114,105,112,116]) (I 0) (V0),en (PP w b1 b2) (q [98,111,97,114,100]) (I 1) (.ref bdA),en (PP w b1 b2) (q [114,117,110]) (I 2) (.ref rn),en (PP w b1 b2) (q [107,101,112,116]) (I 3) (.ref kd),en (PP w b1 b2) (q [115,105,103,110,115]) (I 4) (.int (Int.ofNat sg) (I 5)),en (PP w b1 b2) (q [115,116,101,112,115]) (I 6) (.int (Int.ofNat ls) (I 7)),en (PP w b1 b2) (q [116,111,108,100]) (I 8) (Bool.rec ((fun _=>Value.none) ()) ((fun _=>Value.int (Int.ofNat to) (I 9)) ()) tb),en (PP w b1 b2) (q [116,117,114,110]) (I 10) (.int (Int.ofNat tu) (I 11)),en (PP w b1 b2) (q [102,108,97,103,115]) (I 14) (.str (q (fg gg i)) (I 15)),en (PP w b1 b2) (q [116,101,120,116]) (I 12) (.str (q (tx)) (I 13)),en (PP w b1 b2) (q [112,114,111,103,114,97,109]) (p1.6) (.ref (p1.c.c.pr))])⟩ (cond g 12 11),⟨[]⟩⟩),(rn,(oRun rd)),(rd,(dRun (PP w b1 b2) T V lm sa fm (mt) pt (st+tx.length / 10) (p1.k.ts))),(pt,⟨.type "dict",none,.dict ⟨(List.map (entryOfKey (TK w)) (kept1 xs (kp+tx.length) p1.k.tk tx i p1.ka p1.c.c.pr))⟩ (p1.k.ep),⟨[]⟩⟩)]++(pmSh w T V rd lm sa fm mt pt st tx i (I 13) kp xs p1).tail) (p1.5) 0 (p1.6) 1 [fr,fr,fr,fr,fr]))):=by revert g b1 b2;apply bq3<;>kernel_rfl
theorem lt_b_flush (w:World) (lb tb gg i:Bool) (x t it bdA fr cl rn kd sg st ls to tu pr lp pr0 pt ep rd lm sa fm ts kp:Nat) (I:Nat→Nat) (T V:Nat→Nat) (V0 mt:Value) (tx:List Nat) (xs:List Ent) (g b1 b2:Bool):goT (PP w b1 b2) [] 320 100000 (lwLoop it fr cl) (exT [bd 2] (lwEnv fr cl)) [(fr,lwG (PP w b1 b2) I V0 g lb tb 3 bdA rn kd sg ls to tu tx (fg gg i) pr0 lp),(rn,oRun rd),(rd,dRun (PP w b1 b2) T V lm sa fm mt pt st ts),(pt,oDk w xs ep)] x 0 t 0 [0,2,2,2,0,2,9,7] (.ask [1,2,3] 99 340 (PF tx.length) (fun _ _=>pfSh w T V rd lm sa fm mt st ep tx i (I 13) xs (lvV lb lp)) fun p=>.keepT [0,1,2,3,4,5,6,7,8,9,10] 11)=(.ask (.fn 741 [.ref rn,.str (q (tx)) (I 13),.str (q (fg gg i)) (I 15)]) [(rn,(oRun rd)),(rd,(dRun (PP w b1 b2) T V lm sa fm (mt) pt st ts)),(pt,(oDk w xs ep))] [] x 0 t 0 1 340 (PF tx.length) ((fun x x_1=>pfSh w T V rd lm sa fm mt st ep tx i (I 13) xs (lvV lb lp)) (Nat.add x 0) (Nat.add t 0)) (fun p1=>(dn (.ok .next) ([((p1.k.1),⟨.type "dict",none,.dict ⟨(List.map (entryOfKey (TK w)) (kept1 [(kLast,15,lvV lb lp)] tx.length p1.k.tk tx i p1.ka p1.c.c.pr))⟩ (p1.k.ep),⟨[]⟩⟩),((p1.1),⟨.type "tuple",none,.seq ⟨[.str (q (tx)) (I 13),.str (q (fl i)) (p1.2)]⟩ 0,⟨[]⟩⟩),((p1.c.c.1),(oPr (p1.c.c.pd))),((p1.c.c.2),⟨.type "dict",none,.dict ⟨[en (PP w b1 b2) (q [114,111,119,115]) (p1.c.c.M 0) (.ref (p1.c.c.rl)),en (PP w b1 b2) (q [103,114,111,117,112,115]) (p1.c.c.M 1) (.int 0 (p1.c.c.tg)),en (PP w b1 b2) (q [114,101,103,105,115,116,101,114,115]) (p1.c.c.M 2) (.int 0 (p1.c.c.tr)),en (PP w b1 b2) (q [110,97,109,101,115]) (p1.c.c.M 3) (.ref (p1.c.nm))]⟩ 4,⟨[]⟩⟩),((p1.c.c.3),⟨.type "list",none,.seq ⟨(nrefs p1.c.ts++[Value.ref p1.c.c.en])⟩ (p1.c.c.ep),⟨[]⟩⟩),((p1.c.c.4),⟨.type "tuple",none,.seq ⟨[.str (q [101,110,100]) (p1.c.c.ke)]⟩ 0,⟨[]⟩⟩),((p1.c.3),⟨.type "dict",none,.dict ⟨[]⟩ 0,⟨[]⟩⟩),(fr,⟨.type "frame",none,.dict ⟨(cond g [en (PP w b1 b2) (q [115,99,114,105,112,116]) (I 0) (V0),en (PP w b1 b2) (q [98,111,97,114,100]) (I 1) (.ref bdA),en (PP w b1 b2) (q [114,117,110]) (I 2) (.ref rn),en (PP w b1 b2) (q [107,101,112,116]) (I 3) (.ref kd),en (PP w b1 b2) (q [115,105,103,110,115]) (I 4) (.int (Int.ofNat sg) (I 5)),en (PP w b1 b2) (q [115,116,101,112,115]) (I 6) (.int (Int.ofNat ls) (I 7)),en (PP w b1 b2) (q [116,111,108,100]) (I 8) (Bool.rec ((fun _=>Value.none) ()) ((fun _=>Value.int (Int.ofNat to) (I 9)) ()) tb),en (PP w b1 b2) (q [116,117,114,110]) (I 10) (.int (Int.ofNat tu) (I 11)),en (PP w b1 b2) (q [102,108,97,103,115]) (I 14) (.str (q (fg gg i)) (I 15)),en (PP w b1 b2) (q [116,101,120,116]) (I 12) (.str (q (tx)) (I 13)),en (PP w b1 b2) (q [112,114,111,103,114,97,109]) (I 16) (.ref (p1.c.c.pr)),en (PP w b1 b2) (q [108,97,115,116]) (I 17) (Bool.rec ((fun _=>Value.none) ()) ((fun _=>Value.ref lp) ()) lb)] [en (PP w b1 b2) (q [115,99,114,105,112,116]) (I 0) (V0),en (PP w b1 b2) (q [98,111,97,114,100]) (I 1) (.ref bdA),en (PP w b1 b2) (q [114,117,110]) (I 2) (.ref rn),en (PP w b1 b2) (q [107,101,112,116]) (I 3) (.ref kd),en (PP w b1 b2) (q [115,105,103,110,115]) (I 4) (.int (Int.ofNat sg) (I 5)),en (PP w b1 b2) (q [115,116,101,112,115]) (I 6) (.int (Int.ofNat ls) (I 7)),en (PP w b1 b2) (q [116,111,108,100]) (I 8) (Bool.rec ((fun _=>Value.none) ()) ((fun _=>Value.int (Int.ofNat to) (I 9)) ()) tb),en (PP w b1 b2) (q [116,117,114,110]) (I 10) (.int (Int.ofNat tu) (I 11)),en (PP w b1 b2) (q [102,108,97,103,115]) (I 14) (.str (q (fg gg i)) (I 15)),en (PP w b1 b2) (q [116,101,120,116]) (I 12) (.str (q (tx)) (I 13)),en (PP w b1 b2) (q [112,114,111,103,114,97,109]) (p1.6) (.ref (p1.c.c.pr))])⟩ (cond g 12 11),⟨[]⟩⟩),(rn,(oRun rd)),(rd,(dRun (PP w b1 b2) T V lm sa fm (mt) (p1.k.nd) (st+tx.length / 10) (p1.k.ts))),(pt,(oDk w xs ep))]++(pfSh w T V rd lm sa fm mt st ep tx i (I 13) xs (lvV lb lp) p1).tail) (p1.5) 0 (p1.6) 1 [fr,fr,fr,fr,fr]))):=by revert g b1 b2;apply bq3<;>kernel_rfl
theorem lt_c_l (w:World) (lb tb:Bool) (en2:Nat) (es:List DictEntry) (x t it bdA fr cl rn kd sg ls to tu pr lp ka ek pd rl nm tg tr tt kv tkv tkv2:Nat) (I:Nat→Nat) (M:Nat→Nat) (V0:Value) (tx fx:List Nat) (ys:List Ent) (g b1 b2:Bool):goT (PP w b1 b2) [(pr,oPr pd),(pd,dPr (PP w b1 b2) M rl 0 tg 0 tr nm),(nm,oSd es en2)] 320 100000 (lwLoop it fr cl) (evT (cmpL rwCmp) (lwEnv fr cl)) [(fr,lwG (PP w b1 b2) I V0 g lb tb 4 bdA rn kd sg ls to tu tx fx pr lp)] x 0 t 0 [2,1,0,0,0,0,0,1,0,0,0,0,1,0,1,0,0,1,1] (.keep [0])=(dn (.ok (.ret (.ref rl))) ([(fr,⟨.type "frame",none,.dict ⟨(cond g [en (PP w b1 b2) (q [115,99,114,105,112,116]) (I 0) (V0),en (PP w b1 b2) (q [98,111,97,114,100]) (I 1) (.ref bdA),en (PP w b1 b2) (q [114,117,110]) (I 2) (.ref rn),en (PP w b1 b2) (q [107,101,112,116]) (I 3) (.ref kd),en (PP w b1 b2) (q [115,105,103,110,115]) (I 4) (.int (Int.ofNat sg) (I 5)),en (PP w b1 b2) (q [115,116,101,112,115]) (I 6) (.int (Int.ofNat ls) (I 7)),en (PP w b1 b2) (q [116,111,108,100]) (I 8) (Bool.rec ((fun _=>Value.none) ()) ((fun _=>Value.int (Int.ofNat to) (I 9)) ()) tb),en (PP w b1 b2) (q [116,117,114,110]) (I 10) (.int (Int.ofNat tu) (I 11)),en (PP w b1 b2) (q [102,108,97,103,115]) (I 14) (.str (q (fx)) (I 15)),en (PP w b1 b2) (q [116,101,120,116]) (I 12) (.str (q (tx)) (I 13)),en (PP w b1 b2) (q [112,114,111,103,114,97,109]) (I 16) (.ref pr),en (PP w b1 b2) (q [108,97,115,116]) (I 17) (Bool.rec ((fun _=>Value.none) ()) ((fun _=>Value.ref lp) ()) lb)] [en (PP w b1 b2) (q [115,99,114,105,112,116]) (I 0) (V0),en (PP w b1 b2) (q [98,111,97,114,100]) (I 1) (.ref bdA),en (PP w b1 b2) (q [114,117,110]) (I 2) (.ref rn),en (PP w b1 b2) (q [107,101,112,116]) (I 3) (.ref kd),en (PP w b1 b2) (q [115,105,103,110,115]) (I 4) (.int (Int.ofNat sg) (I 5)),en (PP w b1 b2) (q [115,116,101,112,115]) (I 6) (.int (Int.ofNat ls) (I 7)),en (PP w b1 b2) (q [116,111,108,100]) (I 8) (Bool.rec ((fun _=>Value.none) ()) ((fun _=>Value.int (Int.ofNat to) (I 9)) ()) tb),en (PP w b1 b2) (q [116,117,114,110]) (I 10) (.int (Int.ofNat tu) (I 11)),en (PP w b1 b2) (q [102,108,97,103,115]) (I 14) (.str (q (fx)) (I 15)),en (PP w b1 b2) (q [116,101,120,116]) (I 12) (.str (q (tx)) (I 13)),en (PP w b1 b2) (q [112,114,111,103,114,97,109]) (I 16) (.ref pr)])⟩ (cond g 12 11),⟨[]⟩⟩)]) x 0 t 1 [pd,pr,pr,pr,pr,fr]):=by revert g b1 b2;apply bq3<;>kernel_rfl
theorem lt_c_r (w:World) (lb tb i:Bool) (en2:Nat) (es:List DictEntry) (x t it bdA fr cl rn kd sg ls to tu pr lp ka ek pd rl nm tg tr tt kv tkv tkv2:Nat) (I:Nat→Nat) (M:Nat→Nat) (V0:Value) (tx fx:List Nat) (ys:List Ent) (g b1 b2:Bool):goT (PP w b1 b2) [] 320 100000 (lwLoop it fr cl) (evT (cmpR rwCmp) (lwEnv fr cl)) [(fr,lwG (PP w b1 b2) I V0 g lb tb 4 bdA rn kd sg ls to tu tx fx pr lp),(cl,oCl true ka),(ka,oKey2 tx i (I 13))] x 0 t 0 (cond b2 [2,0,2,2,0,2,2,2,0,5,2,5,0,5,2] [2,0,2,2,0,4,4,0,4,0,4,2,2,2,0,5,2,5,0,5,2]) (.ask [] 99 950 Unit (newSh (fun x=>.ref x) (oIt "str_ascii_iterator" (.str (q tx) (I 13)) 0) []) fun _=>.ask [2,1,0,4,5] 99 330 (CR tx.length) (fun _ _=>crSh2 (PP w b1 b2) ka tx i (I 13)) fun p=>.ask [3,0] 8 950 Unit (newLs (nrefs p.ts++[.ref (a p.x 0)]) [oLst (nrefs p.ts) p.ep,oLst [.ref (a p.x 0)] 0]) fun _=>.keepT [0,2,6,7,8] 9)=(.ask (.bi (PySem.W.S.codeS "str.__iter__") [.str (q (tx)) (I 13)]) [] [] x 0 t 0 1 950 (Unit) ((newSh (fun x=>Value.ref x) (oIt "str_ascii_iterator" (Value.str (q tx) (I 13)) 0) []) (Nat.add x 0) (Nat.add t 0)) (fun p1=>(.ask (.code (crLoop (a x 0) (a x 1) (a x 2) fr cl)) [(x,⟨.type "str_ascii_iterator",none,.fields ⟨[.str (q (tx)) (I 13),.int 0 0]⟩,⟨[]⟩⟩),((a x 1),⟨.type "list",none,.seq ⟨[]⟩ 0,⟨[]⟩⟩),((a x 2),⟨.type "dict",none,.dict ⟨[]⟩ 0,⟨[]⟩⟩),(cl,⟨.type "cell",none,.cell (some (.ref ka)),⟨[]⟩⟩),(ka,⟨.type "tuple",none,.seq ⟨[.str (q (tx)) (I 13),.bool (i)]⟩ 0,⟨[]⟩⟩)] [] x 3 t 0 1 330 (CR tx.length) ((fun x x_1=>crSh2 (PP w b1 b2) ka tx i (I 13)) (Nat.add x 3) (Nat.add t 0)) (fun p2=>(.ask (.bi (PySem.W.S.codeS "list.__add__") [.ref (a x 1),.ref (a (p2.6) 1)]) [((a x 1),⟨.type "list",none,.seq ⟨(nrefs p2.ts)⟩ (p2.5),⟨[]⟩⟩),((a (p2.6) 1),⟨.type "list",none,.seq ⟨[.ref (p2.6)]⟩ 0,⟨[]⟩⟩)] ((crSh2 (PP w b1 b2) ka tx i (I 13) p2).tail) (p2.6) 2 (p2.7) 1 1 950 (Unit) ((newLs (nrefs p2.ts++[Value.ref (a p2.x 0)]) [oLst (nrefs p2.ts) p2.ep,oLst [Value.ref (a p2.x 0)] 0]) (Nat.add (p2.6) 2) (Nat.add (p2.7) 1)) (fun p3=>(dn (.ok (.ret (.ref (a (p2.6) 2)))) ([((a (p2.6) 2),⟨.type "list",none,.seq ⟨(nrefs p2.ts++[Value.ref (a p2.x 0)])⟩ 0,⟨[]⟩⟩),((p2.6),⟨.type "tuple",none,.seq ⟨[.str (q [101,110,100]) (p2.7)]⟩ 0,⟨[]⟩⟩),(fr,⟨.type "frame",none,.dict ⟨(cond g [en (PP w b1 b2) (q [115,99,114,105,112,116]) (I 0) (V0),en (PP w b1 b2) (q [98,111,97,114,100]) (I 1) (.ref bdA),en (PP w b1 b2) (q [114,117,110]) (I 2) (.ref rn),en (PP w b1 b2) (q [107,101,112,116]) (I 3) (.ref kd),en (PP w b1 b2) (q [115,105,103,110,115]) (I 4) (.int (Int.ofNat sg) (I 5)),en (PP w b1 b2) (q [115,116,101,112,115]) (I 6) (.int (Int.ofNat ls) (I 7)),en (PP w b1 b2) (q [116,111,108,100]) (I 8) (Bool.rec ((fun _=>Value.none) ()) ((fun _=>Value.int (Int.ofNat to) (I 9)) ()) tb),en (PP w b1 b2) (q [116,117,114,110]) (I 10) (.int (Int.ofNat tu) (I 11)),en (PP w b1 b2) (q [102,108,97,103,115]) (I 14) (.str (q (fx)) (I 15)),en (PP w b1 b2) (q [116,101,120,116]) (I 12) (.str (q (tx)) (I 13)),en (PP w b1 b2) (q [112,114,111,103,114,97,109]) (I 16) (.ref pr),en (PP w b1 b2) (q [108,97,115,116]) (I 17) (Bool.rec ((fun _=>Value.none) ()) ((fun _=>Value.ref lp) ()) lb)] [en (PP w b1 b2) (q [115,99,114,105,112,116]) (I 0) (V0),en (PP w b1 b2) (q [98,111,97,114,100]) (I 1) (.ref bdA),en (PP w b1 b2) (q [114,117,110]) (I 2) (.ref rn),en (PP w b1 b2) (q [107,101,112,116]) (I 3) (.ref kd),en (PP w b1 b2) (q [115,105,103,110,115]) (I 4) (.int (Int.ofNat sg) (I 5)),en (PP w b1 b2) (q [115,116,101,112,115]) (I 6) (.int (Int.ofNat ls) (I 7)),en (PP w b1 b2) (q [116,111,108,100]) (I 8) (Bool.rec ((fun _=>Value.none) ()) ((fun _=>Value.int (Int.ofNat to) (I 9)) ()) tb),en (PP w b1 b2) (q [116,117,114,110]) (I 10) (.int (Int.ofNat tu) (I 11)),en (PP w b1 b2) (q [102,108,97,103,115]) (I 14) (.str (q (fx)) (I 15)),en (PP w b1 b2) (q [116,101,120,116]) (I 12) (.str (q (tx)) (I 13)),en (PP w b1 b2) (q [112,114,111,103,114,97,109]) (I 16) (.ref pr)])⟩ (cond g 12 11),⟨[]⟩⟩),(cl,⟨.type "cell",none,.cell (some (.ref ka)),⟨[]⟩⟩),(ka,⟨.type "tuple",none,.seq ⟨[.str (q (tx)) (I 13),.bool (i)]⟩ 0,⟨[]⟩⟩)]++(crSh2 (PP w b1 b2) ka tx i (I 13) p2).tail++[]) (a (p2.6) 2) 1 (a (p2.7) 1) 0 (cond b2 [(a x 1),(a x 1),(a (p2.6) 1),(a x 1),(a x 2),(a x 2),(a x 2),x,fr] [(a x 1),(a x 1),(a (p2.6) 1),(a x 1),(a x 2),(a x 2),(a x 2),x,x,x,x,x,fr])))))))):=by revert g b1 b2;apply bq3<;>kernel_rfl
theorem lt_c_2 (w:World) (lb tb h h2:Bool) (en2:Nat) (es:List DictEntry) (x t it bdA fr cl rn kd sg ls to tu pr lp ka ek pd rl nm tg tr tt kv tkv tkv2:Nat) (I:Nat→Nat) (M:Nat→Nat) (V0:Value) (tx fx:List Nat) (ys:List Ent) (g b1 b2:Bool):goT (PP w b1 b2) [(pr,oPr pd),(pd,dPr (PP w b1 b2) M rl 0 tg 0 tr nm),(nm,oSd es en2)] 320 100000 (lwLoop it fr cl) (isT (orR (testE (bd 3))) (lwEnv fr cl)) [(fr,lwG (PP w b1 b2) I V0 g lb tb 4 bdA rn kd sg ls to tu tx fx pr lp),(cl,oCl true ka),(kd,oDk w ys ek)] x 0 t 0 [2,1,0,0,0,0,0,1,0,0,0,0,1,0,1,0,0,1,1,1,2,1,2,1,2,1,2,2,0,1,2,2,2,4,4,4,4,3,2,0,4,2,0,2] (.ask [] 99 950 Unit (kS (fun _=>.int (Int.ofNat kv) (cond h tkv (I 11))) [] 1) fun _=>.ask [2] 99 950 Unit (kS (fun _=>.int (Int.ofNat kv) (cond h2 tkv2 (I 11))) [oDk w ys ek] 3) fun _=>.val (fun _=>.bool false) 0 <| .keep [0,1,2])=(.ask (.bi (PySem.W.S.codeS "dict.get") [.ref nm,.str (q [116,117,114,110]) (a t 1),.int (Int.ofNat tu) (I 11)]) [] [] x 0 t 2 1 950 (Unit) ((kS (fun x=>Value.int (Int.ofNat kv) (bif h then tkv else I 11)) [] 1) (Nat.add x 0) (Nat.add t 2)) (fun p1=>(.ask (.bi (PySem.W.S.codeS "dict.get") [.ref kd,.ref ka,.int (Int.ofNat tu) (I 11)]) [(kd,⟨.type "dict",none,.dict ⟨(List.map (entryOfKey (TK w)) ys)⟩ ek,⟨[]⟩⟩)] [] x 0 (a t 2) 1 1 950 (Unit) ((kS (fun x=>Value.int (Int.ofNat kv) (bif h2 then tkv2 else I 11)) [oDk w ys ek] 3) (Nat.add x 0) (Nat.add (a t 2) 1)) (fun p2=>(.val (.bi (PySem.W.S.codeS "int.__ne__") [.int (Int.ofNat kv) (bif h then tkv else I 11),.int (Int.ofNat kv) (bif h2 then tkv2 else I 11)]) (.bool false) 0 (a t 6) 1 (dn (.ok (.ret (.bool false))) ([(fr,⟨.type "frame",none,.dict ⟨(cond g [en (PP w b1 b2) (q [115,99,114,105,112,116]) (I 0) (V0),en (PP w b1 b2) (q [98,111,97,114,100]) (I 1) (.ref bdA),en (PP w b1 b2) (q [114,117,110]) (I 2) (.ref rn),en (PP w b1 b2) (q [107,101,112,116]) (I 3) (.ref kd),en (PP w b1 b2) (q [115,105,103,110,115]) (I 4) (.int (Int.ofNat sg) (I 5)),en (PP w b1 b2) (q [115,116,101,112,115]) (I 6) (.int (Int.ofNat ls) (I 7)),en (PP w b1 b2) (q [116,111,108,100]) (I 8) (Bool.rec ((fun _=>Value.none) ()) ((fun _=>Value.int (Int.ofNat to) (I 9)) ()) tb),en (PP w b1 b2) (q [116,117,114,110]) (I 10) (.int (Int.ofNat tu) (I 11)),en (PP w b1 b2) (q [102,108,97,103,115]) (I 14) (.str (q (fx)) (I 15)),en (PP w b1 b2) (q [116,101,120,116]) (I 12) (.str (q (tx)) (I 13)),en (PP w b1 b2) (q [112,114,111,103,114,97,109]) (I 16) (.ref pr),en (PP w b1 b2) (q [108,97,115,116]) (I 17) (Bool.rec ((fun _=>Value.none) ()) ((fun _=>Value.ref lp) ()) lb)] [en (PP w b1 b2) (q [115,99,114,105,112,116]) (I 0) (V0),en (PP w b1 b2) (q [98,111,97,114,100]) (I 1) (.ref bdA),en (PP w b1 b2) (q [114,117,110]) (I 2) (.ref rn),en (PP w b1 b2) (q [107,101,112,116]) (I 3) (.ref kd),en (PP w b1 b2) (q [115,105,103,110,115]) (I 4) (.int (Int.ofNat sg) (I 5)),en (PP w b1 b2) (q [115,116,101,112,115]) (I 6) (.int (Int.ofNat ls) (I 7)),en (PP w b1 b2) (q [116,111,108,100]) (I 8) (Bool.rec ((fun _=>Value.none) ()) ((fun _=>Value.int (Int.ofNat to) (I 9)) ()) tb),en (PP w b1 b2) (q [116,117,114,110]) (I 10) (.int (Int.ofNat tu) (I 11)),en (PP w b1 b2) (q [102,108,97,103,115]) (I 14) (.str (q (fx)) (I 15)),en (PP w b1 b2) (q [116,101,120,116]) (I 12) (.str (q (tx)) (I 13)),en (PP w b1 b2) (q [112,114,111,103,114,97,109]) (I 16) (.ref pr)])⟩ (cond g 12 11),⟨[]⟩⟩),(cl,⟨.type "cell",none,.cell (some (.ref ka)),⟨[]⟩⟩),(kd,⟨.type "dict",none,.dict ⟨(List.map (entryOfKey (TK w)) ys)⟩ ek,⟨[]⟩⟩)]) x 0 (a t 3) 3 [kd,fr,cl,kd,kd,kd,kd,fr,nm,fr,nm,nm,nm,nm,pd,pr,pr,pr,pr,fr])))))):=by revert g b1 b2;apply bq3<;>kernel_rfl
theorem lt_d_hit (w:World) (lb tb:Bool) (x t it bdA fr cl rn kd sg ls to tu pr lp ka ek pd rl nm tg tr rd lm ld sa fm pt st ts lim tl stp tst en0:Nat) (I:Nat→Nat) (M T V W:Nat→Nat) (V0 mt v1:Value) (tx fx:List Nat) (ys zs:List Ent) (g b1 b2:Bool):goT (PP w b1 b2) [] 320 100000 (lwLoop it fr cl) (exT [bd 4] (lwEnv fr cl)) [(fr,lwG (PP w b1 b2) I V0 g lb tb 4 bdA rn kd sg ls to tu tx fx pr lp),(cl,oCl true ka),(kd,oDk w ys ek)] x 0 t 0 [3,2,4,4,0,4,2] (.ask [2] 99 950 Unit (kS (fun _=>.bool true) [oDk w ys ek] 3) fun _=>.keep [0,1,2])=(.ask (.bi (PySem.W.S.codeS "dict.__contains__") [.ref kd,.ref ka]) [(kd,⟨.type "dict",none,.dict ⟨(List.map (entryOfKey (TK w)) ys)⟩ ek,⟨[]⟩⟩)] [] x 0 t 0 1 950 (Unit) ((kS (fun x=>Value.bool true) [oDk w ys ek] 3) (Nat.add x 0) (Nat.add t 0)) (fun p1=>(dn (.ok .next) ([(fr,⟨.type "frame",none,.dict ⟨(cond g [en (PP w b1 b2) (q [115,99,114,105,112,116]) (I 0) (V0),en (PP w b1 b2) (q [98,111,97,114,100]) (I 1) (.ref bdA),en (PP w b1 b2) (q [114,117,110]) (I 2) (.ref rn),en (PP w b1 b2) (q [107,101,112,116]) (I 3) (.ref kd),en (PP w b1 b2) (q [115,105,103,110,115]) (I 4) (.int (Int.ofNat sg) (I 5)),en (PP w b1 b2) (q [115,116,101,112,115]) (I 6) (.int (Int.ofNat ls) (I 7)),en (PP w b1 b2) (q [116,111,108,100]) (I 8) (Bool.rec ((fun _=>Value.none) ()) ((fun _=>Value.int (Int.ofNat to) (I 9)) ()) tb),en (PP w b1 b2) (q [116,117,114,110]) (I 10) (.int (Int.ofNat tu) (I 11)),en (PP w b1 b2) (q [102,108,97,103,115]) (I 14) (.str (q (fx)) (I 15)),en (PP w b1 b2) (q [116,101,120,116]) (I 12) (.str (q (tx)) (I 13)),en (PP w b1 b2) (q [112,114,111,103,114,97,109]) (I 16) (.ref pr),en (PP w b1 b2) (q [108,97,115,116]) (I 17) (Bool.rec ((fun _=>Value.none) ()) ((fun _=>Value.ref lp) ()) lb)] [en (PP w b1 b2) (q [115,99,114,105,112,116]) (I 0) (V0),en (PP w b1 b2) (q [98,111,97,114,100]) (I 1) (.ref bdA),en (PP w b1 b2) (q [114,117,110]) (I 2) (.ref rn),en (PP w b1 b2) (q [107,101,112,116]) (I 3) (.ref kd),en (PP w b1 b2) (q [115,105,103,110,115]) (I 4) (.int (Int.ofNat sg) (I 5)),en (PP w b1 b2) (q [115,116,101,112,115]) (I 6) (.int (Int.ofNat ls) (I 7)),en (PP w b1 b2) (q [116,111,108,100]) (I 8) (Bool.rec ((fun _=>Value.none) ()) ((fun _=>Value.int (Int.ofNat to) (I 9)) ()) tb),en (PP w b1 b2) (q [116,117,114,110]) (I 10) (.int (Int.ofNat tu) (I 11)),en (PP w b1 b2) (q [102,108,97,103,115]) (I 14) (.str (q (fx)) (I 15)),en (PP w b1 b2) (q [116,101,120,116]) (I 12) (.str (q (tx)) (I 13)),en (PP w b1 b2) (q [112,114,111,103,114,97,109]) (I 16) (.ref pr)])⟩ (cond g 12 11),⟨[]⟩⟩),(cl,⟨.type "cell",none,.cell (some (.ref ka)),⟨[]⟩⟩),(kd,⟨.type "dict",none,.dict ⟨(List.map (entryOfKey (TK w)) ys)⟩ ek,⟨[]⟩⟩)]) x 0 t 3 [kd,kd,kd,fr,cl]))):=by revert g b1 b2;apply bq3<;>kernel_rfl
theorem lt_d_miss (w:World) (lb tb i:Bool) (x t it bdA fr cl rn kd sg ls to tu pr lp ka ek pd rl nm tg tr rd lm ld sa fm pt st ts lim tl stp tst en0:Nat) (I:Nat→Nat) (M T V W:Nat→Nat) (V0 mt v1:Value) (tx fx:List Nat) (ys zs:List Ent) (g b1 b2:Bool):goT (PP w b1 b2) [(pr,oPr pd),(pd,dPr (PP w b1 b2) M rl 0 tg 0 tr nm),(lm,oLim ld),(ld,dLim (PP w b1 b2) W v1 stp tst lim tl),(rn,oRun rd),(ka,oKey2 tx i (I 13))] 320 100000 (lwLoop it fr cl) (exT [bd 4] (lwEnv fr cl)) [(fr,lwG (PP w b1 b2) I V0 g lb tb 4 bdA rn kd sg ls to tu tx fx pr lp),(cl,oCl true ka),(kd,oDk w ys ek),(nm,oEmp),(rd,dRun (PP w b1 b2) T V lm sa fm mt pt st ts)] x 0 t 0 [3,2,4,4,0,4,2,2,2,1,0,0,0,0,0,1,0,0,0,0,1,0,1,0,0,1,1,5,5,0,5,2,2,0,0,2,0,2,0,2,2,0,0,2,0,2,0,2,0,2,2,2,2,0,2,0,2,2,0,2,0,2,2,3,2,0,2,0,2,0,2,2,3,2,0,2,0,2,0,2,2,3,2,0,2,6,4,6,4,6,6,1,4,0,0,0,0,1,4,0,0,0,1,4,1,4,0,10,1,2,0,0,0,0,1,2,0,0,0,1,2,1,2,0,1,3,0,0,2,6,6,7,8,8,0,8,2] (.ask [2] 99 950 Unit (kS (fun _=>.bool false) [oDk w ys ek] 3) fun _=>.ask [3] 99 950 (SD w (q [116,117,114,110]) (.int (Int.ofNat tu) (I 11))) (sdSh w (q [116,117,114,110]) (.int (Int.ofNat tu) (I 11))) fun _=>.val (fun t=>.int (Int.ofNat tx.length) (a t 1)) 2 <| .val (fun t=>.int (Int.ofNat (sg+tx.length)) t) 1 <| .val (fun t=>.int (Int.ofNat tx.length) (a t 1)) 2 <| .val (fun t=>.int (Int.ofNat (tx.length / 10)) t) 1 <| .val (fun t=>.int (Int.ofNat (ls+tx.length / 10)) t) 1 <| .val (fun _=>.bool false) 0 <| .ask [6] 99 950 Nat (dsSh w (storedH ys (kKey tx i) ka (.int (Int.ofNat tu) (I 11))) [] 3) fun _=>.keep [4,5,6,7,8])=(.ask (.bi (PySem.W.S.codeS "dict.__contains__") [.ref kd,.ref ka]) [(kd,⟨.type "dict",none,.dict ⟨(List.map (entryOfKey (TK w)) ys)⟩ ek,⟨[]⟩⟩)] [] x 0 t 0 1 950 (Unit) ((kS (fun x=>Value.bool false) [oDk w ys ek] 3) (Nat.add x 0) (Nat.add t 0)) (fun p1=>(.ask (.bi (PySem.W.S.codeS "dict.__setitem__") [.ref nm,.str (q [116,117,114,110]) (a t 4),.int (Int.ofNat tu) (I 11)]) [(nm,⟨.type "dict",none,.dict ⟨[]⟩ 0,⟨[]⟩⟩)] [] x 0 t 5 1 950 (SD w (q [116,117,114,110]) (Value.int (Int.ofNat tu) (I 11))) ((sdSh w (q [116,117,114,110]) (Value.int (Int.ofNat tu) (I 11))) (Nat.add x 0) (Nat.add t 5)) (fun p2=>(.val (.bi (PySem.W.S.codeS "len") [.str (q (tx)) (I 13)]) (.int (Int.ofNat (tx.length)) (a t 7)) 2 (a t 6) 1 (.val (.bi (PySem.W.S.codeS "int.__add__") [.int (Int.ofNat sg) (I 5),.int (Int.ofNat (tx.length)) (a t 7)]) (.int (Int.ofNat (sg+tx.length)) (a t 8)) 1 (a t 8) 1 (.val (.bi (PySem.W.S.codeS "len") [.str (q (tx)) (I 13)]) (.int (Int.ofNat (tx.length)) (a t 10)) 2 (a t 9) 1 (.val (.bi (PySem.W.S.codeS "int.__floordiv__") [.int (Int.ofNat (tx.length)) (a t 10),.int 10 (a t 11)]) (.int (Int.ofNat (tx.length / 10)) (a t 12)) 1 (a t 12) 1 (.val (.bi (PySem.W.S.codeS "int.__add__") [.int (Int.ofNat ls) (I 7),.int (Int.ofNat (tx.length / 10)) (a t 12)]) (.int (Int.ofNat (ls+tx.length / 10)) (a t 13)) 1 (a t 13) 1 (.val (.bi (PySem.W.S.codeS "int.__gt__") [.int (Int.ofNat (sg+tx.length)) (a t 8),.int (Int.ofNat lim) tl]) (.bool false) 0 (a t 18) 1 (.ask (.bi (PySem.W.S.codeS "dict.__setitem__") [.ref kd,.ref ka,.int (Int.ofNat tu) (I 11)]) [(kd,⟨.type "dict",none,.dict ⟨(List.map (entryOfKey (TK w)) ys)⟩ ek,⟨[]⟩⟩)] [] x 4 (a t 5) 13 1 950 (Nat) ((dsSh w (storedH ys (kKey tx i) ka (Value.int (Int.ofNat tu) (I 11))) [] 3) (Nat.add x 4) (Nat.add (a t 5) 13)) (fun p3=>(dn (.ok .next) ([(fr,⟨.type "frame",none,.dict ⟨(cond g [en (PP w b1 b2) (q [115,99,114,105,112,116]) (I 0) (V0),en (PP w b1 b2) (q [98,111,97,114,100]) (I 1) (.ref bdA),en (PP w b1 b2) (q [114,117,110]) (I 2) (.ref rn),en (PP w b1 b2) (q [107,101,112,116]) (I 3) (.ref kd),en (PP w b1 b2) (q [115,105,103,110,115]) (I 4) (.int (Int.ofNat (sg+tx.length)) (a t 8)),en (PP w b1 b2) (q [115,116,101,112,115]) (I 6) (.int (Int.ofNat (ls+tx.length / 10)) (a t 13)),en (PP w b1 b2) (q [116,111,108,100]) (I 8) (Bool.rec ((fun _=>Value.none) ()) ((fun _=>Value.int (Int.ofNat to) (I 9)) ()) tb),en (PP w b1 b2) (q [116,117,114,110]) (I 10) (.int (Int.ofNat tu) (I 11)),en (PP w b1 b2) (q [102,108,97,103,115]) (I 14) (.str (q (fx)) (I 15)),en (PP w b1 b2) (q [116,101,120,116]) (I 12) (.str (q (tx)) (I 13)),en (PP w b1 b2) (q [112,114,111,103,114,97,109]) (I 16) (.ref pr),en (PP w b1 b2) (q [108,97,115,116]) (I 17) (Bool.rec ((fun _=>Value.none) ()) ((fun _=>Value.ref lp) ()) lb)] [en (PP w b1 b2) (q [115,99,114,105,112,116]) (I 0) (V0),en (PP w b1 b2) (q [98,111,97,114,100]) (I 1) (.ref bdA),en (PP w b1 b2) (q [114,117,110]) (I 2) (.ref rn),en (PP w b1 b2) (q [107,101,112,116]) (I 3) (.ref kd),en (PP w b1 b2) (q [115,105,103,110,115]) (I 4) (.int (Int.ofNat (sg+tx.length)) (a t 8)),en (PP w b1 b2) (q [115,116,101,112,115]) (I 6) (.int (Int.ofNat (ls+tx.length / 10)) (a t 13)),en (PP w b1 b2) (q [116,111,108,100]) (I 8) (Bool.rec ((fun _=>Value.none) ()) ((fun _=>Value.int (Int.ofNat to) (I 9)) ()) tb),en (PP w b1 b2) (q [116,117,114,110]) (I 10) (.int (Int.ofNat tu) (I 11)),en (PP w b1 b2) (q [102,108,97,103,115]) (I 14) (.str (q (fx)) (I 15)),en (PP w b1 b2) (q [116,101,120,116]) (I 12) (.str (q (tx)) (I 13)),en (PP w b1 b2) (q [112,114,111,103,114,97,109]) (I 16) (.ref pr)])⟩ (cond g 12 11),⟨[]⟩⟩),(cl,⟨.type "cell",none,.cell (some (.ref ka)),⟨[]⟩⟩),(kd,⟨.type "dict",none,.dict ⟨(List.map (entryOfKey (TK w)) (storedH ys (kKey tx i) ka (Value.int (Int.ofNat tu) (I 11))))⟩ p3,⟨[]⟩⟩),(nm,⟨.type "dict",none,.dict ⟨(p2.es)⟩ (p2.2),⟨[]⟩⟩),(rd,(dRun (PP w b1 b2) T V lm sa fm (mt) pt st ts))]) (a x 4) 0 (a t 18) 3 [kd,kd,kd,cl,fr,fr,ld,lm,lm,lm,lm,rd,rn,rn,rn,rn,fr,fr,fr,fr,fr,fr,(a x 3),(a x 1),(a x 1),x,(a x 1),(a x 1),(a x 1),(a x 1),(a x 1),(a x 1),x,(a x 1),(a x 1),(a x 1),(a x 1),(a x 1),(a x 1),x,(a x 1),(a x 1),(a x 1),(a x 1),(a x 1),x,x,x,x,fr,fr,fr,fr,nm,nm,nm,pd,pr,pr,pr,pr,fr,fr,kd,kd,kd,fr,cl]))))))))))))):=by revert g b1 b2;apply bq3<;>kernel_rfl
theorem lt_d_flush (w:World) (lb tb i:Bool) (x t it bdA fr cl rn kd sg ls to tu pr lp ka ek pd rl nm tg tr rd lm ld sa fm pt st ts lim tl stp tst en0:Nat) (I:Nat→Nat) (M T V W:Nat→Nat) (V0 mt v1:Value) (tx fx:List Nat) (ys zs:List Ent) (g b1 b2:Bool):goT (PP w b1 b2) [(pr,oPr pd),(pd,dPr (PP w b1 b2) M rl 0 tg 0 tr nm),(lm,oLim ld),(ld,dLim (PP w b1 b2) W v1 stp tst lim tl),(rn,oRun rd),(ka,oKey2 tx i (I 13))] 320 100000 (lwLoop it fr cl) (exT [bd 4] (lwEnv fr cl)) [(fr,lwG (PP w b1 b2) I V0 g lb tb 4 bdA rn kd sg ls to tu tx fx pr lp),(cl,oCl true ka),(kd,oDk w ys ek),(nm,oEmp),(rd,dRun (PP w b1 b2) T V lm sa fm mt pt st ts)] x 0 t 0 [3,2,4,4,0,4,2,2,2,1,0,0,0,0,0,1,0,0,0,0,1,0,1,0,0,1,1,5,5,0,5,2,2,0,0,2,0,2,0,2,2,0,0,2,0,2,0,2,0,2,2,2,2,0,2,0,2,2,0,2,0,2,2,3,2,0,2,0,2,0,2,2,3,2,0,2,0,2,0,2,2,3,2,0,2,6,4,6,4,6,6,1,4,0,0,0,0,1,4,0,0,0,1,4,1,4,0,10,1,2,0,0,0,0,1,2,0,0,0,1,2,1,2,0,1,3,0,0,2,0,0,7,0,2,2,2,2,0,2,0,2,2,0,2,0,2,2,3,2,0,2,0,2,0,2,2,3,2,0,2,0,2,0,2,2,3,2,0,2,11,9,11,9,11,11,12,6,6,0,6,2] (.ask [2] 99 950 Unit (kS (fun _=>.bool false) [oDk w ys ek] 3) fun _=>.ask [3] 99 950 (SD w (q [116,117,114,110]) (.int (Int.ofNat tu) (I 11))) (sdSh w (q [116,117,114,110]) (.int (Int.ofNat tu) (I 11))) fun _=>.val (fun t=>.int (Int.ofNat tx.length) (a t 1)) 2 <| .val (fun t=>.int (Int.ofNat (sg+tx.length)) t) 1 <| .val (fun t=>.int (Int.ofNat tx.length) (a t 1)) 2 <| .val (fun t=>.int (Int.ofNat (tx.length / 10)) t) 1 <| .val (fun t=>.int (Int.ofNat (ls+tx.length / 10)) t) 1 <| .val (fun _=>.bool true) 0 <| .val (fun t=>.int (Int.ofNat tx.length) (a t 1)) 2 <| .ask [4] 99 950 Nat (dsSh w zs [] 3) fun _=>.keep [4,9,10,11,12,13])=(.ask (.bi (PySem.W.S.codeS "dict.__contains__") [.ref kd,.ref ka]) [(kd,⟨.type "dict",none,.dict ⟨(List.map (entryOfKey (TK w)) ys)⟩ ek,⟨[]⟩⟩)] [] x 0 t 0 1 950 (Unit) ((kS (fun x=>Value.bool false) [oDk w ys ek] 3) (Nat.add x 0) (Nat.add t 0)) (fun p1=>(.ask (.bi (PySem.W.S.codeS "dict.__setitem__") [.ref nm,.str (q [116,117,114,110]) (a t 4),.int (Int.ofNat tu) (I 11)]) [(nm,⟨.type "dict",none,.dict ⟨[]⟩ 0,⟨[]⟩⟩)] [] x 0 t 5 1 950 (SD w (q [116,117,114,110]) (Value.int (Int.ofNat tu) (I 11))) ((sdSh w (q [116,117,114,110]) (Value.int (Int.ofNat tu) (I 11))) (Nat.add x 0) (Nat.add t 5)) (fun p2=>(.val (.bi (PySem.W.S.codeS "len") [.str (q (tx)) (I 13)]) (.int (Int.ofNat (tx.length)) (a t 7)) 2 (a t 6) 1 (.val (.bi (PySem.W.S.codeS "int.__add__") [.int (Int.ofNat sg) (I 5),.int (Int.ofNat (tx.length)) (a t 7)]) (.int (Int.ofNat (sg+tx.length)) (a t 8)) 1 (a t 8) 1 (.val (.bi (PySem.W.S.codeS "len") [.str (q (tx)) (I 13)]) (.int (Int.ofNat (tx.length)) (a t 10)) 2 (a t 9) 1 (.val (.bi (PySem.W.S.codeS "int.__floordiv__") [.int (Int.ofNat (tx.length)) (a t 10),.int 10 (a t 11)]) (.int (Int.ofNat (tx.length / 10)) (a t 12)) 1 (a t 12) 1 (.val (.bi (PySem.W.S.codeS "int.__add__") [.int (Int.ofNat ls) (I 7),.int (Int.ofNat (tx.length / 10)) (a t 12)]) (.int (Int.ofNat (ls+tx.length / 10)) (a t 13)) 1 (a t 13) 1 (.val (.bi (PySem.W.S.codeS "int.__gt__") [.int (Int.ofNat (sg+tx.length)) (a t 8),.int (Int.ofNat lim) tl]) (.bool true) 0 (a t 18) 1 (.val (.bi (PySem.W.S.codeS "len") [.str (q (tx)) (I 13)]) (.int (Int.ofNat (tx.length)) (a t 19)) 2 (a t 18) 1 (.ask (.bi (PySem.W.S.codeS "dict.__setitem__") [.ref (a x 4),.ref ka,.int (Int.ofNat tu) (I 11)]) [((a x 4),⟨.type "dict",none,.dict ⟨[]⟩ 0,⟨[]⟩⟩)] [] x 9 (a t 5) 17 1 950 (Nat) ((dsSh w zs [] 3) (Nat.add x 9) (Nat.add (a t 5) 17)) (fun p3=>(dn (.ok .next) ([((a x 4),⟨.type "dict",none,.dict ⟨(List.map (entryOfKey (TK w)) zs)⟩ p3,⟨[]⟩⟩),(fr,⟨.type "frame",none,.dict ⟨(cond g [en (PP w b1 b2) (q [115,99,114,105,112,116]) (I 0) (V0),en (PP w b1 b2) (q [98,111,97,114,100]) (I 1) (.ref bdA),en (PP w b1 b2) (q [114,117,110]) (I 2) (.ref rn),en (PP w b1 b2) (q [107,101,112,116]) (I 3) (.ref (a x 4)),en (PP w b1 b2) (q [115,105,103,110,115]) (I 4) (.int (Int.ofNat (tx.length)) (a t 19)),en (PP w b1 b2) (q [115,116,101,112,115]) (I 6) (.int (Int.ofNat (ls+tx.length / 10)) (a t 13)),en (PP w b1 b2) (q [116,111,108,100]) (I 8) (Bool.rec ((fun _=>Value.none) ()) ((fun _=>Value.int (Int.ofNat to) (I 9)) ()) tb),en (PP w b1 b2) (q [116,117,114,110]) (I 10) (.int (Int.ofNat tu) (I 11)),en (PP w b1 b2) (q [102,108,97,103,115]) (I 14) (.str (q (fx)) (I 15)),en (PP w b1 b2) (q [116,101,120,116]) (I 12) (.str (q (tx)) (I 13)),en (PP w b1 b2) (q [112,114,111,103,114,97,109]) (I 16) (.ref pr),en (PP w b1 b2) (q [108,97,115,116]) (I 17) (Bool.rec ((fun _=>Value.none) ()) ((fun _=>Value.ref lp) ()) lb)] [en (PP w b1 b2) (q [115,99,114,105,112,116]) (I 0) (V0),en (PP w b1 b2) (q [98,111,97,114,100]) (I 1) (.ref bdA),en (PP w b1 b2) (q [114,117,110]) (I 2) (.ref rn),en (PP w b1 b2) (q [107,101,112,116]) (I 3) (.ref (a x 4)),en (PP w b1 b2) (q [115,105,103,110,115]) (I 4) (.int (Int.ofNat (tx.length)) (a t 19)),en (PP w b1 b2) (q [115,116,101,112,115]) (I 6) (.int (Int.ofNat (ls+tx.length / 10)) (a t 13)),en (PP w b1 b2) (q [116,111,108,100]) (I 8) (Bool.rec ((fun _=>Value.none) ()) ((fun _=>Value.int (Int.ofNat to) (I 9)) ()) tb),en (PP w b1 b2) (q [116,117,114,110]) (I 10) (.int (Int.ofNat tu) (I 11)),en (PP w b1 b2) (q [102,108,97,103,115]) (I 14) (.str (q (fx)) (I 15)),en (PP w b1 b2) (q [116,101,120,116]) (I 12) (.str (q (tx)) (I 13)),en (PP w b1 b2) (q [112,114,111,103,114,97,109]) (I 16) (.ref pr)])⟩ (cond g 12 11),⟨[]⟩⟩),(cl,⟨.type "cell",none,.cell (some (.ref ka)),⟨[]⟩⟩),(kd,⟨.type "dict",none,.dict ⟨(List.map (entryOfKey (TK w)) ys)⟩ ek,⟨[]⟩⟩),(nm,⟨.type "dict",none,.dict ⟨(p2.es)⟩ (p2.2),⟨[]⟩⟩),(rd,(dRun (PP w b1 b2) T V lm sa fm (mt) pt st ts))]) (a x 9) 0 (a t 22) 3 [(a x 4),(a x 4),(a x 4),cl,fr,fr,fr,fr,fr,fr,(a x 8),(a x 6),(a x 6),(a x 5),(a x 6),(a x 6),(a x 6),(a x 6),(a x 6),(a x 6),(a x 5),(a x 6),(a x 6),(a x 6),(a x 6),(a x 6),(a x 6),(a x 5),(a x 6),(a x 6),(a x 6),(a x 6),(a x 6),(a x 5),(a x 5),(a x 5),(a x 5),fr,ld,lm,lm,lm,lm,rd,rn,rn,rn,rn,fr,fr,fr,fr,fr,fr,(a x 3),(a x 1),(a x 1),x,(a x 1),(a x 1),(a x 1),(a x 1),(a x 1),(a x 1),x,(a x 1),(a x 1),(a x 1),(a x 1),(a x 1),(a x 1),x,(a x 1),(a x 1),(a x 1),(a x 1),(a x 1),x,x,x,x,fr,fr,fr,fr,nm,nm,nm,pd,pr,pr,pr,pr,fr,fr,kd,kd,kd,fr,cl])))))))))))))):=by revert g b1 b2;apply bq3<;>kernel_rfl
theorem lt_e_t (w:World) (lb tb:Bool) (x t it bdA n tn fr cl rn kd sg ls to tu pr lp:Nat) (I:Nat→Nat) (B:Nat→Bool) (V0:Value) (tx fx:List Nat) (sv:List Value) (g b1 b2:Bool):goT (PP w b1 b2) [] 320 100000 (lwLoop it fr cl) (isT (testE (bd 5)) (lwEnv fr cl)) [(fr,lwG (PP w b1 b2) I V0 g lb tb 4 bdA rn kd sg ls to tu tx fx pr lp),(bdA,oBd n tn sv 0)] x 0 t 0 [0,2,0,2,0,2] (.ask [1] 99 900 (PG 3) (fun _ _=>pgSh sv 0 n 3) fun pg=>.val (fun _=>.bool (B pg.r)) 0 <| .keep [0,1])=(.ask (.fn 986 [.ref bdA,.int 3 t]) [(bdA,⟨.type "list",none,.seq ⟨((.int (Int.ofNat n) tn)::sv)⟩ 0,⟨[]⟩⟩)] [] x 0 t 1 1 900 (PG 3) ((fun x x_1=>pgSh sv 0 n 3) (Nat.add x 0) (Nat.add t 1)) (fun p1=>(.val (.bi (PySem.W.S.codeS "int.__eq__") [.int (Int.ofNat (p1.1)) (p1.3),.int 1 (p1.6)]) (.bool (B p1.r)) 0 (a (p1.6) 1) 1 (dn (.ok (.ret (.bool (B p1.r)))) ([(fr,⟨.type "frame",none,.dict ⟨(cond g [en (PP w b1 b2) (q [115,99,114,105,112,116]) (I 0) (V0),en (PP w b1 b2) (q [98,111,97,114,100]) (I 1) (.ref bdA),en (PP w b1 b2) (q [114,117,110]) (I 2) (.ref rn),en (PP w b1 b2) (q [107,101,112,116]) (I 3) (.ref kd),en (PP w b1 b2) (q [115,105,103,110,115]) (I 4) (.int (Int.ofNat sg) (I 5)),en (PP w b1 b2) (q [115,116,101,112,115]) (I 6) (.int (Int.ofNat ls) (I 7)),en (PP w b1 b2) (q [116,111,108,100]) (I 8) (Bool.rec ((fun _=>Value.none) ()) ((fun _=>Value.int (Int.ofNat to) (I 9)) ()) tb),en (PP w b1 b2) (q [116,117,114,110]) (I 10) (.int (Int.ofNat tu) (I 11)),en (PP w b1 b2) (q [102,108,97,103,115]) (I 14) (.str (q (fx)) (I 15)),en (PP w b1 b2) (q [116,101,120,116]) (I 12) (.str (q (tx)) (I 13)),en (PP w b1 b2) (q [112,114,111,103,114,97,109]) (I 16) (.ref pr),en (PP w b1 b2) (q [108,97,115,116]) (I 17) (Bool.rec ((fun _=>Value.none) ()) ((fun _=>Value.ref lp) ()) lb)] [en (PP w b1 b2) (q [115,99,114,105,112,116]) (I 0) (V0),en (PP w b1 b2) (q [98,111,97,114,100]) (I 1) (.ref bdA),en (PP w b1 b2) (q [114,117,110]) (I 2) (.ref rn),en (PP w b1 b2) (q [107,101,112,116]) (I 3) (.ref kd),en (PP w b1 b2) (q [115,105,103,110,115]) (I 4) (.int (Int.ofNat sg) (I 5)),en (PP w b1 b2) (q [115,116,101,112,115]) (I 6) (.int (Int.ofNat ls) (I 7)),en (PP w b1 b2) (q [116,111,108,100]) (I 8) (Bool.rec ((fun _=>Value.none) ()) ((fun _=>Value.int (Int.ofNat to) (I 9)) ()) tb),en (PP w b1 b2) (q [116,117,114,110]) (I 10) (.int (Int.ofNat tu) (I 11)),en (PP w b1 b2) (q [102,108,97,103,115]) (I 14) (.str (q (fx)) (I 15)),en (PP w b1 b2) (q [116,101,120,116]) (I 12) (.str (q (tx)) (I 13)),en (PP w b1 b2) (q [112,114,111,103,114,97,109]) (I 16) (.ref pr)])⟩ (cond g 12 11),⟨[]⟩⟩),(bdA,⟨.type "list",none,.seq ⟨((.int (Int.ofNat (a n 1)) (p1.4))::sv)⟩ 0,⟨[]⟩⟩)]) (p1.5) 0 (p1.6) 1 [fr])))):=by revert g b1 b2;apply bq3<;>kernel_rfl
theorem lt_e_yes (w:World) (lb:Bool) (x t it bdA n tn fr cl rn kd sg ls to tu pr lp ka ek rd lm sa es fm pt ep st ts r3 t3 ma lp2 kv tkv:Nat) (I:Nat→Nat) (T V:Nat→Nat) (V0:Value) (tx fx:List Nat) (ys xs zs:List Ent) (svs sv:List Value) (g tb mb l2 b1 b2:Bool):goT (PP w b1 b2) [(rn,oRun rd)] 320 100000 (lwLoop it fr cl) (exT (fthen (bd 5)) (lwEnv fr cl)) [(fr,lwG (PP w b1 b2) I V0 g lb tb 4 bdA rn kd sg ls to tu tx fx pr lp),(cl,oCl true ka),(kd,oDk w ys ek),(rd,dRun (PP w b1 b2) T V lm sa fm (lvV mb ma) pt st ts),(sa,oLst svs es),(pt,oDk w xs ep)] x 0 t 0 [0,2,5,0,1,0,0,2,0,2,0,2,0,0,0,0,2,0,1,0,0,2,0,0,0,2,1,0,0,0,0,0,1,0,0,0,0,1,0,1,0,0,10,11,11,11,11,2,1,0,0,0,0,0,1,0,0,0,0,1,0,1,0,0,10,0,2,0,1,0,0,2,0,0,0,2,1,0,0,0,0,0,1,0,0,0,0,1,0,1,0,0,11,13,13,13,13,0,0,13,2,0,13,2,5,5,1,0,0,0,0,0,1,0,0,0,1,0,0,1,0,0,0,0,1,0,0,12,10,12,5,5,1,0,0,0,0,0,1,0,0,0,0,1,0,1,0,0,12,0,14,14,0,14,2,9,10,11,11,11,0,11,2,9,7] (.ask [11] 99 950 Unit (kS (fun _=>lvV l2 lp2) [oDk w xs ep] 3) fun _=>.ask [11] 99 950 Unit (kS (fun _=>.none) [oLst (svs++[.ref (a x 6)]) (es+1)] 0) fun _=>.ask [12] 99 950 Nat (dsSh w zs [] 3) fun _=>.ask [9] 99 950 Unit (kS (fun _=>.int (Int.ofNat kv) tkv) [oDk w ys ek] 3) fun _=>.keep [7,8,9,10,11,12])=(.ask (.bi (PySem.W.S.codeS "dict.get") [.ref pt,.ref 15]) [(pt,(oDk w xs ep))] [] x 6 t 12 4 950 (Unit) ((kS (fun x=>lvV l2 lp2) [oDk w xs ep] 3) (Nat.add x 6) (Nat.add t 12)) (fun p1=>(.ask (.bi (PySem.W.S.codeS "list.append") [.ref sa,.ref (a x 6)]) [(sa,⟨.type "list",none,.seq ⟨(svs)⟩ es,⟨[]⟩⟩)] [] (a x 6) 1 (a t 12) 3 3 950 (Unit) ((kS (fun x=>Value.none) [oLst (svs++[Value.ref (a x 6)]) (es+1)] 0) (Nat.add (a x 6) 1) (Nat.add (a t 12) 3)) (fun p2=>(.ask (.bi (PySem.W.S.codeS "dict.__setitem__") [.ref pt,.ref 15,.ref pr]) [(pt,(oDk w xs ep))] [] (a x 7) 0 (a t 15) 3 2 950 (Nat) ((dsSh w zs [] 3) (Nat.add (a x 7) 0) (Nat.add (a t 15) 3)) (fun p3=>(.ask (.bi (PySem.W.S.codeS "dict.__getitem__") [.ref kd,.ref ka]) [(kd,⟨.type "dict",none,.dict ⟨(List.map (entryOfKey (TK w)) ys)⟩ ek,⟨[]⟩⟩)] [] (a x 7) 0 (a t 18) 3 1 950 (Unit) ((kS (fun x=>Value.int (Int.ofNat kv) tkv) [oDk w ys ek] 3) (Nat.add (a x 7) 0) (Nat.add (a t 18) 3)) (fun p4=>(dn (.ok .next) ([(fr,⟨.type "frame",none,.dict ⟨(cond g [en (PP w b1 b2) (q [115,99,114,105,112,116]) (I 0) (V0),en (PP w b1 b2) (q [98,111,97,114,100]) (I 1) (.ref bdA),en (PP w b1 b2) (q [114,117,110]) (I 2) (.ref rn),en (PP w b1 b2) (q [107,101,112,116]) (I 3) (.ref kd),en (PP w b1 b2) (q [115,105,103,110,115]) (I 4) (.int (Int.ofNat sg) (I 5)),en (PP w b1 b2) (q [115,116,101,112,115]) (I 6) (.int (Int.ofNat ls) (I 7)),en (PP w b1 b2) (q [116,111,108,100]) (I 8) (.int (Int.ofNat kv) tkv),en (PP w b1 b2) (q [116,117,114,110]) (I 10) (.int (Int.ofNat tu) (I 11)),en (PP w b1 b2) (q [102,108,97,103,115]) (I 14) (.str (q (fx)) (I 15)),en (PP w b1 b2) (q [116,101,120,116]) (I 12) (.str (q (tx)) (I 13)),en (PP w b1 b2) (q [112,114,111,103,114,97,109]) (I 16) (.ref pr),en (PP w b1 b2) (q [108,97,115,116]) (I 17) (Bool.rec ((fun _=>Value.none) ()) ((fun _=>Value.ref lp) ()) lb)] [en (PP w b1 b2) (q [115,99,114,105,112,116]) (I 0) (V0),en (PP w b1 b2) (q [98,111,97,114,100]) (I 1) (.ref bdA),en (PP w b1 b2) (q [114,117,110]) (I 2) (.ref rn),en (PP w b1 b2) (q [107,101,112,116]) (I 3) (.ref kd),en (PP w b1 b2) (q [115,105,103,110,115]) (I 4) (.int (Int.ofNat sg) (I 5)),en (PP w b1 b2) (q [115,116,101,112,115]) (I 6) (.int (Int.ofNat ls) (I 7)),en (PP w b1 b2) (q [116,111,108,100]) (I 8) (.int (Int.ofNat kv) tkv),en (PP w b1 b2) (q [116,117,114,110]) (I 10) (.int (Int.ofNat tu) (I 11)),en (PP w b1 b2) (q [102,108,97,103,115]) (I 14) (.str (q (fx)) (I 15)),en (PP w b1 b2) (q [116,101,120,116]) (I 12) (.str (q (tx)) (I 13)),en (PP w b1 b2) (q [112,114,111,103,114,97,109]) (I 16) (.ref pr)])⟩ (cond g 12 11),⟨[]⟩⟩),(cl,⟨.type "cell",none,.cell (some (.ref ka)),⟨[]⟩⟩),(kd,⟨.type "dict",none,.dict ⟨(List.map (entryOfKey (TK w)) ys)⟩ ek,⟨[]⟩⟩),(rd,(dRun (PP w b1 b2) T V lm sa fm (.ref (a x 2)) pt st ts)),(sa,⟨.type "list",none,.seq ⟨(svs++[Value.ref (a x 6)])⟩ (a es 1),⟨[]⟩⟩),(pt,⟨.type "dict",none,.dict ⟨(List.map (entryOfKey (TK w)) zs)⟩ p3,⟨[]⟩⟩)]) (a x 7) 0 (a t 21) 4 [fr,fr,kd,kd,kd,kd,cl,fr,pt,pt,pt,rd,rn,rn,rn,rn,(a x 3),(a x 3),rd,rd,rd,rn,rn,rn,rn,rn,(a x 3),(a x 3),sa,pt,pt,pt,pt,pt,rd,rn,rn,rn,rn,(a x 5),(a x 5),(a x 5),(a x 4),rd,rn,rn,rn,rn,(a x 4),sa,sa,sa,sa,rd,rn,rn,rn,rn,(a x 4),(a x 4),(a x 4),(a x 3),(a x 3),(a x 3),(a x 3),(a x 3),(a x 3),(a x 3),fr,fr]))))))))):=by cases g<;>cases tb<;>(revert mb l2 b1 b2;apply bq4<;>kernel_rfl)
theorem lt_f_none (w:World) (x t it fr cl rn kd sg ls to tu pr lp rd lm sa fm pt ep ts bdA pd rl nm tg tr en2 tkl lp0:Nat) (I:Nat→Nat) (T V M:Nat→Nat) (V0 mt:Value) (tx fx:List Nat) (xs:List Ent) (es:List DictEntry) (g lb b1 b2:Bool):goT (PP w b1 b2) [(rn,oRun rd)] 320 100000 (lwLoop it fr cl) (exT [bd 6,bd 7] (lwEnv fr cl)) [(fr,lwG (PP w b1 b2) I V0 g lb false 4 bdA rn kd sg ls to tu tx fx pr lp),(rd,dRun (PP w b1 b2) T V lm sa fm mt pt ls ts),(pt,oDk w xs ep)] x 0 t 0 [0,2,0,1,0,0,2,0,0,0,2,1,0,0,0,0,0,1,0,0,0,0,1,0,1,0,0,4,5,5,5,5,0,0,5,2,3,1,3,1,0,0,0,0,0,1,0,0,0,0,1,0,1,0,0,4,3,0,2,3,3,0,0] (.ask [3] 99 950 Unit (kS (fun _=>.none) [oDk w xs ep] 3) fun _=>.val (fun _=>.bool false) 0 <| .keep [1,2,3])=(.ask (.bi (PySem.W.S.codeS "dict.get") [.ref pt,.ref 15]) [(pt,(oDk w xs ep))] [] x 1 t 2 2 950 (Unit) ((kS (fun x=>Value.none) [oDk w xs ep] 3) (Nat.add x 1) (Nat.add t 2)) (fun p1=>(.val (.bi (PySem.W.S.codeS "int.__ne__") [.int (Int.ofNat ls) ts,.int (Int.ofNat ls) (I 7)]) (.bool false) 0 (a t 7) 1 (dn (.ok .next) ([(fr,⟨.type "frame",none,.dict ⟨[en (PP w b1 b2) (q [115,99,114,105,112,116]) (I 0) (V0),en (PP w b1 b2) (q [98,111,97,114,100]) (I 1) (.ref bdA),en (PP w b1 b2) (q [114,117,110]) (I 2) (.ref rn),en (PP w b1 b2) (q [107,101,112,116]) (I 3) (.ref kd),en (PP w b1 b2) (q [115,105,103,110,115]) (I 4) (.int (Int.ofNat sg) (I 5)),en (PP w b1 b2) (q [115,116,101,112,115]) (I 6) (.int (Int.ofNat ls) (I 7)),en (PP w b1 b2) (q [116,111,108,100]) (I 8) .none,en (PP w b1 b2) (q [116,117,114,110]) (I 10) (.int (Int.ofNat tu) (I 11)),en (PP w b1 b2) (q [102,108,97,103,115]) (I 14) (.str (q (fx)) (I 15)),en (PP w b1 b2) (q [116,101,120,116]) (I 12) (.str (q (tx)) (I 13)),en (PP w b1 b2) (q [112,114,111,103,114,97,109]) (I 16) (.ref pr),en (PP w b1 b2) (q [108,97,115,116]) (cond g (I 17) (a t 5)) .none]⟩ 12,⟨[]⟩⟩),(rd,(dRun (PP w b1 b2) T V lm sa fm (mt) pt ls ts)),(pt,(oDk w xs ep))]) (a x 1) 0 (a t 2) 5 [fr,fr,fr,rd,rn,rn,rn,rn,fr,fr,fr,pt,pt,pt,pt,pt,rd,rn,rn,rn,rn,x,x,x,fr])))):=by revert g lb b1 b2;apply bq4<;>kernel_rfl
theorem lt_f_some (w:World) (x t it fr cl rn kd sg ls to tu pr lp rd lm sa fm pt ep ts bdA pd rl nm tg tr en2 tkl lp0:Nat) (I:Nat→Nat) (T V M:Nat→Nat) (V0 mt:Value) (tx fx:List Nat) (xs:List Ent) (es:List DictEntry) (g lb b1 b2:Bool):goT (PP w b1 b2) [(rn,oRun rd),(lp0,oPr pd),(pd,dPr (PP w b1 b2) M rl 0 tg 0 tr nm),(nm,oSd es en2)] 320 100000 (lwLoop it fr cl) (exT [bd 6,bd 7] (lwEnv fr cl)) [(fr,lwG (PP w b1 b2) I V0 g lb true 4 bdA rn kd sg ls to tu tx fx pr lp),(rd,dRun (PP w b1 b2) T V lm sa fm mt pt ls ts),(pt,oDk w xs ep)] x 0 t 0 [0,2,0,1,0,0,2,0,0,0,2,1,0,0,0,0,0,1,0,0,0,0,1,0,1,0,0,4,5,5,5,5,0,0,5,2,3,1,3,1,0,0,0,0,0,1,0,0,0,0,1,0,1,0,0,4,3,0,2,3,3,1,1,0,0,0,0,1,1,0,0,0,1,1,1,1,0,1,2,1,3,1,3,1,3,0,1,3,2,0,3,0,2] (.ask [3] 99 950 Unit (kS (fun _=>.ref lp0) [oDk w xs ep] 3) fun _=>.val (fun _=>.bool false) 0 <| .ask [] 99 950 Unit (kS (fun _=>.int (Int.ofNat to) tkl) [] 1) fun _=>.val (fun _=>.bool false) 0 <| .keep [1,2,3])=(.ask (.bi (PySem.W.S.codeS "dict.get") [.ref pt,.ref 15]) [(pt,(oDk w xs ep))] [] x 1 t 2 2 950 (Unit) ((kS (fun x=>Value.ref lp0) [oDk w xs ep] 3) (Nat.add x 1) (Nat.add t 2)) (fun p1=>(.val (.bi (PySem.W.S.codeS "int.__ne__") [.int (Int.ofNat ls) ts,.int (Int.ofNat ls) (I 7)]) (.bool false) 0 (a t 7) 1 (.ask (.bi (PySem.W.S.codeS "dict.__getitem__") [.ref nm,.str (q [116,117,114,110]) (a t 8)]) [] [] (a x 1) 0 (a t 2) 7 1 950 (Unit) ((kS (fun x=>Value.int (Int.ofNat to) tkl) [] 1) (Nat.add (a x 1) 0) (Nat.add (a t 2) 7)) (fun p2=>(.val (.bi (PySem.W.S.codeS "int.__ne__") [.int (Int.ofNat to) tkl,.int (Int.ofNat to) (I 9)]) (.bool false) 0 (a t 10) 1 (dn (.ok .next) ([(fr,⟨.type "frame",none,.dict ⟨[en (PP w b1 b2) (q [115,99,114,105,112,116]) (I 0) (V0),en (PP w b1 b2) (q [98,111,97,114,100]) (I 1) (.ref bdA),en (PP w b1 b2) (q [114,117,110]) (I 2) (.ref rn),en (PP w b1 b2) (q [107,101,112,116]) (I 3) (.ref kd),en (PP w b1 b2) (q [115,105,103,110,115]) (I 4) (.int (Int.ofNat sg) (I 5)),en (PP w b1 b2) (q [115,116,101,112,115]) (I 6) (.int (Int.ofNat ls) (I 7)),en (PP w b1 b2) (q [116,111,108,100]) (I 8) (.int (Int.ofNat to) (I 9)),en (PP w b1 b2) (q [116,117,114,110]) (I 10) (.int (Int.ofNat tu) (I 11)),en (PP w b1 b2) (q [102,108,97,103,115]) (I 14) (.str (q (fx)) (I 15)),en (PP w b1 b2) (q [116,101,120,116]) (I 12) (.str (q (tx)) (I 13)),en (PP w b1 b2) (q [112,114,111,103,114,97,109]) (I 16) (.ref pr),en (PP w b1 b2) (q [108,97,115,116]) (cond g (I 17) (a t 5)) (.ref lp0)]⟩ 12,⟨[]⟩⟩),(rd,(dRun (PP w b1 b2) T V lm sa fm (mt) pt ls ts)),(pt,(oDk w xs ep))]) (a x 1) 0 (a t 9) 1 [fr,nm,nm,nm,nm,pd,lp0,lp0,lp0,lp0,fr,fr,fr,rd,rn,rn,rn,rn,fr,fr,fr,pt,pt,pt,pt,pt,rd,rn,rn,rn,rn,x,x,x,fr]))))))):=by revert g lb b1 b2;apply bq4<;>kernel_rfl
end
noncomputable section
open SeqAt
theorem all_true (n:Nat):(List.range n).all (fun _=>true)=true:=by simp
def Pairs (P:Value→Value→Prop):List Value→List Value→Prop
 | [],ys=>ys=[]
 | x::xs,ys=>∃ y r,ys=y::r∧P x y∧Pairs P xs r
theorem Pairs.len {P:Value→Value→Prop}:∀ {xs ys:List Value},Pairs P xs ys→xs.length=ys.length
 | [],_,h=>by rw [show _=[] from h]
 | x::xs,_,⟨y,r,e,_,h⟩=>by rw [e,List.length_cons,List.length_cons,h.len]
theorem Pairs.at {P:Value→Value→Prop}:∀ {xs ys:List Value},Pairs P xs ys→∀ j (h1:j < xs.length) (h2:j < ys.length),P xs[j] ys[j]
 | x::xs,_,⟨y,r,e,p,h⟩,j,h1,h2=>by
  subst e
  cases j with
  | zero=>exact p
  | succ j=>exact h.at j (Nat.lt_of_succ_lt_succ h1) (Nat.lt_of_succ_lt_succ h2)
theorem eq_tups {A:Around} {s:Shared} {r1 r2:Nat} {xs ys:List Value} (h1:s.heap.get? r1=some (oTup xs)) (h2:s.heap.get? r2=some (oTup ys)) (hu:A.units < cLine) (hp:Pairs (fun x y=>EqAt A.in1 s x y true) xs ys):EqAt A s (.ref r1) (.ref r2) true:=by
 by_cases hr:r1=r2
 ·subst hr;exact EqAt.same _
 ·have z:=RcAt.tuples (A:=A) (s:=s) (l:=r1) (b:=r2) (items:=⟨xs⟩) (items2:=⟨ys⟩) (e:=fun _=>true) ⟨_,h1,rfl,0,rfl⟩ ⟨_,h2,rfl,0,rfl⟩ hu (fun j j1 j2=>hp.at j j1 j2)
  have e:((List.range (min (⟨xs⟩:Array Value).size (⟨ys⟩:Array Value).size)).all (fun _=>true) && (⟨xs⟩:Array Value).size == (⟨ys⟩:Array Value).size)=true:=by
   rw [all_true]
   show (true && xs.length == ys.length)=true
   rw [hp.len]
   simp
  rw [e] at z
  exact EqAt.of_refs hr z
theorem ne_lists {w:World} {A:Around} {s:Shared} {l1 l2 e1 e2:Nat} {xs ys:List Value} {Q:Value→Shared→Prop} {E:Value→Shared→Prop} (h1:s.heap.get? l1=some (oLst xs e1)) (h2:s.heap.get? l2=some (oLst ys e2)) (hu:A.units < cLine) (hp:Pairs (fun x y=>EqAt A.in1 s x y true) xs ys)
  (hQ:Q (.bool false) s):wpAny (MW w) A (compareOp .NotEq (.ref l1) (.ref l2)) Q E s:=by
 have z:=RcNeAt.lists (A:=A) (s:=s) (l:=l1) (b:=l2) (items:=⟨xs⟩) (items2:=⟨ys⟩) (e:=fun _=>true) ⟨_,h1,rfl,e1,rfl⟩ ⟨_,h2,rfl,e2,rfl⟩ hp.len hu (fun j j1 j2=>hp.at j j1 j2)
 have e:(!(List.range (⟨xs⟩:Array Value).size).all (fun _=>true))=false:=by rw [all_true];rfl
 rw [e] at z
 exact z pw_qz0137_01 w E Q hQ
theorem eq_strs {A:Around} {s:Shared} (l:Str) (t u:Tok):EqAt A s (.str l t) (.str l u) true:=by
 have z:=EqAt.str_str (A:=A) (s:=s) l t l u
 rw [beq_self_eq_true] at z
 exact z
theorem eq_rows {A:Around} {s:Shared} {f:Bool} {e1 e2 k1 k2:Nat} (hu:A.in1.units < cLine) (he1:s.heap.get? e1=some (oTup [.str (q [101,110,100]) k1])) (he2:s.heap.get? e2=some (oTup [.str (q [101,110,100]) k2])):
  ∀ (tx:List Nat) (ts us:List Nd),ts.length=tx.length→us.length=tx.length→(∀ q∈nodes f tx ts,s.heap.get? q.1=some q.2)→(∀ q∈nodes f tx us,s.heap.get? q.1=some q.2) →
   Pairs (fun x y=>EqAt A.in1 s x y true) (nrefs ts++[.ref e1]) (nrefs us++[.ref e2])
 | [],ts,us,h1,h2,n1,n2=>by
  rw [List.eq_nil_of_length_eq_zero h1,List.eq_nil_of_length_eq_zero h2]
  exact ⟨_,[],rfl,eq_tups he1 he2 hu ⟨_,[],rfl,eq_strs _ _ _,rfl⟩,rfl⟩
 | c::tx,ts,us,h1,h2,n1,n2=>by
  cases ts with
  | nil=>exact absurd h1 (Nat.succ_ne_zero _).symm
  | cons a ts=>
   cases us with
   | nil=>exact absurd h2 (Nat.succ_ne_zero _).symm
   | cons b us=>
    refine ⟨.ref b.r,nrefs us++[.ref e2],rfl,?_,eq_rows hu he1 he2 tx ts us (Nat.succ.inj h1) (Nat.succ.inj h2) (fun q hq=>n1 q (.tail _ hq)) (fun q hq=>n2 q (.tail _ hq))⟩
    exact eq_tups (n1 _ (.head _)) (n2 _ (.head _)) hu ⟨_,_,rfl,eq_strs _ _ _,_,_,rfl,eq_strs _ _ _,_,_,rfl,EqAt.same _,rfl⟩
end
noncomputable section
def StepOK (w:World) (G:Heap→Prop) (c:Code) (D:Nat) (b:List Stmt) (env:Env) (l:Led) (x t:Nat) {P:Type} (sh:P→Shape):Prop:=
 ∀ (g:Heap) (A:Around) (Q:Flow→Shared→Prop) (gs:Array GenState) (d:Drawn) (os:OsState) (h:Heap),G g→Low D A→Rep g l x h →
  (∀ p h',Rep g ((sh p).all l) (Nat.add (sh p).x (sh p).m) h'→Q .next ⟨h',gs,d,Nat.add (sh p).t (sh p).i,os⟩)→wpOwn (MW w) A c (execs b env) Q (fun _ _=>False) ⟨h,gs,d,t,os⟩
theorem step_run {w:World} {G:Heap→Prop} {kl l:Led} {x t D n:Nat} {c:Code} {b:List Stmt} {env:Env} {ds:List Nat} {sc:Scr} {o:Out} {P:Type} {sh:P→Shape} (e:goT w.params kl D n c (exT b env) l x 0 t 0 ds sc=o) (hG:Grd w kl G) (hw:c.weight≤5)
  (H:∀ (g:Heap) (A:Around) (Q:Flow→Shared→Prop) (gs:Array GenState) (d:Drawn) (os:OsState),G g→Low D A→(∀ p h',Rep g ((sh p).all l) (Nat.add (sh p).x (sh p).m) h'→Q .next ⟨h',gs,d,Nat.add (sh p).t (sh p).i,os⟩) →
   o.ok ⟨pw_qz0137_01,w,kt w.params,kl,G,D,g,A,fun r s'=>match r with | .ok f=>Q f s' | _=>False,gs,d,os⟩):StepOK w G c D b env l x t sh:=
 fun g A Q gs d os h hg low rep K=>piece_execs (x:=x) (m:=0) (t:=t) (i:=0) hG hg low hw rep e (H g A Q gs d os hg low K)
theorem use_step {w:World} {G:Heap→Prop} {c:Code} {D:Nat} {b:List Stmt} {env:Env} {l L:Led} {x t:Nat} {P:Type} {sh:P→Shape} {ps:List Nat} {g h:Heap} {A:Around} {Q:Flow→Shared→Prop} {gs:Array GenState} {d:Drawn} {os:OsState}
  (H:StepOK w G c D b env l x t sh) (hs:sel L ps=some l) (hG:G (hideAll h (l.map (·.1)))) (low:Low D A) (rep:Rep g L x h) (hlen:∀ p,(sh p).upd.length=l.length)
  (K:∀ p h',Rep g ((sh p).new++puts L ps (sh p).upd++(sh p).tail) (Nat.add (sh p).x (sh p).m) h'→Q .next ⟨h',gs,d,Nat.add (sh p).t (sh p).i,os⟩):wpOwn (MW w) A c (execs b env) Q (fun _ _=>False) ⟨h,gs,d,t,os⟩:=by
 have s:=sel_spec hs
 exact H _ A Q gs d os h hG low (rep.hide s) fun p h' D'=>K p h' (rep.back s (hlen p) D')
theorem other_hide {g h:Heap} {L l:Led} {n:Nat} {ps:List Nat} (D:Rep g L n h) (s:Sel L ps l) {p:Nat} {q:Addr × Obj} (e:nth L p=some q) (hp:p ∉ ps):(hideAll h (l.map (·.1))).get? q.1=some q.2:=by
 refine hideAll_get _ (D.at e) fun hm=>?_
 obtain ⟨r,hr,er⟩:=List.mem_map.mp hm
 obtain ⟨p',hp',e'⟩:=s.at r hr
 have:=nth_inj D.nd e e' er.symm
 exact hp (this ▸ hp')
theorem other_of {g h:Heap} {L:Led} {n:Nat} (D:Rep g L n h) {S:List Addr} {q:Addr × Obj} (hq:q∈L) (hn:q.1 ∉ S):(hideAll h S).get? q.1=some q.2:=hideAll_get _ (D.own q hq).1 hn
theorem rep_finish {g g2 h:Heap} {L L2:Led} {n:Nat} (r:Rep g2 L2 n h) (sub:∀ b o,g.get? b=some o→g2.get? b=some o) (own:∀ q∈L,h.get? q.1=some q.2) (hn:∀ q∈L,g.get? q.1=none) (nd:(L.map (·.1)).Nodup):Rep g L n h:=
 ⟨r.size,fun q hq=>⟨own q hq,hn q hq⟩,nd,fun b o e=>r.keep b o (sub b o e)⟩
theorem then_next {w:World} {A:Around} {c:Code} {b:List Stmt} {env:Env} {Q:Flow→Shared→Prop} {s s':Shared} (h:wpOwn (MW w) A c (execs b env) Q (fun _ _=>False) s'):thenF w A c b env Q (fun _ _=>False) .next s':=h
def G1 (w:World):Heap→Prop:=fun g=>G0 w g∧(g.get? 1).isSome=true
theorem G1_mono (w:World):∀ g g':Heap,(∀ b o,g.get? b=some o→g'.get? b=some o)→G1 w g→G1 w g':=fun g g' k h=>⟨G0_mono w g g' k h.1,by
 obtain ⟨o,e⟩:=Option.isSome_iff_exists.mp h.2
 rw [k _ _ e]
 rfl⟩
theorem not_sys {w:World} {g h:Heap} {L:Led} {n:Nat} (hg:G1 w g) (r:Rep g L n h) {q:Addr × Obj} (hq:q∈L):(q.1 == sysModules)=false:=by
 refine beq_eq_false_iff_ne.mpr fun e=>?_
 have h1:=(r.own q hq).2
 have h2:=hg.2
 rw [e] at h1
 rw [show (1:Nat)=sysModules from rfl,h1] at h2
 cases h2
def sTurn:Str:=q [116,117,114,110]
structure ProgOK (w:World) (i:Bool) (tx:List Nat) (pr v:Nat) (g:Heap):Prop where
 ex:∃ (pd rl nm tg tr ep e ke en2 tk:Nat) (M:Nat→Nat) (ts:List Nd) (es:List DictEntry),ts.length=tx.length∧g.get? pr=some (oPr pd)∧g.get? pd=some (dPr w.params M rl 0 tg 0 tr nm)∧g.get? rl=some (oLst (nrefs ts++[.ref e]) ep)∧g.get? e=some (oTup [.str (q [101,110,100]) ke]) ∧
  (∀ q∈nodes i tx ts,g.get? q.1=some q.2)∧g.get? nm=some (oSd es en2)∧KeysOf (sk w) ⟨es⟩∧findBy (sk w).is ⟨es⟩ sTurn=some (.int (Int.ofNat v) tk)∧(nm == sysModules)=false
theorem ProgOK.mono {w:World} {i:Bool} {tx:List Nat} {pr v:Nat} {g g':Heap} (h:ProgOK w i tx pr v g) (k:∀ b o,g.get? b=some o→g'.get? b=some o):ProgOK w i tx pr v g':=by
 obtain ⟨pd,rl,nm,tg,tr,ep,e,ke,en2,tk,M,ts,es,h0,h1,h2,h3,h4,h5,h6,h7,h8⟩:=h.ex
 exact ⟨pd,rl,nm,tg,tr,ep,e,ke,en2,tk,M,ts,es,h0,k _ _ h1,k _ _ h2,k _ _ h3,k _ _ h4,fun q hq=>k _ _ (h5 q hq),k _ _ h6,h7,h8⟩
structure GT (w:World) (L0:Led) (xs ys:List Ent) (lb:Bool) (lp to:Nat) (g:Heap):Prop where
 base:G1 w g
 l0:∀ q∈L0,g.get? q.1=some q.2
 kx:Keys w xs g
 ky:Keys w ys g
 progs:∀ (tx:List Nat) (i:Bool) (a:Addr) (v:Value),tx≠[]→atKey xs (kText tx i)=some (a,v)→∃ pr tu a2 tk,v=.ref pr∧ProgOK w i tx pr tu g∧atKey ys (kKey tx i)=some (a2,.int (Int.ofNat tu) tk)
 none:∀ (tx:List Nat) (i:Bool),tx≠[]→atKey xs (kText tx i)=Option.none→atKey ys (kKey tx i)=Option.none
 last:((atKey xs kLast).map (·.2)).getD .none=lvV lb lp
 told:lb=true→∃ i tx,ProgOK w i tx lp to g
theorem GT.mono {w:World} {L0:Led} {xs ys:List Ent} {lb:Bool} {lp to:Nat} {g g':Heap} (h:GT w L0 xs ys lb lp to g) (k:∀ b o,g.get? b=some o→g'.get? b=some o):GT w L0 xs ys lb lp to g' where
 base:=G1_mono w g g' k h.base
 l0:=fun q hq=>k _ _ (h.l0 q hq)
 kx:=h.kx.mono k
 ky:=h.ky.mono k
 progs:=fun tx i a v hne e=>by
  obtain ⟨pr,tu,a2,tk,h1,h2,h3⟩:=h.progs tx i a v hne e
  exact ⟨pr,tu,a2,tk,h1,h2.mono k,h3⟩
 none:=h.none
 last:=h.last
 told:=fun e=>by
  obtain ⟨i,tx,h1⟩:=h.told e
  exact ⟨i,tx,h1.mono k⟩
end
noncomputable section
theorem seqIx {n k:Nat} (h:n < k):seqIndex? (Int.ofNat n) k=some n:=by
 have ei:Int.ofNat n=(n:Int):=rfl
 unfold seqIndex?
 simp only [ei]
 split<;>(try split)<;>simp_all<;>omega
theorem tup_get {w:World} {G:Heap→Prop} {kn:Led} {b x m t i D k:Nat} {u:Tok} {items:List Value} {v:Value} (hv:items[k]?=some v) (hf:items.length≤sizeLine):
  AskOK pw_qz0137_01 w G (.bi (PySem.W.S.codeS "tuple.__getitem__") [.ref b,.int (Int.ofNat k) u]) [(b,oTup items)] kn x m t i D (kS (fun _=>v) [oTup items] 0 (Nat.add x m) (Nat.add t i)):=by
 have hs:sizeLine=16777216:=rfl
 have hk:k < items.length:=(List.getElem?_eq_some_iff.mp hv).1
 have ei:Int.ofNat k=(k:Int):=rfl
 have h1:-2 ^ 63≤Int.ofNat k:=by omega
 have h2:Int.ofNat k < 2 ^ 63:=by omega
 have h3:seqIndex? (Int.ofNat k) (⟨items⟩:Array Value).size=some k:=seqIx hk
 have h4:(⟨items⟩:Array Value)[k]?=some v:=by simpa using hv
 generalize Int.ofNat k=z at h1 h2 h3
 have M:=MeetsSeq.tuple_getitem_at b ⟨items⟩ 0 z u k v h1 h2 h3 h4
 exact ask_meets (by decide +kernel) F.entry_tuple_getitem M fun g A R gs d os h hg _ _ rep K=>⟨(rep.own _ (.head _)).1,K () _ rep⟩
theorem fg_get {w:World} {G:Heap→Prop} {kn:Led} {b x m t i D r u k1 k2 k3 k4:Nat} (hr:r < 4):
  AskOK pw_qz0137_01 w G (.bi (PySem.W.S.codeS "tuple.__getitem__") [.ref b,.int (Int.ofNat r) u]) [(b,oTup [.str (q []) k1,.str (q [103]) k2,.str (q [105]) k3,.str (q [103,105]) k4])] kn x m t i D (fgSh [oTup [.str (q []) k1,.str (q [103]) k2,.str (q [105]) k3,.str (q [103,105]) k4]] (Nat.add x m) (Nat.add t i)):=by
 have hz:(4:Nat)≤sizeLine:=by decide
 intro c hc g A R gs d os h hg hkn low rep K
 rcases (by omega:r=0∨r=1∨r=2∨r=3) with rfl | rfl | rfl | rfl
 ·exact tup_get (w:=w) (G:=G) (kn:=kn) (i:=i) (D:=D) (items:=[.str (q []) k1,.str (q [103]) k2,.str (q [105]) k3,.str (q [103,105]) k4]) (k:=0) (v:=.str (q []) k1) rfl hz c hc g A R gs d os h hg hkn low rep fun _ h' r=>K ⟨false,false,k1⟩ h' r
 ·exact tup_get (w:=w) (G:=G) (kn:=kn) (i:=i) (D:=D) (items:=[.str (q []) k1,.str (q [103]) k2,.str (q [105]) k3,.str (q [103,105]) k4]) (k:=1) (v:=.str (q [103]) k2) rfl hz c hc g A R gs d os h hg hkn low rep fun _ h' r=>K ⟨true,false,k2⟩ h' r
 ·exact tup_get (w:=w) (G:=G) (kn:=kn) (i:=i) (D:=D) (items:=[.str (q []) k1,.str (q [103]) k2,.str (q [105]) k3,.str (q [103,105]) k4]) (k:=2) (v:=.str (q [105]) k3) rfl hz c hc g A R gs d os h hg hkn low rep fun _ h' r=>K ⟨false,true,k3⟩ h' r
 ·exact tup_get (w:=w) (G:=G) (kn:=kn) (i:=i) (D:=D) (items:=[.str (q []) k1,.str (q [103]) k2,.str (q [105]) k3,.str (q [103,105]) k4]) (k:=3) (v:=.str (q [103,105]) k4) rfl hz c hc g A R gs d os h hg hkn low rep fun _ h' r=>K ⟨true,true,k4⟩ h' r
theorem v_has_i {w:World} {G:Heap→Prop} {t D:Nat} {u v:Tok} {gg i:Bool}:ValOK pw_qz0137_01 w G (.bi (PySem.W.S.codeS "str.__contains__") [.str (q (fg gg i)) u,.str (q [105]) v]) (.bool i) 0 t D:=by
 have e:(!(Builtin.Str.occurrences (q (fg gg i)) (q [105]) 0 (q (fg gg i)).length 1).isEmpty)=i:=by
  cases gg<;>cases i<;>decide +kernel
 have z:=v_val (w:=w) (G:=G) (t:=t) (D:=D) (id:="str.__contains__") (by decide +kernel) F.entry_str_contains (gives_str_contains (q (fg gg i)) (q [105]) u v)
 rw [e] at z
 exact z
end
noncomputable section
theorem pg_in (w:World) (x t b n tn e mn tm len:Nat) (sv:List Value) (v:Int) (r tv:Nat) (b1 b2:Bool):go (PP w b1 b2) [] 900 100000 (.call (.ref 986) ⟨[.ref b,.int (Int.ofNat mn) tm],[]⟩) [(b,oBd n tn sv e)] x 0 t 0 [1,0,0,2,0,2,0,0,0,2,3,3,3,0,3,0,3,2,0,2,0,2,2,3,3,0,3,2,2,0,2,0,0,2,0,2,0,2,2,2,0,2,3,3,3,0,3,2,2,0,2] (.val (fun t=>.int (Int.ofNat (n+1)) t) 1 <| .ask [1] 99 950 Unit (kS (fun _=>.none) [oBd (n+1) (a t 5) sv e] 0) fun _=>.val (fun t=>.int (Int.ofNat (n+1)) t) 1 <| .ask [1] 99 950 Unit (kS (fun t=>.int (Int.ofNat len) (a t 1)) [oBd (n+1) (a t 5) sv e] 2) fun _=>.val (fun _=>.bool true) 0 <| .val (fun t=>.int (Int.ofNat (n+1)) t) 1 <| .ask [1] 99 950 Unit (kS (fun _=>.int v tv) [oBd (n+1) (a t 5) sv e] 0) fun _=>.val (fun t=>.int (Int.ofNat r) t) 1 <| .keep [1])=(.val (.bi (PySem.W.S.codeS "int.__add__") [.int (Int.ofNat n) tn,.int 1 (a t 4)]) (.int (Int.ofNat (a n 1)) (a t 5)) 1 (a t 5) 1 (.ask (.bi (PySem.W.S.codeS "list.__setitem__") [.ref b,.int 0 (a t 6),.int (Int.ofNat (a n 1)) (a t 5)]) [(b,⟨.type "list",none,.seq ⟨((.int (Int.ofNat n) tn)::sv)⟩ e,⟨[]⟩⟩)] [] x 1 t 7 1 950 (Unit) ((kS (fun x=>Value.none) [oBd (n+1) (a t 5) sv e] 0) (Nat.add x 1) (Nat.add t 7)) (fun p1=>(.val (.bi (PySem.W.S.codeS "int.__add__") [.int (Int.ofNat n) tn,.int 1 (a t 7)]) (.int (Int.ofNat (a n 1)) (a t 8)) 1 (a t 8) 1 (.ask (.bi (PySem.W.S.codeS "len") [.ref b]) [(b,⟨.type "list",none,.seq ⟨((.int (Int.ofNat (a n 1)) (a t 5))::sv)⟩ e,⟨[]⟩⟩)] [] (a x 1) 0 (a t 7) 2 1 950 (Unit) ((kS (fun t=>Value.int (Int.ofNat len) (a t 1)) [oBd (n+1) (a t 5) sv e] 2) (Nat.add (a x 1) 0) (Nat.add (a t 7) 2)) (fun p2=>(.val (.bi (PySem.W.S.codeS "int.__lt__") [.int (Int.ofNat (a n 1)) (a t 8),.int (Int.ofNat len) (a t 10)]) (.bool true) 0 (a t 11) 1 (.val (.bi (PySem.W.S.codeS "int.__add__") [.int (Int.ofNat n) tn,.int 1 (a t 11)]) (.int (Int.ofNat (a n 1)) (a t 12)) 1 (a t 12) 1 (.ask (.bi (PySem.W.S.codeS "list.__getitem__") [.ref b,.int (Int.ofNat (a n 1)) (a t 12)]) [(b,⟨.type "list",none,.seq ⟨((.int (Int.ofNat (a n 1)) (a t 5))::sv)⟩ e,⟨[]⟩⟩)] [] (a x 1) 0 (a t 9) 4 1 950 (Unit) ((kS (fun x=>Value.int v tv) [oBd (n+1) (a t 5) sv e] 0) (Nat.add (a x 1) 0) (Nat.add (a t 9) 4)) (fun p3=>(.val (.bi (PySem.W.S.codeS "int.__mod__") [.int (v) tv,.int (Int.ofNat mn) tm]) (.int (Int.ofNat r) (a t 13)) 1 (a t 13) 1 (dn (.ok (.ret (.int (Int.ofNat r) (a t 13)))) ([(b,⟨.type "list",none,.seq ⟨((.int (Int.ofNat (a n 1)) (a t 5))::sv)⟩ e,⟨[]⟩⟩)]) (a x 1) 0 (a t 13) 1 [x,b,b,b,b,x,x,x,x,b,b,b,x,x,x,x,b,b,b,b,b,x,x,x,x,x])))))))))))):=by revert b1 b2;apply bq2<;>kernel_rfl
theorem pg_out (w:World) (x t b n tn e mn tm len:Nat) (sv:List Value) (v:Int) (r tv:Nat) (b1 b2:Bool):go (PP w b1 b2) [] 900 100000 (.call (.ref 986) ⟨[.ref b,.int (Int.ofNat mn) tm],[]⟩) [(b,oBd n tn sv e)] x 0 t 0 [1,0,0,2,0,2,0,0,0,2,3,3,3,0,3,0,3,2,0,2,0,2,2,3,3,0,3,2,2,0,2,0,0,2,0,2,0,2,2,0,2,2,0,2,0,2,0,2,2,0,2] (.val (fun t=>.int (Int.ofNat (n+1)) t) 1 <| .ask [1] 99 950 Unit (kS (fun _=>.none) [oBd (n+1) (a t 5) sv e] 0) fun _=>.val (fun t=>.int (Int.ofNat (n+1)) t) 1 <| .ask [1] 99 950 Unit (kS (fun t=>.int (Int.ofNat len) (a t 1)) [oBd (n+1) (a t 5) sv e] 2) fun _=>.val (fun _=>.bool false) 0 <| .val (fun t=>.int (Int.ofNat (7 * n)) t) 1 <| .val (fun t=>.int (Int.ofNat (n / 3)) t) 1 <| .val (fun t=>.int (Int.ofNat (7 * n+n / 3)) t) 1 <| .val (fun t=>.int (Int.ofNat (7 * n+n / 3+1)) t) 1 <| .val (fun t=>.int (Int.ofNat r) t) 1 <| .keep [1])=(.val (.bi (PySem.W.S.codeS "int.__add__") [.int (Int.ofNat n) tn,.int 1 (a t 4)]) (.int (Int.ofNat (a n 1)) (a t 5)) 1 (a t 5) 1 (.ask (.bi (PySem.W.S.codeS "list.__setitem__") [.ref b,.int 0 (a t 6),.int (Int.ofNat (a n 1)) (a t 5)]) [(b,⟨.type "list",none,.seq ⟨((.int (Int.ofNat n) tn)::sv)⟩ e,⟨[]⟩⟩)] [] x 1 t 7 1 950 (Unit) ((kS (fun x=>Value.none) [oBd (n+1) (a t 5) sv e] 0) (Nat.add x 1) (Nat.add t 7)) (fun p1=>(.val (.bi (PySem.W.S.codeS "int.__add__") [.int (Int.ofNat n) tn,.int 1 (a t 7)]) (.int (Int.ofNat (a n 1)) (a t 8)) 1 (a t 8) 1 (.ask (.bi (PySem.W.S.codeS "len") [.ref b]) [(b,⟨.type "list",none,.seq ⟨((.int (Int.ofNat (a n 1)) (a t 5))::sv)⟩ e,⟨[]⟩⟩)] [] (a x 1) 0 (a t 7) 2 1 950 (Unit) ((kS (fun t=>Value.int (Int.ofNat len) (a t 1)) [oBd (n+1) (a t 5) sv e] 2) (Nat.add (a x 1) 0) (Nat.add (a t 7) 2)) (fun p2=>(.val (.bi (PySem.W.S.codeS "int.__lt__") [.int (Int.ofNat (a n 1)) (a t 8),.int (Int.ofNat len) (a t 10)]) (.bool false) 0 (a t 11) 1 (.val (.bi (PySem.W.S.codeS "int.__mul__") [.int 7 (a t 11),.int (Int.ofNat n) tn]) (.int (Int.ofNat (7 * n)) (a t 12)) 1 (a t 12) 1 (.val (.bi (PySem.W.S.codeS "int.__floordiv__") [.int (Int.ofNat n) tn,.int 3 (a t 13)]) (.int (Int.ofNat (n / 3)) (a t 14)) 1 (a t 14) 1 (.val (.bi (PySem.W.S.codeS "int.__add__") [.int (Int.ofNat (7 * n)) (a t 12),.int (Int.ofNat (n / 3)) (a t 14)]) (.int (Int.ofNat (7 * n+n / 3)) (a t 15)) 1 (a t 15) 1 (.val (.bi (PySem.W.S.codeS "int.__add__") [.int (Int.ofNat (7 * n+n / 3)) (a t 15),.int 1 (a t 16)]) (.int (Int.ofNat (a (7 * n+n / 3) 1)) (a t 17)) 1 (a t 17) 1 (.val (.bi (PySem.W.S.codeS "int.__mod__") [.int (Int.ofNat (a (7 * n+n / 3) 1)) (a t 17),.int (Int.ofNat mn) tm]) (.int (Int.ofNat r) (a t 18)) 1 (a t 18) 1 (dn (.ok (.ret (.int (Int.ofNat r) (a t 18)))) ([(b,⟨.type "list",none,.seq ⟨((.int (Int.ofNat (a n 1)) (a t 5))::sv)⟩ e,⟨[]⟩⟩)]) (a x 1) 0 (a t 9) 10 [x,x,x,x,x,b,b,b,x,x,x,x,b,b,b,b,b,x,x,x,x,x]))))))))))))):=by revert b1 b2;apply bq2<;>kernel_rfl
theorem pg_ok {w:World} {kn:Led} {b n tn e mn tm x m t i:Nat} {sv:List Value} (hs:Ints sv) (hn:n≤1000) (hm:0 < mn) (hm2:mn≤1000):
  AskOK pw_qz0137_01 w (G0 w) (.fn 986 [.ref b,.int (Int.ofNat mn) tm]) [(b,oBd n tn sv e)] kn x m t i 900 (pgSh sv e n mn):=by
 have hz:sizeLine=16777216:=rfl
 have hne:mn≠0:=by omega
 have hnp:Nonempty (PG mn):=⟨⟨0,hm,0,0,0,0⟩⟩
 by_cases hlt:n+1 < sv.length+1
 ·obtain ⟨v0,hv⟩:∃ v,sv[n]?=some v:=⟨_,List.getElem?_eq_getElem (by omega)⟩
  obtain ⟨v,tv,rfl⟩:=hs.each v0 (List.mem_of_getElem? hv)
  have h0:(0:Int)≤v.fmod (Int.ofNat mn):=by
   show (0:Int)≤v.fmod (mn:Int)
   rw [Int.fmod_eq_emod_of_nonneg _ (Int.natCast_nonneg mn)]
   exact Int.emod_nonneg _ (by omega)
  have h1:v.fmod (Int.ofNat mn) < (mn:Int):=by
   show v.fmod (mn:Int) < (mn:Int)
   rw [Int.fmod_eq_emod_of_nonneg _ (Int.natCast_nonneg mn)]
   exact Int.emod_lt_of_pos _ (by omega)
  obtain ⟨r,hr⟩:=Int.eq_ofNat_of_zero_le h0
  have hrl:r < mn:=by omega
  have er:v.fmod (Int.ofNat mn)=Int.ofNat r:=hr
  have hmod:∀ {t D:Nat} {u z:Tok},ValOK pw_qz0137_01 w (G0 w) (.bi (PySem.W.S.codeS "int.__mod__") [.int v u,.int (Int.ofNat mn) z]) (.int (Int.ofNat r) t) 1 t D:=fun {t D u z}=>er ▸ v_mod (w:=w) (G:=G0 w) (t:=t) (D:=D) (u:=u) (v:=z) v (Int.ofNat mn) (by intro e;exact hne (Int.ofNat.inj e))
  have e:=pg_in w (Nat.add x m) (Nat.add t i) b n tn e mn tm (sv.length+1) sv v r tv (w.params.followText "special-get-raises") (w.params.followText "comprehension-iter-twice")
  rw [← PP_self w] at e
  exact AskOK.shift (ask_run e (G0_ok w) (fun _ h=>h) fun g A R gs dr os hg low H=>
   ⟨v_addn,⟨⟨()⟩,nble rfl,fun _=>rfl,li_set0,fun _=>⟨v_addn,⟨⟨()⟩,nble rfl,fun _=>rfl,len_list_ok rfl (by have:=hs.size;omega),fun _=>⟨v_lt_t hlt,v_addn,⟨⟨()⟩,nble rfl,fun _=>rfl,li_get hv (by have:=hs.size;show sv.length+1≤_;omega),fun _=>
    ⟨hmod,rfl,fun h' rep=>H ⟨r,hrl,_,_,_,_⟩ h' rep⟩⟩⟩⟩⟩⟩⟩)
 ·have e:=pg_out w (Nat.add x m) (Nat.add t i) b n tn e mn tm (sv.length+1) sv 0 ((7 * n+n / 3+1) % mn) 0 (w.params.followText "special-get-raises") (w.params.followText "comprehension-iter-twice")
  rw [← PP_self w] at e
  exact AskOK.shift (ask_run e (G0_ok w) (fun _ h=>h) fun g A R gs dr os hg low H=>
   ⟨v_addn,⟨⟨()⟩,nble rfl,fun _=>rfl,li_set0,fun _=>⟨v_addn,⟨⟨()⟩,nble rfl,fun _=>rfl,len_list_ok rfl (by have:=hs.size;omega),fun _=>⟨v_lt_f hlt,v_muln (n:=7) (by omega),v_fdivn (k:=3) (by omega) (by omega) (by omega),v_addn,v_addn,v_modn hne,rfl,fun h' rep=>H ⟨(7 * n+n / 3+1) % mn,Nat.mod_lt _ hm,_,_,_,_⟩ h' rep⟩⟩⟩⟩⟩)
end
noncomputable section
theorem bo13 {F G:Nat→Nat} (h:G 13=F 13) (g:Bool):cond g F G 13=F 13:=by
 cases g
 ·exact h
 ·rfl
@[elab_as_elim] theorem bo2 {M:Bool→Bool→Prop} (h1:M true true) (h2:M true false) (h3:M false true) (h4:M false false) (a b:Bool):M a b:=by
 cases a<;>cases b<;>assumption
@[elab_as_elim] theorem bo3 {M:Bool→Bool→Bool→Prop} (h1:M true true true) (h2:M true true false) (h3:M true false true) (h4:M true false false) (h5:M false true true) (h6:M false true false) (h7:M false false true) (h8:M false false false) (a b c:Bool):M a b c:=by
 cases a<;>cases b<;>cases c<;>assumption
structure SA where
 tx:List Nat
 ab:AB tx
 ne:tx≠[]
 small:tx.length≤32
 gg:Bool
 i:Bool
 I:Nat→Nat
 ka:Nat
 tn:Nat
 x:Nat
 t:Nat
def saSh (w:World) (V0:Value) (g lb tb:Bool) (bdA rn kd sg st to tu pr lp n:Nat) (sv:List Value) (p:SA):Shape:=
 ⟨.ok .next,[oBd (n+2) p.tn sv 0,lwG w.params p.I V0 g lb tb 3 bdA rn kd sg st to tu p.tx (fg p.gg p.i) pr lp,oCl true p.ka],[],p.x,0,p.t,0,[(p.ka,oKey2 p.tx p.i (p.I 13))]⟩
theorem lw_weight {it fr cl:Nat}:(lwLoop it fr cl).weight≤5:=weight_le rfl
theorem stepA {w:World} {I:Nat→Nat} {V0:Value} {g lb tb:Bool} {it fr cl bdA rn kd sg st to tu pr lp n tn ka x t:Nat} {tx fx:List Nat} {sv:List Value} (hs:Ints sv) (hn:n≤900):
  StepOK w (G0 w) (lwLoop it fr cl) 320 [bd 0,bd 1] (lwEnv fr cl) [(bdA,oBd n tn sv 0),(fr,lwG w.params I V0 g lb tb 1 bdA rn kd sg st to tu tx fx pr lp),(cl,oCl g ka)] x t (saSh w V0 g lb tb bdA rn kd sg st to tu pr lp n sv):=by
 have e:=lt_a w lb tb x t it 0 0 bdA n tn fr cl rn kd sg st to tu pr lp ka 0 I V0 tx fx sv g (w.params.followText "special-get-raises") (w.params.followText "comprehension-iter-twice")
 rw [← PP_self w] at e
 exact step_run e (G0_ok w) lw_weight fun g' A Q gs d os hg low K=>
  ⟨⟨⟨0,by decide,0,0,0,0⟩⟩,nble rfl,fun _=>rfl,pg_ok hs (by omega) (by decide) (by decide),fun p1=>⟨ne_LT,nble rfl,fun _=>rfl,ltx_ok (by have:=p1.hr;omega),fun p2=>
   ⟨⟨⟨0,by decide,0,0,0,0⟩⟩,nble rfl,fun _=>rfl,pg_ok hs (by show n+1≤1000;omega) (by decide) (by decide),fun p3=>⟨ne_FG,nble rfl,fun _=>rfl,fg_get p3.hr,fun p4=>⟨v_has_i,rfl,fun h' rep=>
    K ⟨p2.tx,p2.ab,p2.ne,p2.small,p4.g,p4.i,cond g (upI I [(13,p2.tk),(15,p4.tk)]) (upI I [(14,p3.t),(15,p4.tk),(12,a p3.t 1),(13,p2.tk)]),a p3.x 4,p3.tn,Nat.add p3.x 5,Nat.add p3.t 3⟩ h' (by revert rep;exact bo3 (fun h=>h) (fun h=>h) (fun h=>h) (fun h=>h) (fun h=>h) (fun h=>h) (fun h=>h) (fun h=>h) g lb tb)⟩⟩⟩⟩⟩
end
noncomputable section
structure SB1 (I0:Nat→Nat) where
 I:Nat→Nat
 h13:I 13=I0 13
 x:Nat
 t:Nat
def sb1Sh (w:World) (V0:Value) (g lb tb:Bool) (bdA rn kd sg ls to tu pr lp:Nat) (tx fx:List Nat) (l:List Obj) {I0:Nat→Nat} (p:SB1 I0):Shape:=
 ⟨.ok .next,lwG w.params p.I V0 g lb tb 4 bdA rn kd sg ls to tu tx fx pr lp::l,[],p.x,0,p.t,0,[]⟩
structure SB2 (n:Nat) (I0:Nat→Nat) where
 p:PM n
 I:Nat→Nat
 h13:I 13=I0 13
 x:Nat
 t:Nat
def sb2Sh (w:World) (T V:Nat→Nat) (V0 mt:Value) (g lb tb i:Bool) (bdA rn kd sg ls to tu lp rd lm sa fm pt st kp tt:Nat) (tx fx:List Nat) (xs:List Ent) {I0:Nat→Nat} (p:SB2 tx.length I0):Shape:=
 ⟨.ok .next,[lwG w.params p.I V0 g lb tb 4 bdA rn kd sg ls to tu tx fx p.p.c.c.pr lp,oRun rd,dRun w.params T V lm sa fm mt pt (st+tx.length / 10) p.p.k.ts,oDk w (kept1 xs (kp+tx.length) p.p.k.tk tx i p.p.ka p.p.c.c.pr) p.p.k.ep],newL w tx i tt p.p,p.x,0,p.t,0,nodes i tx p.p.c.ts⟩
structure SB3 (n:Nat) (I0:Nat→Nat) where
 p:PF n
 I:Nat→Nat
 h13:I 13=I0 13
 x:Nat
 t:Nat
def sb3Sh (w:World) (T V:Nat→Nat) (V0 mt:Value) (g lb tb i:Bool) (bdA rn kd sg ls to tu lp rd lm sa fm st ep tt:Nat) (tx fx:List Nat) (xs:List Ent) {I0:Nat→Nat} (p:SB3 tx.length I0):Shape:=
 ⟨.ok .next,[lwG w.params p.I V0 g lb tb 4 bdA rn kd sg ls to tu tx fx p.p.c.c.pr lp,oRun rd,dRun w.params T V lm sa fm mt p.p.k.nd (st+tx.length / 10) p.p.k.ts,oDk w xs ep],newF w tx i tt (lvV lb lp) p.p,p.x,0,p.t,0,nodes i tx p.p.c.ts⟩
section
variable {w:World} {L0:Led} {I T V W:Nat→Nat} {V0 mt v1:Value} {g lb tb gg i:Bool} {it fr cl bdA rn kd sg st ls to tu pr pr0 lp pt ep rd lm ld sa fm ef ts x t stp tst lim tl:Nat} {tx:List Nat} {xs:List Ent}
theorem stepB_hit {ka:Addr} (hd:(pt == sysModules)=false) (hp:atKey xs (kText tx i)=some (ka,.ref pr)):
  StepOK w (GL w L0 xs) (lwLoop it fr cl) 320 [bd 2] (lwEnv fr cl) [(fr,lwG w.params I V0 g lb tb 3 bdA rn kd sg ls to tu tx (fg gg i) pr0 lp),(rn,oRun rd),(rd,dRun w.params T V lm sa fm mt pt st ts),(pt,oDk w xs ep)] x t
   (sb1Sh w V0 g lb tb bdA rn kd sg ls to tu pr lp tx (fg gg i) [oRun rd,dRun w.params T V lm sa fm mt pt st ts,oDk w xs ep] (I0:=I)):=by
 have e:=lt_b_hit w lb tb gg i x t it bdA fr cl rn kd sg st ls to tu pr lp pr0 pt ep rd lm sa fm ts 0 I T V V0 mt tx xs g (w.params.followText "special-get-raises") (w.params.followText "comprehension-iter-twice")
 rw [← PP_self w] at e
 exact step_run e (GL_ok fun _ hq=>nomatch hq) lw_weight fun g' A Q gs d os hg low K=>
  ⟨⟨(0,0)⟩,nble rfl,fun _=>rfl,pf_hit_ok hd hp,fun p1=>⟨rfl,fun h' rep=>
   K ⟨cond g I (upI I [(16,p1.2)]),bo13 (F:=I) (G:=upI I [(16,p1.2)]) rfl g,Nat.add p1.1 0,Nat.add p1.2 1⟩ h' (by revert rep;exact bo3 (fun h=>h) (fun h=>h) (fun h=>h) (fun h=>h) (fun h=>h) (fun h=>h) (fun h=>h) (fun h=>h) g lb tb)⟩⟩
theorem stepB_miss {kp:Nat} (hT:AB tx) (hne:tx≠[]) (hL:∀ q∈limL w lm ld W v1 stp tst lim tl,q∈L0) (hfr:(fm,oLst [] ef)∈L0) (hd:(pt == sysModules)=false) (hk:KeptIs xs kp) (hsz:xs.length≤1000) (hst:st≤1000000) (hfit:kp+tx.length≤lim) (hp:atKey xs (kText tx i)=none):
  StepOK w (GL w L0 xs) (lwLoop it fr cl) 320 [bd 2] (lwEnv fr cl) [(fr,lwG w.params I V0 g lb tb 3 bdA rn kd sg ls to tu tx (fg gg i) pr0 lp),(rn,oRun rd),(rd,dRun w.params T V lm sa fm mt pt st ts),(pt,oDk w xs ep)] x t
   (sb2Sh w T V V0 mt g lb tb i bdA rn kd sg ls to tu lp rd lm sa fm pt st kp (I 13) tx (fg gg i) xs (I0:=I)):=by
 have e:=lt_b_miss w lb tb gg i x t it bdA fr cl rn kd sg st ls to tu 0 lp pr0 pt ep rd lm sa fm ts kp I T V V0 mt tx xs g (w.params.followText "special-get-raises") (w.params.followText "comprehension-iter-twice")
 rw [← PP_self w] at e
 exact step_run e (GL_ok fun _ hq=>nomatch hq) lw_weight fun g' A Q gs d os hg low K=>
  ⟨ne_PM _,nble rfl,fun _=>rfl,pf_miss_ok hT hne hL hfr hd hk hsz hst hfit hp,fun p1=>⟨rfl,fun h' rep=>
   K ⟨p1,cond g I (upI I [(16,p1.t)]),bo13 (F:=I) (G:=upI I [(16,p1.t)]) rfl g,Nat.add p1.x 0,Nat.add p1.t 1⟩ h' (by revert rep;exact bo3 (fun h=>h) (fun h=>h) (fun h=>h) (fun h=>h) (fun h=>h) (fun h=>h) (fun h=>h) (fun h=>h) g lb tb)⟩⟩
theorem stepB_flush {kp:Nat} (hT:AB tx) (hne:tx≠[]) (hL:∀ q∈limL w lm ld W v1 stp tst lim tl,q∈L0) (hfr:(fm,oLst [] ef)∈L0) (hd:(pt == sysModules)=false) (hk:KeptIs xs kp) (hsz:xs.length≤1000) (hst:st≤1000000) (hfit:lim < kp+tx.length) (hp:atKey xs (kText tx i)=none)
  (hlast:((atKey xs kLast).map (·.2)).getD .none=lvV lb lp):
  StepOK w (GL w L0 xs) (lwLoop it fr cl) 320 [bd 2] (lwEnv fr cl) [(fr,lwG w.params I V0 g lb tb 3 bdA rn kd sg ls to tu tx (fg gg i) pr0 lp),(rn,oRun rd),(rd,dRun w.params T V lm sa fm mt pt st ts),(pt,oDk w xs ep)] x t
   (sb3Sh w T V V0 mt g lb tb i bdA rn kd sg ls to tu lp rd lm sa fm st ep (I 13) tx (fg gg i) xs (I0:=I)):=by
 have e:=lt_b_flush w lb tb gg i x t it bdA fr cl rn kd sg st ls to tu 0 lp pr0 pt ep rd lm sa fm ts kp I T V V0 mt tx xs g (w.params.followText "special-get-raises") (w.params.followText "comprehension-iter-twice")
 rw [← PP_self w] at e
 exact step_run e (GL_ok fun _ hq=>nomatch hq) lw_weight fun g' A Q gs d os hg low K=>
  ⟨ne_PF _,nble rfl,fun _=>rfl,pf_flush_ok hT hne hL hfr hd hk hsz hst hfit hp hlast,fun p1=>⟨rfl,fun h' rep=>
   K ⟨p1,cond g I (upI I [(16,p1.t)]),bo13 (F:=I) (G:=upI I [(16,p1.t)]) rfl g,Nat.add p1.x 0,Nat.add p1.t 1⟩ h' (by revert rep;exact bo3 (fun h=>h) (fun h=>h) (fun h=>h) (fun h=>h) (fun h=>h) (fun h=>h) (fun h=>h) (fun h=>h) g lb tb)⟩⟩
end
end
noncomputable section
theorem isKey2 {w:World} {g:Heap} {ka tt:Nat} {tx:List Nat} {i:Bool} (h:g.get? ka=some (oKey2 tx i tt)):IsK w g (kKey tx i) ka:=IsK.pair h (sbIs_str _ _) (sbIs_bool _)
section
variable {w:World} {L0:Led} {I T V W M:Nat→Nat} {V0 mt v1:Value} {g lb tb i:Bool} {it fr cl bdA rn kd sg st ls to tu pr lp pt ka ek rd lm ld sa fm ts x t stp tst lim tl pd rl nm tg tr:Nat} {tx fx:List Nat} {ys:List Ent}
theorem stepD_hit {tt:Nat} {p:Addr × Value} (hkey:(ka,oKey2 tx i tt)∈L0) (hd:(kd == sysModules)=false) (hp:atKey ys (kKey tx i)=some p):
  StepOK w (GL w L0 ys) (lwLoop it fr cl) 320 [bd 4] (lwEnv fr cl) [(fr,lwG w.params I V0 g lb tb 4 bdA rn kd sg ls to tu tx fx pr lp),(cl,oCl true ka),(kd,oDk w ys ek)] x t
   (sb1Sh w V0 g lb tb bdA rn kd sg ls to tu pr lp tx fx [oCl true ka,oDk w ys ek] (I0:=I)):=by
 have e:=lt_d_hit w lb tb x t it bdA fr cl rn kd sg ls to tu pr lp ka ek 0 0 0 0 0 0 0 0 0 0 0 0 0 0 0 0 0 0 I (fun _=>0) (fun _=>0) (fun _=>0) (fun _=>0) V0 .none .none tx fx ys [] g (w.params.followText "special-get-raises") (w.params.followText "comprehension-iter-twice")
 rw [← PP_self w] at e
 exact step_run e (GL_ok fun _ hq=>nomatch hq) lw_weight fun g' A Q gs d os hg low K=>
  ⟨⟨()⟩,nble rfl,fun _=>rfl,dhas_ok (lk:=[]) (k:=kKey tx i) (D:=950) hd (fun g h n hg rep=>hg.2.2.mono rep.keep) (fun g h n hg rep=>(isKey2 (hg.2.1 _ hkey)).mono rep.keep) (by decide) (by rw [hp];rfl),fun _=>⟨rfl,fun h' rep=>
   K ⟨I,rfl,Nat.add x 0,Nat.add t 3⟩ h' (by revert rep;exact bo3 (fun h=>h) (fun h=>h) (fun h=>h) (fun h=>h) (fun h=>h) (fun h=>h) (fun h=>h) (fun h=>h) g lb tb)⟩⟩
structure SDm (w:World) (tu tk:Nat) where
 sd:SD w (q [116,117,114,110]) (.int (Int.ofNat tu) tk)
 I:Nat→Nat
 ek:Nat
 kd:Nat
 x:Nat
 t:Nat
def sdmSh (w:World) (T V:Nat→Nat) (V0 mt:Value) (g lb tb i:Bool) (bdA rn kd sg ls to tu pr lp rd lm sa fm pt st ts ka tk:Nat) (tx fx:List Nat) (ys:List Ent) (p:SDm w tu tk):Shape:=
 ⟨.ok .next,[lwG w.params p.I V0 g lb tb 4 bdA rn kd (sg+tx.length) (ls+tx.length / 10) to tu tx fx pr lp,oCl true ka,oDk w (storedH ys (kKey tx i) ka (.int (Int.ofNat tu) tk)) p.ek,oSd p.sd.es p.sd.ep,dRun w.params T V lm sa fm mt pt st ts],[],p.x,0,p.t,0,[]⟩
theorem stepD_miss (hT:AB tx) (hL:∀ q∈[(pr,oPr pd),(pd,dPr w.params M rl 0 tg 0 tr nm),(lm,oLim ld),(ld,dLim w.params W v1 stp tst lim tl),(rn,oRun rd),(ka,oKey2 tx i (I 13))],q∈L0) (hd:(kd == sysModules)=false) (hsz:ys.length≤1000) (hfit:sg+tx.length≤lim) (hp:atKey ys (kKey tx i)=none):
  StepOK w (GL w L0 ys) (lwLoop it fr cl) 320 [bd 4] (lwEnv fr cl) [(fr,lwG w.params I V0 g lb tb 4 bdA rn kd sg ls to tu tx fx pr lp),(cl,oCl true ka),(kd,oDk w ys ek),(nm,oEmp),(rd,dRun w.params T V lm sa fm mt pt st ts)] x t
   (sdmSh w T V V0 mt g lb tb i bdA rn kd sg ls to tu pr lp rd lm sa fm pt st ts ka (I 11) tx fx ys):=by
 have hz:sizeLine=16777216:=rfl
 have hl:=hT.size
 have e:=lt_d_miss w lb tb i x t it bdA fr cl rn kd sg ls to tu pr lp ka ek pd rl nm tg tr rd lm ld sa fm pt st ts lim tl stp tst 0 I M T V W V0 mt v1 tx fx ys [] g (w.params.followText "special-get-raises") (w.params.followText "comprehension-iter-twice")
 rw [← PP_self w] at e
 exact step_run e (GL_ok hL) lw_weight fun g' A Q gs d os hg low K=>
  ⟨⟨()⟩,nble rfl,fun _=>rfl,dhas_ok (lk:=[]) (k:=kKey tx i) (D:=950) hd (fun g h n hg rep=>hg.2.2.mono rep.keep) (fun g h n hg rep=>(isKey2 (hg.2.1 _ (hL _ (.tail _ (.tail _ (.tail _ (.tail _ (.tail _ (.head _))))))))).mono rep.keep) (by decide) (by rw [hp];rfl),fun _=>⟨(ne_SD _ _ _),nble rfl,fun _=>rfl,sset_ok,fun p2=>
   ⟨v_len rfl hT.fits,v_addn,v_len rfl hT.fits,v_fdivn (k:=10) (by omega) (by omega) (by omega),v_addn,v_gt_f hfit,⟨⟨0⟩,nble rfl,fun _=>rfl,
    dset_ok (lk:=[]) (k:=kKey tx i) (ka:=ka) (D:=950) (fun g h n hg rep=>hg.2.2.mono rep.keep) (fun g h n hg rep=>(isKey2 (hg.2.1 _ (hL _ (.tail _ (.tail _ (.tail _ (.tail _ (.tail _ (.head _))))))))).mono rep.keep) (by decide) (by omega),fun p3=>⟨rfl,fun h' rep=>
   K ⟨p2,upI I [(5,a t 8),(7,a t 13)],p3,kd,Nat.add (a x 4) 0,Nat.add (a t 18) 3⟩ h' (by revert rep;exact bo3 (fun h=>h) (fun h=>h) (fun h=>h) (fun h=>h) (fun h=>h) (fun h=>h) (fun h=>h) (fun h=>h) g lb tb)⟩⟩⟩⟩⟩
def sdfSh (w:World) (T V:Nat→Nat) (V0 mt:Value) (g lb tb i:Bool) (bdA rn kd ls to tu pr lp rd lm sa fm pt st ts ka tk ek:Nat) (tx fx:List Nat) (ys:List Ent) (p:SDm w tu tk):Shape:=
 ⟨.ok .next,[lwG w.params p.I V0 g lb tb 4 bdA rn p.kd tx.length (ls+tx.length / 10) to tu tx fx pr lp,oCl true ka,oDk w ys ek,oSd p.sd.es p.sd.ep,dRun w.params T V lm sa fm mt pt st ts],[(p.kd,oDk w (storedH [] (kKey tx i) ka (.int (Int.ofNat tu) tk)) p.ek)],p.x,0,p.t,0,[]⟩
theorem stepD_flush (hT:AB tx) (hL:∀ q∈[(pr,oPr pd),(pd,dPr w.params M rl 0 tg 0 tr nm),(lm,oLim ld),(ld,dLim w.params W v1 stp tst lim tl),(rn,oRun rd),(ka,oKey2 tx i (I 13))],q∈L0) (hd:(kd == sysModules)=false) (hsz:ys.length≤1000) (hfit:lim < sg+tx.length) (hp:atKey ys (kKey tx i)=none):
  StepOK w (GL w L0 ys) (lwLoop it fr cl) 320 [bd 4] (lwEnv fr cl) [(fr,lwG w.params I V0 g lb tb 4 bdA rn kd sg ls to tu tx fx pr lp),(cl,oCl true ka),(kd,oDk w ys ek),(nm,oEmp),(rd,dRun w.params T V lm sa fm mt pt st ts)] x t
   (sdfSh w T V V0 mt g lb tb i bdA rn kd ls to tu pr lp rd lm sa fm pt st ts ka (I 11) ek tx fx ys):=by
 have hz:sizeLine=16777216:=rfl
 have hl:=hT.size
 have e:=lt_d_flush w lb tb i x t it bdA fr cl rn kd sg ls to tu pr lp ka ek pd rl nm tg tr rd lm ld sa fm pt st ts lim tl stp tst 0 I M T V W V0 mt v1 tx fx ys (storedH [] (kKey tx i) ka (.int (Int.ofNat tu) (I 11))) g (w.params.followText "special-get-raises") (w.params.followText "comprehension-iter-twice")
 rw [← PP_self w] at e
 have hk0:∀ g:Heap,Keys w [] g:=fun g=>⟨fun y hy=>(List.not_mem_nil hy).elim,List.nodup_nil⟩
 exact step_run e (GL_ok hL) lw_weight fun g' A Q gs d os hg low K=>
  ⟨⟨()⟩,nble rfl,fun _=>rfl,dhas_ok (lk:=[]) (k:=kKey tx i) (D:=950) hd (fun g h n hg rep=>hg.2.2.mono rep.keep) (fun g h n hg rep=>(isKey2 (hg.2.1 _ (hL _ (.tail _ (.tail _ (.tail _ (.tail _ (.tail _ (.head _))))))))).mono rep.keep) (by decide) (by rw [hp];rfl),fun _=>⟨(ne_SD _ _ _),nble rfl,fun _=>rfl,sset_ok,fun p2=>
   ⟨v_len rfl hT.fits,v_addn,v_len rfl hT.fits,v_fdivn (k:=10) (by omega) (by omega) (by omega),v_addn,v_gt_t hfit,v_len rfl hT.fits,⟨⟨0⟩,nble rfl,fun _=>rfl,
    dset_ok (lk:=[]) (xs:=[]) (k:=kKey tx i) (ka:=ka) (D:=950) (fun g h n hg rep=>hk0 h) (fun g h n hg rep=>(isKey2 (hg.2.1 _ (hL _ (.tail _ (.tail _ (.tail _ (.tail _ (.tail _ (.head _))))))))).mono rep.keep) (by decide) (Nat.zero_le _),fun p3=>⟨rfl,fun h' rep=>
   K ⟨p2,upI I [(5,a t 19),(7,a t 13)],p3,a x 4,Nat.add (a x 9) 0,Nat.add (a t 22) 3⟩ h' (by revert rep;exact bo3 (fun h=>h) (fun h=>h) (fun h=>h) (fun h=>h) (fun h=>h) (fun h=>h) (fun h=>h) (fun h=>h) g lb tb)⟩⟩⟩⟩⟩
end
end
noncomputable section
structure SEn where
 tn:Nat
 x:Nat
 t:Nat
def senSh (f:Obj) (n:Nat) (sv:List Value) (p:SEn):Shape:=⟨.ok .next,[f,oBd (n+1) p.tn sv 0],[],p.x,0,p.t,0,[]⟩
theorem v_eqf {w:World} {G:Heap→Prop} {t D n k:Nat} {u v:Tok} (h:n≠k):ValOK pw_qz0137_01 w G (.bi (PySem.W.S.codeS "int.__eq__") [.int (Int.ofNat n) u,.int (Int.ofNat k) v]) (.bool false) 0 t D:=by
 have z:=v_eq (w:=w) (G:=G) (t:=t) (D:=D) (Int.ofNat n) (Int.ofNat k) u v
 rw [beq_eq_false_iff_ne.mpr (fun e=>h (Int.ofNat.inj e))] at z
 exact z
theorem v_eqt {w:World} {G:Heap→Prop} {t D n:Nat} {u v:Tok}:ValOK pw_qz0137_01 w G (.bi (PySem.W.S.codeS "int.__eq__") [.int (Int.ofNat n) u,.int (Int.ofNat n) v]) (.bool true) 0 t D:=by
 have z:=v_eq (w:=w) (G:=G) (t:=t) (D:=D) (Int.ofNat n) (Int.ofNat n) u v
 rw [beq_self_eq_true] at z
 exact z
theorem v_nef {w:World} {G:Heap→Prop} {t D n:Nat} {u v:Tok}:ValOK pw_qz0137_01 w G (.bi (PySem.W.S.codeS "int.__ne__") [.int (Int.ofNat n) u,.int (Int.ofNat n) v]) (.bool false) 0 t D:=by
 have z:=v_ne (w:=w) (G:=G) (t:=t) (D:=D) (Int.ofNat n) (Int.ofNat n) u v
 rw [show (Int.ofNat n != Int.ofNat n)=false from bne_self_eq_false _] at z
 exact z
theorem sgetG {w:World} {G:Heap→Prop} {kn:Led} {d ep x m t i D u:Nat} {es:List DictEntry} {k:Str} (hk:KeysOf (sk w) ⟨es⟩) (hG:∀ g,G g→g.get? d=some (oSd es ep)∧(d == sysModules)=false) {dflt:Value}:
  AskOK pw_qz0137_01 w G (.bi (PySem.W.S.codeS "dict.get") [.ref d,.str k u,dflt]) [] kn x m t i D (kS (fun _=>(findBy (sk w).is ⟨es⟩ k).getD dflt) [] 1 (Nat.add x m) (Nat.add t i)):=by
 intro c hc g A R gs dr os h hg hkn low rep K
 have z:=ask_meetsIn (w:=w) (G:=G) (l:=[]) (kn:=kn) (x:=x) (m:=m) (t:=t) (i:=i) (D:=D) (P:=Unit) (sh:=kS (fun _=>(findBy (sk w).is ⟨es⟩ k).getD dflt) [] 1 (Nat.add x m) (Nat.add t i)) (by decide +kernel) F.entry_dict_get (meets_dict_get_default (knd:=sk w) (k:=k) d (strKind_is _ _ _ u) (hG g hg).2 dflt) fun g A R gs dr os h hg _ _ rep K=>⟨_,mapOf (rep.keep _ _ (hG g hg).1) hk,K () _ rep⟩
 exact z c hc g A R gs dr os h hg hkn low rep K
theorem sitemG {w:World} {G:Heap→Prop} {kn:Led} {d ep x m t i D u:Nat} {es:List DictEntry} {k:Str} {v:Value} (hk:KeysOf (sk w) ⟨es⟩) (hG:∀ g,G g→g.get? d=some (oSd es ep)) (hv:findBy (sk w).is ⟨es⟩ k=some v):
  AskOK pw_qz0137_01 w G (.bi (PySem.W.S.codeS "dict.__getitem__") [.ref d,.str k u]) [] kn x m t i D (kS (fun _=>v) [] 1 (Nat.add x m) (Nat.add t i)):=
 ask_meetsIn (by decide +kernel) F.entry_dict_getitem (meets_dict_getitem (knd:=sk w) (k:=k) d (strKind_is _ _ _ _)) fun g A R gs dr os h hg _ _ rep K=>⟨_,v,mapOf (rep.keep _ _ (hG g hg)) hk,hv,K () _ rep⟩
def G2 (w:World) (L0:Led) (xs ys:List Ent):Heap→Prop:=fun g=>GL w L0 xs g∧Keys w ys g
theorem G2_mono {w:World} {L0:Led} {xs ys:List Ent}:∀ g g':Heap,(∀ b o,g.get? b=some o→g'.get? b=some o)→G2 w L0 xs ys g→G2 w L0 xs ys g':=
 fun g g' k h=>⟨GL_mono g g' k h.1,h.2.mono k⟩
theorem G2_ok {w:World} {L0 kl:Led} {xs ys:List Ent} (h:∀ q∈kl,q∈L0):Grd w kl (G2 w L0 xs ys):=⟨G2_mono,fun g hg=>⟨hg.1.1,fun q hq=>hg.1.2.1 q (h q hq)⟩⟩
theorem bd5_eq:bd 5=.If (testE (bd 5)) (fthen (bd 5)) [] (ifPos (bd 5)):=by kernel_rfl
structure SE (N:Nat) where
 b:Bool
 I:Nat→Nat
 tk:Nat
 ep:Nat
 svs:List Value
 hsv:svs.length≤N+1
 es:Nat
 mb:Bool
 ma:Nat
 tn:Nat
 x:Nat
 t:Nat
def seSh (w:World) (T V:Nat→Nat) (V0:Value) (g lb tb:Bool) (bdA rn kd sg ls to tu pr lp rd lm sa fm pt st ts ka tv ek n:Nat) (tx fx:List Nat) (xs ys:List Ent) (sv:List Value) {N:Nat} (p:SE N):Shape:=
 ⟨.ok .next,[lwG w.params p.I V0 g lb (cond p.b true tb) 4 bdA rn kd sg ls (cond p.b tv to) tu tx fx pr lp,oCl true ka,oDk w ys ek,dRun w.params T V lm sa fm (lvV p.mb p.ma) pt st ts,oLst p.svs p.es,oDk w (cond p.b (storedH xs kLast 15 (.ref pr)) xs) p.ep,oBd (n+1) p.tn sv 0],[],p.x,0,p.t,0,[]⟩
section
variable {w:World} {L0:Led} {I T V:Nat→Nat} {V0:Value} {g lb tb mb i:Bool} {it fr cl bdA rn kd sg st ls to tu pr lp pt ep ka ek rd lm sa es fm ts x t ma n tn:Nat} {tx fx:List Nat} {xs ys:List Ent} {sv svs:List Value}
theorem stepE {tt tv tkv:Nat} {a2:Addr} {lb2:Bool} {lp2:Nat} (hs:Ints sv) (hn:n≤900) (hrn:(rn,oRun rd)∈L0) (hkey:(ka,oKey2 tx i tt)∈L0) (hd:(pt == sysModules)=false) (hp:atKey ys (kKey tx i)=some (a2,.int (Int.ofNat tv) tkv))
  (hlast:((atKey xs kLast).map (·.2)).getD .none=lvV lb2 lp2) (hsz:xs.length≤1000) (hsv:svs.length+1≤2000):
  StepOK w (G2 w L0 xs ys) (lwLoop it fr cl) 320 [bd 5] (lwEnv fr cl) [(fr,lwG w.params I V0 g lb tb 4 bdA rn kd sg ls to tu tx fx pr lp),(cl,oCl true ka),(kd,oDk w ys ek),(rd,dRun w.params T V lm sa fm (lvV mb ma) pt st ts),(sa,oLst svs es),(pt,oDk w xs ep),(bdA,oBd n tn sv 0)] x t
   (seSh w T V V0 g lb tb bdA rn kd sg ls to tu pr lp rd lm sa fm pt st ts ka tv ek n tx fx xs ys sv (N:=svs.length)):=by
 intro g' A Q gs d os h hg low rep K
 rw [bd5_eq]
 refine own_cons (own_if ?_)
 have e:=lt_e_t w lb tb x t it bdA n tn fr cl rn kd sg ls to tu pr lp I (fun k=>Nat.beq k 1) V0 tx fx sv g (w.params.followText "special-get-raises") (w.params.followText "comprehension-iter-twice")
 rw [← PP_self w] at e
 have s:Sel _ [0,6] _:=sel_spec (L:=[(fr,lwG w.params I V0 g lb tb 4 bdA rn kd sg ls to tu tx fx pr lp),(cl,oCl true ka),(kd,oDk w ys ek),(rd,dRun w.params T V lm sa fm (lvV mb ma) pt st ts),(sa,oLst svs es),(pt,oDk w xs ep),(bdA,oBd n tn sv 0)]) (l:=[(fr,lwG w.params I V0 g lb tb 4 bdA rn kd sg ls to tu tx fx pr lp),(bdA,oBd n tn sv 0)]) rfl
 refine piece_isTrue (x:=x) (m:=0) (t:=t) (i:=0) (G0_ok w) (G0_mono w _ _ (sub_hide rep s.sub) hg.1.1) low lw_weight (rep.hide s) e ?_
 refine ⟨⟨⟨0,by decide,0,0,0,0⟩⟩,nble rfl,fun _=>rfl,pg_ok hs (by omega) (by decide) (by decide),fun p1=>⟨?_,rfl,fun h' rep'=>?_⟩⟩
 ·have z:=v_eq (w:=w) (G:=G0 w) (t:=a p1.t 1) (D:=320+5 * 1) (Int.ofNat p1.r) 1 p1.tr p1.t
  have e1:(Int.ofNat p1.r == 1)=Nat.beq p1.r 1:=by
   cases hb:Nat.beq p1.r 1 with
   | true=>rw [Nat.eq_of_beq_eq_true hb];rfl
   | false=>exact beq_eq_false_iff_ne.mpr fun e=>Nat.ne_of_beq_eq_false hb (Int.ofNat.inj e)
  rw [e1] at z
  exact z
 ·have hm:∀ b o,g'.get? b=some o→h'.get? b=some o:=fun b o eb=>rep'.keep b o (sub_hide rep s.sub b o eb)
  have rep2:=rep.back (sh:=⟨.ok .next,[lwG w.params I V0 g lb tb 4 bdA rn kd sg ls to tu tx fx pr lp,oBd (n+1) p1.tn sv 0],[],p1.x,0,p1.t,0,[]⟩) s rfl (n':=Nat.add p1.x 0) (h':=h') (by revert rep';exact bo3 (fun h=>h) (fun h=>h) (fun h=>h) (fun h=>h) (fun h=>h) (fun h=>h) (fun h=>h) (fun h=>h) g tb lb)
  show wpOwn (MW w) A _ (execs (cond (Nat.beq p1.r 1) (fthen (bd 5)) []) (lwEnv fr cl)) _ _ _
  cases hb:Nat.beq p1.r 1 with
  | false=>
   refine fun Γ p hc hΓ=>?_
   exact fun _ _ _ _=>K ⟨false,I,0,ep,svs,by omega,es,mb,ma,p1.tn,p1.x,Nat.add p1.t 1⟩ h' rep2
  | true=>
   have e:=lt_e_yes w lb p1.x (Nat.add p1.t 1) it bdA n tn fr cl rn kd sg ls to tu pr lp ka ek rd lm sa es fm pt ep st ts 0 0 ma lp2 tv tkv I T V V0 tx fx ys xs (storedH xs kLast 15 (.ref pr)) svs sv g tb mb lb2 (w.params.followText "special-get-raises") (w.params.followText "comprehension-iter-twice")
   rw [← PP_self w] at e
   have s2:Sel _ [0,1,2,3,4,5] _:=sel_spec (L:=[(fr,lwG w.params I V0 g lb tb 4 bdA rn kd sg ls to tu tx fx pr lp),(cl,oCl true ka),(kd,oDk w ys ek),(rd,dRun w.params T V lm sa fm (lvV mb ma) pt st ts),(sa,oLst svs es),(pt,oDk w xs ep),(bdA,oBd (n+1) p1.tn sv 0)]) (l:=[(fr,lwG w.params I V0 g lb tb 4 bdA rn kd sg ls to tu tx fx pr lp),(cl,oCl true ka),(kd,oDk w ys ek),(rd,dRun w.params T V lm sa fm (lvV mb ma) pt st ts),(sa,oLst svs es),(pt,oDk w xs ep)]) rfl
   have rep3:Rep g' [(fr,lwG w.params I V0 g lb tb 4 bdA rn kd sg ls to tu tx fx pr lp),(cl,oCl true ka),(kd,oDk w ys ek),(rd,dRun w.params T V lm sa fm (lvV mb ma) pt st ts),(sa,oLst svs es),(pt,oDk w xs ep),(bdA,oBd (n+1) p1.tn sv 0)] (Nat.add p1.x 0) h':=rep2
   have hz:sizeLine=16777216:=rfl
   refine piece_execs (x:=p1.x) (m:=0) (t:=Nat.add p1.t 1) (i:=0) (G2_ok (L0:=L0) (xs:=xs) (ys:=ys) (kl:=[(rn,oRun rd)]) (fun _ hq=>by cases List.mem_singleton.mp hq;exact hrn)) (G2_mono _ _ (sub_hide rep3 s2.sub) hg) low lw_weight (rep3.hide s2) e ?_
   refine ⟨⟨()⟩,nble rfl,fun _=>rfl,hlast ▸ dget1_ok (lk:=[]) (k:=kLast) (ka:=15) (D:=950) hd (fun g h n hg rep=>hg.1.2.2.mono rep.keep) (fun g h n hg rep=>(isLast hg.1.1).mono rep.keep) (by decide),fun _=>⟨⟨()⟩,nble rfl,fun _=>rfl,append_ok (by omega),fun _=>⟨⟨0⟩,nble rfl,fun _=>rfl,
    dset_ok (lk:=[]) (k:=kLast) (ka:=15) (D:=950) (fun g h n hg rep=>hg.1.2.2.mono rep.keep) (fun g h n hg rep=>(isLast hg.1.1).mono rep.keep) (by decide) (by omega),fun e2=>⟨⟨()⟩,nble rfl,fun _=>rfl,
    ditem_ok (lk:=[]) (k:=kKey tx i) (D:=950) (fun g h n hg rep=>hg.2.mono rep.keep) (fun g h n hg rep=>(isKey2 (hg.1.2.1 _ hkey)).mono rep.keep) (by decide) hp,fun _=>⟨rfl,fun h2 rep4=>?_⟩⟩⟩⟩⟩
   have rep5:=rep3.back (n':=Nat.add (a p1.x 7) 0) (h':=h2) (sh:=⟨.ok .next,[lwG w.params (upI I [(9,tkv)]) V0 g lb true 4 bdA rn kd sg ls tv tu tx fx pr lp,oCl true ka,oDk w ys ek,dRun w.params T V lm sa fm (lvV true (a p1.x 2)) pt st ts,oLst (svs++[Value.ref (a p1.x 6)]) (es+1),oDk w (storedH xs kLast 15 (.ref pr)) e2],[],0,0,0,0,[]⟩) s2 rfl (by revert rep4;exact bo3 (fun h=>h) (fun h=>h) (fun h=>h) (fun h=>h) (fun h=>h) (fun h=>h) (fun h=>h) (fun h=>h) g tb lb)
   exact then_next (s:=⟨h,gs,d,t,os⟩) (fun _ _ _ _=>K ⟨true,upI I [(9,tkv)],tkv,e2,svs++[Value.ref (a p1.x 6)],(by rw [List.length_append];exact Nat.le_refl _),es+1,true,a p1.x 2,p1.tn,Nat.add (a p1.x 7) 0,Nat.add (a (Nat.add p1.t 1) 21) 4⟩ h2 rep5)
end
structure SF where
 I:Nat→Nat
 x:Nat
 t:Nat
def sfSh (w:World) (T V:Nat→Nat) (V0 mt:Value) (tb:Bool) (bdA rn kd sg ls to tu pr lp rd lm sa fm pt ep ts:Nat) (tx fx:List Nat) (xs:List Ent) (p:SF):Shape:=
 ⟨.ok .next,[lwG w.params p.I V0 true tb tb 5 bdA rn kd sg ls to tu tx fx pr lp,dRun w.params T V lm sa fm mt pt ls ts,oDk w xs ep],[],p.x,0,p.t,0,[]⟩
section
variable {w:World} {L0:Led} {I T V:Nat→Nat} {V0 mt:Value} {g lb:Bool} {it fr cl bdA rn kd sg ls to tu pr lp lp0 pt ep rd lm sa fm ts x t:Nat} {tx fx:List Nat} {xs:List Ent}
theorem stepF_none (hrn:(rn,oRun rd)∈L0) (hd:(pt == sysModules)=false) (hlast:((atKey xs kLast).map (·.2)).getD .none=.none):
  StepOK w (GL w L0 xs) (lwLoop it fr cl) 320 [bd 6,bd 7] (lwEnv fr cl) [(fr,lwG w.params I V0 g lb false 4 bdA rn kd sg ls to tu tx fx pr lp),(rd,dRun w.params T V lm sa fm mt pt ls ts),(pt,oDk w xs ep)] x t
   (sfSh w T V V0 mt false bdA rn kd sg ls to tu pr lp0 rd lm sa fm pt ep ts tx fx xs):=by
 have e:=lt_f_none w x t it fr cl rn kd sg ls to tu pr lp rd lm sa fm pt ep ts bdA 0 0 0 0 0 0 0 0 I T V (fun _=>0) V0 mt tx fx xs [] g lb (w.params.followText "special-get-raises") (w.params.followText "comprehension-iter-twice")
 rw [← PP_self w] at e
 exact step_run e (GL_ok fun _ hq=>by cases List.mem_singleton.mp hq;exact hrn) lw_weight fun g' A Q gs d os hg low K=>
  ⟨⟨()⟩,nble rfl,fun _=>rfl,hlast ▸ dget1_ok (lk:=[]) (k:=kLast) (ka:=15) (D:=950) hd (fun g h n hg rep=>hg.2.2.mono rep.keep) (fun g h n hg rep=>(isLast hg.1).mono rep.keep) (by decide),fun _=>⟨v_nef,rfl,fun h' rep=>
   K ⟨upI I [(17,cond g (I 17) (a t 5))],Nat.add (a x 1) 0,Nat.add (a t 2) 5⟩ h' (by revert rep;exact bo2 (fun h=>h) (fun h=>h) (fun h=>h) (fun h=>h) g lb)⟩⟩
theorem stepF_some {M:Nat→Nat} {pd rl nm tg tr en2 tkl:Nat} {es:List DictEntry} (hL:∀ q∈[(rn,oRun rd),(lp0,oPr pd),(pd,dPr w.params M rl 0 tg 0 tr nm),(nm,oSd es en2)],q∈L0) (hd:(pt == sysModules)=false)
  (hlast:((atKey xs kLast).map (·.2)).getD .none=.ref lp0) (hk:KeysOf (sk w) ⟨es⟩) (hv:findBy (sk w).is ⟨es⟩ sTurn=some (.int (Int.ofNat to) tkl)):
  StepOK w (GL w L0 xs) (lwLoop it fr cl) 320 [bd 6,bd 7] (lwEnv fr cl) [(fr,lwG w.params I V0 g lb true 4 bdA rn kd sg ls to tu tx fx pr lp),(rd,dRun w.params T V lm sa fm mt pt ls ts),(pt,oDk w xs ep)] x t
   (sfSh w T V V0 mt true bdA rn kd sg ls to tu pr lp0 rd lm sa fm pt ep ts tx fx xs):=by
 have e:=lt_f_some w x t it fr cl rn kd sg ls to tu pr lp rd lm sa fm pt ep ts bdA pd rl nm tg tr en2 tkl lp0 I T V M V0 mt tx fx xs es g lb (w.params.followText "special-get-raises") (w.params.followText "comprehension-iter-twice")
 rw [← PP_self w] at e
 exact step_run e (GL_ok hL) lw_weight fun g' A Q gs d os hg low K=>
  ⟨⟨()⟩,nble rfl,fun _=>rfl,hlast ▸ dget1_ok (lk:=[]) (k:=kLast) (ka:=15) (D:=950) hd (fun g h n hg rep=>hg.2.2.mono rep.keep) (fun g h n hg rep=>(isLast hg.1).mono rep.keep) (by decide),fun _=>⟨v_nef,⟨⟨()⟩,nble rfl,fun _=>rfl,
   sitemG hk (fun g hg=>hg.2.1 _ (hL _ (.tail _ (.tail _ (.tail _ (.head _)))))) hv,fun _=>⟨v_nef,rfl,fun h' rep=>
   K ⟨upI I [(17,cond g (I 17) (a t 5))],Nat.add (a x 1) 0,Nat.add (a t 9) 1⟩ h' (by revert rep;exact bo2 (fun h=>h) (fun h=>h) (fun h=>h) (fun h=>h) g lb)⟩⟩⟩⟩
end
end
noncomputable section
theorem bd3_eq:bd 3=.If (.BoolOp .Or [.Compare (cmpL rwCmp) [.NotEq] [cmpR rwCmp] (ePos rwCmp),orR (testE (bd 3))] (ePos (testE (bd 3)))) (fthen (bd 3)) [] (ifPos (bd 3)):=by kernel_rfl
theorem under_room2 {A:Around} {D:Nat} {c:Code} (low:Low D A) (hD:D≤980):(A.under c).in1.units < cLine:=by
 have:=units_le c
 have h2:=low.2.2
 show A.units+c.cUnits+1 < 9900
 omega
structure SC where
 x:Nat
 t:Nat
def scSh (l:List Obj) (p:SC):Shape:=⟨.ok .next,l,[],p.x,0,p.t,0,[]⟩
section
variable {w:World} {L0:Led} {I M:Nat→Nat} {V0:Value} {g lb tb i:Bool} {it fr cl bdA rn kd sg ls to tu pr lp ka ek x t pd rl nm tg tr en2 epr e ke:Nat} {tx fx:List Nat} {ys:List Ent} {es:List DictEntry} {ts:List Nd}
theorem stepC {kv tkv tkv2:Nat} {h1 h2:Bool} (hT:AB tx) (hne:tx≠[]) (hlen:ts.length=tx.length)
  (hL:∀ q∈[(pr,oPr pd),(pd,dPr w.params M rl 0 tg 0 tr nm),(nm,oSd es en2)],q∈L0) (hrl:(rl,oLst (nrefs ts++[.ref e]) epr)∈L0) (hend:(e,oTup [.str (q [101,110,100]) ke])∈L0) (hns:∀ q∈nodes i tx ts,q∈L0)
  (hk:KeysOf (sk w) ⟨es⟩) (hnm:(nm == sysModules)=false) (hkd:(kd == sysModules)=false)
  (hv:(findBy (sk w).is ⟨es⟩ sTurn).getD (.int (Int.ofNat tu) (I 11))=.int (Int.ofNat kv) (cond h1 tkv (I 11))) (hy:((atKey ys (kKey tx i)).map (·.2)).getD (.int (Int.ofNat tu) (I 11))=.int (Int.ofNat kv) (cond h2 tkv2 (I 11))):
  StepOK w (GL w L0 ys) (lwLoop it fr cl) 320 [bd 3] (lwEnv fr cl) [(fr,lwG w.params I V0 g lb tb 4 bdA rn kd sg ls to tu tx fx pr lp),(cl,oCl true ka),(ka,oKey2 tx i (I 13)),(kd,oDk w ys ek)] x t
   (scSh [lwG w.params I V0 g lb tb 4 bdA rn kd sg ls to tu tx fx pr lp,oCl true ka,oKey2 tx i (I 13),oDk w ys ek]):=by
 intro g' A Q gs d os h hg low rep K
 rw [bd3_eq]
 refine own_cons (own_if (own_or (own_cmp rfl ?_)))
 have e1:=lt_c_l w lb tb en2 es x t it bdA fr cl rn kd sg ls to tu pr lp ka 0 pd rl nm tg tr 0 0 0 0 I M V0 tx fx [] g (w.params.followText "special-get-raises") (w.params.followText "comprehension-iter-twice")
 rw [← PP_self w] at e1
 have s1:Sel _ [0] _:=sel_spec (L:=[(fr,lwG w.params I V0 g lb tb 4 bdA rn kd sg ls to tu tx fx pr lp),(cl,oCl true ka),(ka,oKey2 tx i (I 13)),(kd,oDk w ys ek)]) (l:=[(fr,lwG w.params I V0 g lb tb 4 bdA rn kd sg ls to tu tx fx pr lp)]) rfl
 refine piece_eval (x:=x) (m:=0) (t:=t) (i:=0) (GL_ok (L0:=L0) (xs:=ys) hL) (GL_mono _ _ (sub_hide rep s1.sub) hg) low lw_weight (rep.hide s1) e1 ⟨rfl,fun h1' rep1=>?_⟩
 have rep1:=rep.back (sh:=⟨.ok .next,[lwG w.params I V0 g lb tb 4 bdA rn kd sg ls to tu tx fx pr lp],[],0,0,0,0,[]⟩) s1 rfl (n':=Nat.add x 0) (h':=h1') (by revert rep1;exact bo3 (fun h=>h) (fun h=>h) (fun h=>h) (fun h=>h) (fun h=>h) (fun h=>h) (fun h=>h) (fun h=>h) g tb lb)
 have e2:=lt_c_r w lb tb i en2 es x (Nat.add t 1) it bdA fr cl rn kd sg ls to tu pr lp ka 0 pd rl nm tg tr 0 0 0 0 I M V0 tx fx [] g (w.params.followText "special-get-raises") (w.params.followText "comprehension-iter-twice")
 rw [← PP_self w] at e2
 have s2:Sel _ [0,1,2] _:=sel_spec (L:=[(fr,lwG w.params I V0 g lb tb 4 bdA rn kd sg ls to tu tx fx pr lp),(cl,oCl true ka),(ka,oKey2 tx i (I 13)),(kd,oDk w ys ek)]) (l:=[(fr,lwG w.params I V0 g lb tb 4 bdA rn kd sg ls to tu tx fx pr lp),(cl,oCl true ka),(ka,oKey2 tx i (I 13))]) rfl
 have rep1':Rep g' [(fr,lwG w.params I V0 g lb tb 4 bdA rn kd sg ls to tu tx fx pr lp),(cl,oCl true ka),(ka,oKey2 tx i (I 13)),(kd,oDk w ys ek)] (Nat.add x 0) h1':=rep1
 have hz:sizeLine=16777216:=rfl
 have hl:=hT.size
 refine piece_eval (x:=x) (m:=0) (t:=Nat.add t 1) (i:=0) (G0_ok w) (G0_mono w _ _ (sub_hide rep1' s2.sub) hg.1) low lw_weight (rep1'.hide s2) e2 ?_
 refine ⟨⟨()⟩,nble rfl,fun _=>rfl,siter_ok hT,fun _=>⟨ne_CR _,nble rfl,fun _=>rfl,crLoop_ok2 hT hne,fun p=>⟨⟨()⟩,nble rfl,fun _=>rfl,ladd_ok (by have:=p.len;show (nrefs p.ts).length+1≤sizeLine;rw [nrefs_len];omega),fun _=>⟨by cases w.params.followText "comprehension-iter-twice"<;>rfl,fun h2' rep2=>?_⟩⟩⟩⟩
 have rep2:=rep1'.back (sh:=⟨.ok .next,[lwG w.params I V0 g lb tb 4 bdA rn kd sg ls to tu tx fx pr lp,oCl true ka,oKey2 tx i (I 13)],[(a p.x 2,oLst (nrefs p.ts++[.ref (a p.x 0)]) 0),(p.x,oTup [.str (q [101,110,100]) p.t])],0,0,0,0,nodes i tx p.ts⟩) s2 rfl (n':=Nat.add (a p.x 2) 1) (h':=h2') (by
  rw [List.append_nil] at rep2
  revert rep2
  exact bo3 (fun h=>h) (fun h=>h) (fun h=>h) (fun h=>h) (fun h=>h) (fun h=>h) (fun h=>h) (fun h=>h) g tb lb)
 have rep2':Rep g' ((a p.x 2,oLst (nrefs p.ts++[.ref (a p.x 0)]) 0)::(p.x,oTup [.str (q [101,110,100]) p.t])::(fr,lwG w.params I V0 g lb tb 4 bdA rn kd sg ls to tu tx fx pr lp)::(cl,oCl true ka)::(ka,oKey2 tx i (I 13))::(kd,oDk w ys ek)::nodes i tx p.ts) (Nat.add (a p.x 2) 1) h2':=rep2
 have kp:∀ q∈L0,h2'.get? q.1=some q.2:=fun q hq=>rep2'.keep _ _ (hg.2.1 q hq)
 have pairs:=eq_rows (A:=A.under (lwLoop it fr cl)) (s:=⟨h2',gs,d,Nat.add (a p.t 1) 0,os⟩) (f:=i) (under_room2 low (by decide)) (kp _ hend) (rep2'.own _ (.tail _ (.head _))).1 tx ts p.ts hlen p.len (fun q hq=>kp q (hns q hq)) (fun q hq=>(rep2'.own q (.tail _ (.tail _ (.tail _ (.tail _ (.tail _ (.tail _ hq))))))).1)
 refine wpOwn_of_wpAny (ne_lists (kp _ hrl) (rep2'.own _ (.head _)).1 (under_room low (by decide)) pairs ⟨false,rfl,?_⟩)
 have e3:=lt_c_2 w lb tb h1 h2 en2 es (Nat.add (a p.x 2) 1) (Nat.add (a p.t 1) 0) it bdA fr cl rn kd sg ls to tu pr lp ka ek pd rl nm tg tr 0 kv tkv tkv2 I M V0 tx fx ys g (w.params.followText "special-get-raises") (w.params.followText "comprehension-iter-twice")
 rw [← PP_self w] at e3
 have s3:Sel _ [2,3,5] _:=sel_spec (L:=(a p.x 2,oLst (nrefs p.ts++[.ref (a p.x 0)]) 0)::(p.x,oTup [.str (q [101,110,100]) p.t])::(fr,lwG w.params I V0 g lb tb 4 bdA rn kd sg ls to tu tx fx pr lp)::(cl,oCl true ka)::(ka,oKey2 tx i (I 13))::(kd,oDk w ys ek)::nodes i tx p.ts) (l:=[(fr,lwG w.params I V0 g lb tb 4 bdA rn kd sg ls to tu tx fx pr lp),(cl,oCl true ka),(kd,oDk w ys ek)]) rfl
 have hkey:=other_hide rep2' s3 (p:=4) (q:=(ka,oKey2 tx i (I 13))) rfl (by decide)
 have hg3:=GL_mono _ _ (sub_hide rep2' s3.sub) hg
 have hg3':GL w ((ka,oKey2 tx i (I 13))::L0) ys (hideAll h2' (List.map (·.1) [(fr,lwG w.params I V0 g lb tb 4 bdA rn kd sg ls to tu tx fx pr lp),(cl,oCl true ka),(kd,oDk w ys ek)])):=
  ⟨hg3.1,(fun q hq=>(List.mem_cons.mp hq).elim (fun e=>e ▸ hkey) (fun hq=>hg3.2.1 q hq)),hg3.2.2⟩
 refine piece_isTrue (x:=Nat.add (a p.x 2) 1) (m:=0) (t:=Nat.add (a p.t 1) 0) (i:=0) (GL_ok (L0:=(ka,oKey2 tx i (I 13))::L0) (xs:=ys) fun q hq=>.tail _ (hL q hq)) hg3' low lw_weight (rep2'.hide s3) e3 ?_
 refine ⟨⟨()⟩,nble rfl,fun _=>rfl,hv ▸ sgetG hk (fun g hg=>⟨hg.2.1 _ (.tail _ (hL _ (.tail _ (.tail _ (.head _))))),hnm⟩),fun _=>⟨⟨()⟩,nble rfl,fun _=>rfl,
  hy ▸ dget_ok (lk:=[]) (k:=kKey tx i) (D:=950) hkd (fun g h n hg rep=>hg.2.2.mono rep.keep) (fun g h n hg rep=>(isKey2 (hg.2.1 _ (.head _))).mono rep.keep) (by decide),fun _=>⟨v_nef,rfl,fun h3' rep3=>?_⟩⟩⟩
 have rep3:=rep2'.back (sh:=⟨.ok .next,[lwG w.params I V0 g lb tb 4 bdA rn kd sg ls to tu tx fx pr lp,oCl true ka,oDk w ys ek],[],0,0,0,0,[]⟩) s3 rfl (n':=Nat.add (Nat.add (a p.x 2) 1) 0) (h':=h3') (by revert rep3;exact bo3 (fun h=>h) (fun h=>h) (fun h=>h) (fun h=>h) (fun h=>h) (fun h=>h) (fun h=>h) (fun h=>h) g tb lb)
 rw [List.append_nil] at rep3
 have rep4:=Rep.sel (l:=[(fr,lwG w.params I V0 g lb tb 4 bdA rn kd sg ls to tu tx fx pr lp),(cl,oCl true ka),(ka,oKey2 tx i (I 13)),(kd,oDk w ys ek)]) (ps:=[2,3,4,5]) rep3 (sel_spec rfl)
 exact fun _ _ _ _=>then_next (s:=⟨h,gs,d,t,os⟩) (fun _ _ _ _=>K ⟨Nat.add (Nat.add (a p.x 2) 1) 0,Nat.add (a (Nat.add (a p.t 1) 0) 3) 3⟩ h3' rep4)
end
end
noncomputable section
theorem atKey_cons (x:Ent) (xs:List Ent) (k:List SB):atKey (x::xs) k=if x.1=k then some x.2 else atKey xs k:=by
 unfold atKey
 by_cases e:x.1=k<;>simp [List.find?_cons,e]
theorem atKey_append (ys:List Ent) (k:List SB):∀ xs:List Ent,atKey (xs++ys) k=(atKey xs k).or (atKey ys k)
 | []=>by show atKey ys k=none.or _;simp
 | x::xs=>by
  rw [List.cons_append,atKey_cons,atKey_cons,atKey_append ys k xs]
  split<;>rfl
theorem atKey_put_self {k:List SB} (v:Value):∀ (xs:List Ent),(atKey xs k).isSome=true→∃ a,atKey (xs.map (putAt k v)) k=some (a,v)
 | [],h=>nomatch h
 | x::xs,h=>by
  rw [List.map_cons,atKey_cons]
  rw [atKey_cons] at h
  unfold putAt
  by_cases e:x.1=k
  ·rw [if_pos e]
   exact ⟨x.2.1,if_pos e⟩
  ·rw [if_neg e] at h ⊢
   rw [if_neg e]
   exact atKey_put_self v xs h
theorem atKey_stored_self (xs:List Ent) (k:List SB) (a:Addr) (v:Value):∃ a',atKey (storedH xs k a v) k=some (a',v):=by
 cases e:atKey xs k with
 | none=>
  rw [storedH_new e,atKey_append,e]
  exact ⟨a,by rw [atKey_cons,if_pos rfl];rfl⟩
 | some p=>
  rw [storedH_old e]
  exact atKey_put_self v xs (by rw [e];rfl)
theorem kText_ne_last {tx:List Nat} {i:Bool} (h:tx≠[]):kText tx i≠kLast:=fun e=>by
 have e1:q tx=q []:=Sum.inl.inj (List.cons.inj e).1
 exact h (congrArg (fun s:Str=>s.cps.toList) e1)
theorem kText_ne_kept {tx:List Nat} {i:Bool} (h:tx≠[]):kText tx i≠kKept:=fun e=>by
 have e1:q tx=q []:=Sum.inl.inj (List.cons.inj e).1
 exact h (congrArg (fun s:Str=>s.cps.toList) e1)
theorem kLast_ne_kept:kLast≠kKept:=by decide
theorem q_inj2 {x y:List Nat} (e:q x=q y):x=y:=congrArg (fun s:Str=>s.cps.toList) e
theorem kText_inj {tx ty:List Nat} {i j:Bool} (e:kText tx i=kText ty j):tx=ty∧i=j:=by
 have e1:q tx=q ty:=Sum.inl.inj (List.cons.inj e).1
 have e2:q (fl i)=q (fl j):=Sum.inl.inj (List.cons.inj (List.cons.inj e).2).1
 refine ⟨q_inj2 e1,?_⟩
 have e3:=q_inj2 e2
 cases i<;>cases j<;>first | rfl | exact absurd e3 (by decide)
theorem kKey_inj {tx ty:List Nat} {i j:Bool} (e:kKey tx i=kKey ty j):tx=ty∧i=j:=by
 have e1:q tx=q ty:=Sum.inl.inj (List.cons.inj e).1
 have e2:i=j:=Sum.inr.inj (List.cons.inj (List.cons.inj e).2).1
 exact ⟨q_inj2 e1,e2⟩
end
noncomputable section
structure LS where
 I:Nat→Nat
 g:Bool
 lf:Bool
 tb:Bool
 mb:Bool
 v:Nat
 n:Nat
 tn:Nat
 sg:Nat
 st:Nat
 to:Nat
 tu:Nat
 pr:Nat
 lpf:Nat
 lp:Nat
 ka:Nat
 ma:Nat
 pt:Nat
 kd:Nat
 ts:Nat
 ep:Nat
 ek:Nat
 es:Nat
 tx:List Nat
 fx:List Nat
 xs:List Ent
 ys:List Ent
 svs:List Value
def lsF (w:World) (V0:Value) (bdA rn m:Nat) (s:LS):Obj:=lwG w.params s.I V0 s.g s.lf s.tb m bdA rn s.kd s.sg s.st s.to s.tu s.tx s.fx s.pr s.lpf
def lsL (w:World) (T V:Nat→Nat) (V0:Value) (it bdA fr cl rn rd lm sa fm:Nat) (sv:List Value) (left m:Nat) (c:Bool) (s:LS):Led:=
 [(it,oRi s.v left),(bdA,oBd s.n s.tn sv 0),(fr,lsF w V0 bdA rn m s),(cl,oCl c s.ka),(rn,oRun rd),(rd,dRun w.params T V lm sa fm (lvV s.mb s.ma) s.pt s.st s.ts),(s.pt,oDk w s.xs s.ep),(s.kd,oDk w s.ys s.ek),(sa,oLst s.svs s.es)]
structure Inv (w:World) (L0:Led) (left:Nat) (s:LS) (g:Heap):Prop where
 gt:GT w L0 s.xs s.ys s.tb s.lp s.to g
 kept:KeptIs s.xs s.sg
 bx:s.xs.length+3 * left≤900
 by':s.ys.length+left≤900
 bst:s.st+100 * left≤900000
 bn:s.n+3 * left≤890
 bsv:s.svs.length+left≤1990
 hlf:s.lf=s.tb
 hlp:s.lpf=s.lp
theorem GT.setLast {w:World} {L0:Led} {xs ys:List Ent} {lb:Bool} {lp to pr tv:Nat} {i:Bool} {tx:List Nat} {g:Heap} (h:GT w L0 xs ys lb lp to g) (hp:ProgOK w i tx pr tv g):GT w L0 (storedH xs kLast 15 (.ref pr)) ys true pr tv g where
 base:=h.base
 l0:=h.l0
 kx:=h.kx.stored (isLast h.base.1)
 ky:=h.ky
 progs:=fun tx' i' a v hne e=>h.progs tx' i' a v hne (by rw [← e];exact (atKey_stored_ne (kText_ne_last hne)).symm)
 none:=fun tx' i' hne e=>h.none tx' i' hne (by rw [← e];exact (atKey_stored_ne (kText_ne_last hne)).symm)
 last:=by
  obtain ⟨a',e⟩:=atKey_stored_self xs kLast 15 (.ref pr)
  rw [e]
  rfl
 told:=fun _=>⟨i,tx,hp⟩
theorem KeptIs.setLast {xs:List Ent} {kp:Nat} {v:Value} (h:KeptIs xs kp):KeptIs (storedH xs kLast 15 v) kp:=by
 unfold KeptIs
 rw [atKey_stored_ne (k2:=kKept) (k:=kLast) (fun e=>kLast_ne_kept e.symm)]
 exact h
section
variable {w:World} {L0:Led} {T V:Nat→Nat} {V0:Value} {it bdA fr cl rn rd lm sa fm left x t:Nat} {sv:List Value} {g h:Heap} {A:Around} {Q:Flow→Shared→Prop} {gs:Array GenState} {d:Drawn} {os:OsState}
theorem turn3 {s:LS} (low:Low 320 A) (hgt:GT w L0 s.xs s.ys s.tb s.lp s.to g) (rep:Rep g (lsL w T V V0 it bdA fr cl rn rd lm sa fm sv left 4 true s) x h)
  (K:∀ (I':Nat→Nat) h' x' t',Rep g (lsL w T V V0 it bdA fr cl rn rd lm sa fm sv left 0 true { s with I:=I',g:=true,lf:=s.tb,lpf:=s.lp }) x' h'→Q .next ⟨h',gs,d,t',os⟩):
  wpOwn (MW w) A (lwLoop it fr cl) (execs [bd 6,bd 7] (lwEnv fr cl)) Q (fun _ _=>False) ⟨h,gs,d,t,os⟩:=by
 have hpt:(s.pt == sysModules)=false:=not_sys hgt.base rep (q:=(s.pt,oDk w s.xs s.ep)) (.tail _ (.tail _ (.tail _ (.tail _ (.tail _ (.tail _ (.head _)))))))
 have sl:Sel _ [2,5,6] _:=sel_spec (L:=lsL w T V V0 it bdA fr cl rn rd lm sa fm sv left 4 true s) (l:=[(fr,lsF w V0 bdA rn 4 s),(rd,dRun w.params T V lm sa fm (lvV s.mb s.ma) s.pt s.st s.ts),(s.pt,oDk w s.xs s.ep)]) rfl
 have hrn:=other_hide rep sl (p:=4) (q:=(rn,oRun rd)) rfl (by decide)
 have hgt':=hgt.mono (sub_hide rep sl.sub)
 obtain ⟨I,g0,lf,tb,mb,v,n,tn,sg,st,to,tu,pr,lpf,lp,ka,ma,pt,kd,ts,ep,ek,es,tx,fx,xs,ys,svs⟩:=s
 dsimp only at *
 cases tb with
 | false=>
  refine use_step (ps:=[2,5,6]) (stepF_none (L0:=[(rn,oRun rd)]) (lp0:=lp) (.head _) hpt hgt.last) rfl ⟨hgt'.base.1,fun q hq=>(List.mem_singleton.mp hq) ▸ hrn,hgt'.kx⟩ low rep (fun _=>rfl) fun p h' r=>?_
  exact K p.I h' _ _ r
 | true=>
  obtain ⟨i',tx',hp⟩:=hgt'.told rfl
  obtain ⟨pd,rl,nm,tg,tr,epr,e,ke,en2,tk,M,tss,ess,h0,h1,h2,h3,h4,h5,h6,h7,h8,h9⟩:=hp.ex
  refine use_step (ps:=[2,5,6]) (stepF_some (L0:=[(rn,oRun rd),(lp,oPr pd),(pd,dPr w.params M rl 0 tg 0 tr nm),(nm,oSd ess en2)]) (lp0:=lp) (fun q hq=>hq) hpt hgt.last h7 h8) rfl ⟨hgt'.base.1,fun q hq=>?_,hgt'.kx⟩ low rep (fun _=>rfl) fun p h' r=>?_
  ·simp only [List.mem_cons,List.not_mem_nil,or_false] at hq
   rcases hq with rfl | rfl | rfl | rfl
   ·exact hrn
   ·exact h1
   ·exact h2
   ·exact h6
  ·exact K p.I h' _ _ r
end
end
noncomputable section
section
variable {w:World} {L0:Led} {T V:Nat→Nat} {V0:Value} {it bdA fr cl rn rd lm sa fm left x t:Nat} {sv:List Value} {g h:Heap} {A:Around} {Q:Flow→Shared→Prop} {gs:Array GenState} {d:Drawn} {os:OsState}
theorem turn2 {s:LS} {i:Bool} {tv tt tkv:Nat} {a2:Addr} (hs:Ints sv) (low:Low 320 A) (hgt:GT w L0 s.xs s.ys s.tb s.lp s.to g) (hkept:KeptIs s.xs s.sg) (bx:s.xs.length+3 * left+1≤900) (by':s.ys.length+left≤900) (bst:s.st+100 * left≤900000)
  (bn:s.n+1+3 * left≤890) (bsv:s.svs.length+1+left≤1990) (hprog:ProgOK w i s.tx s.pr tv g) (hyk:atKey s.ys (kKey s.tx i)=some (a2,.int (Int.ofNat tv) tkv)) (hkey:g.get? s.ka=some (oKey2 s.tx i tt))
  (rep:Rep g (lsL w T V V0 it bdA fr cl rn rd lm sa fm sv left 4 true s) x h)
  (K:∀ (s':LS) h' x' t',Inv w L0 left s' g→s'.g=true→s'.pt=s.pt→s'.kd=s.kd→Rep g (lsL w T V V0 it bdA fr cl rn rd lm sa fm sv left 0 true s') x' h'→Q .next ⟨h',gs,d,t',os⟩):
  wpOwn (MW w) A (lwLoop it fr cl) (execs ([bd 5]++[bd 6,bd 7]) (lwEnv fr cl)) Q (fun _ _=>False) ⟨h,gs,d,t,os⟩:=by
 have hpt:(s.pt == sysModules)=false:=not_sys hgt.base rep (q:=(s.pt,oDk w s.xs s.ep)) (.tail _ (.tail _ (.tail _ (.tail _ (.tail _ (.tail _ (.head _)))))))
 have sl:Sel _ [2,3,7,5,8,6,1] _:=sel_spec (L:=lsL w T V V0 it bdA fr cl rn rd lm sa fm sv left 4 true s) (l:=[(fr,lsF w V0 bdA rn 4 s),(cl,oCl true s.ka),(s.kd,oDk w s.ys s.ek),(rd,dRun w.params T V lm sa fm (lvV s.mb s.ma) s.pt s.st s.ts),(sa,oLst s.svs s.es),(s.pt,oDk w s.xs s.ep),(bdA,oBd s.n s.tn sv 0)]) rfl
 have hrn:=other_hide rep sl (p:=4) (q:=(rn,oRun rd)) rfl (by decide)
 have hsub:=sub_hide rep sl.sub
 have hgt':=hgt.mono hsub
 obtain ⟨I,g0,lf,tb,mb,v,n,tn,sg,st,to,tu,pr,lpf,lp,ka,ma,pt,kd,ts,ep,ek,es,tx,fx,xs,ys,svs⟩:=s
 dsimp only at *
 refine own_append (use_step (ps:=[2,3,7,5,8,6,1]) (stepE (L0:=[(rn,oRun rd),(ka,oKey2 tx i tt)]) (i:=i) (tt:=tt) (tv:=tv) (tkv:=tkv) (a2:=a2) (lb2:=tb) (lp2:=lp) hs (by omega) (.head _) (.tail _ (.head _)) hpt hyk hgt.last (by omega) (by omega)) rfl
  ⟨⟨hgt'.base.1,fun q hq=>?_,hgt'.kx⟩,hgt'.ky⟩ low rep (fun _=>rfl) fun p h' r=>then_next (s:=⟨h,gs,d,t,os⟩) ?_)
 ·simp only [List.mem_cons,List.not_mem_nil,or_false] at hq
  rcases hq with rfl | rfl
  ·exact hrn
  ·exact hsub _ _ hkey
 ·obtain ⟨b,I',tk,ep',svs',hsv,es',mb',ma',tn',px,pt'⟩:=p
  cases b with
  | false=>
   refine turn3 (s:=⟨I',g0,lf,tb,mb',v,n+1,tn',sg,st,to,tu,pr,lpf,lp,ka,ma',pt,kd,ts,ep',ek,es',tx,fx,xs,ys,svs'⟩) low hgt r fun I2 h2 x2 t2 r2=>?_
   exact K ⟨I2,true,tb,tb,mb',v,n+1,tn',sg,st,to,tu,pr,lp,lp,ka,ma',pt,kd,ts,ep',ek,es',tx,fx,xs,ys,svs'⟩ h2 x2 t2 ⟨hgt,hkept,by show xs.length+_≤_;omega,by',bst,by show n+1+_≤_;omega,by show svs'.length+_≤_;omega,rfl,rfl⟩ rfl rfl rfl r2
  | true=>
   have hgt2:=hgt.setLast hprog
   have hlen:=stored_len xs kLast 15 (.ref pr)
   refine turn3 (s:=⟨I',g0,lf,true,mb',v,n+1,tn',sg,st,tv,tu,pr,lpf,pr,ka,ma',pt,kd,ts,ep',ek,es',tx,fx,storedH xs kLast 15 (.ref pr),ys,svs'⟩) low hgt2 r fun I2 h2 x2 t2 r2=>?_
   exact K ⟨I2,true,true,true,mb',v,n+1,tn',sg,st,tv,tu,pr,pr,pr,ka,ma',pt,kd,ts,ep',ek,es',tx,fx,storedH xs kLast 15 (.ref pr),ys,svs'⟩ h2 x2 t2 ⟨hgt2,hkept.setLast,by show (storedH xs kLast 15 (.ref pr)).length+_≤_;omega,by',bst,by show n+1+_≤_;omega,by show svs'.length+_≤_;omega,rfl,rfl⟩ rfl rfl rfl r2
end
end
noncomputable section
theorem IsK.text {w:World} {g:Heap} {ka tt tf:Nat} {tx:List Nat} {i:Bool} (h:g.get? ka=some (oKey tx i tt tf)):IsK w g (kText tx i) ka:=IsK.pair h (sbIs_str _ _) (sbIs_str _ _)
theorem GT.flush {w:World} {L0:Led} {xs ys:List Ent} {lb:Bool} {lp to:Nat} {g:Heap} (h:GT w L0 xs ys lb lp to g):GT w L0 [(kLast,15,lvV lb lp)] [] lb lp to g where
 base:=h.base
 l0:=h.l0
 kx:=⟨fun x hx=>by cases List.mem_singleton.mp hx;exact isLast h.base.1,by simp⟩
 ky:=⟨fun y hy=>(List.not_mem_nil hy).elim,List.nodup_nil⟩
 progs:=fun tx i a v hne e=>by
  rw [atKey_cons,if_neg (fun e=>kText_ne_last hne e.symm)] at e
  cases e
 none:=fun _ _ _ _=>rfl
 last:=by rw [atKey_cons,if_pos rfl];rfl
 told:=h.told
theorem GT.add {w:World} {L0:Led} {xs ys:List Ent} {lb i:Bool} {lp to pr tu kn tk tk2 ka ka2 tt tf tt2:Nat} {tx:List Nat} {g g2:Heap} (h:GT w L0 xs ys lb lp to g) (sub:∀ b o,g.get? b=some o→g2.get? b=some o) (hne:tx≠[])
  (hka:g2.get? ka=some (oKey tx i tt tf)) (hka2:g2.get? ka2=some (oKey2 tx i tt2)) (hp:ProgOK w i tx pr tu g2):
  GT w L0 (kept1 xs kn tk tx i ka pr) (storedH ys (kKey tx i) ka2 (.int (Int.ofNat tu) tk2)) lb lp to g2:=by
 have h2:=h.mono sub
 have b0:=h2.base
 exact {
  base:=b0
  l0:=h2.l0
  kx:=(h2.kx.stored (isKept b0.1)).stored (IsK.text hka)
  ky:=h2.ky.stored (isKey2 hka2)
  progs:=fun tx' i' a v hne' e=>by
   by_cases hk:kText tx' i'=kText tx i
   ·obtain ⟨rfl,rfl⟩:=kText_inj hk
    obtain ⟨a',e1⟩:=atKey_stored_self (storedH xs kKept 729 (.int (Int.ofNat kn) tk)) (kText tx' i') ka (.ref pr)
    unfold kept1 at e
    rw [e1] at e
    cases e
    obtain ⟨a2,e2⟩:=atKey_stored_self ys (kKey tx' i') ka2 (.int (Int.ofNat tu) tk2)
    exact ⟨pr,tu,a2,tk2,rfl,hp,e2⟩
   ·unfold kept1 at e
    rw [atKey_stored_ne hk,atKey_stored_ne (kText_ne_kept hne')] at e
    obtain ⟨pr',tu',a2,tk',e1,e2,e3⟩:=h2.progs tx' i' a v hne' e
    refine ⟨pr',tu',a2,tk',e1,e2,?_⟩
    rw [atKey_stored_ne (fun z=>hk (by obtain ⟨rfl,rfl⟩:=kKey_inj z;rfl))]
    exact e3
  none:=fun tx' i' hne' e=>by
   by_cases hk:kText tx' i'=kText tx i
   ·exfalso
    rw [hk] at e
    obtain ⟨a',e1⟩:=atKey_stored_self (storedH xs kKept 729 (.int (Int.ofNat kn) tk)) (kText tx i) ka (.ref pr)
    unfold kept1 at e
    rw [e1] at e
    cases e
   ·unfold kept1 at e
    rw [atKey_stored_ne hk,atKey_stored_ne (kText_ne_kept hne')] at e
    rw [atKey_stored_ne (fun z=>hk (by obtain ⟨rfl,rfl⟩:=kKey_inj z;rfl))]
    exact h2.none tx' i' hne' e
  last:=by
   unfold kept1
   rw [atKey_stored_ne (fun e=>kText_ne_last hne e.symm),atKey_stored_ne kLast_ne_kept]
   exact h2.last
  told:=h2.told }
theorem KeptIs.add {xs:List Ent} {kn tk ka pr:Nat} {tx:List Nat} {i:Bool} (hne:tx≠[]):KeptIs (kept1 xs kn tk tx i ka pr) kn:=by
 obtain ⟨a',e1⟩:=atKey_stored_self xs kKept 729 (.int (Int.ofNat kn) tk)
 refine .inl ⟨a',tk,?_⟩
 unfold kept1
 rw [atKey_stored_ne (fun e=>kText_ne_kept hne e.symm)]
 exact e1
theorem kept1_len (xs:List Ent) (kn tk ka pr:Nat) (tx:List Nat) (i:Bool):(kept1 xs kn tk tx i ka pr).length≤xs.length+2:=by
 have h1:=stored_len xs kKept 729 (.int (Int.ofNat kn) tk)
 have h2:=stored_len (storedH xs kKept 729 (.int (Int.ofNat kn) tk)) (kText tx i) ka (.ref pr)
 unfold kept1
 omega
end
noncomputable section
structure InvA (w:World) (L0:Led) (left:Nat) (s:LS) (g:Heap):Prop where
 gt:GT w L0 s.xs s.ys s.tb s.lp s.to g
 kept:KeptIs s.xs s.sg
 bx:s.xs.length+3 * left+3≤900
 by':s.ys.length+left+1≤900
 bst:s.st+100 * left+100≤900000
 bn:s.n+1+3 * left≤890
 bsv:s.svs.length+1+left≤1990
section
variable {w:World} {L0:Led} {T V W:Nat→Nat} {V0 v1:Value} {it bdA fr cl rn rd lm ld sa fm ef left x t stp tst lim tl:Nat} {sv:List Value} {g h:Heap} {A:Around} {Q:Flow→Shared→Prop} {gs:Array GenState} {d:Drawn} {os:OsState}
def TurnK (w:World) (L0:Led) (T V:Nat→Nat) (V0:Value) (it bdA fr cl rn rd lm sa fm:Nat) (sv:List Value) (left:Nat) (g:Heap) (pt kd:Nat) (Q:Flow→Shared→Prop) (gs:Array GenState) (d:Drawn) (os:OsState):Prop:=
 ∀ (g2:Heap) (s':LS) (h':Heap) (x' t':Nat),(∀ b o,g.get? b=some o→g2.get? b=some o)→Inv w L0 left s' g2→s'.g=true→(s'.pt=pt∨(g2.get? pt).isSome=true)→(s'.kd=kd∨(g2.get? kd).isSome=true) →
  Rep g2 (lsL w T V V0 it bdA fr cl rn rd lm sa fm sv left 0 true s') x' h'→Q .next ⟨h',gs,d,t',os⟩
theorem turnB_hit {s:LS} {i gg:Bool} {k0:Addr} {v0:Value} (hs:Ints sv) (low:Low 320 A) (inv:InvA w L0 left s g) (hT:AB s.tx) (hne:s.tx≠[]) (hfx:s.fx=fg gg i) (hp:atKey s.xs (kText s.tx i)=some (k0,v0))
  (rep:Rep g (lsL w T V V0 it bdA fr cl rn rd lm sa fm sv left 3 true s++[(s.ka,oKey2 s.tx i (s.I 13))]) x h) (K:TurnK w L0 T V V0 it bdA fr cl rn rd lm sa fm sv left g s.pt s.kd Q gs d os):
  wpOwn (MW w) A (lwLoop it fr cl) (execs ([bd 2]++([bd 3]++([bd 4]++([bd 5]++[bd 6,bd 7])))) (lwEnv fr cl)) Q (fun _ _=>False) ⟨h,gs,d,t,os⟩:=by
 obtain ⟨hgt,hkept,bx,by',bst,bn,bsv⟩:=inv
 obtain ⟨I,g0,lf,tb,mb,v,n,tn,sg,st,to,tu,pr,lpf,lp,ka,ma,pt,kd,ts,ep,ek,es,tx,fx,xs,ys,svs⟩:=s
 dsimp only at *
 subst hfx
 obtain ⟨pr1,tu1,a2,tk,rfl,hprog,hyk⟩:=hgt.progs tx i _ _ hne hp
 have hpt:(pt == sysModules)=false:=not_sys hgt.base rep (q:=(pt,oDk w xs ep)) (.tail _ (.tail _ (.tail _ (.tail _ (.tail _ (.tail _ (.head _)))))))
 have hkd:(kd == sysModules)=false:=not_sys hgt.base rep (q:=(kd,oDk w ys ek)) (.tail _ (.tail _ (.tail _ (.tail _ (.tail _ (.tail _ (.tail _ (.head _))))))))
 have slB:Sel _ [2,4,5,6] _:=sel_spec (L:=lsL w T V V0 it bdA fr cl rn rd lm sa fm sv left 3 true ⟨I,g0,lf,tb,mb,v,n,tn,sg,st,to,tu,pr,lpf,lp,ka,ma,pt,kd,ts,ep,ek,es,tx,fg gg i,xs,ys,svs⟩++[(ka,oKey2 tx i (I 13))]) (l:=[(fr,lwG w.params I V0 g0 lf tb 3 bdA rn kd sg st to tu tx (fg gg i) pr lpf),(rn,oRun rd),(rd,dRun w.params T V lm sa fm (lvV mb ma) pt st ts),(pt,oDk w xs ep)]) rfl
 have gtB:=hgt.mono (sub_hide rep slB.sub)
 refine own_append (use_step (ps:=[2,4,5,6]) (stepB_hit (L0:=[]) (pr:=pr1) (gg:=gg) (i:=i) hpt hp) rfl ⟨gtB.base.1,(fun _ hq=>nomatch hq),gtB.kx⟩ low rep (fun _=>rfl) fun pB h1 r1=>then_next (s:=⟨h,gs,d,t,os⟩) ?_)
 obtain ⟨I1,h13,x1,t1⟩:=pB
 have r1:Rep g (lsL w T V V0 it bdA fr cl rn rd lm sa fm sv left 4 true ⟨I1,g0,lf,tb,mb,v,n,tn,sg,st,to,tu,pr1,lpf,lp,ka,ma,pt,kd,ts,ep,ek,es,tx,fg gg i,xs,ys,svs⟩++[(ka,oKey2 tx i (I1 13))]) (Nat.add x1 0) h1:=by rw [h13];exact r1
 obtain ⟨pd,rl,nm,tg,tr,epr,e,ke,en2,tkn,M,tss,ess,c0,c1,c2,c3,c4,c5,c6,c7,c8,c9⟩:=hprog.ex
 have slC:Sel _ [2,3,9,7] _:=sel_spec (L:=lsL w T V V0 it bdA fr cl rn rd lm sa fm sv left 4 true ⟨I1,g0,lf,tb,mb,v,n,tn,sg,st,to,tu,pr1,lpf,lp,ka,ma,pt,kd,ts,ep,ek,es,tx,fg gg i,xs,ys,svs⟩++[(ka,oKey2 tx i (I1 13))]) (l:=[(fr,lwG w.params I1 V0 g0 lf tb 4 bdA rn kd sg st to tu tx (fg gg i) pr1 lpf),(cl,oCl true ka),(ka,oKey2 tx i (I1 13)),(kd,oDk w ys ek)]) rfl
 have subC:=sub_hide r1 slC.sub
 have gtC:=hgt.mono subC
 refine own_append (use_step (ps:=[2,3,9,7]) (stepC (L0:=[(pr1,oPr pd),(pd,dPr w.params M rl 0 tg 0 tr nm),(nm,oSd ess en2),(rl,oLst (nrefs tss++[.ref e]) epr),(e,oTup [.str (q [101,110,100]) ke])]++nodes i tx tss) (kv:=tu1) (h1:=true) (h2:=true) (tkv:=tkn) (tkv2:=tk) hT hne c0
  (fun q hq=>List.mem_append_left _ (List.mem_append_left [_,_] hq)) (List.mem_append_left _ (.tail _ (.tail _ (.tail _ (.head _))))) (List.mem_append_left _ (.tail _ (.tail _ (.tail _ (.tail _ (.head _)))))) (fun q hq=>List.mem_append_right _ hq) c7 c9 hkd (by rw [c8];rfl) (by rw [hyk];rfl)) rfl
  ⟨gtC.base.1,fun q hq=>subC _ _ ?_,gtC.ky⟩ low r1 (fun _=>rfl) fun pC h2 r2=>then_next (s:=⟨h,gs,d,t,os⟩) ?_)
 ·rcases List.mem_append.mp hq with hq | hq
  ·simp only [List.mem_cons,List.not_mem_nil,or_false] at hq
   rcases hq with rfl | rfl | rfl | rfl | rfl<;>assumption
  ·exact c5 _ hq
 obtain ⟨x2,t2⟩:=pC
 have r2:Rep g (lsL w T V V0 it bdA fr cl rn rd lm sa fm sv left 4 true ⟨I1,g0,lf,tb,mb,v,n,tn,sg,st,to,tu,pr1,lpf,lp,ka,ma,pt,kd,ts,ep,ek,es,tx,fg gg i,xs,ys,svs⟩++[(ka,oKey2 tx i (I1 13))]) (Nat.add x2 0) h2:=r2
 have slD:Sel _ [2,3,7] _:=sel_spec (L:=lsL w T V V0 it bdA fr cl rn rd lm sa fm sv left 4 true ⟨I1,g0,lf,tb,mb,v,n,tn,sg,st,to,tu,pr1,lpf,lp,ka,ma,pt,kd,ts,ep,ek,es,tx,fg gg i,xs,ys,svs⟩++[(ka,oKey2 tx i (I1 13))]) (l:=[(fr,lwG w.params I1 V0 g0 lf tb 4 bdA rn kd sg st to tu tx (fg gg i) pr1 lpf),(cl,oCl true ka),(kd,oDk w ys ek)]) rfl
 have gtD:=hgt.mono (sub_hide r2 slD.sub)
 refine own_append (use_step (ps:=[2,3,7]) (stepD_hit (L0:=[(ka,oKey2 tx i (I1 13))]) (.head _) hkd hyk) rfl ⟨gtD.base.1,fun q hq=>(List.mem_singleton.mp hq) ▸ other_hide r2 slD (p:=9) (q:=(ka,oKey2 tx i (I1 13))) rfl (by decide),gtD.ky⟩ low r2 (fun _=>rfl) fun pD h3 r3=>then_next (s:=⟨h,gs,d,t,os⟩) ?_)
 obtain ⟨I3,h13',x3,t3⟩:=pD
 have r3:Rep g (lsL w T V V0 it bdA fr cl rn rd lm sa fm sv left 4 true ⟨I3,g0,lf,tb,mb,v,n,tn,sg,st,to,tu,pr1,lpf,lp,ka,ma,pt,kd,ts,ep,ek,es,tx,fg gg i,xs,ys,svs⟩++[(ka,oKey2 tx i (I1 13))]) (Nat.add x3 0) h3:=r3
 have slE:Sel _ [0,1,2,3,4,5,6,7,8] _:=sel_spec (L:=lsL w T V V0 it bdA fr cl rn rd lm sa fm sv left 4 true ⟨I3,g0,lf,tb,mb,v,n,tn,sg,st,to,tu,pr1,lpf,lp,ka,ma,pt,kd,ts,ep,ek,es,tx,fg gg i,xs,ys,svs⟩++[(ka,oKey2 tx i (I1 13))]) (l:=lsL w T V V0 it bdA fr cl rn rd lm sa fm sv left 4 true ⟨I3,g0,lf,tb,mb,v,n,tn,sg,st,to,tu,pr1,lpf,lp,ka,ma,pt,kd,ts,ep,ek,es,tx,fg gg i,xs,ys,svs⟩) rfl
 have subE:=sub_hide r3 slE.sub
 have z1:=hgt.mono subE
 have z2:=hprog.mono subE
 have z3:=r3.hide slE
 have z4:=other_hide r3 slE (p:=9) (q:=(ka,oKey2 tx i (I1 13))) rfl (by decide)
 exact @turn2 w L0 T V V0 it bdA fr cl rn rd lm sa fm left (Nat.add x3 0) (Nat.add t3 0) sv _ h3 A Q gs d os ⟨I3,g0,lf,tb,mb,v,n,tn,sg,st,to,tu,pr1,lpf,lp,ka,ma,pt,kd,ts,ep,ek,es,tx,fg gg i,xs,ys,svs⟩ i tu1 (I1 13) tk a2 hs low z1 hkept (by show xs.length+_+_≤_;omega) (by show ys.length+_≤_;omega) (by show st+_≤_;omega) (by show n+1+_≤_;omega) (by show svs.length+_+_≤_;omega) z2 hyk z4 z3
  (fun s' h' x' t' inv' hg' hpt' hkd' rep'=>K _ s' h' x' t' subE inv' hg' (.inl hpt') (.inl hkd') rep')
end
end
noncomputable section
section
variable {w:World} {L0:Led} {T V W:Nat→Nat} {V0 v1:Value} {it bdA fr cl rn rd lm ld sa fm ef left x t stp tst lim tl:Nat} {sv:List Value} {g h:Heap} {A:Around} {Q:Flow→Shared→Prop} {gs:Array GenState} {d:Drawn} {os:OsState}
theorem turnB_miss {s:LS} {i gg:Bool} (hs:Ints sv) (low:Low 320 A) (inv:InvA w L0 left s g) (hL:∀ q∈limL w lm ld W v1 stp tst lim tl,q∈L0) (hfm:(fm,oLst [] ef)∈L0) (hT:AB s.tx) (hne:s.tx≠[]) (hsm:s.tx.length≤32) (hfx:s.fx=fg gg i) (hp:atKey s.xs (kText s.tx i)=none) (hfit:s.sg+s.tx.length≤lim)
  (rep:Rep g (lsL w T V V0 it bdA fr cl rn rd lm sa fm sv left 3 true s++[(s.ka,oKey2 s.tx i (s.I 13))]) x h) (K:TurnK w L0 T V V0 it bdA fr cl rn rd lm sa fm sv left g s.pt s.kd Q gs d os):
  wpOwn (MW w) A (lwLoop it fr cl) (execs ([bd 2]++([bd 3]++([bd 4]++([bd 5]++[bd 6,bd 7])))) (lwEnv fr cl)) Q (fun _ _=>False) ⟨h,gs,d,t,os⟩:=by
 obtain ⟨hgt,hkept,bx,by',bst,bn,bsv⟩:=inv
 obtain ⟨I,g0,lf,tb,mb,v,n,tn,sg,st,to,tu,pr,lpf,lp,ka,ma,pt,kd,ts,ep,ek,es,tx,fx,xs,ys,svs⟩:=s
 dsimp only at *
 subst hfx
 have hyn:=hgt.none tx i hne hp
 have hpt:(pt == sysModules)=false:=not_sys hgt.base rep (q:=(pt,oDk w xs ep)) (.tail _ (.tail _ (.tail _ (.tail _ (.tail _ (.tail _ (.head _)))))))
 have hkd:(kd == sysModules)=false:=not_sys hgt.base rep (q:=(kd,oDk w ys ek)) (.tail _ (.tail _ (.tail _ (.tail _ (.tail _ (.tail _ (.tail _ (.head _))))))))
 have slB:Sel _ [2,4,5,6] _:=sel_spec (L:=lsL w T V V0 it bdA fr cl rn rd lm sa fm sv left 3 true ⟨I,g0,lf,tb,mb,v,n,tn,sg,st,to,tu,pr,lpf,lp,ka,ma,pt,kd,ts,ep,ek,es,tx,fg gg i,xs,ys,svs⟩++[(ka,oKey2 tx i (I 13))]) (l:=[(fr,lwG w.params I V0 g0 lf tb 3 bdA rn kd sg st to tu tx (fg gg i) pr lpf),(rn,oRun rd),(rd,dRun w.params T V lm sa fm (lvV mb ma) pt st ts),(pt,oDk w xs ep)]) rfl
 have gtB:=hgt.mono (sub_hide rep slB.sub)
 refine own_append (use_step (ps:=[2,4,5,6]) (stepB_miss (L0:=L0) (gg:=gg) (i:=i) (kp:=sg) hT hne hL hfm hpt hkept (by omega) (by omega) hfit hp) rfl ⟨gtB.base.1,gtB.l0,gtB.kx⟩ low rep (fun _=>rfl) fun pB h1 r1=>then_next (s:=⟨h,gs,d,t,os⟩) ?_)
 obtain ⟨pm,I1,h13,x1,t1⟩:=pB
 have hlen:tx.length / 10≤3:=by omega
 have r1:Rep g ([(pm.ka,oKey tx i (I 13) pm.tf),(pm.c.c.pr,oPr pm.c.c.pd),(pm.c.c.pd,dPr w.params pm.c.c.M pm.c.c.rl 0 pm.c.c.tg 0 pm.c.c.tr pm.c.nm),(pm.c.c.rl,oLst (nrefs pm.c.ts++[.ref pm.c.c.en]) pm.c.c.ep),(pm.c.c.en,oTup [.str (q [101,110,100]) pm.c.c.ke]),(pm.c.nm,oEmp),(it,oRi v left),(bdA,oBd n tn sv 0),(fr,lwG w.params I1 V0 g0 lf tb 4 bdA rn kd sg st to tu tx (fg gg i) pm.c.c.pr lpf),(cl,oCl true ka),(rn,oRun rd),(rd,dRun w.params T V lm sa fm (lvV mb ma) pt (st+tx.length / 10) pm.k.ts),(pt,oDk w (kept1 xs (sg+tx.length) pm.k.tk tx i pm.ka pm.c.c.pr) pm.k.ep),(kd,oDk w ys ek),(sa,oLst svs es),(ka,oKey2 tx i (I1 13))]++nodes i tx pm.c.ts) (Nat.add x1 0) h1:=by
  rw [h13];exact r1
 have nmF:(pm.c.nm == sysModules)=false:=not_sys hgt.base r1 (q:=(pm.c.nm,oEmp)) (.tail _ (.tail _ (.tail _ (.tail _ (.tail _ (.head _))))))
 have slG:Sel _ [6,7,8,9,10,11,12,13,14,15,5] _:=sel_spec (L:=[(pm.ka,oKey tx i (I 13) pm.tf),(pm.c.c.pr,oPr pm.c.c.pd),(pm.c.c.pd,dPr w.params pm.c.c.M pm.c.c.rl 0 pm.c.c.tg 0 pm.c.c.tr pm.c.nm),(pm.c.c.rl,oLst (nrefs pm.c.ts++[.ref pm.c.c.en]) pm.c.c.ep),(pm.c.c.en,oTup [.str (q [101,110,100]) pm.c.c.ke]),(pm.c.nm,oEmp),(it,oRi v left),(bdA,oBd n tn sv 0),(fr,lwG w.params I1 V0 g0 lf tb 4 bdA rn kd sg st to tu tx (fg gg i) pm.c.c.pr lpf),(cl,oCl true ka),(rn,oRun rd),(rd,dRun w.params T V lm sa fm (lvV mb ma) pt (st+tx.length / 10) pm.k.ts),(pt,oDk w (kept1 xs (sg+tx.length) pm.k.tk tx i pm.ka pm.c.c.pr) pm.k.ep),(kd,oDk w ys ek),(sa,oLst svs es),(ka,oKey2 tx i (I1 13))]++nodes i tx pm.c.ts) (l:=[(it,oRi v left),(bdA,oBd n tn sv 0),(fr,lwG w.params I1 V0 g0 lf tb 4 bdA rn kd sg st to tu tx (fg gg i) pm.c.c.pr lpf),(cl,oCl true ka),(rn,oRun rd),(rd,dRun w.params T V lm sa fm (lvV mb ma) pt (st+tx.length / 10) pm.k.ts),(pt,oDk w (kept1 xs (sg+tx.length) pm.k.tk tx i pm.ka pm.c.c.pr) pm.k.ep),(kd,oDk w ys ek),(sa,oLst svs es),(ka,oKey2 tx i (I1 13)),(pm.c.nm,oEmp)]) rfl
 have subG:=sub_hide r1 slG.sub
 have gKa:=other_hide r1 slG (p:=0) (q:=(pm.ka,oKey tx i (I 13) pm.tf)) rfl (by decide)
 have gPr:=other_hide r1 slG (p:=1) (q:=(pm.c.c.pr,oPr pm.c.c.pd)) rfl (by decide)
 have gPd:=other_hide r1 slG (p:=2) (q:=(pm.c.c.pd,dPr w.params pm.c.c.M pm.c.c.rl 0 pm.c.c.tg 0 pm.c.c.tr pm.c.nm)) rfl (by decide)
 have gRl:=other_hide r1 slG (p:=3) (q:=(pm.c.c.rl,oLst (nrefs pm.c.ts++[.ref pm.c.c.en]) pm.c.c.ep)) rfl (by decide)
 have gEn:=other_hide r1 slG (p:=4) (q:=(pm.c.c.en,oTup [.str (q [101,110,100]) pm.c.c.ke])) rfl (by decide)
 have gNs:∀ q∈nodes i tx pm.c.ts,_:=known_hide (k:=16) r1 slG rfl
 have r1g:=r1.hide slG
 generalize hideAll h1 (List.map (fun x=>x.1) [(it,oRi v left),(bdA,oBd n tn sv 0),(fr,lwG w.params I1 V0 g0 lf tb 4 bdA rn kd sg st to tu tx (fg gg i) pm.c.c.pr lpf),(cl,oCl true ka),(rn,oRun rd),(rd,dRun w.params T V lm sa fm (lvV mb ma) pt (st+tx.length / 10) pm.k.ts),(pt,oDk w (kept1 xs (sg+tx.length) pm.k.tk tx i pm.ka pm.c.c.pr) pm.k.ep),(kd,oDk w ys ek),(sa,oLst svs es),(ka,oKey2 tx i (I1 13)),(pm.c.nm,oEmp)])=g1 at subG gKa gPr gPd gRl gEn gNs r1g
 have hgt1:=hgt.mono subG
 have slC:Sel _ [2,3,9,7] _:=sel_spec (L:=[(it,oRi v left),(bdA,oBd n tn sv 0),(fr,lwG w.params I1 V0 g0 lf tb 4 bdA rn kd sg st to tu tx (fg gg i) pm.c.c.pr lpf),(cl,oCl true ka),(rn,oRun rd),(rd,dRun w.params T V lm sa fm (lvV mb ma) pt (st+tx.length / 10) pm.k.ts),(pt,oDk w (kept1 xs (sg+tx.length) pm.k.tk tx i pm.ka pm.c.c.pr) pm.k.ep),(kd,oDk w ys ek),(sa,oLst svs es),(ka,oKey2 tx i (I1 13)),(pm.c.nm,oEmp)]) (l:=[(fr,lwG w.params I1 V0 g0 lf tb 4 bdA rn kd sg st to tu tx (fg gg i) pm.c.c.pr lpf),(cl,oCl true ka),(ka,oKey2 tx i (I1 13)),(kd,oDk w ys ek)]) rfl
 have subC:=sub_hide r1g slC.sub
 have gtC:=hgt1.mono subC
 have cNm:=other_hide r1g slC (p:=10) (q:=(pm.c.nm,oEmp)) rfl (by decide)
 refine own_append (use_step (ps:=[2,3,9,7]) (stepC (L0:=[(pm.c.c.pr,oPr pm.c.c.pd),(pm.c.c.pd,dPr w.params pm.c.c.M pm.c.c.rl 0 pm.c.c.tg 0 pm.c.c.tr pm.c.nm),(pm.c.nm,oSd [] 0),(pm.c.c.rl,oLst (nrefs pm.c.ts++[.ref pm.c.c.en]) pm.c.c.ep),(pm.c.c.en,oTup [.str (q [101,110,100]) pm.c.c.ke])]++nodes i tx pm.c.ts) (kv:=tu) (h1:=false) (h2:=false) (tkv:=0) (tkv2:=0) hT hne pm.c.len
  (fun q hq=>List.mem_append_left _ (List.mem_append_left [_,_] hq)) (List.mem_append_left _ (.tail _ (.tail _ (.tail _ (.head _))))) (List.mem_append_left _ (.tail _ (.tail _ (.tail _ (.tail _ (.head _)))))) (fun q hq=>List.mem_append_right _ hq) (keys_nil w) nmF hkd rfl (by rw [hyn];rfl)) rfl
  ⟨gtC.base.1,fun q hq=>?_,gtC.ky⟩ low r1g (fun _=>rfl) fun pC h2 r2=>then_next (s:=⟨h,gs,d,t,os⟩) ?_)
 ·rcases List.mem_append.mp hq with hq | hq
  ·simp only [List.mem_cons,List.not_mem_nil,or_false] at hq
   rcases hq with rfl | rfl | rfl | rfl | rfl
   ·exact subC _ _ gPr
   ·exact subC _ _ gPd
   ·exact cNm
   ·exact subC _ _ gRl
   ·exact subC _ _ gEn
  ·exact subC _ _ (gNs _ hq)
 obtain ⟨x2,t2⟩:=pC
 have r2:Rep g1 [(it,oRi v left),(bdA,oBd n tn sv 0),(fr,lwG w.params I1 V0 g0 lf tb 4 bdA rn kd sg st to tu tx (fg gg i) pm.c.c.pr lpf),(cl,oCl true ka),(rn,oRun rd),(rd,dRun w.params T V lm sa fm (lvV mb ma) pt (st+tx.length / 10) pm.k.ts),(pt,oDk w (kept1 xs (sg+tx.length) pm.k.tk tx i pm.ka pm.c.c.pr) pm.k.ep),(kd,oDk w ys ek),(sa,oLst svs es),(ka,oKey2 tx i (I1 13)),(pm.c.nm,oEmp)] (Nat.add x2 0) h2:=r2
 have slD:Sel _ [2,3,7,10,5] _:=sel_spec (L:=[(it,oRi v left),(bdA,oBd n tn sv 0),(fr,lwG w.params I1 V0 g0 lf tb 4 bdA rn kd sg st to tu tx (fg gg i) pm.c.c.pr lpf),(cl,oCl true ka),(rn,oRun rd),(rd,dRun w.params T V lm sa fm (lvV mb ma) pt (st+tx.length / 10) pm.k.ts),(pt,oDk w (kept1 xs (sg+tx.length) pm.k.tk tx i pm.ka pm.c.c.pr) pm.k.ep),(kd,oDk w ys ek),(sa,oLst svs es),(ka,oKey2 tx i (I1 13)),(pm.c.nm,oEmp)]) (l:=[(fr,lwG w.params I1 V0 g0 lf tb 4 bdA rn kd sg st to tu tx (fg gg i) pm.c.c.pr lpf),(cl,oCl true ka),(kd,oDk w ys ek),(pm.c.nm,oEmp),(rd,dRun w.params T V lm sa fm (lvV mb ma) pt (st+tx.length / 10) pm.k.ts)]) rfl
 have subD:=sub_hide r2 slD.sub
 have gtD:=hgt1.mono subD
 have dRn:=other_hide r2 slD (p:=4) (q:=(rn,oRun rd)) rfl (by decide)
 have dKa:=other_hide r2 slD (p:=9) (q:=(ka,oKey2 tx i (I1 13))) rfl (by decide)
 refine own_append (use_step (ps:=[2,3,7,10,5]) (stepD_miss (W:=W) (v1:=v1) (ld:=ld) (stp:=stp) (tst:=tst) (tl:=tl) (lim:=lim) (L0:=[(pm.c.c.pr,oPr pm.c.c.pd),(pm.c.c.pd,dPr w.params pm.c.c.M pm.c.c.rl 0 pm.c.c.tg 0 pm.c.c.tr pm.c.nm),(lm,oLim ld),(ld,dLim w.params W v1 stp tst lim tl),(rn,oRun rd),(ka,oKey2 tx i (I1 13))]) hT (fun q hq=>hq) hkd (by omega) hfit hyn) rfl ⟨gtD.base.1,fun q hq=>?_,gtD.ky⟩ low r2 (fun _=>rfl) fun pD h3 r3=>then_next (s:=⟨h,gs,d,t,os⟩) ?_)
 ·simp only [List.mem_cons,List.not_mem_nil,or_false] at hq
  rcases hq with rfl | rfl | rfl | rfl | rfl | rfl
  ·exact subD _ _ gPr
  ·exact subD _ _ gPd
  ·exact gtD.l0 _ (hL _ (.head _))
  ·exact gtD.l0 _ (hL _ (.tail _ (.head _)))
  ·exact dRn
  ·exact dKa
 obtain ⟨sd,I3,ek3,kd3,x3,t3⟩:=pD
 have r3:Rep g1 (lsL w T V V0 it bdA fr cl rn rd lm sa fm sv left 4 true ⟨I3,g0,lf,tb,mb,v,n,tn,sg+tx.length,st+tx.length / 10,to,tu,pm.c.c.pr,lpf,lp,ka,ma,pt,kd,pm.k.ts,pm.k.ep,ek3,es,tx,fg gg i,(kept1 xs (sg+tx.length) pm.k.tk tx i pm.ka pm.c.c.pr),storedH ys (kKey tx i) ka (.int (Int.ofNat tu) (I1 11)),svs⟩++[(ka,oKey2 tx i (I1 13)),(pm.c.nm,oSd sd.es sd.ep)]) (Nat.add x3 0) h3:=r3
 have slE:Sel _ [0,1,2,3,4,5,6,7,8] _:=sel_spec (L:=lsL w T V V0 it bdA fr cl rn rd lm sa fm sv left 4 true ⟨I3,g0,lf,tb,mb,v,n,tn,sg+tx.length,st+tx.length / 10,to,tu,pm.c.c.pr,lpf,lp,ka,ma,pt,kd,pm.k.ts,pm.k.ep,ek3,es,tx,fg gg i,(kept1 xs (sg+tx.length) pm.k.tk tx i pm.ka pm.c.c.pr),storedH ys (kKey tx i) ka (.int (Int.ofNat tu) (I1 11)),svs⟩++[(ka,oKey2 tx i (I1 13)),(pm.c.nm,oSd sd.es sd.ep)]) (l:=lsL w T V V0 it bdA fr cl rn rd lm sa fm sv left 4 true ⟨I3,g0,lf,tb,mb,v,n,tn,sg+tx.length,st+tx.length / 10,to,tu,pm.c.c.pr,lpf,lp,ka,ma,pt,kd,pm.k.ts,pm.k.ep,ek3,es,tx,fg gg i,(kept1 xs (sg+tx.length) pm.k.tk tx i pm.ka pm.c.c.pr),storedH ys (kKey tx i) ka (.int (Int.ofNat tu) (I1 11)),svs⟩) rfl
 have subE:=sub_hide r3 slE.sub
 have eKa:=other_hide r3 slE (p:=9) (q:=(ka,oKey2 tx i (I1 13))) rfl (by decide)
 have eNm:=other_hide r3 slE (p:=10) (q:=(pm.c.nm,oSd sd.es sd.ep)) rfl (by decide)
 have z3:=r3.hide slE
 have hprog:ProgOK w i tx pm.c.c.pr tu _:=⟨pm.c.c.pd,pm.c.c.rl,pm.c.nm,pm.c.c.tg,pm.c.c.tr,pm.c.c.ep,pm.c.c.en,pm.c.c.ke,sd.ep,I1 11,pm.c.c.M,pm.c.ts,sd.es,pm.c.len,subE _ _ gPr,subE _ _ gPd,subE _ _ gRl,subE _ _ gEn,(fun q hq=>subE _ _ (gNs q hq)),eNm,sd.keys,sd.val,nmF⟩
 have z1:=GT.add (kn:=sg+tx.length) (tk:=pm.k.tk) (tk2:=I1 11) hgt1 subE hne (subE _ _ gKa) eKa hprog
 have hxl:=kept1_len xs (sg+tx.length) pm.k.tk pm.ka pm.c.c.pr tx i
 have hyl:=stored_len ys (kKey tx i) ka (.int (Int.ofNat tu) (I1 11))
 exact @turn2 w L0 T V V0 it bdA fr cl rn rd lm sa fm left (Nat.add x3 0) (Nat.add t3 0) sv _ h3 A Q gs d os ⟨I3,g0,lf,tb,mb,v,n,tn,sg+tx.length,st+tx.length / 10,to,tu,pm.c.c.pr,lpf,lp,ka,ma,pt,kd,pm.k.ts,pm.k.ep,ek3,es,tx,fg gg i,(kept1 xs (sg+tx.length) pm.k.tk tx i pm.ka pm.c.c.pr),storedH ys (kKey tx i) ka (.int (Int.ofNat tu) (I1 11)),svs⟩ i tu (I1 13) (I1 11) ka hs low z1 (KeptIs.add hne) (by show (kept1 xs (sg+tx.length) pm.k.tk tx i pm.ka pm.c.c.pr).length+_+_≤_;omega) (by show (storedH ys (kKey tx i) ka (.int (Int.ofNat tu) (I1 11))).length+_≤_;omega) (by show st+tx.length / 10+_≤_;omega) (by show n+1+_≤_;omega) (by show svs.length+_+_≤_;omega) hprog (atKey_stored_same hyn) eKa z3
  (fun s' h' x' t' inv' hg' hpt' hkd' rep'=>K _ s' h' x' t' (fun b o eb=>subE b o (subG b o eb)) inv' hg' (.inl hpt') (.inl hkd') rep')
end
end
noncomputable section
section
variable {w:World} {L0:Led} {T V W:Nat→Nat} {V0 v1:Value} {it bdA fr cl rn rd lm ld sa fm ef left x t stp tst lim tl:Nat} {sv:List Value} {g h:Heap} {A:Around} {Q:Flow→Shared→Prop} {gs:Array GenState} {d:Drawn} {os:OsState}
theorem turnB_flush {s:LS} {i gg:Bool} (hs:Ints sv) (low:Low 320 A) (inv:InvA w L0 left s g) (hL:∀ q∈limL w lm ld W v1 stp tst lim tl,q∈L0) (hfm:(fm,oLst [] ef)∈L0) (hT:AB s.tx) (hne:s.tx≠[]) (hsm:s.tx.length≤32) (hfx:s.fx=fg gg i) (hp:atKey s.xs (kText s.tx i)=none) (hfit:lim < s.sg+s.tx.length) (hlf:s.lf=s.tb) (hlp:s.lpf=s.lp)
  (rep:Rep g (lsL w T V V0 it bdA fr cl rn rd lm sa fm sv left 3 true s++[(s.ka,oKey2 s.tx i (s.I 13))]) x h) (K:TurnK w L0 T V V0 it bdA fr cl rn rd lm sa fm sv left g s.pt s.kd Q gs d os):
  wpOwn (MW w) A (lwLoop it fr cl) (execs ([bd 2]++([bd 3]++([bd 4]++([bd 5]++[bd 6,bd 7])))) (lwEnv fr cl)) Q (fun _ _=>False) ⟨h,gs,d,t,os⟩:=by
 obtain ⟨hgt,hkept,bx,by',bst,bn,bsv⟩:=inv
 obtain ⟨I,g0,lf,tb,mb,v,n,tn,sg,st,to,tu,pr,lpf,lp,ka,ma,pt,kd,ts,ep,ek,es,tx,fx,xs,ys,svs⟩:=s
 dsimp only at *
 subst hfx
 subst hlf
 subst hlp
 have hyn:=hgt.none tx i hne hp
 have hpt:(pt == sysModules)=false:=not_sys hgt.base rep (q:=(pt,oDk w xs ep)) (.tail _ (.tail _ (.tail _ (.tail _ (.tail _ (.tail _ (.head _)))))))
 have hkd:(kd == sysModules)=false:=not_sys hgt.base rep (q:=(kd,oDk w ys ek)) (.tail _ (.tail _ (.tail _ (.tail _ (.tail _ (.tail _ (.tail _ (.head _))))))))
 have slB:Sel _ [2,4,5,6] _:=sel_spec (L:=lsL w T V V0 it bdA fr cl rn rd lm sa fm sv left 3 true ⟨I,g0,lf,lf,mb,v,n,tn,sg,st,to,tu,pr,lpf,lpf,ka,ma,pt,kd,ts,ep,ek,es,tx,fg gg i,xs,ys,svs⟩++[(ka,oKey2 tx i (I 13))]) (l:=[(fr,lwG w.params I V0 g0 lf lf 3 bdA rn kd sg st to tu tx (fg gg i) pr lpf),(rn,oRun rd),(rd,dRun w.params T V lm sa fm (lvV mb ma) pt st ts),(pt,oDk w xs ep)]) rfl
 have gtB:=hgt.mono (sub_hide rep slB.sub)
 refine own_append (use_step (ps:=[2,4,5,6]) (stepB_flush (L0:=L0) (gg:=gg) (i:=i) (kp:=sg) hT hne hL hfm hpt hkept (by omega) (by omega) hfit hp hgt.last) rfl ⟨gtB.base.1,gtB.l0,gtB.kx⟩ low rep (fun _=>rfl) fun pB h1 r1=>then_next (s:=⟨h,gs,d,t,os⟩) ?_)
 obtain ⟨pm,I1,h13,x1,t1⟩:=pB
 have hlen:tx.length / 10≤3:=by omega
 have r1:Rep g ([(pm.k.nd,oDk w (kept1 [(kLast,15,lvV lf lpf)] tx.length pm.k.tk tx i pm.ka pm.c.c.pr) pm.k.ep),(pm.ka,oKey tx i (I 13) pm.tf),(pm.c.c.pr,oPr pm.c.c.pd),(pm.c.c.pd,dPr w.params pm.c.c.M pm.c.c.rl 0 pm.c.c.tg 0 pm.c.c.tr pm.c.nm),(pm.c.c.rl,oLst (nrefs pm.c.ts++[.ref pm.c.c.en]) pm.c.c.ep),(pm.c.c.en,oTup [.str (q [101,110,100]) pm.c.c.ke]),(pm.c.nm,oEmp),(it,oRi v left),(bdA,oBd n tn sv 0),(fr,lwG w.params I1 V0 g0 lf lf 4 bdA rn kd sg st to tu tx (fg gg i) pm.c.c.pr lpf),(cl,oCl true ka),(rn,oRun rd),(rd,dRun w.params T V lm sa fm (lvV mb ma) pm.k.nd (st+tx.length / 10) pm.k.ts),(pt,oDk w xs ep),(kd,oDk w ys ek),(sa,oLst svs es),(ka,oKey2 tx i (I1 13))]++nodes i tx pm.c.ts) (Nat.add x1 0) h1:=by
  rw [h13];exact r1
 have nmF:(pm.c.nm == sysModules)=false:=not_sys hgt.base r1 (q:=(pm.c.nm,oEmp)) (.tail _ (.tail _ (.tail _ (.tail _ (.tail _ (.tail _ (.head _)))))))
 have slG:Sel _ [7,8,9,10,11,12,0,14,15,16,6] _:=sel_spec (L:=[(pm.k.nd,oDk w (kept1 [(kLast,15,lvV lf lpf)] tx.length pm.k.tk tx i pm.ka pm.c.c.pr) pm.k.ep),(pm.ka,oKey tx i (I 13) pm.tf),(pm.c.c.pr,oPr pm.c.c.pd),(pm.c.c.pd,dPr w.params pm.c.c.M pm.c.c.rl 0 pm.c.c.tg 0 pm.c.c.tr pm.c.nm),(pm.c.c.rl,oLst (nrefs pm.c.ts++[.ref pm.c.c.en]) pm.c.c.ep),(pm.c.c.en,oTup [.str (q [101,110,100]) pm.c.c.ke]),(pm.c.nm,oEmp),(it,oRi v left),(bdA,oBd n tn sv 0),(fr,lwG w.params I1 V0 g0 lf lf 4 bdA rn kd sg st to tu tx (fg gg i) pm.c.c.pr lpf),(cl,oCl true ka),(rn,oRun rd),(rd,dRun w.params T V lm sa fm (lvV mb ma) pm.k.nd (st+tx.length / 10) pm.k.ts),(pt,oDk w xs ep),(kd,oDk w ys ek),(sa,oLst svs es),(ka,oKey2 tx i (I1 13))]++nodes i tx pm.c.ts) (l:=[(it,oRi v left),(bdA,oBd n tn sv 0),(fr,lwG w.params I1 V0 g0 lf lf 4 bdA rn kd sg st to tu tx (fg gg i) pm.c.c.pr lpf),(cl,oCl true ka),(rn,oRun rd),(rd,dRun w.params T V lm sa fm (lvV mb ma) pm.k.nd (st+tx.length / 10) pm.k.ts),(pm.k.nd,oDk w (kept1 [(kLast,15,lvV lf lpf)] tx.length pm.k.tk tx i pm.ka pm.c.c.pr) pm.k.ep),(kd,oDk w ys ek),(sa,oLst svs es),(ka,oKey2 tx i (I1 13)),(pm.c.nm,oEmp)]) rfl
 have subG:=sub_hide r1 slG.sub
 have gPt:=other_hide r1 slG (p:=13) (q:=(pt,oDk w xs ep)) rfl (by decide)
 have gKa:=other_hide r1 slG (p:=1) (q:=(pm.ka,oKey tx i (I 13) pm.tf)) rfl (by decide)
 have gPr:=other_hide r1 slG (p:=2) (q:=(pm.c.c.pr,oPr pm.c.c.pd)) rfl (by decide)
 have gPd:=other_hide r1 slG (p:=3) (q:=(pm.c.c.pd,dPr w.params pm.c.c.M pm.c.c.rl 0 pm.c.c.tg 0 pm.c.c.tr pm.c.nm)) rfl (by decide)
 have gRl:=other_hide r1 slG (p:=4) (q:=(pm.c.c.rl,oLst (nrefs pm.c.ts++[.ref pm.c.c.en]) pm.c.c.ep)) rfl (by decide)
 have gEn:=other_hide r1 slG (p:=5) (q:=(pm.c.c.en,oTup [.str (q [101,110,100]) pm.c.c.ke])) rfl (by decide)
 have gNs:∀ q∈nodes i tx pm.c.ts,_:=known_hide (k:=17) r1 slG rfl
 have r1g:=r1.hide slG
 generalize hideAll h1 (List.map (fun x=>x.1) [(it,oRi v left),(bdA,oBd n tn sv 0),(fr,lwG w.params I1 V0 g0 lf lf 4 bdA rn kd sg st to tu tx (fg gg i) pm.c.c.pr lpf),(cl,oCl true ka),(rn,oRun rd),(rd,dRun w.params T V lm sa fm (lvV mb ma) pm.k.nd (st+tx.length / 10) pm.k.ts),(pm.k.nd,oDk w (kept1 [(kLast,15,lvV lf lpf)] tx.length pm.k.tk tx i pm.ka pm.c.c.pr) pm.k.ep),(kd,oDk w ys ek),(sa,oLst svs es),(ka,oKey2 tx i (I1 13)),(pm.c.nm,oEmp)])=g1 at subG gPt gKa gPr gPd gRl gEn gNs r1g
 have hgt1:=hgt.mono subG
 have slC:Sel _ [2,3,9,7] _:=sel_spec (L:=[(it,oRi v left),(bdA,oBd n tn sv 0),(fr,lwG w.params I1 V0 g0 lf lf 4 bdA rn kd sg st to tu tx (fg gg i) pm.c.c.pr lpf),(cl,oCl true ka),(rn,oRun rd),(rd,dRun w.params T V lm sa fm (lvV mb ma) pm.k.nd (st+tx.length / 10) pm.k.ts),(pm.k.nd,oDk w (kept1 [(kLast,15,lvV lf lpf)] tx.length pm.k.tk tx i pm.ka pm.c.c.pr) pm.k.ep),(kd,oDk w ys ek),(sa,oLst svs es),(ka,oKey2 tx i (I1 13)),(pm.c.nm,oEmp)]) (l:=[(fr,lwG w.params I1 V0 g0 lf lf 4 bdA rn kd sg st to tu tx (fg gg i) pm.c.c.pr lpf),(cl,oCl true ka),(ka,oKey2 tx i (I1 13)),(kd,oDk w ys ek)]) rfl
 have subC:=sub_hide r1g slC.sub
 have gtC:=hgt1.mono subC
 have cNm:=other_hide r1g slC (p:=10) (q:=(pm.c.nm,oEmp)) rfl (by decide)
 refine own_append (use_step (ps:=[2,3,9,7]) (stepC (L0:=[(pm.c.c.pr,oPr pm.c.c.pd),(pm.c.c.pd,dPr w.params pm.c.c.M pm.c.c.rl 0 pm.c.c.tg 0 pm.c.c.tr pm.c.nm),(pm.c.nm,oSd [] 0),(pm.c.c.rl,oLst (nrefs pm.c.ts++[.ref pm.c.c.en]) pm.c.c.ep),(pm.c.c.en,oTup [.str (q [101,110,100]) pm.c.c.ke])]++nodes i tx pm.c.ts) (kv:=tu) (h1:=false) (h2:=false) (tkv:=0) (tkv2:=0) hT hne pm.c.len
  (fun q hq=>List.mem_append_left _ (List.mem_append_left [_,_] hq)) (List.mem_append_left _ (.tail _ (.tail _ (.tail _ (.head _))))) (List.mem_append_left _ (.tail _ (.tail _ (.tail _ (.tail _ (.head _)))))) (fun q hq=>List.mem_append_right _ hq) (keys_nil w) nmF hkd rfl (by rw [hyn];rfl)) rfl
  ⟨gtC.base.1,fun q hq=>?_,gtC.ky⟩ low r1g (fun _=>rfl) fun pC h2 r2=>then_next (s:=⟨h,gs,d,t,os⟩) ?_)
 ·rcases List.mem_append.mp hq with hq | hq
  ·simp only [List.mem_cons,List.not_mem_nil,or_false] at hq
   rcases hq with rfl | rfl | rfl | rfl | rfl
   ·exact subC _ _ gPr
   ·exact subC _ _ gPd
   ·exact cNm
   ·exact subC _ _ gRl
   ·exact subC _ _ gEn
  ·exact subC _ _ (gNs _ hq)
 obtain ⟨x2,t2⟩:=pC
 have r2:Rep g1 [(it,oRi v left),(bdA,oBd n tn sv 0),(fr,lwG w.params I1 V0 g0 lf lf 4 bdA rn kd sg st to tu tx (fg gg i) pm.c.c.pr lpf),(cl,oCl true ka),(rn,oRun rd),(rd,dRun w.params T V lm sa fm (lvV mb ma) pm.k.nd (st+tx.length / 10) pm.k.ts),(pm.k.nd,oDk w (kept1 [(kLast,15,lvV lf lpf)] tx.length pm.k.tk tx i pm.ka pm.c.c.pr) pm.k.ep),(kd,oDk w ys ek),(sa,oLst svs es),(ka,oKey2 tx i (I1 13)),(pm.c.nm,oEmp)] (Nat.add x2 0) h2:=r2
 have slD:Sel _ [2,3,7,10,5] _:=sel_spec (L:=[(it,oRi v left),(bdA,oBd n tn sv 0),(fr,lwG w.params I1 V0 g0 lf lf 4 bdA rn kd sg st to tu tx (fg gg i) pm.c.c.pr lpf),(cl,oCl true ka),(rn,oRun rd),(rd,dRun w.params T V lm sa fm (lvV mb ma) pm.k.nd (st+tx.length / 10) pm.k.ts),(pm.k.nd,oDk w (kept1 [(kLast,15,lvV lf lpf)] tx.length pm.k.tk tx i pm.ka pm.c.c.pr) pm.k.ep),(kd,oDk w ys ek),(sa,oLst svs es),(ka,oKey2 tx i (I1 13)),(pm.c.nm,oEmp)]) (l:=[(fr,lwG w.params I1 V0 g0 lf lf 4 bdA rn kd sg st to tu tx (fg gg i) pm.c.c.pr lpf),(cl,oCl true ka),(kd,oDk w ys ek),(pm.c.nm,oEmp),(rd,dRun w.params T V lm sa fm (lvV mb ma) pm.k.nd (st+tx.length / 10) pm.k.ts)]) rfl
 have subD:=sub_hide r2 slD.sub
 have gtD:=hgt1.mono subD
 have dRn:=other_hide r2 slD (p:=4) (q:=(rn,oRun rd)) rfl (by decide)
 have dKa:=other_hide r2 slD (p:=9) (q:=(ka,oKey2 tx i (I1 13))) rfl (by decide)
 refine own_append (use_step (ps:=[2,3,7,10,5]) (stepD_flush (W:=W) (v1:=v1) (ld:=ld) (stp:=stp) (tst:=tst) (tl:=tl) (lim:=lim) (L0:=[(pm.c.c.pr,oPr pm.c.c.pd),(pm.c.c.pd,dPr w.params pm.c.c.M pm.c.c.rl 0 pm.c.c.tg 0 pm.c.c.tr pm.c.nm),(lm,oLim ld),(ld,dLim w.params W v1 stp tst lim tl),(rn,oRun rd),(ka,oKey2 tx i (I1 13))]) hT (fun q hq=>hq) hkd (by omega) hfit hyn) rfl ⟨gtD.base.1,fun q hq=>?_,gtD.ky⟩ low r2 (fun _=>rfl) fun pD h3 r3=>then_next (s:=⟨h,gs,d,t,os⟩) ?_)
 ·simp only [List.mem_cons,List.not_mem_nil,or_false] at hq
  rcases hq with rfl | rfl | rfl | rfl | rfl | rfl
  ·exact subD _ _ gPr
  ·exact subD _ _ gPd
  ·exact gtD.l0 _ (hL _ (.head _))
  ·exact gtD.l0 _ (hL _ (.tail _ (.head _)))
  ·exact dRn
  ·exact dKa
 obtain ⟨sd,I3,ek3,kd3,x3,t3⟩:=pD
 have r3:Rep g1 [(kd3,oDk w (storedH [] (kKey tx i) ka (.int (Int.ofNat tu) (I1 11))) ek3),(it,oRi v left),(bdA,oBd n tn sv 0),(fr,lwG w.params I3 V0 g0 lf lf 4 bdA rn kd3 tx.length (st+tx.length / 10) to tu tx (fg gg i) pm.c.c.pr lpf),(cl,oCl true ka),(rn,oRun rd),(rd,dRun w.params T V lm sa fm (lvV mb ma) pm.k.nd (st+tx.length / 10) pm.k.ts),(pm.k.nd,oDk w (kept1 [(kLast,15,lvV lf lpf)] tx.length pm.k.tk tx i pm.ka pm.c.c.pr) pm.k.ep),(kd,oDk w ys ek),(sa,oLst svs es),(ka,oKey2 tx i (I1 13)),(pm.c.nm,oSd sd.es sd.ep)] (Nat.add x3 0) h3:=r3
 have slE:Sel _ [1,2,3,4,5,6,7,0,9] _:=sel_spec (L:=[(kd3,oDk w (storedH [] (kKey tx i) ka (.int (Int.ofNat tu) (I1 11))) ek3),(it,oRi v left),(bdA,oBd n tn sv 0),(fr,lwG w.params I3 V0 g0 lf lf 4 bdA rn kd3 tx.length (st+tx.length / 10) to tu tx (fg gg i) pm.c.c.pr lpf),(cl,oCl true ka),(rn,oRun rd),(rd,dRun w.params T V lm sa fm (lvV mb ma) pm.k.nd (st+tx.length / 10) pm.k.ts),(pm.k.nd,oDk w (kept1 [(kLast,15,lvV lf lpf)] tx.length pm.k.tk tx i pm.ka pm.c.c.pr) pm.k.ep),(kd,oDk w ys ek),(sa,oLst svs es),(ka,oKey2 tx i (I1 13)),(pm.c.nm,oSd sd.es sd.ep)]) (l:=lsL w T V V0 it bdA fr cl rn rd lm sa fm sv left 4 true ⟨I3,g0,lf,lf,mb,v,n,tn,tx.length,st+tx.length / 10,to,tu,pm.c.c.pr,lpf,lpf,ka,ma,pm.k.nd,kd3,pm.k.ts,pm.k.ep,ek3,es,tx,fg gg i,(kept1 [(kLast,15,lvV lf lpf)] tx.length pm.k.tk tx i pm.ka pm.c.c.pr),(storedH [] (kKey tx i) ka (.int (Int.ofNat tu) (I1 11))),svs⟩) rfl
 have subE:=sub_hide r3 slE.sub
 have eKd:=other_hide r3 slE (p:=8) (q:=(kd,oDk w ys ek)) rfl (by decide)
 have eKa:=other_hide r3 slE (p:=10) (q:=(ka,oKey2 tx i (I1 13))) rfl (by decide)
 have eNm:=other_hide r3 slE (p:=11) (q:=(pm.c.nm,oSd sd.es sd.ep)) rfl (by decide)
 have z3:=r3.hide slE
 have hprog:ProgOK w i tx pm.c.c.pr tu _:=⟨pm.c.c.pd,pm.c.c.rl,pm.c.nm,pm.c.c.tg,pm.c.c.tr,pm.c.c.ep,pm.c.c.en,pm.c.c.ke,sd.ep,I1 11,pm.c.c.M,pm.c.ts,sd.es,pm.c.len,subE _ _ gPr,subE _ _ gPd,subE _ _ gRl,subE _ _ gEn,(fun q hq=>subE _ _ (gNs q hq)),eNm,sd.keys,sd.val,nmF⟩
 have z1:=GT.add (kn:=tx.length) (tk:=pm.k.tk) (tk2:=I1 11) hgt1.flush subE hne (subE _ _ gKa) eKa hprog
 have hxl:=kept1_len [(kLast,15,lvV lf lpf)] tx.length pm.k.tk pm.ka pm.c.c.pr tx i
 have hyl:=stored_len [] (kKey tx i) ka (.int (Int.ofNat tu) (I1 11))
 rw [List.length_singleton] at hxl
 rw [List.length_nil] at hyl
 have hyk:atKey (storedH [] (kKey tx i) ka (.int (Int.ofNat tu) (I1 11))) (kKey tx i)=some (ka,.int (Int.ofNat tu) (I1 11)):=atKey_stored_same (xs:=[]) rfl
 exact @turn2 w L0 T V V0 it bdA fr cl rn rd lm sa fm left (Nat.add x3 0) (Nat.add t3 0) sv _ h3 A Q gs d os ⟨I3,g0,lf,lf,mb,v,n,tn,tx.length,st+tx.length / 10,to,tu,pm.c.c.pr,lpf,lpf,ka,ma,pm.k.nd,kd3,pm.k.ts,pm.k.ep,ek3,es,tx,fg gg i,(kept1 [(kLast,15,lvV lf lpf)] tx.length pm.k.tk tx i pm.ka pm.c.c.pr),(storedH [] (kKey tx i) ka (.int (Int.ofNat tu) (I1 11))),svs⟩ i tu (I1 13) (I1 11) ka hs low z1 (KeptIs.add hne) (by show (kept1 [(kLast,15,lvV lf lpf)] tx.length pm.k.tk tx i pm.ka pm.c.c.pr).length+_+_≤_;omega) (by show (storedH [] (kKey tx i) ka (.int (Int.ofNat tu) (I1 11))).length+_≤_;omega) (by show st+tx.length / 10+_≤_;omega) (by show n+1+_≤_;omega) (by show svs.length+_+_≤_;omega) hprog hyk eKa z3
  (fun s' h' x' t' inv' hg' hpt' hkd' rep'=>K _ s' h' x' t' (fun b o eb=>subE b o (subG b o eb)) inv' hg' (.inr (by rw [subE _ _ gPt];rfl)) (.inr (by rw [eKd];rfl)) rep')
end
end
noncomputable section
theorem lt_end (w:World) (x t it v fr cl:Nat) (b1 b2:Bool):go (PP w b1 b2) [] 320 100000 (lwLoop it fr cl) [(it,oRi v 0)] x 0 t 0 [0,2,0,2,2,2,0] (.ask [0] 99 950 Unit (rendSh v) fun _=>.keep [2])=(.ask (.bi (PySem.W.S.codeS "range_iterator.__next__") [.ref it]) [(it,⟨.type "range_iterator",none,.fields ⟨[.int (Int.ofNat v) 0,.int 0 0,.int 1 0]⟩,⟨[]⟩⟩)] [] x 0 t 0 1 950 (Unit) ((rendSh v) (Nat.add x 0) (Nat.add t 0)) (fun p1=>(dn (.ok .next) ([(it,⟨.type "range_iterator",none,.fields ⟨[.int (Int.ofNat v) 0,.int 0 0,.int 1 0]⟩,⟨[]⟩⟩)]) x 2 t 0 [(a x 1),it,it]))):=by revert b1 b2;apply bq2<;>kernel_rfl
theorem forB_eq:forB (sAt 3 lwB)=[bd 0,bd 1]++([bd 2]++([bd 3]++([bd 4]++([bd 5]++[bd 6,bd 7])))):=by kernel_rfl
def forE (s:Stmt):List Stmt:=match s with
 | .For _ _ _ e _=>e
 | _=>[]
theorem lwLoop_eq (it fr cl:Nat):lwLoop it fr cl=.forLoop (forT (sAt 3 lwB)) (.ref it) (forB (sAt 3 lwB)) (forE (sAt 3 lwB)) (lwEnv fr cl):=by kernel_rfl
theorem lw_own (it:Value) (v:Value):letOwnedTupleGo (forT (sAt 3 lwB)) it v=pure ():=by kernel_rfl
section
variable {w:World} {L0:Led} {T V W:Nat→Nat} {V0 v1:Value} {it bdA fr cl rn rd lm ld sa fm ef left x t stp tst lim tl:Nat} {sv:List Value} {g h:Heap} {A:Around} {Q:Flow→Shared→Prop} {R:Result→Shared→Prop} {gs:Array GenState} {d:Drawn} {os:OsState}
theorem turn_ok {s:LS} (hs:Ints sv) (hL:∀ q∈limL w lm ld W v1 stp tst lim tl,q∈L0) (hfm:(fm,oLst [] ef)∈L0) (low:Low 320 A) (inv:Inv w L0 (left+1) s g) (rep:Rep g (lsL w T V V0 it bdA fr cl rn rd lm sa fm sv left 1 s.g s) x h)
  (K:TurnK w L0 T V V0 it bdA fr cl rn rd lm sa fm sv left g s.pt s.kd Q gs d os):
  wpOwn (MW w) A (lwLoop it fr cl) (execs (forB (sAt 3 lwB)) (lwEnv fr cl)) Q (fun _ _=>False) ⟨h,gs,d,t,os⟩:=by
 rw [forB_eq]
 obtain ⟨hgt,hkept,bx,by',bst,bn,bsv,hlf,hlp⟩:=inv
 obtain ⟨I,g0,lf,tb,mb,v,n,tn,sg,st,to,tu,pr,lpf,lp,ka,ma,pt,kd,ts,ep,ek,es,tx,fx,xs,ys,svs⟩:=s
 dsimp only at *
 have sl:Sel _ [1,2,3] _:=sel_spec (L:=lsL w T V V0 it bdA fr cl rn rd lm sa fm sv left 1 g0 ⟨I,g0,lf,tb,mb,v,n,tn,sg,st,to,tu,pr,lpf,lp,ka,ma,pt,kd,ts,ep,ek,es,tx,fx,xs,ys,svs⟩) (l:=[(bdA,oBd n tn sv 0),(fr,lwG w.params I V0 g0 lf tb 1 bdA rn kd sg st to tu tx fx pr lpf),(cl,oCl g0 ka)]) rfl
 refine own_append (use_step (ps:=[1,2,3]) (stepA hs (by omega)) rfl (hgt.mono (sub_hide rep sl.sub)).base.1 low rep (fun _=>rfl) fun p h1 r1=>then_next (s:=⟨h,gs,d,t,os⟩) ?_)
 obtain ⟨ptx,pab,pne,psm,pgg,pi,pI,pka,ptn,px,pt1⟩:=p
 have r1:Rep g (lsL w T V V0 it bdA fr cl rn rd lm sa fm sv left 3 true ⟨pI,g0,lf,tb,mb,v,n+2,ptn,sg,st,to,tu,pr,lpf,lp,pka,ma,pt,kd,ts,ep,ek,es,ptx,fg pgg pi,xs,ys,svs⟩++[(pka,oKey2 ptx pi (pI 13))]) (Nat.add px 0) h1:=r1
 have invA:InvA w L0 left ⟨pI,g0,lf,tb,mb,v,n+2,ptn,sg,st,to,tu,pr,lpf,lp,pka,ma,pt,kd,ts,ep,ek,es,ptx,fg pgg pi,xs,ys,svs⟩ g:=
  ⟨hgt,hkept,by show xs.length+_+_≤_;omega,by show ys.length+_+_≤_;omega,by show st+_+_≤_;omega,by show n+2+_+_≤_;omega,by show svs.length+_+_≤_;omega⟩
 cases hp:atKey xs (kText ptx pi) with
 | some kv=>
  obtain ⟨k0,v0⟩:=kv
  exact turnB_hit (s:=⟨pI,g0,lf,tb,mb,v,n+2,ptn,sg,st,to,tu,pr,lpf,lp,pka,ma,pt,kd,ts,ep,ek,es,ptx,fg pgg pi,xs,ys,svs⟩) (i:=pi) (gg:=pgg) (k0:=k0) (v0:=v0) hs low invA pab pne rfl hp r1 K
 | none=>
  by_cases hfit:sg+ptx.length≤lim
  ·exact turnB_miss (s:=⟨pI,g0,lf,tb,mb,v,n+2,ptn,sg,st,to,tu,pr,lpf,lp,pka,ma,pt,kd,ts,ep,ek,es,ptx,fg pgg pi,xs,ys,svs⟩) (i:=pi) (gg:=pgg) hs low invA hL hfm pab pne psm rfl hp hfit r1 K
  ·exact turnB_flush (s:=⟨pI,g0,lf,tb,mb,v,n+2,ptn,sg,st,to,tu,pr,lpf,lp,pka,ma,pt,kd,ts,ep,ek,es,ptx,fg pgg pi,xs,ys,svs⟩) (i:=pi) (gg:=pgg) hs low invA hL hfm pab pne psm rfl hp (by show lim < sg+ptx.length;omega) hlf hlp r1 K
end
end
noncomputable section
section
variable {w:World} {L0:Led} {T V W:Nat→Nat} {V0 v1:Value} {it bdA fr cl rn rd lm ld sa fm ef stp tst lim tl:Nat} {sv:List Value}
def eSh (o:Obj) (x t:Nat) (_:Unit):Shape:=⟨.ok .next,[o],[],x,2,t,0,[]⟩
theorem lt_end_ok {v x t:Nat}:AskOK pw_qz0137_01 w (G0 w) (.code (lwLoop it fr cl)) [(it,oRi v 0)] [] x 0 t 0 320 (eSh (oRi v 0) x t):=by
 have e:=lt_end w x t it v fr cl (w.params.followText "special-get-raises") (w.params.followText "comprehension-iter-twice")
 rw [← PP_self w] at e
 exact ask_run e (G0_ok w) (fun _ h=>h) fun g A R gs d os hg low H=>⟨⟨()⟩,nble rfl,fun _=>rfl,rnext_end,fun _=>⟨rfl,fun h' r=>H () h' r⟩⟩
def LoopK (w:World) (L0:Led) (T V:Nat→Nat) (V0:Value) (it bdA fr cl rn rd lm sa fm:Nat) (sv:List Value) (g:Heap) (pt kd:Nat) (R:Result→Shared→Prop) (gs:Array GenState) (d:Drawn) (os:OsState):Prop:=
 ∀ (g2:Heap) (s':LS) (h':Heap) (x' t':Nat),(∀ b o,g.get? b=some o→g2.get? b=some o)→Inv w L0 0 s' g2→s'.g=true→(s'.pt=pt∨(g2.get? pt).isSome=true)→(s'.kd=kd∨(g2.get? kd).isSome=true) →
  Rep g2 (lsL w T V V0 it bdA fr cl rn rd lm sa fm sv 0 0 true s') x' h'→R (.ok .next) ⟨h',gs,d,t',os⟩
theorem some_sub {g g2:Heap} {b:Nat} (sub:∀ b o,g.get? b=some o→g2.get? b=some o) (h:(g.get? b).isSome=true):(g2.get? b).isSome=true:=by
 obtain ⟨o,e⟩:=Option.isSome_iff_exists.mp h
 rw [sub _ _ e]
 rfl
theorem loop_ok (hs:Ints sv) (hL:∀ q∈limL w lm ld W v1 stp tst lim tl,q∈L0) (hfm:(fm,oLst [] ef)∈L0):∀ (left:Nat) (s:LS) (g h:Heap) (x t:Nat) (A:Around) (R:Result→Shared→Prop) (gs:Array GenState) (d:Drawn) (os:OsState),
  Low 320 A→Inv w L0 left s g→(left=0→s.g=true)→Rep g (lsL w T V V0 it bdA fr cl rn rd lm sa fm sv left 0 s.g s) x h→LoopK w L0 T V V0 it bdA fr cl rn rd lm sa fm sv g s.pt s.kd R gs d os →
  codeAny (MW w) A (lwLoop it fr cl) R ⟨h,gs,d,t,os⟩:=by
 intro left
 induction left with
 | zero=>
  intro s g h x t A R gs d os low inv hg rep K
  have hg:=hg rfl
  refine use_ask (x:=x) (m:=0) (t:=t) (i:=0) (ps:=[0]) (lt_end_ok (v:=s.v) (x:=x) (t:=t)) (G0_mono w) rfl rfl inv.gt.base.1 low rep (fun _=>rfl) fun p h' r=>?_
  rw [hg] at r
  exact K g s h' _ _ (fun _ _ e=>e) inv hg (.inl rfl) (.inl rfl) r
 | succ left ih=>
  intro s g h x t A R gs d os low inv _ rep K
  refine own_for (lwLoop_eq it fr cl) (lw_own (.ref it)) ?_
  have e1:=lt_next w x t it s.v left 0 0 0 fr cl 0 0 0 0 0 0 0 0 0 0 (fun _=>0) .none [] [] [] (w.params.followText "special-get-raises") (w.params.followText "comprehension-iter-twice")
  rw [← PP_self w] at e1
  have sl1:Sel _ [0] _:=sel_spec (L:=lsL w T V V0 it bdA fr cl rn rd lm sa fm sv (left+1) 0 s.g s) (l:=[(it,oRi s.v (left+1))]) rfl
  have hgt:=inv.gt
  refine piece_next (x:=x) (m:=0) (t:=t) (i:=0) (G0_ok w) (hgt.mono (sub_hide rep sl1.sub)).base.1 low lw_weight (rep.hide sl1) e1 ⟨⟨()⟩,nble rfl,fun _=>rfl,rnext_item,fun _=>⟨rfl,fun h1 r1=>?_⟩⟩
  have r1:=rep.back (sh:=⟨.ok .next,[oRi (s.v+1) left],[],0,0,0,0,[]⟩) sl1 rfl (n':=Nat.add x 0) (h':=h1) r1
  obtain ⟨I,g0,lf,tb,mb,v,n,tn,sg,st,to,tu,pr,lpf,lp,ka,ma,pt,kd,ts,ep,ek,es,tx,fx,xs,ys,svs⟩:=s
  have r1:Rep g (lsL w T V V0 it bdA fr cl rn rd lm sa fm sv left 0 g0 ⟨I,g0,lf,tb,mb,v+1,n,tn,sg,st,to,tu,pr,lpf,lp,ka,ma,pt,kd,ts,ep,ek,es,tx,fx,xs,ys,svs⟩) (Nat.add x 0) h1:=r1
  have e2:=lt_tu w lf tb x (Nat.add t 1) it v left bdA n tn fr cl rn kd sg st to tu pr lpf ka t I V0 tx fx sv g0 (w.params.followText "special-get-raises") (w.params.followText "comprehension-iter-twice")
  rw [← PP_self w] at e2
  have sl2:Sel _ [2] _:=sel_spec (L:=lsL w T V V0 it bdA fr cl rn rd lm sa fm sv left 0 g0 ⟨I,g0,lf,tb,mb,v+1,n,tn,sg,st,to,tu,pr,lpf,lp,ka,ma,pt,kd,ts,ep,ek,es,tx,fx,xs,ys,svs⟩) (l:=[(fr,lwG w.params I V0 g0 lf tb 0 bdA rn kd sg st to tu tx fx pr lpf)]) rfl
  refine piece_assign (x:=Nat.add x 0) (m:=0) (t:=Nat.add t 1) (i:=0) (G0_ok w) (hgt.mono (sub_hide r1 sl2.sub)).base.1 low lw_weight (r1.hide sl2) e2 ⟨rfl,fun h2 r2=>?_⟩
  have r2:=r1.back (sh:=⟨.ok .next,[lwG w.params (cond g0 (upI I [(11,t)]) (upI I [(10,Nat.add t 1),(11,t)])) V0 g0 lf tb 1 bdA rn kd sg st to v tx fx pr lpf],[],0,0,0,0,[]⟩) sl2 rfl (n':=Nat.add x 0) (h':=h2) (by revert r2;exact bo3 (fun h=>h) (fun h=>h) (fun h=>h) (fun h=>h) (fun h=>h) (fun h=>h) (fun h=>h) (fun h=>h) g0 tb lf)
  have r2:Rep g (lsL w T V V0 it bdA fr cl rn rd lm sa fm sv left 1 g0 ⟨cond g0 (upI I [(11,t)]) (upI I [(10,Nat.add t 1),(11,t)]),g0,lf,tb,mb,v+1,n,tn,sg,st,to,v,pr,lpf,lp,ka,ma,pt,kd,ts,ep,ek,es,tx,fx,xs,ys,svs⟩) (Nat.add x 0) h2:=r2
  obtain ⟨i1,i2,i3,i4,i5,i6,i7,i8,i9⟩:=inv
  refine turn_ok (ef:=ef) (v1:=v1) (W:=W) (ld:=ld) (stp:=stp) (tst:=tst) (lim:=lim) (tl:=tl) (left:=left) (s:=⟨cond g0 (upI I [(11,t)]) (upI I [(10,Nat.add t 1),(11,t)]),g0,lf,tb,mb,v+1,n,tn,sg,st,to,v,pr,lpf,lp,ka,ma,pt,kd,ts,ep,ek,es,tx,fx,xs,ys,svs⟩) hs hL hfm low ⟨i1,i2,i3,i4,i5,i6,i7,i8,i9⟩ r2 ?_
  intro g2 s' h' x' t' sub inv' hg' hpt hkd rep'
  refine ih s' g2 h' x' t' A R gs d os low inv' (fun _=>hg') (by rw [hg'];exact rep') ?_
  intro g3 s3 h3 x3 t3 sub3 inv3 hg3 hpt3 hkd3 rep3
  refine K g3 s3 h3 x3 t3 (fun b o e=>sub3 b o (sub b o e)) inv3 hg3 ?_ ?_ rep3
  ·rcases hpt with e | e
   ·exact e ▸ hpt3
   ·exact .inr (some_sub sub3 e)
  ·rcases hkd with e | e
   ·exact e ▸ hkd3
   ·exact .inr (some_sub sub3 e)
end
end
noncomputable section
def oMR (md:Nat):Obj:=⟨.ref 787,some md,.plain,⟨[]⟩⟩
def dMR (P:Params) (J:Nat→Nat) (pr mo s k r gr rg pl:Nat) (tx:List Nat):Obj:=
 ⟨.type "dict",none,.dict ⟨[en P (q [112,114,111,103,114,97,109]) (J 0) (.ref pr),en P (q [116,101,120,116]) (J 1) (.str (q tx) (J 2)),en P (q [98,101,103,105,110]) (J 3) (.int 0 (J 4)),en P (q [108,101,97,115,116,95,101,110,100]) (J 5) (.int 0 (J 6)),en P (q [109,111,115,116]) (J 7) (.int (Int.ofNat mo) (J 8)),en P (q [115,116,101,112,115]) (J 9) (.int (Int.ofNat s) (J 10)),en P (q [97,116]) (J 11) (.int (Int.ofNat k) (J 12)),en P (q [114,111,119]) (J 13) (.int (Int.ofNat r) (J 14)),en P (q [103,114,111,117,112,115]) (J 15) (.ref gr),en P (q [114,101,103,105,115,116,101,114,115]) (J 16) (.ref rg),en P (q [112,105,108,101]) (J 17) (.ref pl)]⟩ 11,⟨[]⟩⟩
def wdE (P:Params) (K:Nat→Nat):List DictEntry:=[en P (q [115,105,103,110]) (K 0) (.ref 812),en P (q [97,110,121]) (K 1) (.ref 812),en P (q [115,101,116]) (K 2) (.ref 812),en P (q [114,117,110]) (K 3) (.ref 826),en P (q [97,116]) (K 4) (.ref 840),en P (q [98,97,99,107]) (K 5) (.ref 847),en P (q [111,112,101,110]) (K 6) (.ref 854),en P (q [99,108,111,115,101]) (K 7) (.ref 861),en P (q [106,117,109,112]) (K 8) (.ref 868),en P (q [115,112,108,105,116]) (K 9) (.ref 875),en P (q [122,101,114,111]) (K 10) (.ref 882),en P (q [108,111,111,112]) (K 11) (.ref 889),en P (q [97,103,97,105,110]) (K 12) (.ref 896),en P (q [109,97,114,107]) (K 13) (.ref 903),en P (q [99,117,116]) (K 14) (.ref 908),en P (q [114,101,102,117,115,101]) (K 15) (.ref 922),en P (q [112,108,97,99,101]) (K 16) (.ref 929),en P (q [114,101,116,117,114,110]) (K 17) (.ref 936),en P (q [98,101,104,105,110,100]) (K 18) (.ref 943)]
def oWd (P:Params) (K:Nat→Nat):Obj:=⟨.type "dict",none,.dict ⟨wdE P K⟩ 19,⟨[]⟩⟩
def bkLoop (x:Nat):Code:=whileOf (sAt 0 (fbody (sAt 141 top))) (fenv (sAt 141 top) 964 963 x)
def bkCmp:Expr:=testE (sAt 0 (fbody (sAt 141 top)))
def bkF (P:Params) (t rn:Nat):Obj:=⟨.type "frame",none,.dict ⟨[en P (q [114,117,110]) t (.ref rn)]⟩ 1,⟨[]⟩⟩
end
noncomputable section
theorem own_while_end {w:World} {A:Around} {s:Shared} {c:Code} {test:Expr} {b:List Stmt} {env:Env} {R0:Result→Shared→Prop} (hc:c=.whileLoop test b [] env)
  (h:wpOwn (MW w) A c (isTrue test env (eval test env)) (fun v s'=>v=false∧R0 (.ok .next) s') (fun _ _=>False) s):codeAny (MW w) A c R0 s:=by
 refine codeAny_of_own ?_
 subst hc
 show wpOwn (MW w) A _ ((whileTurn test b [] env).onRaise _) _ _ s
 have ho:wpOwn (MW w) A (.whileLoop test b [] env) (whileTurn test b [] env) (postC pw_qz0137_01 w A R0) (fun _ _=>False) s:=by
  unfold whileTurn
  refine wpOwn_bind (wpOwn_mono h (fun v s' h'=>?_) fun _ _ h=>h)
  obtain ⟨rfl,h'⟩:=h'
  exact fun _ _ _ _=>h'
 exact fun Γ p hc hΓ=>by
  rw [Sem.wp_onRaise]
  exact Sem.wp_mono _ Γ _ (fun _ _ _ h=>h) (fun _ _ _ h=>h.elim) p s (ho Γ p hc hΓ)
end
noncomputable section
def oXc (ta:Nat):Obj:=⟨.ref 111,none,.fields ⟨[.ref ta,.none,.none,.none,.bool false,.none]⟩,⟨[]⟩⟩
def xnSh (v:Value) (x t:Nat) (_:Unit):Shape:=⟨.ok (.ret (.ref (a x 1))),[],[(a x 1,oXc x),(x,oTup [v])],x,2,t,0,[]⟩
theorem xnew_ok {w:World} {kn:Led} {x m t i D:Nat} {v:Value}:AskOK pw_qz0137_01 w (G0 w) (.bi (PySem.W.S.codeS "Exception.__new__") [.ref 111,v]) [] kn x m t i D (xnSh v (Nat.add x m) (Nat.add t i)):=by
 intro c hc g A R gs d os h hg hkn low rep K
 obtain ⟨id',hn,rfl⟩:=hc
 have:id' = "Exception.__new__":=PySem.code_inj _ _ (hn.trans (PySem.W.S.code_S _).symm)
 subst this
 have hC:h.get? 111=some (excClassObj (q [84,111,111,76,111,110,103]) (q [84,111,111,76,111,110,103]) 111 110 [.ref 53] [.ref 53,.type "Exception",.type "BaseException",.type "object"] true [] [] false none none (some (.ref 95)) none (some (.str (q [84,111,111,76,111,110,103]) 297)) (some (.str (q [84,111,111,76,111,110,103]) 305)) (some (.bool true)) "Exception.__new__"):=
  rep.keep _ _ (hg.get (by kernel_rfl:(kt w.params).get 111=some _))
 have Fn:=PySem.F.excBase_Exception
 have hends:=Fn.ends
 have z1:=rep.alloc (o:=oTup [v]) rfl
 rw [show h.objs.size=Nat.add x m from rep.size] at z1
 have z2:=z1.alloc (o:=oXc (Nat.add x m)) rfl
 rw [show (h.push (oTup [v])).objs.size=a (Nat.add x m) 1 from by rw [Heap.size_push,show h.objs.size=Nat.add x m from rep.size]] at z2
 have k:=K () _ z2
 refine codeAny_builtinAt Fn.entry ?_
 unfold Builtin.«BaseException.__new__»
 refine PySem.wpAt_bind ?_
 show PySem.wpAt _ _ _ (stack >>= _) _ _ _
 refine PySem.wpAt_bind (PySem.wpAt_stack fun p below=>PySem.wpAt_of_wpAny ?_)
 wp_walk
 refine PySem.wpAt_of_wpAny ?_
 rw [Fn.owner]
 have hcB:(Value.ref 111::[.ref 53,.type "Exception",.type "BaseException",.type "object"]).contains (.type "Exception")=true:=by decide +kernel
 have hcA:(Value.ref 111::[.ref 53,.type "Exception",.type "BaseException",.type "object"]).contains (.type "AttributeError")=false:=by decide +kernel
 have hcN:(Value.ref 111::[.ref 53,.type "Exception",.type "BaseException",.type "object"]).contains (.type "NameError")=false:=by decide +kernel
 repeat (first | with_reducible refine wpAny_madeHere_exc Fn.canon hC ?_ | with_reducible refine wpAny_loadPart_at hC ?_ | (with_reducible refine wpAny_isSubtype_exc hC ?_;first | rw [hcB] | rw [hcA] | rw [hcN]) | wp_step)
 show R _ _
 rw [Heap.size_push,show h.objs.size=Nat.add x m from rep.size]
 exact k
end
noncomputable section
def oXe (d:Nat) (tb:Value) (ta:Nat):Obj:=⟨.ref 111,some d,.fields ⟨[.ref ta,tb,.none,.none,.bool false,.none]⟩,⟨[]⟩⟩
def oTb (hd:Value) (f:Nat) (fl:Value) (pl:List Value):Obj:=⟨.type "traceback",none,.fields ⟨[hd,.ref f,.none,fl,.none]++pl⟩,⟨[]⟩⟩
def reF (σ:Addr→Array (Option Value)) (F:Led):Led:=F.map fun q=>(q.1,{ q.2 with slots:=σ q.1 })
theorem reF_keys (σ:Addr→Array (Option Value)) (F:Led):(reF σ F).map (·.1)=F.map (·.1):=by
 unfold reF
 rw [List.map_map]
 rfl
def FrOK:List Env→Led→Prop
 | [],[]=>True
 | env::l,q::F=>env.scope.kind≠.module∧env.frame=some q.1∧(∀ vs,q.2.data≠.fields vs)∧FrOK l F
 | _,_=>False
theorem FrOK.keys:∀ {l:List Env} {F:Led},FrOK l F→l.filterMap (·.frame)=F.map (·.1)
 | [],[],_=>rfl
 | env::l,q::F,h=>by
  rw [List.filterMap_cons,h.2.1,List.map_cons,h.2.2.2.keys]
 | [],_::_,h=>h.elim
 | _::_,[],h=>h.elim
theorem FrOK.funs {g h:Heap} {n:Nat} {M:Led}:∀ {l:List Env} {F:Led},FrOK l F→(∀ q∈F,q∈M)→Rep g M n h→h.FunFrames g l
 | [],[],_,_,_=>trivial
 | env::l,q::F,hf,hm,r=>⟨hf.1,⟨q.1,q.2,hf.2.1,(r.own q (hm q (.head _))).2,(r.own q (hm q (.head _))).1,hf.2.2.1⟩,hf.2.2.2.funs (fun x hx=>hm x (.tail _ hx)) r⟩
 | [],_::_,h,_,_=>h.elim
 | _::_,[],h,_,_=>h.elim
theorem FrOK.re:∀ {l:List Env} {F:Led} (σ:Addr→Array (Option Value)),FrOK l F→FrOK l (reF σ F)
 | [],[],_,_=>trivial
 | env::l,q::F,σ,h=>⟨h.1,h.2.1,h.2.2.1,h.2.2.2.re σ⟩
 | [],_::_,_,h=>h.elim
 | _::_,[],_,h=>h.elim
theorem Rep.slots {g h h':Heap} {n:Nat} {P F S:Led} (D:Rep g (P++(F++S)) n h) (so:Heap.SlotsOnly (F.map (·.1)) h h'):∃ σ,Rep g (P++(reF σ F++S)) n h':=by
 have nd:=D.nd
 rw [List.map_append,List.map_append,List.nodup_append,List.nodup_append] at nd
 obtain ⟨n1,⟨n2,n3,n4⟩,n5⟩:=nd
 refine ⟨fun a=>match h'.get? a with | some o=>o.slots | none=>⟨[]⟩,so.1.trans D.size,fun q hq=>?_,?_,fun b o e=>(so.2.1 b fun hb=>?_).trans (D.keep b o e)⟩
 ·rcases List.mem_append.mp hq with hq | hq
  ·have y:=D.own q (List.mem_append_left _ hq)
   exact ⟨(so.2.1 q.1 fun hb=>n5 q.1 (List.mem_map_of_mem hq) q.1 (List.mem_append_left _ hb) rfl).trans y.1,y.2⟩
  ·rcases List.mem_append.mp hq with hq | hq
   ·obtain ⟨q0,h0,rfl⟩:=List.mem_map.mp hq
    have y:=D.own q0 (List.mem_append_right _ (List.mem_append_left _ h0))
    obtain ⟨sl,e⟩:=so.2.2 q0.1 q0.2 y.1
    refine ⟨?_,y.2⟩
    dsimp only
    rw [e]
   ·have y:=D.own q (List.mem_append_right _ (List.mem_append_right _ hq))
    exact ⟨(so.2.1 q.1 fun hb=>n4 q.1 hb q.1 (List.mem_map_of_mem hq) rfl).trans y.1,y.2⟩
 ·rw [List.map_append,List.map_append,reF_keys,List.nodup_append,List.nodup_append]
  exact ⟨n1,⟨n2,n3,n4⟩,n5⟩
 ·obtain ⟨q,hq,rfl⟩:=List.mem_map.mp hb
  have:=(D.own q (List.mem_append_right _ (List.mem_append_left _ hq))).2
  rw [e] at this
  cases this
theorem Rep.reperm {g h:Heap} {L L':Led} {n:Nat} (D:Rep g L n h) (p:L.Perm L'):Rep g L' n h:=D.perm p
section
variable {w:World} {A:Around} {g:Heap} {gs:Array GenState} {d:Drawn} {t:Nat} {os:OsState} {E:Value→Shared→Prop} {h:Heap}
theorem setField1 (dd:Nat) (tb tb':Value) (ta:Nat):Obj.mapFields (·.setIfInBounds 1 tb') (oXe dd tb ta)=oXe dd tb' ta:=by
 unfold Obj.mapFields oXe
 simp
theorem setField3 (hd:Value) (f:Nat) (fl fl':Value) (pl:List Value):Obj.mapFields (·.setIfInBounds 3 fl') (oTb hd f fl pl)=oTb hd f fl' pl:=by
 unfold Obj.mapFields oTb
 simp
theorem Rep.tail {q:Addr × Obj} {L:Led} {n:Nat} (D:Rep g (q::L) n h):Rep g L n h:=⟨D.size,fun r hr=>D.own r (.tail _ hr),by have:=D.nd;rw [List.map_cons,List.nodup_cons] at this;exact this.2,D.keep⟩
theorem new_entry {env:Env} {outer:List Env} {e f n dd ta:Nat} {hdv tb:Value} {hadNext:Bool} {F S:Led} {Q:Unit→Shared→Prop} (hfr:A.frames=some (env::outer)) (hF:FrOK (env::outer) F) (hf:env.frame=some f)
  (rep:Rep g ((e,oXe dd tb ta)::(F++S)) n h) (K:∀ σ pl h',Rep g ((n,oTb hdv f (rawInt f) pl)::(e,oXe dd (.ref n) ta)::(reF σ F++S)) (n+1) h'→Q () ⟨h',gs,d,t,os⟩):
  wpAny (MW w) A (do let a ← frameOf env;let pl ← entryPlaceOf f hadNext;let b ← EntryCells.newEntry hdv a .none (rawInt f) .none pl;setField (.ref e) 1 b) Q E ⟨h,gs,d,t,os⟩:=by
 have hl:h.FunFrames g (env::outer):=hF.funs (M:=(e,oXe dd tb ta)::(F++S)) (fun q hq=>.tail _ (List.mem_append_left _ hq)) rep
 refine wpAny_bind (wpAny_frameOf_fun (s:=⟨h,gs,d,t,os⟩) hfr hl hf fun h1 so=>?_)
 rw [hF.keys] at so
 obtain ⟨σ,r1⟩:=Rep.slots (P:=[(e,oXe dd tb ta)]) (F:=F) (S:=S) rep so
 refine wpAny_bind (wpAny_entryPlaceOf fun pl hpl=>?_)
 unfold EntryCells.newEntry newFields
 refine wpAny_bind (wpAny_newObj_type ?_ (hpl.sizeOk5 _ _ _ _ _))
 have z:=r1.alloc (o:=oTb hdv f (rawInt f) (if pl.isEmpty then List.replicate 6 Value.none else pl)) rfl
 have z1:=z.update (p:=1) (q:=(e,oXe dd tb ta)) (f:=Obj.mapFields (·.setIfInBounds 1 (Value.ref h1.objs.size))) rfl (by rw [setField1];rfl)
 rw [setField1] at z1
 rw [show h1.objs.size=n from r1.size] at z1
 refine wpAny_setField (o:=oXe dd tb ta) (vs:=⟨[.ref ta,tb,.none,.none,.bool false,.none]⟩) (z.own _ (.tail _ (.head _))).1 rfl (by simp) ?_
 have k:=K σ _ _ z1
 show Q () ⟨(h1.push _).update e (Obj.mapFields (·.setIfInBounds 1 (Value.ref h1.objs.size))),gs,d,t,os⟩
 rw [show h1.objs.size=n from r1.size]
 exact k
theorem note_first {env:Env} {outer:List Env} {e f n dd ta:Nat} {F S:Led} {Q:Unit→Shared→Prop} (hfr:A.frames=some (env::outer)) (hF:FrOK (env::outer) F) (hf:env.frame=some f)
  (rep:Rep g ((e,oXe dd .none ta)::(F++S)) n h) (K:∀ σ pl h',Rep g ((n,oTb .none f (rawInt f) pl)::(e,oXe dd (.ref n) ta)::(reF σ F++S)) (n+1) h'→Q () ⟨h',gs,d,t,os⟩):
  wpAny (MW w) A (noteFrame (.ref e) env) Q E ⟨h,gs,d,t,os⟩:=by
 unfold noteFrame
 simp only [hf]
 refine wpAny_bind (wpAny_field (o:=oXe dd .none ta) (vs:=⟨[.ref ta,.none,.none,.none,.bool false,.none]⟩) (x:=.none) (rep.own _ (.head _)).1 rfl rfl ?_)
 rw [if_neg (by decide)]
 exact new_entry hfr hF hf rep K
theorem note_next {env:Env} {outer:List Env} {e f T f0 n dd ta:Nat} {hd0:Value} {pl0:List Value} {F S:Led} {Q:Unit→Shared→Prop} (hfr:A.frames=some (env::outer)) (hF:FrOK (env::outer) F) (hf:env.frame=some f)
  (rep:Rep g ((T,oTb hd0 f0 .none pl0)::(e,oXe dd (.ref T) ta)::(F++S)) n h) (K:∀ σ pl h',Rep g ((n,oTb (.ref T) f (rawInt f) pl)::(e,oXe dd (.ref n) ta)::(reF σ F++S)) (n+1) h'→Q () ⟨h',gs,d,t,os⟩):
  wpAny (MW w) A (noteFrame (.ref e) env) Q E ⟨h,gs,d,t,os⟩:=by
 unfold noteFrame
 simp only [hf]
 refine wpAny_bind (wpAny_field (o:=oXe dd (.ref T) ta) (vs:=⟨[.ref ta,.ref T,.none,.none,.bool false,.none]⟩) (x:=.ref T) (rep.own _ (.tail _ (.head _))).1 rfl rfl ?_)
 rw [if_pos (show (Value.ref T != Value.none)=true from by simp)]
 refine wpAny_bind (wpAny_field (o:=oTb hd0 f0 .none pl0) (vs:=⟨[hd0,.ref f0,.none,.none,.none]++pl0⟩) (x:=.none) (rep.own _ (.head _)).1 rfl (by simp) ?_)
 rw [if_neg (show ¬ ((Value.none == rawInt f)=true) from by simp [rawInt])]
 refine wpAny_bind (wpAny_setField (o:=oTb hd0 f0 .none pl0) (vs:=⟨[hd0,.ref f0,.none,.none,.none]++pl0⟩) (rep.own _ (.head _)).1 rfl (by simp) ?_)
 have z1:=rep.update (p:=0) (q:=(T,oTb hd0 f0 .none pl0)) (f:=Obj.mapFields (·.setIfInBounds 3 Value.none)) rfl (by rw [setField3];rfl)
 exact new_entry hfr hF hf z1.tail K
theorem note_again {env:Env} {e f T n dd ta:Nat} {hd0:Value} {pl0:List Value} {S:Led} {Q:Unit→Shared→Prop} (hf:env.frame=some f) (rep:Rep g ((T,oTb hd0 f (rawInt f) pl0)::(e,oXe dd (.ref T) ta)::S) n h) (K:Q () ⟨h,gs,d,t,os⟩):
  wpAny (MW w) A (noteFrame (.ref e) env) Q E ⟨h,gs,d,t,os⟩:=by
 unfold noteFrame
 simp only [hf]
 refine wpAny_bind (wpAny_field (o:=oXe dd (.ref T) ta) (vs:=⟨[.ref ta,.ref T,.none,.none,.bool false,.none]⟩) (x:=.ref T) (rep.own _ (.tail _ (.head _))).1 rfl rfl ?_)
 rw [if_pos (show (Value.ref T != Value.none)=true from by simp)]
 refine wpAny_bind (wpAny_field (o:=oTb hd0 f (rawInt f) pl0) (vs:=⟨[hd0,.ref f,.none,rawInt f,.none]++pl0⟩) (x:=rawInt f) (rep.own _ (.head _)).1 rfl (by simp) ?_)
 rw [if_pos (show (rawInt f == rawInt f)=true from by simp)]
 exact wpAny_pure K
theorem flight_ok {fr:Option Addr} {e f T n dd ta:Nat} {hd0 fl:Value} {pl0:List Value} {S:Led} {Q:Unit→Shared→Prop} (rep:Rep g ((T,oTb hd0 f fl pl0)::(e,oXe dd (.ref T) ta)::S) n h)
  (K:∀ h',Rep g ((T,oTb hd0 f (fr.elim Value.none fun f=>rawInt f) pl0)::(e,oXe dd (.ref T) ta)::S) n h'→Q () ⟨h',gs,d,t,os⟩):wpAny (MW w) A (setFlight (.ref e) fr) Q E ⟨h,gs,d,t,os⟩:=by
 unfold setFlight
 refine wpAny_bind (wpAny_field (o:=oXe dd (.ref T) ta) (vs:=⟨[.ref ta,.ref T,.none,.none,.bool false,.none]⟩) (x:=.ref T) (rep.own _ (.tail _ (.head _))).1 rfl rfl ?_)
 rw [if_pos (show (Value.ref T != Value.none)=true from by simp)]
 have z1:=rep.update (p:=0) (q:=(T,oTb hd0 f fl pl0)) (f:=Obj.mapFields (·.setIfInBounds 3 (fr.elim Value.none fun f=>rawInt f))) rfl (by rw [setField3];rfl)
 rw [setField3] at z1
 exact wpAny_setField (o:=oTb hd0 f fl pl0) (vs:=⟨[hd0,.ref f,.none,fl,.none]++pl0⟩) (rep.own _ (.head _)).1 rfl (by simp) (K _ z1)
theorem leave_ok {env:Env} {e f T n dd ta:Nat} {hd0:Value} {pl0:List Value} {S:Led} {Q:Unit→Shared→Prop} (hf:env.frame=some f) (rep:Rep g ((T,oTb hd0 f (rawInt f) pl0)::(e,oXe dd (.ref T) ta)::S) n h)
  (K:∀ h',Rep g ((T,oTb hd0 f .none pl0)::(e,oXe dd (.ref T) ta)::S) n h'→Q () ⟨h',gs,d,t,os⟩):wpAny (MW w) A (leaving env (.ref e)) Q E ⟨h,gs,d,t,os⟩:=by
 unfold leaving
 exact wpAny_bind (note_again hf rep (flight_ok (fr:=none) rep K))
end
end
noncomputable section
section
variable {w:World} {A:Around} {s:Shared} {c:Code} {env:Env}
def NotedE (w:World) (A:Around) (c:Code) (env:Env) (R0:Result→Shared→Prop) (e:Value) (s:Shared):Prop:=wpAny (MW w) (A.under c) (noteFrame e env) (fun _ s3=>R0 (.error e) s3) (fun _ _=>False) s
theorem own_while_raise {test:Expr} {b o:List Stmt} {R0:Result→Shared→Prop} (hc:c=.whileLoop test b o env)
  (h:wpOwn (MW w) A c (isTrue test env (eval test env)) (fun v s1=>v=true∧wpOwn (MW w) A c (execs b env) (fun _ _=>False) (NotedE w A c env R0) s1) (NotedE w A c env R0) s):codeAny (MW w) A c R0 s:=by
 refine codeAny_of_own ?_
 subst hc
 show wpOwn (MW w) A _ ((whileTurn test b o env).onRaise (fun x=>do noteFrame x env;theTreesLotGoes x)) _ _ s
 have ho:wpOwn (MW w) A (.whileLoop test b o env) (whileTurn test b o env) (postC pw_qz0137_01 w A R0) (NotedE w A (.whileLoop test b o env) env R0) s:=by
  unfold whileTurn
  refine wpOwn_bind (wpOwn_mono h (fun v s' h'=>?_) fun _ _ h=>h)
  obtain ⟨rfl,h'⟩:=h'
  show wpOwn (MW w) A _ (execs b env >>= _) _ _ _
  exact wpOwn_bind (wpOwn_mono h' (fun _ _ h=>h.elim) fun _ _ h=>h)
 intro Γ p hc hΓ
 rw [Sem.wp_onRaise]
 refine Sem.wp_mono _ Γ _ (fun _ _ _ h=>h) (fun e p' s' he=>?_) p s (ho Γ p hc hΓ)
 have z:wpAny (MW w) (A.under (.whileLoop test b o env)) (do noteFrame e env;theTreesLotGoes e) (fun _ s3=>R0 (.error e) s3) (fun _ _=>False) s':=
  wpAny_bind (wpAny_mono he (fun _ _ h=>wpAny_theTreesLotGoes h) fun _ _ h=>h)
 exact Sem.wp_mono _ Γ _ (fun _ _ _ h=>h) (fun _ _ _ h=>h.elim) p' s' (z Γ p' (hc ▸ hΓ.in))
theorem own_func_raise {body body':List Stmt} {R0:Result→Shared→Prop} (hc:c=.func body env) (e:body=body')
  (h:wpOwn (MW w) A c (execs body' env) (fun _ _=>False) (fun e s2=>wpAny (MW w) (A.under c) (leaving env e) (fun _ s3=>R0 (.error e) s3) (fun _ _=>False) s2) s):codeAny (MW w) A c R0 s:=by
 refine codeAny_of_own ?_
 subst hc
 subst e
 show wpOwn (MW w) A (.func body env) (point >>= fun _=>(execs body env).onRaise (leaving env) >>= fun f=>match f with | .ret v=>ret v | _=>ret .none) _ _ s
 refine wpOwn_bind (wpOwn_of_wpAny (wpAny_point ?_))
 refine wpOwn_bind ?_
 intro Γ p hc hΓ
 rw [Sem.wp_onRaise]
 refine Sem.wp_mono _ Γ _ (fun _ _ _ h=>h.elim) (fun e p' s' he=>?_) p s (h Γ p hc hΓ)
 exact Sem.wp_mono _ Γ _ (fun _ _ _ h=>h) (fun _ _ _ h=>h.elim) p' s' (he Γ p' (hc ▸ hΓ.in))
theorem own_while_stmt {test:Expr} {b o:List Stmt} {pos:Pos} {Q:Flow→Shared→Prop} {E:Value→Shared→Prop}
  (h:codeAny (MW w) ((A.under c).mark none) (.whileLoop test b o env) (fun r s'=>match r with | .ok f=>Q f s' | .error e=>cameBackBy (MW w) (A.under c) env E e s') s):wpOwn (MW w) A c (PySem.exec (.While test b o pos) env) Q E s:=by
 show wpOwn (MW w) A c (standAt pos >>= fun _=>runOwn (.whileLoop test b o env) env) Q E s
 exact wpOwn_bind (wpOwn_of_wpAny (wpAny_standAt (wpOwn_of_wpAny (wpAny_runOwn h))))
theorem own_try {body:List Stmt} {h0:ExceptHandler} {hs:List ExceptHandler} {pos:Pos} {Q:Flow→Shared→Prop} {E:Value→Shared→Prop}
  (h:wpOwn (MW w) A c (execs body env) (fun _ _=>False) (fun e s1=>wpAny (MW w) (A.under c) (noteFrame e env) (fun _ s2=>wpAny (MW w) (A.under c) (setFlight e none) (fun _ s3=>wpOwn (MW w) A c (handleBy e env (h0::hs)) Q E s3) E s2) E s1) s):
  wpOwn (MW w) A c (PySem.exec (.Try body (h0::hs) [] [] pos) env) Q E s:=by
 show wpOwn (MW w) A c (standAt pos >>= fun _=>tryStmt false (execs body env) (h0::hs) (execs [] env) [] env) Q E s
 refine wpOwn_bind (wpOwn_of_wpAny (wpAny_standAt ?_))
 unfold tryStmt
 simp only [List.isEmpty_nil,if_true,List.isEmpty_cons,Bool.false_and,Bool.false_eq_true,if_false]
 refine wpOwn_bind ?_
 intro Γ p hc hΓ
 rw [Sem.wp_attempt]
 refine Sem.wp_mono _ Γ _ (fun _ _ _ h=>h.elim) (fun e p' s' he=>?_) p s (h Γ p hc hΓ)
 have z:wpOwn (MW w) A c (noteFrame e env >>= fun _=>setFlight e none >>= fun _=>handleBy e env (h0::hs)) Q E s':=
  wpOwn_bind (wpOwn_mono (wpOwn_of_wpAny he) (fun _ s2 h2=>wpOwn_bind (wpOwn_of_wpAny h2)) fun _ _ h=>h)
 intro Γ' p'' hc' hΓ'
 exact z Γ' p'' hc' hΓ'
end
section
variable {w:World} {A:Around} {g:Heap} {gs:Array GenState} {d:Drawn} {t:Nat} {os:OsState} {E:Value→Shared→Prop} {h:Heap}
theorem back_ok {env:Env} {e f T n dd ta:Nat} {hd0:Value} {pl0:List Value} {S:Led} (hf:env.frame=some f) (rep:Rep g ((T,oTb hd0 f (rawInt f) pl0)::(e,oXe dd (.ref T) ta)::S) n h)
  (K:∀ h',Rep g ((T,oTb hd0 f (rawInt f) pl0)::(e,oXe dd (.ref T) ta)::S) n h'→E (.ref e) ⟨h',gs,d,t,os⟩):cameBackBy (MW w) A env E (.ref e) ⟨h,gs,d,t,os⟩:=by
 unfold cameBackBy
 refine wpAny_bind (wpAny_field (o:=oXe dd (.ref T) ta) (vs:=⟨[.ref ta,.ref T,.none,.none,.bool false,.none]⟩) (x:=.ref T) (rep.own _ (.tail _ (.head _))).1 rfl rfl ?_)
 rw [if_neg (show ¬ ((Value.ref T == Value.none)=true) from by simp)]
 rw [hf]
 exact flight_ok (fr:=some f) rep K
end
end
noncomputable section
theorem bk_run (w:World) (x t f tf rn md pl e pr mo s k r gr rg:Nat) (J:Nat→Nat) (tx:List Nat) (b1 b2:Bool):go (PP w b1 b2) [] 700 100000 (.call (.ref 964) ⟨[.ref rn],[]⟩) [(rn,oMR md),(md,dMR (PP w b1 b2) J pr mo s k r gr rg pl tx),(pl,oLst [] e)] x 0 t 0 [1,0,0,2,0,0,0,2] (.ask [0,1,2,3] 99 720 (Nat × Nat) (fun _ _ p=>⟨.ok .next,[bkF (PP w b1 b2) t rn,oMR md,dMR (PP w b1 b2) J pr mo s k r gr rg pl tx,oLst [] e],[],p.1,0,p.2,0,[]⟩) fun p=>.keep [1,2,3])=(.ask (.code (bkLoop x)) [(x,⟨.type "frame",none,.dict ⟨[en (PP w b1 b2) (q [114,117,110]) t (.ref rn)]⟩ 1,⟨[]⟩⟩),(rn,⟨.ref 787,(some md),.plain,⟨[]⟩⟩),(md,⟨.type "dict",none,.dict ⟨[en (PP w b1 b2) (q [112,114,111,103,114,97,109]) (J 0) (.ref pr),en (PP w b1 b2) (q [116,101,120,116]) (J 1) (.str (q (tx)) (J 2)),en (PP w b1 b2) (q [98,101,103,105,110]) (J 3) (.int 0 (J 4)),en (PP w b1 b2) (q [108,101,97,115,116,95,101,110,100]) (J 5) (.int 0 (J 6)),en (PP w b1 b2) (q [109,111,115,116]) (J 7) (.int (Int.ofNat mo) (J 8)),en (PP w b1 b2) (q [115,116,101,112,115]) (J 9) (.int (Int.ofNat s) (J 10)),en (PP w b1 b2) (q [97,116]) (J 11) (.int (Int.ofNat k) (J 12)),en (PP w b1 b2) (q [114,111,119]) (J 13) (.int (Int.ofNat r) (J 14)),en (PP w b1 b2) (q [103,114,111,117,112,115]) (J 15) (.ref gr),en (PP w b1 b2) (q [114,101,103,105,115,116,101,114,115]) (J 16) (.ref rg),en (PP w b1 b2) (q [112,105,108,101]) (J 17) (.ref pl)]⟩ 11,⟨[]⟩⟩),(pl,⟨.type "list",none,.seq ⟨[]⟩ e,⟨[]⟩⟩)] [] x 1 t 1 1 720 (Nat × Nat) ((fun x x_1 p=>{ r:=Except.ok Flow.next,upd:=[bkF (PP w b1 b2) t rn,oMR md,dMR (PP w b1 b2) J pr mo s k r gr rg pl tx,oLst [] e],new:=[],x:=p.fst,m:=0,t:=p.snd,i:=0,tail:=[] }) (Nat.add x 1) (Nat.add t 1)) (fun p1=>(dn (.ok (.ret (.bool false))) ([(rn,⟨.ref 787,(some md),.plain,⟨[]⟩⟩),(md,⟨.type "dict",none,.dict ⟨[en (PP w b1 b2) (q [112,114,111,103,114,97,109]) (J 0) (.ref pr),en (PP w b1 b2) (q [116,101,120,116]) (J 1) (.str (q (tx)) (J 2)),en (PP w b1 b2) (q [98,101,103,105,110]) (J 3) (.int 0 (J 4)),en (PP w b1 b2) (q [108,101,97,115,116,95,101,110,100]) (J 5) (.int 0 (J 6)),en (PP w b1 b2) (q [109,111,115,116]) (J 7) (.int (Int.ofNat mo) (J 8)),en (PP w b1 b2) (q [115,116,101,112,115]) (J 9) (.int (Int.ofNat s) (J 10)),en (PP w b1 b2) (q [97,116]) (J 11) (.int (Int.ofNat k) (J 12)),en (PP w b1 b2) (q [114,111,119]) (J 13) (.int (Int.ofNat r) (J 14)),en (PP w b1 b2) (q [103,114,111,117,112,115]) (J 15) (.ref gr),en (PP w b1 b2) (q [114,101,103,105,115,116,101,114,115]) (J 16) (.ref rg),en (PP w b1 b2) (q [112,105,108,101]) (J 17) (.ref pl)]⟩ 11,⟨[]⟩⟩),(pl,⟨.type "list",none,.seq ⟨[]⟩ e,⟨[]⟩⟩)]) (p1.1) 0 (p1.2) 0 [x,x]))):=by revert b1 b2;apply bq2<;>kernel_rfl
theorem bk_l (w:World) (x t f tf rn md pl e pr mo s k r gr rg:Nat) (J:Nat→Nat) (tx:List Nat) (b1 b2:Bool):goT (PP w b1 b2) [] 720 100000 (bkLoop f) (evT (cmpL bkCmp) (fenv (sAt 141 top) 964 963 f)) [(f,bkF (PP w b1 b2) tf rn),(rn,oMR md),(md,dMR (PP w b1 b2) J pr mo s k r gr rg pl tx),(pl,oLst [] e)] x 0 t 0 [2,3,0,0,0,0,3,0,0,0,3,3,0,4] (.keep [0,1,2,3])=(dn (.ok (.ret (.ref pl))) ([(f,⟨.type "frame",none,.dict ⟨[en (PP w b1 b2) (q [114,117,110]) tf (.ref rn)]⟩ 1,⟨[]⟩⟩),(rn,⟨.ref 787,(some md),.plain,⟨[]⟩⟩),(md,⟨.type "dict",none,.dict ⟨[en (PP w b1 b2) (q [112,114,111,103,114,97,109]) (J 0) (.ref pr),en (PP w b1 b2) (q [116,101,120,116]) (J 1) (.str (q (tx)) (J 2)),en (PP w b1 b2) (q [98,101,103,105,110]) (J 3) (.int 0 (J 4)),en (PP w b1 b2) (q [108,101,97,115,116,95,101,110,100]) (J 5) (.int 0 (J 6)),en (PP w b1 b2) (q [109,111,115,116]) (J 7) (.int (Int.ofNat mo) (J 8)),en (PP w b1 b2) (q [115,116,101,112,115]) (J 9) (.int (Int.ofNat s) (J 10)),en (PP w b1 b2) (q [97,116]) (J 11) (.int (Int.ofNat k) (J 12)),en (PP w b1 b2) (q [114,111,119]) (J 13) (.int (Int.ofNat r) (J 14)),en (PP w b1 b2) (q [103,114,111,117,112,115]) (J 15) (.ref gr),en (PP w b1 b2) (q [114,101,103,105,115,116,101,114,115]) (J 16) (.ref rg),en (PP w b1 b2) (q [112,105,108,101]) (J 17) (.ref pl)]⟩ 11,⟨[]⟩⟩),(pl,⟨.type "list",none,.seq ⟨[]⟩ e,⟨[]⟩⟩)]) x 0 t 1 [md,rn,rn,rn,rn,f]):=by revert b1 b2;apply bq2<;>kernel_rfl
theorem bk_r (w:World) (x t f tf rn md pl e pr mo s k r gr rg:Nat) (J:Nat→Nat) (tx:List Nat) (b1 b2:Bool):goT (PP w b1 b2) [] 720 100000 (bkLoop f) (evT (cmpR bkCmp) (fenv (sAt 141 top) 964 963 f)) [(f,bkF (PP w b1 b2) tf rn),(rn,oMR md),(md,dMR (PP w b1 b2) J pr mo s k r gr rg pl tx),(pl,oLst [] e)] x 0 t 0 [] (.keep [0,1,2,3,4])=(dn (.ok (.ret (.ref x))) ([(x,⟨.type "list",none,.seq ⟨[]⟩ 0,⟨[]⟩⟩),(f,⟨.type "frame",none,.dict ⟨[en (PP w b1 b2) (q [114,117,110]) tf (.ref rn)]⟩ 1,⟨[]⟩⟩),(rn,⟨.ref 787,(some md),.plain,⟨[]⟩⟩),(md,⟨.type "dict",none,.dict ⟨[en (PP w b1 b2) (q [112,114,111,103,114,97,109]) (J 0) (.ref pr),en (PP w b1 b2) (q [116,101,120,116]) (J 1) (.str (q (tx)) (J 2)),en (PP w b1 b2) (q [98,101,103,105,110]) (J 3) (.int 0 (J 4)),en (PP w b1 b2) (q [108,101,97,115,116,95,101,110,100]) (J 5) (.int 0 (J 6)),en (PP w b1 b2) (q [109,111,115,116]) (J 7) (.int (Int.ofNat mo) (J 8)),en (PP w b1 b2) (q [115,116,101,112,115]) (J 9) (.int (Int.ofNat s) (J 10)),en (PP w b1 b2) (q [97,116]) (J 11) (.int (Int.ofNat k) (J 12)),en (PP w b1 b2) (q [114,111,119]) (J 13) (.int (Int.ofNat r) (J 14)),en (PP w b1 b2) (q [103,114,111,117,112,115]) (J 15) (.ref gr),en (PP w b1 b2) (q [114,101,103,105,115,116,101,114,115]) (J 16) (.ref rg),en (PP w b1 b2) (q [112,105,108,101]) (J 17) (.ref pl)]⟩ 11,⟨[]⟩⟩),(pl,⟨.type "list",none,.seq ⟨[]⟩ e,⟨[]⟩⟩)]) x 1 t 0 []):=by revert b1 b2;apply bq2<;>kernel_rfl
def whB (s:Stmt):List Stmt:=match s with
 | .While _ b _ _=>b
 | _=>[]
theorem bkLoop_eq (x:Nat):bkLoop x=.whileLoop (.Compare (cmpL bkCmp) [.NotEq] [cmpR bkCmp] (ePos bkCmp)) (whB (sAt 0 (fbody (sAt 141 top)))) [] (fenv (sAt 141 top) 964 963 x):=by kernel_rfl
section
variable {w:World} {J:Nat→Nat} {rn md pl e pr mo s k r gr rg:Nat} {tx:List Nat}
theorem bkLoop_ok {f tf x m t i:Nat}:AskOK pw_qz0137_01 w (G0 w) (.code (bkLoop f)) [(f,bkF w.params tf rn),(rn,oMR md),(md,dMR w.params J pr mo s k r gr rg pl tx),(pl,oLst [] e)] [] x m t i 720
  (fun p:Nat × Nat=>⟨.ok .next,[bkF w.params tf rn,oMR md,dMR w.params J pr mo s k r gr rg pl tx,oLst [] e],[],p.1,0,p.2,0,[]⟩):=by
 intro c hc g A R gs d os h hg _ low rep K
 obtain rfl:c=bkLoop f:=hc
 have wt:(bkLoop f).weight≤5:=weight_le rfl
 refine own_while_end (bkLoop_eq f) (own_cmp rfl ?_)
 have e1:=bk_l w (Nat.add x m) (Nat.add t i) f tf rn md pl e pr mo s k r gr rg J tx (w.params.followText "special-get-raises") (w.params.followText "comprehension-iter-twice")
 rw [← PP_self w] at e1
 refine piece_eval (x:=Nat.add x m) (m:=0) (t:=Nat.add t i) (i:=0) (G0_ok w) hg low wt rep e1 ⟨rfl,fun h1 rep1=>?_⟩
 have e2:=bk_r w (Nat.add x m) (a (Nat.add t i) 1) f tf rn md pl e pr mo s k r gr rg J tx (w.params.followText "special-get-raises") (w.params.followText "comprehension-iter-twice")
 rw [← PP_self w] at e2
 have rep1':Rep g [(f,bkF w.params tf rn),(rn,oMR md),(md,dMR w.params J pr mo s k r gr rg pl tx),(pl,oLst [] e)] (Nat.add x m) h1:=rep1
 refine piece_eval (x:=Nat.add x m) (m:=0) (t:=a (Nat.add t i) 1) (i:=0) (G0_ok w) hg low wt rep1' e2 ⟨rfl,fun h2 rep2=>?_⟩
 have rep2':Rep g [(Nat.add x m,oLst [] 0),(f,bkF w.params tf rn),(rn,oMR md),(md,dMR w.params J pr mo s k r gr rg pl tx),(pl,oLst [] e)] (a (Nat.add x m) 1) h2:=rep2
 refine wpOwn_of_wpAny (ne_lists (xs:=[]) (ys:=[]) (rep2'.own _ (.tail _ (.tail _ (.tail _ (.tail _ (.head _)))))).1 (rep2'.own _ (.head _)).1 (under_room low (by decide)) rfl ⟨false,rfl,rfl,?_⟩)
 exact K (_,_) h2 rep2'.tail
theorem bk_ok {kn:Led} {x m t i:Nat}:AskOK pw_qz0137_01 w (G0 w) (.fn 964 [.ref rn]) [(rn,oMR md),(md,dMR w.params J pr mo s k r gr rg pl tx),(pl,oLst [] e)] kn x m t i 700 (rS (.bool false) [oMR md,dMR w.params J pr mo s k r gr rg pl tx,oLst [] e]):=by
 have e0:=bk_run w (Nat.add x m) (Nat.add t i) 0 0 rn md pl e pr mo s k r gr rg J tx (w.params.followText "special-get-raises") (w.params.followText "comprehension-iter-twice")
 rw [← PP_self w] at e0
 exact AskOK.shift (ask_run e0 (G0_ok w) (fun _ h=>h) fun g A R gs d os hg low H=>⟨⟨(0,0)⟩,nble rfl,fun _=>rfl,bkLoop_ok,fun p=>⟨rfl,fun h' r=>H (_,_) h' r⟩⟩)
end
end
noncomputable section
theorem mf_f (w:World) (x t rn md pl gr rg pr pd rl er r0 r1 e0 e1 e2 gi tg ri tr nm wd mo s k0 r k tq:Nat) (J K M:Nat→Nat) (tx:List Nat) (gl gr2:List Value) (b1 b2:Bool):go (PP w b1 b2) [(pr,oPr pd),(pd,dPr (PP w b1 b2) M rl gi tg ri tr nm),(rl,oLst [.ref r0,.ref r1] er),(r0,oTup [.str (q [115,105,103,110]) e0,.str (q [97]) e1,.bool false]),(r1,oTup [.str (q [101,110,100]) e2]),(wd,oWd (PP w b1 b2) K)] 500 100000 (.call (.ref 971) ⟨[.ref rn,.ref wd,.int (Int.ofNat k) tq],[]⟩) [(rn,oMR md),(md,dMR (PP w b1 b2) J pr mo s k0 r gr rg pl tx)] x 0 t 0 [1,0,0,2,0,2,0,2,0,0,0,2,2,3,0,0,0,0,3,0,0,3,0,3,0,0,0,3,0,4,2,4,2,3,0,0,0,0,3,0,0,3,0,3,0,0,0,3,0,4,2,4,3,4,0,0,0,0,4,0,0,4,0,4,0,0,0,4,0,5,3,5,4,5,0,0,0,0,5,0,0,0,5,5,0,6,1,0,0,0,0,0,1,0,0,0,0,1,0,1,0,0,1,1,0,0,2,2,0,0,2,2,0,2,2,5,6,0,0,0,0,6,0,0,6,0,6,0,0,0,6,0,7,5,7,0,0,6,7,0,0,0,0,7,0,0,0,7,7,0,8,1,0,0,0,0,0,1,0,0,0,0,1,0,1,0,0,1,1,0,2,0,0,2,2,0,2,2,7,8,0,0,0,0,8,0,0,8,0,8,0,0,0,8,0,9,7,9,7,8,0,0,0,0,8,0,0,0,8,8,0,9,7,8,0,0,0,0,8,0,0,0,8,8,0,9,1,0,0,0,0,0,1,0,0,0,0,1,0,1,0,0,1,1,0,7,8,0,0,0,0,8,0,0,0,8,8,0,9,1,0,0,0,0,0,1,0,0,0,0,1,0,1,0,0,1,1,0,0,2,0,0,2,0,2,8,0,0,0,0,8,0,0,8,0,8,0,0,0,8,0,9,7,9,0,7,8,0,0,0,0,8,0,0,0,8,8,0,9,0,2,8,0,0,0,0,8,0,0,8,0,8,0,0,0,8,0,9,7,9,7,8,0,0,0,0,8,0,0,0,8,8,0,9,7,8,0,0,0,0,8,0,0,0,8,8,0,9,0,2,7,8,0,0,0,0,8,0,0,0,8,8,0,9,1,0,0,0,0,0,1,0,0,0,0,1,0,1,0,0,1,1,0,7,8,0,0,0,0,8,0,0,0,8,8,0,9,1,2,1,2,1,2,0,1,2,0,1,2,0,7,5,7,1,3,1,3,1,3,0,1,3,0,1,3,0,0,7,7,1,3,1,3,1,3,0,1,3,0,1,3,1,5,1,5,1,5,0,1,5,2,7,7,0,1,0,0,2,0,2,0,0,0,2,9,0,0,0,0,9,0,0,0,9,9,0,10,0,0,2,9,0,0,0,0,9,0,0,0,9,9,0,10,0,2,0,2,0,2,2,9,0,0,0,0,9,0,0,0,9,9,0,10,2,9,0,0,0,0,9,0,0,0,9,9,0,10,0,2,0,1,0,0,2,0,2,0,0,0,2,1,3,1,3,1,3,0,1,3,0,1,3,0,0,0,2,2,1,3,1,3,1,3,0,1,3,0,1,3,2,1,3,1,3,1,3,0,1,3,0,1,3,0,1,0,0,2,0,2,0,2,0,0,0,2,2,0,0,2,10,8,10,0,10,0,2] (.val (fun t=>.int (Int.ofNat (gi+1)) t) 1 <| .ask [0] 99 950 Unit (newLs (.none::gl) [oLst [.none] 0]) fun _=>.ask [0] 99 950 Unit (newLs gr2 [oLst [.int (-1) (a t 17)] 0]) fun _=>.val (fun t=>.int (Int.ofNat (gi+ri)) t) 1 <| .val (fun t=>.int (Int.ofNat ((gi+ri) / 20)) t) 1 <| .val (fun t=>.int (Int.ofNat (s+(gi+ri) / 20)) t) 1 <| .val (fun t=>.int (Int.ofNat (s+(gi+ri) / 20+1)) t) 1 <| .val (fun _=>.bool false) 0 <| .ask [] 99 950 Unit (kS (fun _=>.ref 812) [] 1) fun _=>.val (fun t=>.int (Int.ofNat tx.length) (a t 1)) 2 <| .val (fun _=>.bool false) 0 <| .val (fun t=>.str (q [98]) t) 1 <| .ask [9,10,7] 99 700 (Nat × Nat) (fun _ _=>rS (.bool false) [oMR md,dMR (PP w b1 b2) (upI J [(10,a t 34),(12,tq),(14,a t 5)]) pr mo (s+(gi+ri) / 20+1) k 0 (a x 3) (a x 5) (a x 1) tx,oLst [] 0]) fun p=>.keep [9,10])=(.val (.bi (PySem.W.S.codeS "int.__add__") [.int (Int.ofNat gi) tg,.int 1 (a t 12)]) (.int (Int.ofNat (a gi 1)) (a t 13)) 1 (a t 13) 1 (.ask (.bi (PySem.W.S.codeS "list.__mul__") [.ref (a x 2),.int (Int.ofNat (a gi 1)) (a t 13)]) [((a x 2),⟨.type "list",none,.seq ⟨[.none]⟩ 0,⟨[]⟩⟩)] [] x 3 t 14 1 950 (Unit) ((newLs (Value.none::gl) [oLst [Value.none] 0]) (Nat.add x 3) (Nat.add t 14)) (fun p1=>(.ask (.bi (PySem.W.S.codeS "list.__mul__") [.ref (a x 4),.int (Int.ofNat ri) tr]) [((a x 4),⟨.type "list",none,.seq ⟨[.int (-1) (a t 17)]⟩ 0,⟨[]⟩⟩)] [] (a x 3) 2 (a t 14) 6 1 950 (Unit) ((newLs gr2 [oLst [Value.int (-1) (a t 17)] 0]) (Nat.add (a x 3) 2) (Nat.add (a t 14) 6)) (fun p2=>(.val (.bi (PySem.W.S.codeS "int.__add__") [.int (Int.ofNat gi) tg,.int (Int.ofNat ri) tr]) (.int (Int.ofNat (gi+ri)) (a t 27)) 1 (a t 27) 1 (.val (.bi (PySem.W.S.codeS "int.__floordiv__") [.int (Int.ofNat (gi+ri)) (a t 27),.int 20 1422]) (.int (Int.ofNat ((gi+ri) / 20)) (a t 28)) 1 (a t 28) 1 (.val (.bi (PySem.W.S.codeS "int.__add__") [.int (Int.ofNat s) (J 10),.int (Int.ofNat ((gi+ri) / 20)) (a t 28)]) (.int (Int.ofNat (s+(gi+ri) / 20)) (a t 29)) 1 (a t 29) 1 (.val (.bi (PySem.W.S.codeS "int.__add__") [.int (Int.ofNat (s+(gi+ri) / 20)) (a t 29),.int 1 (a t 33)]) (.int (Int.ofNat (a (s+(gi+ri) / 20) 1)) (a t 34)) 1 (a t 34) 2 (.val (.bi (PySem.W.S.codeS "int.__gt__") [.int (Int.ofNat (a (s+(gi+ri) / 20) 1)) (a t 34),.int (Int.ofNat mo) (J 8)]) (.bool false) 0 (a t 39) 2 (.ask (.bi (PySem.W.S.codeS "dict.__getitem__") [.ref wd,.str (q [115,105,103,110]) e0]) [] [] (a x 5) 1 (a t 20) 26 2 950 (Unit) ((kS (fun x=>Value.ref 812) [] 1) (Nat.add (a x 5) 1) (Nat.add (a t 20) 26)) (fun p3=>(.val (.bi (PySem.W.S.codeS "len") [.str (q (tx)) (J 2)]) (.int (Int.ofNat (tx.length)) (a t 52)) 2 (a t 51) 3 (.val (.bi (PySem.W.S.codeS "int.__ge__") [.int (Int.ofNat k) tq,.int (Int.ofNat (tx.length)) (a t 52)]) (.bool false) 0 (a t 53) 3 (.val (.bi (PySem.W.S.codeS "str.__getitem__") [.str (q (tx)) (J 2),.int (Int.ofNat k) tq]) (.str (q [98]) (a t 55)) 1 (a t 55) 3 (.ask (.fn 964 [.ref rn]) [(rn,⟨.ref 787,(some md),.plain,⟨[]⟩⟩),(md,⟨.type "dict",none,.dict ⟨[en (PP w b1 b2) (q [112,114,111,103,114,97,109]) (J 0) (.ref pr),en (PP w b1 b2) (q [116,101,120,116]) (J 1) (.str (q (tx)) (J 2)),en (PP w b1 b2) (q [98,101,103,105,110]) (J 3) (.int 0 (J 4)),en (PP w b1 b2) (q [108,101,97,115,116,95,101,110,100]) (J 5) (.int 0 (J 6)),en (PP w b1 b2) (q [109,111,115,116]) (J 7) (.int (Int.ofNat mo) (J 8)),en (PP w b1 b2) (q [115,116,101,112,115]) (J 9) (.int (Int.ofNat (a (s+(gi+ri) / 20) 1)) (a t 34)),en (PP w b1 b2) (q [97,116]) (J 11) (.int (Int.ofNat k) tq),en (PP w b1 b2) (q [114,111,119]) (J 13) (.int 0 (a t 5)),en (PP w b1 b2) (q [103,114,111,117,112,115]) (J 15) (.ref (a x 3)),en (PP w b1 b2) (q [114,101,103,105,115,116,101,114,115]) (J 16) (.ref (a x 5)),en (PP w b1 b2) (q [112,105,108,101]) (J 17) (.ref (a x 1))]⟩ 11,⟨[]⟩⟩),((a x 1),⟨.type "list",none,.seq ⟨[]⟩ 0,⟨[]⟩⟩)] [] (a x 6) 3 (a t 46) 20 2 700 (Nat × Nat) ((fun x_1 x_2=>rS (Value.bool false) [oMR md,dMR (PP w b1 b2) (upI J [(10,a t 34),(12,tq),(14,a t 5)]) pr mo (s+(gi+ri) / 20+1) k 0 (a x 3) (a x 5) (a x 1) tx,oLst [] 0]) (Nat.add (a x 6) 3) (Nat.add (a t 46) 20)) (fun p4=>(dn (.ok (.ret (.bool false))) ([(rn,⟨.ref 787,(some md),.plain,⟨[]⟩⟩),(md,⟨.type "dict",none,.dict ⟨[en (PP w b1 b2) (q [112,114,111,103,114,97,109]) (J 0) (.ref pr),en (PP w b1 b2) (q [116,101,120,116]) (J 1) (.str (q (tx)) (J 2)),en (PP w b1 b2) (q [98,101,103,105,110]) (J 3) (.int 0 (J 4)),en (PP w b1 b2) (q [108,101,97,115,116,95,101,110,100]) (J 5) (.int 0 (J 6)),en (PP w b1 b2) (q [109,111,115,116]) (J 7) (.int (Int.ofNat mo) (J 8)),en (PP w b1 b2) (q [115,116,101,112,115]) (J 9) (.int (Int.ofNat (a (s+(gi+ri) / 20) 1)) (a t 34)),en (PP w b1 b2) (q [97,116]) (J 11) (.int (Int.ofNat k) tq),en (PP w b1 b2) (q [114,111,119]) (J 13) (.int 0 (a t 5)),en (PP w b1 b2) (q [103,114,111,117,112,115]) (J 15) (.ref (a x 3)),en (PP w b1 b2) (q [114,101,103,105,115,116,101,114,115]) (J 16) (.ref (a x 5)),en (PP w b1 b2) (q [112,105,108,101]) (J 17) (.ref (a x 1))]⟩ 11,⟨[]⟩⟩)]) (p4.1) 0 (p4.2) 0 [x,x,x,x,(a x 8),(a x 8),(a x 8),(a x 8),(a x 8),(a x 8),(a x 8),(a x 8),(a x 8),r0,r0,r0,r0,r0,(a x 7),r0,r0,r0,r0,r0,(a x 7),(a x 7),r0,r0,r0,r0,r0,(a x 7),(a x 7),(a x 7),(a x 7),(a x 7),md,rn,rn,rn,rn,(a x 6),md,rn,rn,rn,rn,(a x 6),(a x 6),md,rn,rn,rn,rn,(a x 6),md,rn,rn,rn,rn,(a x 6),(a x 6),(a x 6),(a x 6),(a x 6),x,x,wd,wd,wd,wd,r0,r0,r0,r0,r0,x,x,r0,r0,r0,r0,r0,x,x,x,rl,rl,rl,rl,rl,md,rn,rn,rn,rn,x,pd,pr,pr,pr,pr,md,rn,rn,rn,rn,x,md,rn,rn,rn,rn,x,md,rn,rn,rn,rn,x,md,md,md,rn,rn,rn,rn,rn,md,rn,rn,rn,rn,x,md,md,md,rn,rn,rn,rn,rn,pd,pr,pr,pr,pr,md,rn,rn,rn,rn,x,pd,pr,pr,pr,pr,md,rn,rn,rn,rn,x,md,rn,rn,rn,rn,x,md,md,md,rn,rn,rn,rn,rn,x,(a x 4),(a x 4),(a x 4),(a x 4),pd,pr,pr,pr,pr,md,rn,rn,rn,rn,x,md,md,md,rn,rn,rn,rn,rn,x,(a x 2),(a x 2),(a x 2),(a x 2),pd,pr,pr,pr,pr,md,rn,rn,rn,rn,x,md,md,md,rn,rn,rn,rn,rn,x,md,md,md,rn,rn,rn,rn,rn,x,md,md,md,rn,rn,rn,rn,rn,x,x,x,x,x,x,x,x])))))))))))))))))):=by revert b1 b2;apply bq2<;>kernel_rfl
theorem mf_h (w:World) (x t rn md pl gr rg pr pd rl er r0 r1 e0 e1 e2 gi tg ri tr nm wd mo s k0 r k tq:Nat) (J K M:Nat→Nat) (tx:List Nat) (gl gr2:List Value) (b1 b2:Bool):go (PP w b1 b2) [(pr,oPr pd),(pd,dPr (PP w b1 b2) M rl gi tg ri tr nm),(rl,oLst [.ref r0,.ref r1] er),(r0,oTup [.str (q [115,105,103,110]) e0,.str (q [97]) e1,.bool false]),(r1,oTup [.str (q [101,110,100]) e2]),(wd,oWd (PP w b1 b2) K)] 500 100000 (.call (.ref 971) ⟨[.ref rn,.ref wd,.int (Int.ofNat k) tq],[]⟩) [(rn,oMR md),(md,dMR (PP w b1 b2) J pr mo s k0 r gr rg pl tx)] x 0 t 0 [1,0,0,2,0,2,0,2,0,0,0,2,2,3,0,0,0,0,3,0,0,3,0,3,0,0,0,3,0,4,2,4,2,3,0,0,0,0,3,0,0,3,0,3,0,0,0,3,0,4,2,4,3,4,0,0,0,0,4,0,0,4,0,4,0,0,0,4,0,5,3,5,4,5,0,0,0,0,5,0,0,0,5,5,0,6,1,0,0,0,0,0,1,0,0,0,0,1,0,1,0,0,1,1,0,0,2,2,0,0,2,2,0,2,2,5,6,0,0,0,0,6,0,0,6,0,6,0,0,0,6,0,7,5,7,0,0,6,7,0,0,0,0,7,0,0,0,7,7,0,8,1,0,0,0,0,0,1,0,0,0,0,1,0,1,0,0,1,1,0,2,0,0,2,2,0,2,2,7,8,0,0,0,0,8,0,0,8,0,8,0,0,0,8,0,9,7,9,7,8,0,0,0,0,8,0,0,0,8,8,0,9,7,8,0,0,0,0,8,0,0,0,8,8,0,9,1,0,0,0,0,0,1,0,0,0,0,1,0,1,0,0,1,1,0,7,8,0,0,0,0,8,0,0,0,8,8,0,9,1,0,0,0,0,0,1,0,0,0,0,1,0,1,0,0,1,1,0,0,2,0,0,2,0,2,8,0,0,0,0,8,0,0,8,0,8,0,0,0,8,0,9,7,9,0,7,8,0,0,0,0,8,0,0,0,8,8,0,9,0,2,8,0,0,0,0,8,0,0,8,0,8,0,0,0,8,0,9,7,9,7,8,0,0,0,0,8,0,0,0,8,8,0,9,7,8,0,0,0,0,8,0,0,0,8,8,0,9,0,2,7,8,0,0,0,0,8,0,0,0,8,8,0,9,1,0,0,0,0,0,1,0,0,0,0,1,0,1,0,0,1,1,0,7,8,0,0,0,0,8,0,0,0,8,8,0,9,1,2,1,2,1,2,0,1,2,0,1,2,0,7,5,7,1,3,1,3,1,3,0,1,3,0,1,3,0,0,7,7,1,3,1,3,1,3,0,1,3,0,1,3,1,5,1,5,1,5,0,1,5,2,7,7,0,1,0,0,2,0,2,0,0,0,2,9,0,0,0,0,9,0,0,0,9,9,0,10,0,0,2,9,0,0,0,0,9,0,0,0,9,9,0,10,0,2,0,2,0,2,2,9,0,0,0,0,9,0,0,0,9,9,0,10,2,9,0,0,0,0,9,0,0,0,9,9,0,10,0,2,0,1,0,0,2,0,2,0,0,0,2,1,3,1,3,1,3,0,1,3,0,1,3,0,0,0,2,2,1,3,1,3,1,3,0,1,3,0,1,3,2,1,3,1,3,1,3,0,1,3,0,1,3,0,1,0,0,2,0,2,0,2,0,0,0,2,2,0,0,4,11,0,0,0,0,11,0,0,0,11,11,0,12,0,2,11,0,0,0,0,11,0,0,11,0,11,0,0,0,11,0,12,10,12,0,4,0,1,0,0,2,0,0,0,2,12,0,0,0,0,12,0,0,0,12,12,0,13,0,0,12,0,0,0,0,12,0,0,12,0,12,0,0,0,12,0,13,11,13,11,9,11,0,11,12,0,0,0,0,12,0,0,0,12,12,0,13,0,2,12,0,0,0,0,12,0,0,12,0,12,0,0,0,12,0,13,11,13,11,12,0,0,0,0,12,0,0,0,12,12,0,13,11,12,0,0,0,0,12,0,0,0,12,12,0,13,0,2,11,12,0,0,0,0,12,0,0,0,12,12,0,13,1,0,0,0,0,0,1,0,0,0,0,1,0,1,0,0,1,1,0,11,12,0,0,0,0,12,0,0,0,12,12,0,13,1,2,1,2,1,2,0,1,2,0,1,2,0,11,9,11,1,4,1,4,1,4,0,1,4,0,1,4,0,0,11,12,0,0,0,0,12,0,0,0,12,12,0,13,11,12,0,0,0,0,12,0,0,0,12,12,0,13,0,2,11,9,11,11,11,12,0,0,0,0,12,0,0,0,12,12,0,13,12,13,0,0,0,0,13,0,0,0,13,13,0,14,9,9,0,9,2] (.val (fun t=>.int (Int.ofNat (gi+1)) t) 1 <| .ask [0] 99 950 Unit (newLs (.none::gl) [oLst [.none] 0]) fun _=>.ask [0] 99 950 Unit (newLs gr2 [oLst [.int (-1) (a t 17)] 0]) fun _=>.val (fun t=>.int (Int.ofNat (gi+ri)) t) 1 <| .val (fun t=>.int (Int.ofNat ((gi+ri) / 20)) t) 1 <| .val (fun t=>.int (Int.ofNat (s+(gi+ri) / 20)) t) 1 <| .val (fun t=>.int (Int.ofNat (s+(gi+ri) / 20+1)) t) 1 <| .val (fun _=>.bool false) 0 <| .ask [] 99 950 Unit (kS (fun _=>.ref 812) [] 1) fun _=>.val (fun t=>.int (Int.ofNat tx.length) (a t 1)) 2 <| .val (fun _=>.bool false) 0 <| .val (fun t=>.str (q [97]) t) 1 <| .val (fun t=>.int (Int.ofNat (k+1)) t) 1 <| .val (fun t=>.int (Int.ofNat (s+(gi+ri) / 20+2)) t) 1 <| .val (fun _=>.bool false) 0 <| .val (fun _=>.bool true) 0 <| .ask [7] 99 950 Unit (kS (fun _=>.none) [oLst (.ref (a x 10)::gl) 0] 0) fun _=>.keep [11,12,7,0])=(.val (.bi (PySem.W.S.codeS "int.__add__") [.int (Int.ofNat gi) tg,.int 1 (a t 12)]) (.int (Int.ofNat (a gi 1)) (a t 13)) 1 (a t 13) 1 (.ask (.bi (PySem.W.S.codeS "list.__mul__") [.ref (a x 2),.int (Int.ofNat (a gi 1)) (a t 13)]) [((a x 2),⟨.type "list",none,.seq ⟨[.none]⟩ 0,⟨[]⟩⟩)] [] x 3 t 14 1 950 (Unit) ((newLs (Value.none::gl) [oLst [Value.none] 0]) (Nat.add x 3) (Nat.add t 14)) (fun p1=>(.ask (.bi (PySem.W.S.codeS "list.__mul__") [.ref (a x 4),.int (Int.ofNat ri) tr]) [((a x 4),⟨.type "list",none,.seq ⟨[.int (-1) (a t 17)]⟩ 0,⟨[]⟩⟩)] [] (a x 3) 2 (a t 14) 6 1 950 (Unit) ((newLs gr2 [oLst [Value.int (-1) (a t 17)] 0]) (Nat.add (a x 3) 2) (Nat.add (a t 14) 6)) (fun p2=>(.val (.bi (PySem.W.S.codeS "int.__add__") [.int (Int.ofNat gi) tg,.int (Int.ofNat ri) tr]) (.int (Int.ofNat (gi+ri)) (a t 27)) 1 (a t 27) 1 (.val (.bi (PySem.W.S.codeS "int.__floordiv__") [.int (Int.ofNat (gi+ri)) (a t 27),.int 20 1422]) (.int (Int.ofNat ((gi+ri) / 20)) (a t 28)) 1 (a t 28) 1 (.val (.bi (PySem.W.S.codeS "int.__add__") [.int (Int.ofNat s) (J 10),.int (Int.ofNat ((gi+ri) / 20)) (a t 28)]) (.int (Int.ofNat (s+(gi+ri) / 20)) (a t 29)) 1 (a t 29) 1 (.val (.bi (PySem.W.S.codeS "int.__add__") [.int (Int.ofNat (s+(gi+ri) / 20)) (a t 29),.int 1 (a t 33)]) (.int (Int.ofNat (a (s+(gi+ri) / 20) 1)) (a t 34)) 1 (a t 34) 2 (.val (.bi (PySem.W.S.codeS "int.__gt__") [.int (Int.ofNat (a (s+(gi+ri) / 20) 1)) (a t 34),.int (Int.ofNat mo) (J 8)]) (.bool false) 0 (a t 39) 2 (.ask (.bi (PySem.W.S.codeS "dict.__getitem__") [.ref wd,.str (q [115,105,103,110]) e0]) [] [] (a x 5) 1 (a t 20) 26 2 950 (Unit) ((kS (fun x=>Value.ref 812) [] 1) (Nat.add (a x 5) 1) (Nat.add (a t 20) 26)) (fun p3=>(.val (.bi (PySem.W.S.codeS "len") [.str (q (tx)) (J 2)]) (.int (Int.ofNat (tx.length)) (a t 52)) 2 (a t 51) 3 (.val (.bi (PySem.W.S.codeS "int.__ge__") [.int (Int.ofNat k) tq,.int (Int.ofNat (tx.length)) (a t 52)]) (.bool false) 0 (a t 53) 3 (.val (.bi (PySem.W.S.codeS "str.__getitem__") [.str (q (tx)) (J 2),.int (Int.ofNat k) tq]) (.str (q [97]) (a t 55)) 1 (a t 55) 3 (.val (.bi (PySem.W.S.codeS "int.__add__") [.int (Int.ofNat k) tq,.int 1 (a t 66)]) (.int (Int.ofNat (a k 1)) (a t 67)) 1 (a t 67) 3 (.val (.bi (PySem.W.S.codeS "int.__add__") [.int (Int.ofNat (a (s+(gi+ri) / 20) 1)) (a t 34),.int 1 (a t 78)]) (.int (Int.ofNat (a (s+(gi+ri) / 20) 2)) (a t 79)) 1 (a t 79) 2 (.val (.bi (PySem.W.S.codeS "int.__gt__") [.int (Int.ofNat (a (s+(gi+ri) / 20) 2)) (a t 79),.int (Int.ofNat mo) (J 8)]) (.bool false) 0 (a t 84) 2 (.val (.bi (PySem.W.S.codeS "int.__ge__") [.int (Int.ofNat (a k 1)) (a t 67),.int 0 (J 6)]) (.bool true) 0 (a t 92) 2 (.ask (.bi (PySem.W.S.codeS "list.__setitem__") [.ref (a x 3),.int 0 (a t 95),.ref (a x 10)]) [((a x 3),⟨.type "list",none,.seq ⟨.none::gl⟩ 0,⟨[]⟩⟩)] [] (a x 6) 5 (a t 46) 50 2 950 (Unit) ((kS (fun x=>Value.none) [oLst (Value.ref (a x 10)::gl) 0] 0) (Nat.add (a x 6) 5) (Nat.add (a t 46) 50)) (fun p4=>(dn (.ok (.ret (.bool true))) ([(rn,⟨.ref 787,(some md),.plain,⟨[]⟩⟩),(md,⟨.type "dict",none,.dict ⟨[en (PP w b1 b2) (q [112,114,111,103,114,97,109]) (J 0) (.ref pr),en (PP w b1 b2) (q [116,101,120,116]) (J 1) (.str (q (tx)) (J 2)),en (PP w b1 b2) (q [98,101,103,105,110]) (J 3) (.int 0 (J 4)),en (PP w b1 b2) (q [108,101,97,115,116,95,101,110,100]) (J 5) (.int 0 (J 6)),en (PP w b1 b2) (q [109,111,115,116]) (J 7) (.int (Int.ofNat mo) (J 8)),en (PP w b1 b2) (q [115,116,101,112,115]) (J 9) (.int (Int.ofNat (a (s+(gi+ri) / 20) 2)) (a t 79)),en (PP w b1 b2) (q [97,116]) (J 11) (.int (Int.ofNat (a k 1)) (a t 67)),en (PP w b1 b2) (q [114,111,119]) (J 13) (.int 1 (a t 73)),en (PP w b1 b2) (q [103,114,111,117,112,115]) (J 15) (.ref (a x 3)),en (PP w b1 b2) (q [114,101,103,105,115,116,101,114,115]) (J 16) (.ref (a x 5)),en (PP w b1 b2) (q [112,105,108,101]) (J 17) (.ref (a x 1))]⟩ 11,⟨[]⟩⟩),((a x 3),⟨.type "list",none,.seq ⟨((.ref (a x 10))::gl)⟩ 0,⟨[]⟩⟩),((a x 10),⟨.type "tuple",none,.seq ⟨[.int (Int.ofNat k) tq,.int (Int.ofNat (a k 1)) (a t 67)]⟩ 0,⟨[]⟩⟩)]) (a x 11) 0 (a t 96) 0 [(a x 3),(a x 3),(a x 3),md,rn,rn,rn,rn,x,md,rn,rn,rn,rn,x,x,x,x,x,md,rn,rn,rn,rn,x,md,rn,rn,rn,rn,x,r1,r1,r1,r1,r1,x,x,x,rl,rl,rl,rl,rl,md,rn,rn,rn,rn,x,pd,pr,pr,pr,pr,md,rn,rn,rn,rn,x,md,rn,rn,rn,rn,x,md,rn,rn,rn,rn,x,md,md,md,rn,rn,rn,rn,rn,md,rn,rn,rn,rn,x,x,x,x,md,md,md,rn,rn,rn,rn,rn,md,rn,rn,rn,rn,(a x 9),(a x 9),(a x 9),(a x 6),md,md,md,rn,rn,rn,rn,rn,md,rn,rn,rn,rn,(a x 6),(a x 8),(a x 8),(a x 8),(a x 8),(a x 8),(a x 8),(a x 8),(a x 8),r0,r0,r0,r0,r0,(a x 7),r0,r0,r0,r0,r0,(a x 7),(a x 7),r0,r0,r0,r0,r0,(a x 7),(a x 7),(a x 7),(a x 7),(a x 7),md,rn,rn,rn,rn,(a x 6),md,rn,rn,rn,rn,(a x 6),(a x 6),md,rn,rn,rn,rn,(a x 6),md,rn,rn,rn,rn,(a x 6),(a x 6),(a x 6),(a x 6),(a x 6),x,x,wd,wd,wd,wd,r0,r0,r0,r0,r0,x,x,r0,r0,r0,r0,r0,x,x,x,rl,rl,rl,rl,rl,md,rn,rn,rn,rn,x,pd,pr,pr,pr,pr,md,rn,rn,rn,rn,x,md,rn,rn,rn,rn,x,md,rn,rn,rn,rn,x,md,md,md,rn,rn,rn,rn,rn,md,rn,rn,rn,rn,x,md,md,md,rn,rn,rn,rn,rn,pd,pr,pr,pr,pr,md,rn,rn,rn,rn,x,pd,pr,pr,pr,pr,md,rn,rn,rn,rn,x,md,rn,rn,rn,rn,x,md,md,md,rn,rn,rn,rn,rn,x,(a x 4),(a x 4),(a x 4),(a x 4),pd,pr,pr,pr,pr,md,rn,rn,rn,rn,x,md,md,md,rn,rn,rn,rn,rn,x,(a x 2),(a x 2),(a x 2),(a x 2),pd,pr,pr,pr,pr,md,rn,rn,rn,rn,x,md,md,md,rn,rn,rn,rn,rn,x,md,md,md,rn,rn,rn,rn,rn,x,md,md,md,rn,rn,rn,rn,rn,x,x,x,x,x,x,x,x])))))))))))))))))))))):=by revert b1 b2;apply bq2<;>kernel_rfl
theorem v_ge_f {w:World} {G:Heap→Prop} {t D n k:Nat} {u v:Tok} (h:n < k):ValOK pw_qz0137_01 w G (.bi (PySem.W.S.codeS "int.__ge__") [.int (Int.ofNat n) u,.int (Int.ofNat k) v]) (.bool false) 0 t D:=by
 have z:=v_ge (w:=w) (G:=G) (t:=t) (D:=D) (Int.ofNat n) (Int.ofNat k) u v
 rw [decide_eq_false (by have a:Int.ofNat n=(n:Int):=rfl;have b:Int.ofNat k=(k:Int):=rfl;omega)] at z
 exact z
theorem v_ge_t {w:World} {G:Heap→Prop} {t D n k:Nat} {u v:Tok} (h:k≤n):ValOK pw_qz0137_01 w G (.bi (PySem.W.S.codeS "int.__ge__") [.int (Int.ofNat n) u,.int (Int.ofNat k) v]) (.bool true) 0 t D:=by
 have z:=v_ge (w:=w) (G:=G) (t:=t) (D:=D) (Int.ofNat n) (Int.ofNat k) u v
 rw [decide_eq_true (by have a:Int.ofNat n=(n:Int):=rfl;have b:Int.ofNat k=(k:Int):=rfl;omega)] at z
 exact z
theorem wd_keys {w:World} {K:Nat→Nat}:KeysOf (sk w) ⟨wdE w.params K⟩:=keys_en _ fun e he=>by
 unfold wdE at he
 simp only [List.mem_cons,List.not_mem_nil,or_false] at he
 rcases he with rfl | rfl | rfl | rfl | rfl | rfl | rfl | rfl | rfl | rfl | rfl | rfl | rfl | rfl | rfl | rfl | rfl | rfl | rfl<;>exact ⟨_,_,_,rfl⟩
theorem wd_sign {w:World} {K:Nat→Nat}:findBy (sk w).is ⟨wdE w.params K⟩ (q [115,105,103,110])=some (.ref 812):=by
 unfold findBy wdE
 simp [strKind_is]
theorem GL0 {w:World} {L0:Led} {g:Heap} (h0:G0 w g) (h:∀ q∈L0,g.get? q.1=some q.2):GL w L0 [] g:=⟨h0,h,⟨fun y hy=>(List.not_mem_nil hy).elim,List.nodup_nil⟩⟩
def mkL (P:Params) (M K:Nat→Nat) (pr pd rl er r0 r1 e0 e1 e2 gi tg ri tr nm wd:Nat):Led:=[(pr,oPr pd),(pd,dPr P M rl gi tg ri tr nm),(rl,oLst [.ref r0,.ref r1] er),(r0,oTup [.str (q [115,105,103,110]) e0,.str (q [97]) e1,.bool false]),(r1,oTup [.str (q [101,110,100]) e2]),(wd,oWd P K)]
structure MF where
 J:Nat→Nat
 gr:Nat
 rg:Nat
 pl:Nat
 tp:Nat
 t1:Nat
 x:Nat
 t:Nat
def mffSh (P:Params) (md pr mo s k:Nat) (tx:List Nat) (p:MF):Shape:=⟨.ok (.ret (.bool false)),[oMR md,dMR P p.J pr mo s k 0 p.gr p.rg p.pl tx],[],p.x,0,p.t,0,[]⟩
def mfhSh (P:Params) (md pr mo s k gi tk:Nat) (tx:List Nat) (p:MF):Shape:=⟨.ok (.ret (.bool true)),[oMR md,dMR P p.J pr mo s (k+1) 1 p.gr p.rg p.pl tx],[],p.x,0,p.t,0,[(p.gr,oLst (.ref p.tp::List.replicate gi .none) 0),(p.tp,oTup [.int (Int.ofNat k) tk,.int (Int.ofNat (k+1)) p.t1])]⟩
section
variable {w:World} {L0 kn:Led} {J M K:Nat→Nat} {rn md pl gr rg pr pd rl er r0 r1 e0 e1 e2 gi tg ri tr nm wd mo s k0 r k tk x m t i:Nat} {tx:List Nat}
theorem mf_fail (hL:∀ q∈mkL w.params M K pr pd rl er r0 r1 e0 e1 e2 gi tg ri tr nm wd,q∈L0) (hx:tx[k]?=some 98) (hsz:tx.length≤1000) (hgi:gi≤1000) (hri:ri≤1000) (hs:s≤1000000) (hfit:s+(gi+ri) / 20+1≤mo):
  AskOK pw_qz0137_01 w (GL w L0 []) (.fn 971 [.ref rn,.ref wd,.int (Int.ofNat k) tk]) [(rn,oMR md),(md,dMR w.params J pr mo s k0 r gr rg pl tx)] kn x m t i 500 (mffSh w.params md pr mo (s+(gi+ri) / 20+1) k tx):=by
 have hz:sizeLine=16777216:=rfl
 have hk:k < tx.length:=(List.getElem?_eq_some_iff.mp hx).1
 have e:=mf_f w (Nat.add x m) (Nat.add t i) rn md pl gr rg pr pd rl er r0 r1 e0 e1 e2 gi tg ri tr nm wd mo s k0 r k tk J K M tx (List.replicate gi .none) (List.replicate ri (.int (-1) (a (Nat.add t i) 17))) (w.params.followText "special-get-raises") (w.params.followText "comprehension-iter-twice")
 rw [← PP_self w] at e
 exact AskOK.shift (ask_run e (GL_ok hL) (fun _ h=>h) fun g A R gs dr os hg low H=>
  ⟨v_addn,⟨⟨()⟩,nble rfl,fun _=>rfl,lmul_ok (n:=gi+1) (by omega),fun _=>⟨⟨()⟩,nble rfl,fun _=>rfl,lmul_ok (n:=ri) (by omega),fun _=>⟨v_addn,v_fdivn (k:=20) (by omega) (by omega) (by omega),v_addn,v_addn,v_gt_f hfit,
   ⟨⟨()⟩,nble rfl,fun _=>rfl,sitemG wd_keys (fun g hg=>hg.2.1 _ (hL _ (.tail _ (.tail _ (.tail _ (.tail _ (.tail _ (.head _)))))))) wd_sign,fun _=>⟨v_len rfl (by omega),v_ge_f hk,v_sget hx (by omega),
   ⟨⟨(0,0)⟩,nble rfl,fun _=>rfl,AskOK.mono (G:=G0 w) (G':=GL w L0 []) (bk_ok (w:=w) (J:=upI J [(10,a (Nat.add t i) 34),(12,tk),(14,a (Nat.add t i) 5)]) (pr:=pr) (mo:=mo) (s:=s+(gi+ri) / 20+1) (k:=k) (r:=0) (gr:=a (Nat.add x m) 3) (rg:=a (Nat.add x m) 5) (tx:=tx)) (fun _ h=>h.1),fun p=>⟨rfl,fun h' rep=>H ⟨upI J [(10,a (Nat.add t i) 34),(12,tk),(14,a (Nat.add t i) 5)],a (Nat.add x m) 3,a (Nat.add x m) 5,a (Nat.add x m) 1,0,0,p.1,Nat.add p.2 0⟩ h' rep⟩⟩⟩⟩⟩⟩⟩⟩)
theorem mf_hit (hL:∀ q∈mkL w.params M K pr pd rl er r0 r1 e0 e1 e2 gi tg ri tr nm wd,q∈L0) (hx:tx[k]?=some 97) (hsz:tx.length≤1000) (hgi:gi≤1000) (hri:ri≤1000) (hs:s≤1000000) (hfit:s+(gi+ri) / 20+2≤mo):
  AskOK pw_qz0137_01 w (GL w L0 []) (.fn 971 [.ref rn,.ref wd,.int (Int.ofNat k) tk]) [(rn,oMR md),(md,dMR w.params J pr mo s k0 r gr rg pl tx)] kn x m t i 500 (mfhSh w.params md pr mo (s+(gi+ri) / 20+2) k gi tk tx):=by
 have hz:sizeLine=16777216:=rfl
 have hk:k < tx.length:=(List.getElem?_eq_some_iff.mp hx).1
 have e:=mf_h w (Nat.add x m) (Nat.add t i) rn md pl gr rg pr pd rl er r0 r1 e0 e1 e2 gi tg ri tr nm wd mo s k0 r k tk J K M tx (List.replicate gi .none) (List.replicate ri (.int (-1) (a (Nat.add t i) 17))) (w.params.followText "special-get-raises") (w.params.followText "comprehension-iter-twice")
 rw [← PP_self w] at e
 exact AskOK.shift (ask_run e (GL_ok hL) (fun _ h=>h) fun g A R gs dr os hg low H=>
  ⟨v_addn,⟨⟨()⟩,nble rfl,fun _=>rfl,lmul_ok (n:=gi+1) (by omega),fun _=>⟨⟨()⟩,nble rfl,fun _=>rfl,lmul_ok (n:=ri) (by omega),fun _=>⟨v_addn,v_fdivn (k:=20) (by omega) (by omega) (by omega),v_addn,v_addn,v_gt_f (by show s+(gi+ri) / 20+1≤mo;omega),
   ⟨⟨()⟩,nble rfl,fun _=>rfl,sitemG wd_keys (fun g hg=>hg.2.1 _ (hL _ (.tail _ (.tail _ (.tail _ (.tail _ (.tail _ (.head _)))))))) wd_sign,fun _=>⟨v_len rfl (by omega),v_ge_f hk,v_sget hx (by omega),v_addn,v_addn,v_gt_f (by show s+(gi+ri) / 20+2≤mo;omega),v_ge_t (k:=0) (Nat.zero_le _),
   ⟨⟨()⟩,nble rfl,fun _=>rfl,li_set0,fun _=>⟨rfl,fun h' rep=>H ⟨upI J [(10,a (Nat.add t i) 79),(12,a (Nat.add t i) 67),(14,a (Nat.add t i) 73)],a (Nat.add x m) 3,a (Nat.add x m) 5,a (Nat.add x m) 1,a (Nat.add x m) 10,a (Nat.add t i) 67,a (Nat.add x m) 11,Nat.add (a (Nat.add t i) 96) 0⟩ h' rep⟩⟩⟩⟩⟩⟩⟩⟩)
end
end
noncomputable section
def mfEnv (f:Nat):Env:=fenv (sAt 142 top) 971 970 f
def mfB:List Stmt:=fbody (sAt 142 top)
def mfW:Stmt:=sAt 6 mfB
def mfLoop (f:Nat):Code:=whileOf mfW (mfEnv f)
def mfF (P:Params) (I:Nat→Nat) (rn wd k tk:Nat):Obj:=⟨.type "frame",none,.dict ⟨[en P (q [114,117,110]) (I 0) (.ref rn),en P (q [119,111,114,100,115]) (I 1) (.ref wd),en P (q [115,116,97,114,116]) (I 2) (.int (Int.ofNat k) tk)]⟩ 3,⟨[]⟩⟩
def mfF2 (P:Params) (I:Nat→Nat) (rn wd k tk r0:Nat):Obj:=⟨.type "frame",none,.dict ⟨[en P (q [114,117,110]) (I 0) (.ref rn),en P (q [119,111,114,100,115]) (I 1) (.ref wd),en P (q [115,116,97,114,116]) (I 2) (.int (Int.ofNat k) tk),en P (q [114,111,119]) (I 3) (.ref r0),en P (q [105,115,95,114,105,103,104,116]) (I 4) (.bool true)]⟩ 5,⟨[]⟩⟩
end
noncomputable section
theorem mf_in (w:World) (x t f mr rn md pl gr rg pr pd rl er r0 r1 e0 e1 e2 gi tg ri tr nm wd mo s k0 r k tq:Nat) (I J K M:Nat→Nat) (tx:List Nat) (gl gr2:List Value) (b1 b2:Bool):go (PP w b1 b2) [] 500 100000 (.call (.ref 971) ⟨[.ref rn,.ref wd,.int (Int.ofNat k) tq],[]⟩) [(rn,oMR md),(md,dMR (PP w b1 b2) J pr mo s k0 r gr rg pl tx)] x 0 t 0 [1,0,0,2,0,2,0,2,0,0,3] (.keep [0,1,2])=(ag (.func mfB (mfEnv x)) [(x,⟨.type "frame",none,.dict ⟨[en (PP w b1 b2) (q [114,117,110]) t (.ref rn),en (PP w b1 b2) (q [119,111,114,100,115]) (a t 1) (.ref wd),en (PP w b1 b2) (q [115,116,97,114,116]) (a t 2) (.int (Int.ofNat k) tq)]⟩ 3,⟨[]⟩⟩),(rn,⟨.ref 787,(some md),.plain,⟨[]⟩⟩),(md,⟨.type "dict",none,.dict ⟨[en (PP w b1 b2) (q [112,114,111,103,114,97,109]) (J 0) (.ref pr),en (PP w b1 b2) (q [116,101,120,116]) (J 1) (.str (q (tx)) (J 2)),en (PP w b1 b2) (q [98,101,103,105,110]) (J 3) (.int 0 (J 4)),en (PP w b1 b2) (q [108,101,97,115,116,95,101,110,100]) (J 5) (.int 0 (J 6)),en (PP w b1 b2) (q [109,111,115,116]) (J 7) (.int (Int.ofNat mo) (J 8)),en (PP w b1 b2) (q [115,116,101,112,115]) (J 9) (.int (Int.ofNat s) (J 10)),en (PP w b1 b2) (q [97,116]) (J 11) (.int (Int.ofNat k0) (J 12)),en (PP w b1 b2) (q [114,111,119]) (J 13) (.int (Int.ofNat r) (J 14)),en (PP w b1 b2) (q [103,114,111,117,112,115]) (J 15) (.ref gr),en (PP w b1 b2) (q [114,101,103,105,115,116,101,114,115]) (J 16) (.ref rg),en (PP w b1 b2) (q [112,105,108,101]) (J 17) (.ref pl)]⟩ 11,⟨[]⟩⟩)] x 1 t 3 [x,x,x,x,x,x]):=by revert b1 b2;apply bq2<;>kernel_rfl
theorem mf_as (w:World) (x t f mr rn md pl gr rg pr pd rl er r0 r1 e0 e1 e2 gi tg ri tr nm wd mo s k0 r k tq:Nat) (I J K M:Nat→Nat) (tx:List Nat) (gl gr2:List Value) (b1 b2:Bool):goT (PP w b1 b2) [(pr,oPr pd),(pd,dPr (PP w b1 b2) M rl gi tg ri tr nm),(rl,oLst [.ref r0,.ref r1] er),(r0,oTup [.str (q [115,105,103,110]) e0,.str (q [97]) e1,.bool false]),(r1,oTup [.str (q [101,110,100]) e2]),(wd,oWd (PP w b1 b2) K)] 510 100000 (.func mfB (mfEnv f)) (exT (List.take 6 mfB) (mfEnv f)) [(f,mfF (PP w b1 b2) I rn wd k tq),(rn,oMR md),(md,dMR (PP w b1 b2) J pr mo s k0 r gr rg pl tx)] x 0 t 0 [2,2,3,0,0,0,0,3,0,0,3,0,3,0,0,0,3,0,4,2,4,2,3,0,0,0,0,3,0,0,3,0,3,0,0,0,3,0,4,2,4,3,4,0,0,0,0,4,0,0,4,0,4,0,0,0,4,0,5,3,5,4,5,0,0,0,0,5,0,0,0,5,5,0,6,1,0,0,0,0,0,1,0,0,0,0,1,0,1,0,0,1,1,0,0,2,2,0,0,2,2,0,2,2,5,6,0,0,0,0,6,0,0,6,0,6,0,0,0,6,0,7,5,7,0,0,6,7,0,0,0,0,7,0,0,0,7,7,0,8,1,0,0,0,0,0,1,0,0,0,0,1,0,1,0,0,1,1,0,2,0,0,2,2,0,2,2,7,8,0,0,0,0,8,0,0,8,0,8,0,0,0,8,0,9,7,9,7,8,0,0,0,0,8,0,0,0,8,8,0,9,7,8,0,0,0,0,8,0,0,0,8,8,0,9,1,0,0,0,0,0,1,0,0,0,0,1,0,1,0,0,1,1,0,7,8,0,0,0,0,8,0,0,0,8,8,0,9,1,0,0,0,0,0,1,0,0,0,0,1,0,1,0,0,1,1,0,0,2,0,0,2,0,2,8,0,0,0,0,8,0,0,8,0,8,0,0,0,8,0,9,7,9] (.val (fun t=>.int (Int.ofNat (gi+1)) t) 1 <| .ask [0] 99 950 Unit (newLs gl [oLst [.none] 0]) fun _=>.ask [0] 99 950 Unit (newLs gr2 [oLst [.int (-1) (a t 14)] 0]) fun _=>.val (fun t=>.int (Int.ofNat (gi+ri)) t) 1 <| .val (fun t=>.int (Int.ofNat ((gi+ri) / 20)) t) 1 <| .val (fun t=>.int (Int.ofNat (s+(gi+ri) / 20)) t) 1 <| .keep [5,6,7])=(.val (.bi (PySem.W.S.codeS "int.__add__") [.int (Int.ofNat gi) tg,.int 1 (a t 9)]) (.int (Int.ofNat (a gi 1)) (a t 10)) 1 (a t 10) 1 (.ask (.bi (PySem.W.S.codeS "list.__mul__") [.ref (a x 1),.int (Int.ofNat (a gi 1)) (a t 10)]) [((a x 1),⟨.type "list",none,.seq ⟨[.none]⟩ 0,⟨[]⟩⟩)] [] x 2 t 11 1 950 (Unit) ((newLs gl [oLst [Value.none] 0]) (Nat.add x 2) (Nat.add t 11)) (fun p1=>(.ask (.bi (PySem.W.S.codeS "list.__mul__") [.ref (a x 3),.int (Int.ofNat ri) tr]) [((a x 3),⟨.type "list",none,.seq ⟨[.int (-1) (a t 14)]⟩ 0,⟨[]⟩⟩)] [] (a x 2) 2 (a t 11) 6 1 950 (Unit) ((newLs gr2 [oLst [Value.int (-1) (a t 14)] 0]) (Nat.add (a x 2) 2) (Nat.add (a t 11) 6)) (fun p2=>(.val (.bi (PySem.W.S.codeS "int.__add__") [.int (Int.ofNat gi) tg,.int (Int.ofNat ri) tr]) (.int (Int.ofNat (gi+ri)) (a t 24)) 1 (a t 24) 1 (.val (.bi (PySem.W.S.codeS "int.__floordiv__") [.int (Int.ofNat (gi+ri)) (a t 24),.int 20 1422]) (.int (Int.ofNat ((gi+ri) / 20)) (a t 25)) 1 (a t 25) 1 (.val (.bi (PySem.W.S.codeS "int.__add__") [.int (Int.ofNat s) (J 10),.int (Int.ofNat ((gi+ri) / 20)) (a t 25)]) (.int (Int.ofNat (s+(gi+ri) / 20)) (a t 26)) 1 (a t 26) 1 (dn (.ok .next) ([(f,⟨.type "frame",none,.dict ⟨[en (PP w b1 b2) (q [114,117,110]) (I 0) (.ref rn),en (PP w b1 b2) (q [119,111,114,100,115]) (I 1) (.ref wd),en (PP w b1 b2) (q [115,116,97,114,116]) (I 2) (.int (Int.ofNat k) tq)]⟩ 3,⟨[]⟩⟩),(rn,⟨.ref 787,(some md),.plain,⟨[]⟩⟩),(md,⟨.type "dict",none,.dict ⟨[en (PP w b1 b2) (q [112,114,111,103,114,97,109]) (J 0) (.ref pr),en (PP w b1 b2) (q [116,101,120,116]) (J 1) (.str (q (tx)) (J 2)),en (PP w b1 b2) (q [98,101,103,105,110]) (J 3) (.int 0 (J 4)),en (PP w b1 b2) (q [108,101,97,115,116,95,101,110,100]) (J 5) (.int 0 (J 6)),en (PP w b1 b2) (q [109,111,115,116]) (J 7) (.int (Int.ofNat mo) (J 8)),en (PP w b1 b2) (q [115,116,101,112,115]) (J 9) (.int (Int.ofNat (s+(gi+ri) / 20)) (a t 26)),en (PP w b1 b2) (q [97,116]) (J 11) (.int (Int.ofNat k) tq),en (PP w b1 b2) (q [114,111,119]) (J 13) (.int 0 (a t 2)),en (PP w b1 b2) (q [103,114,111,117,112,115]) (J 15) (.ref (a x 2)),en (PP w b1 b2) (q [114,101,103,105,115,116,101,114,115]) (J 16) (.ref (a x 4)),en (PP w b1 b2) (q [112,105,108,101]) (J 17) (.ref x)]⟩ 11,⟨[]⟩⟩)]) (a x 4) 1 (a t 17) 12 [md,md,md,rn,rn,rn,rn,rn,pd,pr,pr,pr,pr,md,rn,rn,rn,rn,f,pd,pr,pr,pr,pr,md,rn,rn,rn,rn,f,md,rn,rn,rn,rn,f,md,md,md,rn,rn,rn,rn,rn,f,(a x 3),(a x 3),(a x 3),(a x 3),pd,pr,pr,pr,pr,md,rn,rn,rn,rn,f,md,md,md,rn,rn,rn,rn,rn,f,(a x 1),(a x 1),(a x 1),(a x 1),pd,pr,pr,pr,pr,md,rn,rn,rn,rn,f,md,md,md,rn,rn,rn,rn,rn,f,md,md,md,rn,rn,rn,rn,rn,f,md,md,md,rn,rn,rn,rn,rn,f,f]))))))))):=by revert b1 b2;apply bq2<;>kernel_rfl
theorem mf_t1 (w:World) (x t f mr rn md pl gr rg pr pd rl er r0 r1 e0 e1 e2 gi tg ri tr nm wd mo s k0 r k tq:Nat) (I J K M:Nat→Nat) (tx:List Nat) (gl gr2:List Value) (b1 b2:Bool):go (PP w b1 b2) [(pr,oPr pd),(pd,dPr (PP w b1 b2) M rl gi tg ri tr nm),(rl,oLst [.ref r0,.ref r1] er),(r0,oTup [.str (q [115,105,103,110]) e0,.str (q [97]) e1,.bool false]),(r1,oTup [.str (q [101,110,100]) e2]),(wd,oWd (PP w b1 b2) K)] 510 100000 (mfLoop f) [(f,mfF (PP w b1 b2) I rn wd k tq),(rn,oMR md),(md,dMR (PP w b1 b2) J pr mo s k 0 gr rg pl tx)] x 0 t 0 [0,2,3,0,0,0,0,3,0,0,0,3,3,0,4,0,2,3,0,0,0,0,3,0,0,3,0,3,0,0,0,3,0,4,2,4,2,3,0,0,0,0,3,0,0,0,3,3,0,4,2,3,0,0,0,0,3,0,0,0,3,3,0,4,0,2,2,3,0,0,0,0,3,0,0,0,3,3,0,4,1,0,0,0,0,0,1,0,0,0,0,1,0,1,0,0,1,1,0,2,3,0,0,0,0,3,0,0,0,3,3,0,4,1,2,1,2,1,2,0,1,2,0,1,2,0,2,0,2,1,3,1,3,1,3,0,1,3,0,1,3,0,0,2,2,1,3,1,3,1,3,0,1,3,0,1,3,1,5,1,5,1,5,0,1,5,2,2,2,0,1,0,0,2,0,2,0,0,0,2,4,0,0,0,0,4,0,0,0,4,4,0,5,0,0,2,4,0,0,0,0,4,0,0,0,4,4,0,5,0,2,0,2,0,2,2,4,0,0,0,0,4,0,0,0,4,4,0,5,2,4,0,0,0,0,4,0,0,0,4,4,0,5,0,2,0,1,0,0,2,0,2,0,0,0,2,1,3,1,3,1,3,0,1,3,0,1,3,0,0,0,2,2,1,3,1,3,1,3,0,1,3,0,1,3,2,1,3,1,3,1,3,0,1,3,0,1,3,0,1,0,0,2,0,2,0,2,0,0,0,2,2,0,0,4,6,0,0,0,0,6,0,0,0,6,6,0,7,0,2,6,0,0,0,0,6,0,0,6,0,6,0,0,0,6,0,7,5,7,0,4,0,1,0,0,2,0,0,0,2,7,0,0,0,0,7,0,0,0,7,7,0,8,0,0,7,0,0,0,0,7,0,0,7,0,7,0,0,0,7,0,8,6,8,6,4,6,3] (.val (fun t=>.int (Int.ofNat (s+1)) t) 1 <| .val (fun _=>.bool false) 0 <| .ask [] 99 950 Unit (kS (fun _=>.ref 812) [] 1) fun _=>.val (fun t=>.int (Int.ofNat tx.length) (a t 1)) 2 <| .val (fun _=>.bool false) 0 <| .val (fun t=>.str (q [97]) t) 1 <| .val (fun t=>.int (Int.ofNat (k+1)) t) 1 <| .keep [4,5,6])=(.val (.bi (PySem.W.S.codeS "int.__add__") [.int (Int.ofNat s) (J 10),.int 1 (a t 1)]) (.int (Int.ofNat (a s 1)) (a t 2)) 1 (a t 2) 1 (.val (.bi (PySem.W.S.codeS "int.__gt__") [.int (Int.ofNat (a s 1)) (a t 2),.int (Int.ofNat mo) (J 8)]) (.bool false) 0 (a t 7) 1 (.ask (.bi (PySem.W.S.codeS "dict.__getitem__") [.ref wd,.str (q [115,105,103,110]) e0]) [] [] x 0 t 14 1 950 (Unit) ((kS (fun x=>Value.ref 812) [] 1) (Nat.add x 0) (Nat.add t 14)) (fun p1=>(.val (.bi (PySem.W.S.codeS "len") [.str (q (tx)) (J 2)]) (.int (Int.ofNat (tx.length)) (a t 20)) 2 (a t 19) 2 (.val (.bi (PySem.W.S.codeS "int.__ge__") [.int (Int.ofNat k) (J 12),.int (Int.ofNat (tx.length)) (a t 20)]) (.bool false) 0 (a t 21) 2 (.val (.bi (PySem.W.S.codeS "str.__getitem__") [.str (q (tx)) (J 2),.int (Int.ofNat k) (J 12)]) (.str (q [97]) (a t 23)) 1 (a t 23) 2 (.val (.bi (PySem.W.S.codeS "int.__add__") [.int (Int.ofNat k) (J 12),.int 1 (a t 34)]) (.int (Int.ofNat (a k 1)) (a t 35)) 1 (a t 35) 2 (ag (mfLoop f) [(f,⟨.type "frame",none,.dict ⟨[en (PP w b1 b2) (q [114,117,110]) (I 0) (.ref rn),en (PP w b1 b2) (q [119,111,114,100,115]) (I 1) (.ref wd),en (PP w b1 b2) (q [115,116,97,114,116]) (I 2) (.int (Int.ofNat k) tq),en (PP w b1 b2) (q [114,111,119]) (a t 10) (.ref r0),en (PP w b1 b2) (q [105,115,95,114,105,103,104,116]) (a t 44) (.bool true)]⟩ 5,⟨[]⟩⟩),(rn,⟨.ref 787,(some md),.plain,⟨[]⟩⟩),(md,⟨.type "dict",none,.dict ⟨[en (PP w b1 b2) (q [112,114,111,103,114,97,109]) (J 0) (.ref pr),en (PP w b1 b2) (q [116,101,120,116]) (J 1) (.str (q (tx)) (J 2)),en (PP w b1 b2) (q [98,101,103,105,110]) (J 3) (.int 0 (J 4)),en (PP w b1 b2) (q [108,101,97,115,116,95,101,110,100]) (J 5) (.int 0 (J 6)),en (PP w b1 b2) (q [109,111,115,116]) (J 7) (.int (Int.ofNat mo) (J 8)),en (PP w b1 b2) (q [115,116,101,112,115]) (J 9) (.int (Int.ofNat (a s 1)) (a t 2)),en (PP w b1 b2) (q [97,116]) (J 11) (.int (Int.ofNat (a k 1)) (a t 35)),en (PP w b1 b2) (q [114,111,119]) (J 13) (.int 1 (a t 41)),en (PP w b1 b2) (q [103,114,111,117,112,115]) (J 15) (.ref gr),en (PP w b1 b2) (q [114,101,103,105,115,116,101,114,115]) (J 16) (.ref rg),en (PP w b1 b2) (q [112,105,108,101]) (J 17) (.ref pl)]⟩ 11,⟨[]⟩⟩)] x 4 (a t 14) 31 [f,f,f,md,md,md,rn,rn,rn,rn,rn,md,rn,rn,rn,rn,(a x 3),(a x 3),(a x 3),x,md,md,md,rn,rn,rn,rn,rn,md,rn,rn,rn,rn,x,(a x 2),(a x 2),(a x 2),(a x 2),(a x 2),(a x 2),(a x 2),(a x 2),r0,r0,r0,r0,r0,(a x 1),r0,r0,r0,r0,r0,(a x 1),(a x 1),r0,r0,r0,r0,r0,(a x 1),(a x 1),(a x 1),(a x 1),(a x 1),md,rn,rn,rn,rn,x,md,rn,rn,rn,rn,x,x,md,rn,rn,rn,rn,x,md,rn,rn,rn,rn,x,x,x,x,x,f,f,wd,wd,wd,wd,r0,r0,r0,r0,r0,f,f,r0,r0,r0,r0,r0,f,f,f,rl,rl,rl,rl,rl,md,rn,rn,rn,rn,f,pd,pr,pr,pr,pr,md,rn,rn,rn,rn,f,md,rn,rn,rn,rn,f,md,rn,rn,rn,rn,f,md,md,md,rn,rn,rn,rn,rn,md,rn,rn,rn,rn,f]))))))))):=by revert b1 b2;apply bq2<;>kernel_rfl
theorem mf_w (w:World) (x t f mr rn md pl gr rg pr pd rl er r0 r1 e0 e1 e2 gi tg ri tr nm wd mo s k0 r k tq:Nat) (I J K M:Nat→Nat) (tx:List Nat) (gl gr2:List Value) (b1 b2:Bool):goT (PP w b1 b2) [] 510 100000 (mfLoop f) (isT (testE mfW) (mfEnv f)) [(f,mfF2 (PP w b1 b2) I rn wd k tq r0),(rn,oMR md),(md,dMR (PP w b1 b2) J pr mo s k0 1 gr rg pl tx)] x 0 t 0 [] (.keep [0,1,2])=(dn (.ok (.ret (.bool true))) ([(f,⟨.type "frame",none,.dict ⟨[en (PP w b1 b2) (q [114,117,110]) (I 0) (.ref rn),en (PP w b1 b2) (q [119,111,114,100,115]) (I 1) (.ref wd),en (PP w b1 b2) (q [115,116,97,114,116]) (I 2) (.int (Int.ofNat k) tq),en (PP w b1 b2) (q [114,111,119]) (I 3) (.ref r0),en (PP w b1 b2) (q [105,115,95,114,105,103,104,116]) (I 4) (.bool true)]⟩ 5,⟨[]⟩⟩),(rn,⟨.ref 787,(some md),.plain,⟨[]⟩⟩),(md,⟨.type "dict",none,.dict ⟨[en (PP w b1 b2) (q [112,114,111,103,114,97,109]) (J 0) (.ref pr),en (PP w b1 b2) (q [116,101,120,116]) (J 1) (.str (q (tx)) (J 2)),en (PP w b1 b2) (q [98,101,103,105,110]) (J 3) (.int 0 (J 4)),en (PP w b1 b2) (q [108,101,97,115,116,95,101,110,100]) (J 5) (.int 0 (J 6)),en (PP w b1 b2) (q [109,111,115,116]) (J 7) (.int (Int.ofNat mo) (J 8)),en (PP w b1 b2) (q [115,116,101,112,115]) (J 9) (.int (Int.ofNat s) (J 10)),en (PP w b1 b2) (q [97,116]) (J 11) (.int (Int.ofNat k0) (J 12)),en (PP w b1 b2) (q [114,111,119]) (J 13) (.int 1 (J 14)),en (PP w b1 b2) (q [103,114,111,117,112,115]) (J 15) (.ref gr),en (PP w b1 b2) (q [114,101,103,105,115,116,101,114,115]) (J 16) (.ref rg),en (PP w b1 b2) (q [112,105,108,101]) (J 17) (.ref pl)]⟩ 11,⟨[]⟩⟩)]) x 0 t 0 []):=by revert b1 b2;apply bq2<;>kernel_rfl
theorem mf_r (w:World) (x t f mr rn md pl gr rg pr pd rl er r0 r1 e0 e1 e2 gi tg ri tr nm wd mo s k0 r k tq:Nat) (I J K M:Nat→Nat) (tx:List Nat) (gl gr2:List Value) (b1 b2:Bool):goT (PP w b1 b2) [] 510 100000 (mfLoop f) (exT (whB mfW) (mfEnv f)) [(f,mfF2 (PP w b1 b2) I rn wd k tq r0),(rn,oMR md),(md,dMR (PP w b1 b2) J pr mo s k0 1 gr rg pl tx)] x 0 t 0 [2,3,0,0,0,0,3,0,0,0,3,3,0,4,0,2,3,0,0,0,0,3,0,0,3,0,3,0,0,0,3,0,4,2,4,2,3,0,0,0,0,3,0,0,0,3,3,0,4,2,3,0,0,0,0,3,0,0,0,3,3,0,4,0,2,0,2,3,0,0,0,0,3,0,0,0,3,3,0,4,0,0,0,0,0,0,0,0,0,0,0,0,0,0,0,0,0,0,0,2,2,0,2,0,0,0,0,1,0,0,2,0,2,0,0,0,0,0,0,0,0,0,0,0,0,0,0,0,2,0,1,0,0,2,0,2,0,0,0,0,0,0,0,2,2,0,4,0,4,0,0,5,5,3,3,3,5,0,0,0,0,0,0,5,0,0,5,0,5,0,0,0,0,0,5,0,4,2,0,2,5,5,6,0,0,0,0,0,0,6,0,0,6,0,6,0,0,0,0,0,6,0,2,0,2,6,6,0,6,6,0,6] (.val (fun t=>.int (Int.ofNat (s+1)) t) 1 <| .val (fun _=>.bool true) 0 <| .ask [] 99 950 Unit (xnSh (.int (Int.ofNat mo) (J 8))) fun _=>.keep [4,0,6,7,8])=(.val (.bi (PySem.W.S.codeS "int.__add__") [.int (Int.ofNat s) (J 10),.int 1 (a t 1)]) (.int (Int.ofNat (a s 1)) (a t 2)) 1 (a t 2) 1 (.val (.bi (PySem.W.S.codeS "int.__gt__") [.int (Int.ofNat (a s 1)) (a t 2),.int (Int.ofNat mo) (J 8)]) (.bool true) 0 (a t 7) 1 (.ask (.bi (PySem.W.S.codeS "Exception.__new__") [.ref 111,.int (Int.ofNat mo) (J 8)]) [] [] x 0 t 8 2 950 (Unit) ((xnSh (Value.int (Int.ofNat mo) (J 8))) (Nat.add x 0) (Nat.add t 8)) (fun p1=>(dn (.error (.ref (a x 1))) ([((a x 1),⟨.ref 111,(some (a x 5)),.fields ⟨[.ref (a x 4),.none,.none,.none,.bool false,.none]⟩,⟨[]⟩⟩),((a x 5),⟨.type "dict",none,.dict ⟨[en (PP w b1 b2) (q [116,101,120,116]) (a t 16) (.str (q [116,111,111,32,109,97,110,121,32,115,116,101,112,115]) (a t 11)),en (PP w b1 b2) (q [115,116,101,112,115]) (a t 18) (.int (Int.ofNat mo) (J 8))]⟩ 2,⟨[]⟩⟩),(f,⟨.type "frame",none,.dict ⟨[en (PP w b1 b2) (q [114,117,110]) (I 0) (.ref rn),en (PP w b1 b2) (q [119,111,114,100,115]) (I 1) (.ref wd),en (PP w b1 b2) (q [115,116,97,114,116]) (I 2) (.int (Int.ofNat k) tq),en (PP w b1 b2) (q [114,111,119]) (I 3) (.ref r0),en (PP w b1 b2) (q [105,115,95,114,105,103,104,116]) (I 4) (.bool true)]⟩ 5,⟨[]⟩⟩),(rn,⟨.ref 787,(some md),.plain,⟨[]⟩⟩),(md,⟨.type "dict",none,.dict ⟨[en (PP w b1 b2) (q [112,114,111,103,114,97,109]) (J 0) (.ref pr),en (PP w b1 b2) (q [116,101,120,116]) (J 1) (.str (q (tx)) (J 2)),en (PP w b1 b2) (q [98,101,103,105,110]) (J 3) (.int 0 (J 4)),en (PP w b1 b2) (q [108,101,97,115,116,95,101,110,100]) (J 5) (.int 0 (J 6)),en (PP w b1 b2) (q [109,111,115,116]) (J 7) (.int (Int.ofNat mo) (J 8)),en (PP w b1 b2) (q [115,116,101,112,115]) (J 9) (.int (Int.ofNat (a s 1)) (a t 2)),en (PP w b1 b2) (q [97,116]) (J 11) (.int (Int.ofNat k0) (J 12)),en (PP w b1 b2) (q [114,111,119]) (J 13) (.int 1 (J 14)),en (PP w b1 b2) (q [103,114,111,117,112,115]) (J 15) (.ref gr),en (PP w b1 b2) (q [114,101,103,105,115,116,101,114,115]) (J 16) (.ref rg),en (PP w b1 b2) (q [112,105,108,101]) (J 17) (.ref pl)]⟩ 11,⟨[]⟩⟩)]) x 6 (a t 8) 11 [(a x 1),(a x 1),(a x 1),(a x 1),(a x 1),(a x 5),(a x 5),(a x 5),(a x 1),(a x 1),(a x 1),(a x 1),(a x 1),(a x 2),(a x 2),(a x 5),(a x 5),(a x 5),(a x 1),(a x 1),(a x 1),(a x 1),(a x 1),(a x 1),(a x 3),(a x 3),(a x 1),(a x 1),(a x 1),(a x 1),(a x 1),(a x 3),(a x 3),(a x 3),(a x 3),(a x 3),(a x 3),(a x 2),(a x 2),(a x 2),(a x 2),(a x 2),(a x 1),(a x 1),md,rn,rn,rn,rn,f,md,rn,rn,rn,rn,f,md,rn,rn,rn,rn,f,md,md,md,rn,rn,rn,rn,rn,md,rn,rn,rn,rn,f]))))):=by revert b1 b2;apply bq2<;>kernel_rfl
def whPos (s:Stmt):Pos:=match s with
 | .While _ _ _ p=>p
 | _=>default
theorem mfB_eq:mfB=List.take 6 mfB++[.While (testE mfW) (whB mfW) [] (whPos mfW)]:=by kernel_rfl
theorem mfLoop_eq (f:Nat):mfLoop f=.whileLoop (testE mfW) (whB mfW) [] (mfEnv f):=by kernel_rfl
theorem run_call {w:World} {G:Heap→Prop} {kl l:Led} {x m t i D n:Nat} {c:Code} {ds:List Nat} {sc:Scr} {o:Out} {g h:Heap} {A:Around} {R:Result→Shared→Prop} {gs:Array GenState} {d:Drawn} {os:OsState}
  (e:go w.params kl D n c l x m t i ds sc=o) (hG:Grd w kl G) (hg:G g) (low:Low D A) (rep:Rep g l (Nat.add x m) h) (H:o.ok ⟨pw_qz0137_01,w,kt w.params,kl,G,D,g,A,R,gs,d,os⟩):
  codeAny (MW w) A c R ⟨h,gs,d,Nat.add t i,os⟩:=by
 have O:(⟨pw_qz0137_01,w,kt w.params,kl,G,D,g,A,R,gs,d,os⟩:Ctl).Ok:=⟨hg,hG.mono,hG.known,low⟩
 rw [← e] at H
 exact (enter_sound O (SS_ok rfl) (exec (SS (kt w.params) kl w.params D) n) (exec_sound O (SS_ok rfl) n) H).2 trivial h rep
section
variable {w:World} {G:Heap→Prop} {kl l:Led} {x m t i D n:Nat} {c:Code} {ds:List Nat} {sc:Scr} {o:Out} {g h:Heap} {A:Around} {gs:Array GenState} {d:Drawn} {os:OsState} {env:Env} {E:Value→Shared→Prop}
 (hG:Grd w kl G) (hg:G g) (low:Low D A) (hw:c.weight≤5) (rep:Rep g l (Nat.add x m) h)
include hG hg low hw rep
theorem piece_raise {b:List Stmt} (e:goT w.params kl D n c (exT b env) l x m t i ds sc=o)
  (H:o.ok ⟨pw_qz0137_01,w,kt w.params,kl,G,D,g,A,fun r s'=>match r with | .error v=>E v s' | _=>False,gs,d,os⟩):wpOwn (MW w) A c (execs b env) (fun _ _=>False) E ⟨h,gs,d,Nat.add t i,os⟩:=
 wpOwn_mono (own_execs (R0:=fun r s'=>match r with | .error v=>E v s' | _=>False) (run_tree e hG hg low hw rep H)) (fun _ _ h=>h.elim) (fun _ _ h=>h)
theorem piece_testRaise {ex:Expr} {Q:Bool→Shared→Prop} (e:goT w.params kl D n c (isT ex env) l x m t i ds sc=o)
  (H:o.ok ⟨pw_qz0137_01,w,kt w.params,kl,G,D,g,A,fun r s'=>match r with | .error v=>E v s' | _=>False,gs,d,os⟩):wpOwn (MW w) A c (isTrue ex env (eval ex env)) Q E ⟨h,gs,d,Nat.add t i,os⟩:=
 wpOwn_mono (own_isTrue (R0:=fun r s'=>match r with | .error v=>E v s' | _=>False) (run_tree e hG hg low hw rep H)) (fun _ _ h=>h.elim) (fun _ _ h=>h)
end
theorem low_under {D:Nat} {A:Around} {c:Code} (low:Low D A) (hw:c.weight≤5):Low (D+5) ((A.under c).mark none):=by
 have hu:=units_le c
 obtain ⟨h1,h2,h3⟩:=low
 refine ⟨by show (none:Option Value).or A.handled=none;rw [h1];rfl,?_,?_⟩
 ·show A.depth+c.weight≤D+5
  omega
 ·show A.units+c.cUnits≤10 * (D+5)
  omega
theorem zipUp_re (σ:Addr→Array (Option Value)):∀ F:Led,zipUp F (F.map fun q=>{ q.2 with slots:=σ q.1 })=reF σ F
 | []=>rfl
 | q::F=>by
  show (q.1,_)::zipUp F (F.map fun q=>{ q.2 with slots:=σ q.1 })=_
  rw [zipUp_re σ F]
  rfl
def dXe (P:Params) (Z:Nat→Nat) (mo:Nat):Obj:=⟨.type "dict",none,.dict ⟨[en P (q [116,101,120,116]) (Z 0) (.str (q [116,111,111,32,109,97,110,121,32,115,116,101,112,115]) (Z 1)),en P (q [115,116,101,112,115]) (Z 2) (.int (Int.ofNat mo) (Z 3))]⟩ 2,⟨[]⟩⟩
end
noncomputable section
structure ML where
 J:Nat→Nat
 s:Nat
 k:Nat
 gr:Nat
 rg:Nat
 pl:Nat
 σ:Addr→Array (Option Value)
 T:Nat
 e:Nat
 dd:Nat
 ta:Nat
 f:Nat
 hd:Value
 pls:List Value
 Z:Nat→Nat
 x:Nat
 t:Nat
def excL (P:Params) (mo:Nat) (p:ML):Led:=[(p.T,oTb p.hd p.f .none p.pls),(p.e,oXe p.dd (.ref p.T) p.ta),(p.dd,dXe P p.Z mo)]
def mlSh (P:Params) (md pr mo:Nat) (tx:List Nat) (F:Led) (p:ML):Shape:=⟨.error (.ref p.e),oMR md::dMR P p.J pr mo p.s p.k 1 p.gr p.rg p.pl tx::F.map (fun q=>{ q.2 with slots:=p.σ q.1 }),excL P mo p,p.x,0,p.t,0,[]⟩
theorem mf_kind (f:Nat):(mfEnv f).scope.kind≠.module:=by
 have e:(mfEnv f).scope.kind=.function:=by kernel_rfl
 rw [e]
 exact fun h=>nomatch h
section
variable {w:World} {L0 kn:Led} {J M K:Nat→Nat} {rn md pl gr rg pr pd rl er r0 r1 e0 e1 e2 gi tg ri tr nm wd mo s k0 r k tk x m t i:Nat} {tx:List Nat} {outer:List Env} {F:Led}
theorem mf_long (hF:FrOK outer F) (hL:∀ q∈mkL w.params M K pr pd rl er r0 r1 e0 e1 e2 gi tg ri tr nm wd,q∈L0) (hx:tx[k]?=some 97) (hsz:tx.length≤1000) (hgi:gi≤1000) (hri:ri≤1000) (hs:s≤1000000) (hfit:s+(gi+ri) / 20+1≤mo) (hlong:mo < s+(gi+ri) / 20+2):
  AskF pw_qz0137_01 w (GL w L0 []) (some outer) (.fn 971 [.ref rn,.ref wd,.int (Int.ofNat k) tk]) ((rn,oMR md)::(md,dMR w.params J pr mo s k0 r gr rg pl tx)::F) kn x m t i 500 (mlSh w.params md pr mo tx F):=by
 have hz:sizeLine=16777216:=rfl
 have hk:k < tx.length:=(List.getElem?_eq_some_iff.mp hx).1
 intro c hc g A R gs d os h hg _ low hfr rep KK
 obtain rfl:c=.call (.ref 971) ⟨[.ref rn,.ref wd,.int (Int.ofNat k) tk],[]⟩:=hc
 have low':Low 510 A:=⟨low.1,by have:=low.2.1;omega,by have:=low.2.2;omega⟩
 have ea:=mf_in w (Nat.add x m) (Nat.add t i) 0 0 rn md pl gr rg pr pd rl er r0 r1 0 0 0 gi tg ri tr nm wd mo s k0 r k tk (fun _=>0) J K M tx [] [] (w.params.followText "special-get-raises") (w.params.followText "comprehension-iter-twice")
 rw [← PP_self w] at ea
 have s1:Sel _ [0,1] _:=sel_spec (L:=(rn,oMR md)::(md,dMR w.params J pr mo s k0 r gr rg pl tx)::F) (l:=[(rn,oMR md),(md,dMR w.params J pr mo s k0 r gr rg pl tx)]) rfl
 refine run_call (x:=Nat.add x m) (m:=0) (t:=Nat.add t i) (i:=0) ea (G0_ok w) (G0_mono w _ _ (sub_hide rep s1.sub) hg.1) low (rep.hide s1) ⟨rfl,fun h1 rep1=>?_⟩
 have rep1:Rep g ((Nat.add x m,mfF w.params (fun j=>match j with | 0=>Nat.add t i | 1=>a (Nat.add t i) 1 | _=>a (Nat.add t i) 2) rn wd k tk)::(rn,oMR md)::(md,dMR w.params J pr mo s k0 r gr rg pl tx)::F) (Nat.add (Nat.add x m) 1) h1:=by
  have z:=rep.back (sh:=⟨.ok .next,[oMR md,dMR w.params J pr mo s k0 r gr rg pl tx],[(Nat.add x m,mfF w.params (fun j=>match j with | 0=>Nat.add t i | 1=>a (Nat.add t i) 1 | _=>a (Nat.add t i) 2) rn wd k tk)],0,0,0,0,[]⟩) s1 rfl (n':=Nat.add (Nat.add x m) 1) (h':=h1) rep1
  rw [List.append_nil] at z
  exact z
 show codeAny (MW w) A (.func mfB (mfEnv (Nat.add x m))) R ⟨h1,gs,d,Nat.add (Nat.add t i) 3,os⟩
 generalize (fun j=>match j with | 0=>Nat.add t i | 1=>a (Nat.add t i) 1 | _=>a (Nat.add t i) 2:Nat→Nat)=I1 at rep1
 generalize hf:Nat.add x m=f at rep1
 generalize Nat.add (Nat.add t i) 3=tt
 have gm:∀ g':Heap,(∀ b o,g.get? b=some o→g'.get? b=some o)→GL w L0 [] g':=fun g' k=>GL_mono _ _ k hg
 have wf:(Code.func mfB (mfEnv f)).weight≤5:=weight_le rfl
 have wl:(mfLoop f).weight≤5:=by rw [mfLoop_eq];exact weight_le rfl
 refine own_func_raise rfl mfB_eq (own_append ?_)
 have eb:=mf_as w (Nat.add f 1) tt f 0 rn md pl gr rg pr pd rl er r0 r1 e0 e1 e2 gi tg ri tr nm wd mo s k0 r k tk I1 J K M tx (List.replicate (gi+1) .none) (List.replicate ri (.int (-1) (a tt 14))) (w.params.followText "special-get-raises") (w.params.followText "comprehension-iter-twice")
 rw [← PP_self w] at eb
 have s2:Sel _ [0,1,2] _:=sel_spec (L:=(f,mfF w.params I1 rn wd k tk)::(rn,oMR md)::(md,dMR w.params J pr mo s k0 r gr rg pl tx)::F) (l:=[(f,mfF w.params I1 rn wd k tk),(rn,oMR md),(md,dMR w.params J pr mo s k0 r gr rg pl tx)]) rfl
 refine piece_execs (x:=Nat.add f 1) (m:=0) (t:=tt) (i:=0) (GL_ok (L0:=L0) (xs:=[]) hL) (gm _ (sub_hide rep1 s2.sub)) low' wf (rep1.hide s2) eb ?_
 refine ⟨v_addn,⟨⟨()⟩,nble rfl,fun _=>rfl,lmul_ok (n:=gi+1) (by omega),fun _=>⟨⟨()⟩,nble rfl,fun _=>rfl,lmul_ok (n:=ri) (by omega),fun _=>⟨v_addn,v_fdivn (k:=20) (by omega) (by omega) (by omega),v_addn,rfl,fun h2 rep2=>?_⟩⟩⟩⟩
 have rep2:=rep1.back (sh:=⟨.ok .next,[mfF w.params I1 rn wd k tk,oMR md,dMR w.params (upI J [(10,a tt 26),(12,tk),(14,a tt 2)]) pr mo (s+(gi+ri) / 20) k 0 (a (Nat.add f 1) 2) (a (Nat.add f 1) 4) (Nat.add f 1) tx],[],0,0,0,0,[]⟩) s2 rfl (n':=Nat.add (a (Nat.add f 1) 4) 1) (h':=h2) rep2
 have rep2:Rep g ((f,mfF w.params I1 rn wd k tk)::(rn,oMR md)::(md,dMR w.params (upI J [(10,a tt 26),(12,tk),(14,a tt 2)]) pr mo (s+(gi+ri) / 20) k 0 (a (Nat.add f 1) 2) (a (Nat.add f 1) 4) (Nat.add f 1) tx)::F) (Nat.add (a (Nat.add f 1) 4) 1) h2:=by
  rw [List.append_nil] at rep2
  exact rep2
 generalize (upI J [(10,a tt 26),(12,tk),(14,a tt 2)])=J2 at rep2
 generalize (a (Nat.add f 1) 2)=gr2 at rep2
 generalize (Nat.add (a (Nat.add f 1) 4) 1)=n2 at rep2
 generalize (a (Nat.add f 1) 4)=rg2 at rep2
 generalize (Nat.add f 1)=pl2 at rep2
 show wpOwn (MW w) A (.func mfB (mfEnv f)) (execs [.While (testE mfW) (whB mfW) [] (whPos mfW)] (mfEnv f)) _ _ ⟨h2,gs,d,Nat.add (a tt 17) 12,os⟩
 refine own_cons (own_while_stmt ?_)
 show codeAny (MW w) ((A.under (.func mfB (mfEnv f))).mark none) (.whileLoop (testE mfW) (whB mfW) [] (mfEnv f)) _ ⟨h2,gs,d,Nat.add (a tt 17) 12,os⟩
 generalize Nat.add (a tt 17) 12=t2
 rw [← mfLoop_eq]
 have low0:=low_under low wf
 have low1:Low 510 ((A.under (.func mfB (mfEnv f))).mark none):=⟨low0.1,by have:=low0.2.1;omega,by have:=low0.2.2;omega⟩
 clear low0
 have fr1:((A.under (.func mfB (mfEnv f))).mark none).frames=some (mfEnv f::outer):=by
  show pushEnvs [mfEnv f] A.frames=_
  rw [hfr]
  rfl
 generalize ((A.under (.func mfB (mfEnv f))).mark none)=A1 at low1 fr1
 have ec:=mf_t1 w n2 t2 f 0 rn md pl2 gr2 rg2 pr pd rl er r0 r1 e0 e1 e2 gi tg ri tr nm wd mo (s+(gi+ri) / 20) 0 0 k tk I1 J2 K M tx [] [] (w.params.followText "special-get-raises") (w.params.followText "comprehension-iter-twice")
 rw [← PP_self w] at ec
 have s3:Sel _ [0,1,2] _:=sel_spec (L:=(f,mfF w.params I1 rn wd k tk)::(rn,oMR md)::(md,dMR w.params J2 pr mo (s+(gi+ri) / 20) k 0 gr2 rg2 pl2 tx)::F) (l:=[(f,mfF w.params I1 rn wd k tk),(rn,oMR md),(md,dMR w.params J2 pr mo (s+(gi+ri) / 20) k 0 gr2 rg2 pl2 tx)]) rfl
 refine run_call (x:=n2) (m:=0) (t:=t2) (i:=0) ec (GL_ok (L0:=L0) (xs:=[]) hL) (gm _ (sub_hide rep2 s3.sub)) low1 (rep2.hide s3) ?_
 refine ⟨v_addn,v_gt_f hfit,⟨⟨()⟩,nble rfl,fun _=>rfl,sitemG wd_keys (fun g hg=>hg.2.1 _ (hL _ (.tail _ (.tail _ (.tail _ (.tail _ (.tail _ (.head _)))))))) wd_sign,fun _=>⟨v_len rfl (by omega),v_ge_f hk,v_sget hx (by omega),v_addn,rfl,fun h3 rep3=>?_⟩⟩⟩
 have rep3:=rep2.back (sh:=⟨.ok .next,[mfF2 w.params (upI I1 [(3,a t2 10),(4,a t2 44)]) rn wd k tk r0,oMR md,dMR w.params (upI J2 [(10,a t2 2),(12,a t2 35),(14,a t2 41)]) pr mo (s+(gi+ri) / 20+1) (k+1) 1 gr2 rg2 pl2 tx],[],0,0,0,0,[]⟩) s3 rfl (n':=Nat.add n2 4) (h':=h3) rep3
 have rep3:Rep g ((f,mfF2 w.params (upI I1 [(3,a t2 10),(4,a t2 44)]) rn wd k tk r0)::(rn,oMR md)::(md,dMR w.params (upI J2 [(10,a t2 2),(12,a t2 35),(14,a t2 41)]) pr mo (s+(gi+ri) / 20+1) (k+1) 1 gr2 rg2 pl2 tx)::F) (Nat.add n2 4) h3:=by
  rw [List.append_nil] at rep3
  exact rep3
 show codeAny (MW w) A1 (mfLoop f) _ ⟨h3,gs,d,Nat.add (a t2 14) 31,os⟩
 generalize (upI I1 [(3,a t2 10),(4,a t2 44)])=I3 at rep3
 generalize (upI J2 [(10,a t2 2),(12,a t2 35),(14,a t2 41)])=J3 at rep3
 generalize Nat.add (a t2 14) 31=t3
 generalize Nat.add n2 4=n3 at rep3
 refine own_while_raise (mfLoop_eq f) ?_
 have ed:=mf_w w n3 t3 f 0 rn md pl2 gr2 rg2 pr pd rl er r0 r1 e0 e1 e2 gi tg ri tr nm wd mo (s+(gi+ri) / 20+1) (k+1) 0 k tk I3 J3 K M tx [] [] (w.params.followText "special-get-raises") (w.params.followText "comprehension-iter-twice")
 rw [← PP_self w] at ed
 have s4:Sel _ [0,1,2] _:=sel_spec (L:=(f,mfF2 w.params I3 rn wd k tk r0)::(rn,oMR md)::(md,dMR w.params J3 pr mo (s+(gi+ri) / 20+1) (k+1) 1 gr2 rg2 pl2 tx)::F) (l:=[(f,mfF2 w.params I3 rn wd k tk r0),(rn,oMR md),(md,dMR w.params J3 pr mo (s+(gi+ri) / 20+1) (k+1) 1 gr2 rg2 pl2 tx)]) rfl
 refine piece_isTrue (x:=n3) (m:=0) (t:=t3) (i:=0) (G0_ok w) (G0_mono w _ _ (sub_hide rep3 s4.sub) hg.1) low1 wl (rep3.hide s4) ed ⟨rfl,fun h4 rep4=>?_⟩
 have rep4:=rep3.back (sh:=⟨.ok .next,[mfF2 w.params I3 rn wd k tk r0,oMR md,dMR w.params J3 pr mo (s+(gi+ri) / 20+1) (k+1) 1 gr2 rg2 pl2 tx],[],0,0,0,0,[]⟩) s4 rfl (n':=n3) (h':=h4) rep4
 have rep4:Rep g ((f,mfF2 w.params I3 rn wd k tk r0)::(rn,oMR md)::(md,dMR w.params J3 pr mo (s+(gi+ri) / 20+1) (k+1) 1 gr2 rg2 pl2 tx)::F) n3 h4:=by
  rw [List.append_nil] at rep4
  exact rep4
 refine ⟨rfl,?_⟩
 show wpOwn (MW w) A1 (mfLoop f) (execs (whB mfW) (mfEnv f)) (fun _ _=>False) _ ⟨h4,gs,d,Nat.add t3 0,os⟩
 have ee:=mf_r w n3 t3 f 0 rn md pl2 gr2 rg2 pr pd rl er r0 r1 e0 e1 e2 gi tg ri tr nm wd mo (s+(gi+ri) / 20+1) (k+1) 0 k tk I3 J3 K M tx [] [] (w.params.followText "special-get-raises") (w.params.followText "comprehension-iter-twice")
 rw [← PP_self w] at ee
 have s5:Sel _ [0,1,2] _:=sel_spec (L:=(f,mfF2 w.params I3 rn wd k tk r0)::(rn,oMR md)::(md,dMR w.params J3 pr mo (s+(gi+ri) / 20+1) (k+1) 1 gr2 rg2 pl2 tx)::F) (l:=[(f,mfF2 w.params I3 rn wd k tk r0),(rn,oMR md),(md,dMR w.params J3 pr mo (s+(gi+ri) / 20+1) (k+1) 1 gr2 rg2 pl2 tx)]) rfl
 refine piece_raise (x:=n3) (m:=0) (t:=t3) (i:=0) (G0_ok w) (G0_mono w _ _ (sub_hide rep4 s5.sub) hg.1) low1 wl (rep4.hide s5) ee ⟨v_addn,v_gt_t hlong,⟨⟨()⟩,nble rfl,fun _=>rfl,xnew_ok,fun _=>⟨rfl,fun h5 rep5=>?_⟩⟩⟩
 have hdup:∀ Z:Nat→Nat,True:=fun _=>trivial
 have rep5:=rep4.back (sh:=⟨.ok .next,[mfF2 w.params I3 rn wd k tk r0,oMR md,dMR w.params (upI J3 [(10,a t3 2)]) pr mo (s+(gi+ri) / 20+2) (k+1) 1 gr2 rg2 pl2 tx],[(a n3 1,oXe (a n3 5) .none (a n3 4)),(a n3 5,dXe w.params (upI J3 [(0,a t3 16),(1,a t3 11),(2,a t3 18),(3,J3 8)]) mo)],0,0,0,0,[]⟩) s5 rfl (n':=Nat.add n3 6) (h':=h5) rep5
 have rep5:Rep g ((a n3 1,oXe (a n3 5) .none (a n3 4))::(a n3 5,dXe w.params (upI J3 [(0,a t3 16),(1,a t3 11),(2,a t3 18),(3,J3 8)]) mo)::(f,mfF2 w.params I3 rn wd k tk r0)::(rn,oMR md)::(md,dMR w.params (upI J3 [(10,a t3 2)]) pr mo (s+(gi+ri) / 20+2) (k+1) 1 gr2 rg2 pl2 tx)::F) (Nat.add n3 6) h5:=by
  rw [List.append_nil] at rep5
  exact rep5
 show NotedE w A1 (mfLoop f) (mfEnv f) _ (.ref (a n3 1)) ⟨h5,gs,d,Nat.add (a t3 8) 11,os⟩
 generalize (upI J3 [(0,a t3 16),(1,a t3 11),(2,a t3 18),(3,J3 8)])=Z at rep5
 generalize (upI J3 [(10,a t3 2)])=J4 at rep5
 generalize (a n3 1)=ex at rep5
 generalize (a n3 4)=ta at rep5
 generalize (a n3 5)=dd at rep5
 generalize Nat.add n3 6=n5 at rep5
 generalize Nat.add (a t3 8) 11=t5
 have fr2:(A1.under (mfLoop f)).frames=some (mfEnv f::outer):=by
  rw [mfLoop_eq]
  show pushEnvs [] A1.frames=_
  exact fr1
 have hF2:FrOK (mfEnv f::outer) ((f,mfF2 w.params I3 rn wd k tk r0)::F):=⟨mf_kind f,rfl,(fun vs q=>nomatch q),hF⟩
 have rep6:Rep g ((ex,oXe dd .none ta)::(((f,mfF2 w.params I3 rn wd k tk r0)::F)++[(rn,oMR md),(md,dMR w.params J4 pr mo (s+(gi+ri) / 20+2) (k+1) 1 gr2 rg2 pl2 tx),(dd,dXe w.params Z mo)])) n5 h5:=
  rep5.perm (.cons _ ((List.perm_append_comm (l₁:=[(dd,dXe w.params Z mo)]) (l₂:=(f,mfF2 w.params I3 rn wd k tk r0)::(rn,oMR md)::(md,dMR w.params J4 pr mo (s+(gi+ri) / 20+2) (k+1) 1 gr2 rg2 pl2 tx)::F)).trans (by
   show ((f,mfF2 w.params I3 rn wd k tk r0)::(((rn,oMR md)::(md,dMR w.params J4 pr mo (s+(gi+ri) / 20+2) (k+1) 1 gr2 rg2 pl2 tx)::F)++[(dd,dXe w.params Z mo)])).Perm _
   refine .cons _ ?_
   show ([(rn,oMR md),(md,dMR w.params J4 pr mo (s+(gi+ri) / 20+2) (k+1) 1 gr2 rg2 pl2 tx)]++(F++[(dd,dXe w.params Z mo)])).Perm (F++([(rn,oMR md),(md,dMR w.params J4 pr mo (s+(gi+ri) / 20+2) (k+1) 1 gr2 rg2 pl2 tx)]++[(dd,dXe w.params Z mo)]))
   rw [← List.append_assoc,← List.append_assoc]
   exact List.Perm.append_right _ List.perm_append_comm)))
 refine note_first fr2 hF2 rfl rep6 fun σ pls h6 rep6=>?_
 suffices zz:cameBackBy (MW w) (A.under (.func mfB (mfEnv f))) (mfEnv f) (fun e s2=>wpAny (MW w) (A.under (.func mfB (mfEnv f))) (leaving (mfEnv f) e) (fun _ s3=>R (.error e) s3) (fun _ _=>False) s2) (.ref ex) ⟨h6,gs,d,t5,os⟩ from zz
 refine back_ok (f:=f) rfl rep6 fun h7 rep7=>?_
 refine leave_ok (f:=f) rfl rep7 fun h8 rep8=>?_
 refine KK ⟨J4,s+(gi+ri) / 20+2,k+1,gr2,rg2,pl2,σ,n5,ex,dd,ta,f,.none,pls,Z,n5+1,t5⟩ h8 ?_
 have rep9:Rep g ((n5,oTb .none f .none pls)::(ex,oXe dd (.ref n5) ta)::(reF σ F++([(rn,oMR md),(md,dMR w.params J4 pr mo (s+(gi+ri) / 20+2) (k+1) 1 gr2 rg2 pl2 tx)]++[(dd,dXe w.params Z mo)]))) (n5+1) h8:=
  (rep8.perm ((List.perm_append_comm (l₁:=[(n5,oTb .none f .none pls),(ex,oXe dd (.ref n5) ta)]) (l₂:=[(f,{ mfF2 w.params I3 rn wd k tk r0 with slots:=σ f })])).append_right (reF σ F++([(rn,oMR md),(md,dMR w.params J4 pr mo (s+(gi+ri) / 20+2) (k+1) 1 gr2 rg2 pl2 tx)]++[(dd,dXe w.params Z mo)])))).tail
 have rep10:Rep g ((n5,oTb .none f .none pls)::(ex,oXe dd (.ref n5) ta)::(dd,dXe w.params Z mo)::(rn,oMR md)::(md,dMR w.params J4 pr mo (s+(gi+ri) / 20+2) (k+1) 1 gr2 rg2 pl2 tx)::reF σ F) (n5+1) h8:=
  rep9.perm (.cons _ (.cons _ (by
   rw [← List.append_assoc]
   exact List.perm_append_comm.trans (.cons _ (List.perm_append_comm (l₁:=reF σ F) (l₂:=[(rn,oMR md),(md,dMR w.params J4 pr mo (s+(gi+ri) / 20+2) (k+1) 1 gr2 rg2 pl2 tx)]))))))
 show Rep g (excL w.params mo ⟨J4,s+(gi+ri) / 20+2,k+1,gr2,rg2,pl2,σ,n5,ex,dd,ta,f,.none,pls,Z,n5+1,t5⟩++((rn,oMR md)::(md,dMR w.params J4 pr mo (s+(gi+ri) / 20+2) (k+1) 1 gr2 rg2 pl2 tx)::zipUp F (F.map fun q=>{ q.2 with slots:=σ q.1 }))++[]) (n5+1) h8
 rw [List.append_nil,zipUp_re]
 exact rep10
end
end
noncomputable section
def spEnv (f:Nat):Env:=fenv (sAt 143 top) 979 978 f
def spB:List Stmt:=fbody (sAt 143 top)
def spW:Stmt:=sAt 4 spB
def spLoop (f:Nat):Code:=whileOf spW (spEnv f)
def spF0 (P:Params) (I:Nat→Nat) (pr lm:Nat) (tx:List Nat):Obj:=⟨.type "frame",none,.dict ⟨[en P (q [112,114,111,103,114,97,109]) (I 0) (.ref pr),en P (q [116,101,120,116]) (I 1) (.str (q tx) (I 2)),en P (q [97,116]) (I 3) (.int 0 (I 4)),en P (q [108,105,109,105,116,115]) (I 5) (.ref lm),en P (q [108,101,97,115,116,95,101,110,100]) (I 6) (.int 0 (I 7)),en P (q [98,101,103,105,110]) (I 8) .none,en P (q [115,112,101,110,116]) (I 9) .none]⟩ 7,⟨[]⟩⟩
def spF (P:Params) (I:Nat→Nat) (pr lm rn wd k:Nat) (tx:List Nat):Obj:=⟨.type "frame",none,.dict ⟨[en P (q [112,114,111,103,114,97,109]) (I 0) (.ref pr),en P (q [116,101,120,116]) (I 1) (.str (q tx) (I 2)),en P (q [97,116]) (I 3) (.int 0 (I 4)),en P (q [108,105,109,105,116,115]) (I 5) (.ref lm),en P (q [108,101,97,115,116,95,101,110,100]) (I 6) (.int 0 (I 7)),en P (q [98,101,103,105,110]) (I 8) .none,en P (q [115,112,101,110,116]) (I 9) .none,en P (q [114,117,110]) (I 10) (.ref rn),en P (q [119,111,114,100,115]) (I 11) (.ref wd),en P (q [115,116,97,114,116]) (I 12) (.int (Int.ofNat k) (I 13))]⟩ 10,⟨[]⟩⟩
end
noncomputable section
theorem sp_in (w:World) (x t f rn md pl gr rg pr pd rl gi tg ri tr nm wd lm ld lim tl stp tst tt tz tz2 mo s k r:Nat) (I J M W:Nat→Nat) (v1:Value) (tx:List Nat) (b1 b2:Bool):go (PP w b1 b2) [] 400 100000 (.call (.ref 979) ⟨[.ref pr,.str (q tx) tt,.int 0 tz,.ref lm,.int 0 tz2],[]⟩) [] x 0 t 0 [1,0,0,0,2,0,2,0,2,0,2,0,2,0,2,0,2,0,0,3] (.keep [0])=(ag (.func spB (spEnv x)) [(x,⟨.type "frame",none,.dict ⟨[en (PP w b1 b2) (q [112,114,111,103,114,97,109]) t (.ref pr),en (PP w b1 b2) (q [116,101,120,116]) (a t 1) (.str (q (tx)) tt),en (PP w b1 b2) (q [97,116]) (a t 2) (.int 0 tz),en (PP w b1 b2) (q [108,105,109,105,116,115]) (a t 3) (.ref lm),en (PP w b1 b2) (q [108,101,97,115,116,95,101,110,100]) (a t 4) (.int 0 tz2),en (PP w b1 b2) (q [98,101,103,105,110]) (a t 5) .none,en (PP w b1 b2) (q [115,112,101,110,116]) (a t 6) .none]⟩ 7,⟨[]⟩⟩)] x 1 t 7 [x,x,x,x,x,x,x,x,x,x,x,x,x,x]):=by revert b1 b2;apply bq2<;>kernel_rfl
theorem sp_as (w:World) (x t f rn md pl gr rg pr pd rl gi tg ri tr nm wd lm ld lim tl stp tst tt tz tz2 mo s k r:Nat) (I J M W:Nat→Nat) (v1:Value) (tx:List Nat) (b1 b2:Bool):goT (PP w b1 b2) [(pr,oPr pd),(pd,dPr (PP w b1 b2) M rl gi tg ri tr nm),(lm,oLim ld),(ld,dLim (PP w b1 b2) W v1 stp tst lim tl)] 410 100000 (.func spB (spEnv f)) (exT (List.take 4 spB) (spEnv f)) [(f,spF0 (PP w b1 b2) I pr lm tx)] x 0 t 0 [0,2,2,2,2,2,2,1,2,0,0,0,0,1,2,0,0,0,1,2,1,2,0,1,3,0,0,0,0,0,0,0,0,0,0,0,0,0,0,0,0,0,0,0,0,0,0,0,0,0,0,0,0,0,0,0,0,0,2,0,2,0,0,0,0,1,0,0,2,0,2,0,2,0,2,0,2,0,2,0,0,0,2,2,3,0,0,0,0,3,0,0,3,0,3,0,0,0,3,0,4,2,4,2,2,3,0,0,0,0,3,0,0,3,0,3,0,0,0,3,0,4,2,4,2,2,3,0,0,0,0,3,0,0,3,0,3,0,0,0,3,0,4,2,4,2,2,3,0,0,0,0,3,0,0,3,0,3,0,0,0,3,0,4,2,4,2,2,3,0,0,0,0,3,0,0,3,0,3,0,0,0,3,0,4,2,4,2,3,0,0,0,0,3,0,0,3,0,3,0,0,0,3,0,4,2,4,2,2,3,0,0,0,0,3,0,0,3,0,3,0,0,0,3,0,4,2,4,2,3,0,0,0,0,3,0,0,3,0,3,0,0,0,3,0,4,2,4,3,4,0,0,0,0,4,0,0,4,0,4,0,0,0,4,0,5,3,5,4,5,0,0,0,0,5,0,0,5,0,5,0,0,0,5,0,6,4,6,5,6,0,0,0,0,6,0,0,6,0,6,0,0,0,6,0,7,5,7,8,6,8,8,6,0,0,0,0,6,0,0,6,0,6,0,0,0,6,0,7,5,7,0,0,1,0,0,0,0,0,0,0,2,2,0,2,0,0,0,2,2,0,2,0,0,0,2,2,0,2,0,0,0,2,2,0,2,0,0,0,2,2,0,2,0,0,0,2,2,0,2,0,0,0,2,2,0,2,0,0,0,2,2,0,2,0,0,0,2,2,0,2,0,0,0,2,2,0,2,0,0,0,2,2,0,2,0,0,0,2,2,0,2,0,0,0,2,2,0,2,0,0,0,2,2,0,2,0,0,0,2,2,0,2,0,0,0,2,2,0,2,0,0,0,2,2,0,2,0,0,0,0,2,2,0,2,0,0,2,2,0,2,2,2,3,2,2,2,3,3,1,3,2,2,3,3,1,3,2,11,9,11,11,9] (.keep [9,7,8,1])=(dn (.ok .next) ([(f,⟨.type "frame",none,.dict ⟨[en (PP w b1 b2) (q [112,114,111,103,114,97,109]) (I 0) (.ref pr),en (PP w b1 b2) (q [116,101,120,116]) (I 1) (.str (q (tx)) (I 2)),en (PP w b1 b2) (q [97,116]) (I 3) (.int 0 (I 4)),en (PP w b1 b2) (q [108,105,109,105,116,115]) (I 5) (.ref lm),en (PP w b1 b2) (q [108,101,97,115,116,95,101,110,100]) (I 6) (.int 0 (I 7)),en (PP w b1 b2) (q [98,101,103,105,110]) (I 8) .none,en (PP w b1 b2) (q [115,112,101,110,116]) (I 9) .none,en (PP w b1 b2) (q [114,117,110]) (a t 31) (.ref (a x 1)),en (PP w b1 b2) (q [119,111,114,100,115]) (a t 73) (.ref (a x 7)),en (PP w b1 b2) (q [115,116,97,114,116]) (a t 74) (.int 0 (I 4))]⟩ 10,⟨[]⟩⟩),((a x 1),⟨.ref 787,(some x),.plain,⟨[]⟩⟩),(x,⟨.type "dict",none,.dict ⟨[en (PP w b1 b2) (q [112,114,111,103,114,97,109]) (a t 8) (.ref pr),en (PP w b1 b2) (q [116,101,120,116]) (a t 10) (.str (q (tx)) (I 2)),en (PP w b1 b2) (q [98,101,103,105,110]) (a t 12) (.int 0 (I 4)),en (PP w b1 b2) (q [108,101,97,115,116,95,101,110,100]) (a t 14) (.int 0 (I 7)),en (PP w b1 b2) (q [109,111,115,116]) (a t 16) (.int (Int.ofNat stp) tst),en (PP w b1 b2) (q [115,116,101,112,115]) (a t 19) (.int 0 (a t 32)),en (PP w b1 b2) (q [97,116]) (a t 21) (.int 0 (I 4)),en (PP w b1 b2) (q [114,111,119]) (a t 24) (.int 0 (a t 22)),en (PP w b1 b2) (q [103,114,111,117,112,115]) (a t 26) (.ref (a x 3)),en (PP w b1 b2) (q [114,101,103,105,115,116,101,114,115]) (a t 28) (.ref (a x 4)),en (PP w b1 b2) (q [112,105,108,101]) (a t 30) (.ref (a x 5))]⟩ 11,⟨[]⟩⟩),((a x 7),⟨.type "dict",none,.dict ⟨[en (PP w b1 b2) (q [115,105,103,110]) (a t 35) (.ref 812),en (PP w b1 b2) (q [97,110,121]) (a t 37) (.ref 812),en (PP w b1 b2) (q [115,101,116]) (a t 39) (.ref 812),en (PP w b1 b2) (q [114,117,110]) (a t 41) (.ref 826),en (PP w b1 b2) (q [97,116]) (a t 43) (.ref 840),en (PP w b1 b2) (q [98,97,99,107]) (a t 45) (.ref 847),en (PP w b1 b2) (q [111,112,101,110]) (a t 47) (.ref 854),en (PP w b1 b2) (q [99,108,111,115,101]) (a t 49) (.ref 861),en (PP w b1 b2) (q [106,117,109,112]) (a t 51) (.ref 868),en (PP w b1 b2) (q [115,112,108,105,116]) (a t 53) (.ref 875),en (PP w b1 b2) (q [122,101,114,111]) (a t 55) (.ref 882),en (PP w b1 b2) (q [108,111,111,112]) (a t 57) (.ref 889),en (PP w b1 b2) (q [97,103,97,105,110]) (a t 59) (.ref 896),en (PP w b1 b2) (q [109,97,114,107]) (a t 61) (.ref 903),en (PP w b1 b2) (q [99,117,116]) (a t 63) (.ref 908),en (PP w b1 b2) (q [114,101,102,117,115,101]) (a t 65) (.ref 922),en (PP w b1 b2) (q [112,108,97,99,101]) (a t 67) (.ref 929),en (PP w b1 b2) (q [114,101,116,117,114,110]) (a t 69) (.ref 936),en (PP w b1 b2) (q [98,101,104,105,110,100]) (a t 70) (.ref 943)]⟩ 19,⟨[]⟩⟩)]) x 9 t 75 [f,f,f,f,f,(a x 8),(a x 7),(a x 7),(a x 7),(a x 7),(a x 8),(a x 8),(a x 7),(a x 7),(a x 7),(a x 7),(a x 8),(a x 8),(a x 8),(a x 7),(a x 8),(a x 8),(a x 8),(a x 8),(a x 8),(a x 8),(a x 8),(a x 8),(a x 8),(a x 8),(a x 7),(a x 7),(a x 7),(a x 7),(a x 7),(a x 7),(a x 7),(a x 7),(a x 7),(a x 7),(a x 7),(a x 7),(a x 7),(a x 7),(a x 7),(a x 7),(a x 7),(a x 7),(a x 7),(a x 7),(a x 7),(a x 7),(a x 7),(a x 7),(a x 7),(a x 7),(a x 7),(a x 7),(a x 7),(a x 7),(a x 7),(a x 7),(a x 7),(a x 7),(a x 7),(a x 7),(a x 7),(a x 7),(a x 7),(a x 7),(a x 7),(a x 7),(a x 7),(a x 7),(a x 7),(a x 7),(a x 7),(a x 7),(a x 7),(a x 7),(a x 7),(a x 7),(a x 7),(a x 7),(a x 7),(a x 7),(a x 7),(a x 7),(a x 7),(a x 7),(a x 7),(a x 7),(a x 7),(a x 7),(a x 7),(a x 7),(a x 7),(a x 7),x,x,x,(a x 1),(a x 1),(a x 1),(a x 1),(a x 1),f,f,f,f,x,x,x,(a x 1),(a x 1),(a x 1),(a x 1),(a x 1),(a x 2),x,x,x,(a x 1),(a x 1),(a x 1),(a x 1),(a x 1),(a x 2),x,x,x,(a x 1),(a x 1),(a x 1),(a x 1),(a x 1),(a x 2),x,x,x,(a x 1),(a x 1),(a x 1),(a x 1),(a x 1),(a x 2),x,x,x,(a x 1),(a x 1),(a x 1),(a x 1),(a x 1),(a x 2),(a x 2),x,x,x,(a x 1),(a x 1),(a x 1),(a x 1),(a x 1),(a x 2),x,x,x,(a x 1),(a x 1),(a x 1),(a x 1),(a x 1),(a x 2),(a x 2),x,x,x,(a x 1),(a x 1),(a x 1),(a x 1),(a x 1),(a x 2),(a x 2),x,x,x,(a x 1),(a x 1),(a x 1),(a x 1),(a x 1),(a x 2),(a x 2),x,x,x,(a x 1),(a x 1),(a x 1),(a x 1),(a x 1),(a x 2),(a x 2),x,x,x,(a x 1),(a x 1),(a x 1),(a x 1),(a x 1),(a x 2),(a x 2),(a x 2),(a x 2),(a x 2),(a x 2),(a x 2),(a x 2),(a x 2),(a x 2),(a x 2),(a x 2),(a x 2),(a x 2),(a x 1),(a x 1),ld,lm,lm,lm,lm,f,f,f,f,f,f]):=by revert b1 b2;apply bq2<;>kernel_rfl
theorem sp_step (w:World) (x t f rn md pl gr rg pr pd rl gi tg ri tr nm wd lm ld lim tl stp tst tt tz tz2 mo s k0 s2 k r:Nat) (I J M W:Nat→Nat) (v1:Value) (tx:List Nat) (b1 b2:Bool):go (PP w b1 b2) [] 410 100000 (spLoop f) [(f,spF (PP w b1 b2) I pr lm rn wd k tx),(rn,oMR md),(md,dMR (PP w b1 b2) J pr mo s k0 r gr rg pl tx)] x 0 t 0 [0,2,0,0,2,0,2,0,2,0,2,2,2,0,2,2,0,2,2,0,3] (.val (fun t=>.int (Int.ofNat tx.length) (a t 1)) 2 <| .val (fun _=>.bool true) 0 <| .ask [1,2] 99 500 MF (fun _ _=>mffSh (PP w b1 b2) md pr mo s2 k tx) fun p=>.val (fun t=>.int (Int.ofNat (k+1)) t) 1 <| .keep [0,1,2])=(.val (.bi (PySem.W.S.codeS "len") [.str (q (tx)) (I 2)]) (.int (Int.ofNat (tx.length)) (a t 1)) 2 t 1 (.val (.bi (PySem.W.S.codeS "int.__le__") [.int (Int.ofNat k) (I 13),.int (Int.ofNat (tx.length)) (a t 1)]) (.bool true) 0 (a t 2) 1 (.ask (.fn 971 [.ref rn,.ref wd,.int (Int.ofNat k) (I 13)]) [(rn,⟨.ref 787,(some md),.plain,⟨[]⟩⟩),(md,⟨.type "dict",none,.dict ⟨[en (PP w b1 b2) (q [112,114,111,103,114,97,109]) (J 0) (.ref pr),en (PP w b1 b2) (q [116,101,120,116]) (J 1) (.str (q (tx)) (J 2)),en (PP w b1 b2) (q [98,101,103,105,110]) (J 3) (.int 0 (J 4)),en (PP w b1 b2) (q [108,101,97,115,116,95,101,110,100]) (J 5) (.int 0 (J 6)),en (PP w b1 b2) (q [109,111,115,116]) (J 7) (.int (Int.ofNat mo) (J 8)),en (PP w b1 b2) (q [115,116,101,112,115]) (J 9) (.int (Int.ofNat s) (J 10)),en (PP w b1 b2) (q [97,116]) (J 11) (.int (Int.ofNat k0) (J 12)),en (PP w b1 b2) (q [114,111,119]) (J 13) (.int (Int.ofNat r) (J 14)),en (PP w b1 b2) (q [103,114,111,117,112,115]) (J 15) (.ref gr),en (PP w b1 b2) (q [114,101,103,105,115,116,101,114,115]) (J 16) (.ref rg),en (PP w b1 b2) (q [112,105,108,101]) (J 17) (.ref pl)]⟩ 11,⟨[]⟩⟩)] [] x 0 t 2 1 500 (MF) ((fun x x_1=>mffSh (PP w b1 b2) md pr mo s2 k tx) (Nat.add x 0) (Nat.add t 2)) (fun p1=>(.val (.bi (PySem.W.S.codeS "int.__add__") [.int (Int.ofNat k) (I 13),.int 1 (p1.8)]) (.int (Int.ofNat (a k 1)) (a (p1.8) 1)) 1 (a (p1.8) 1) 1 (ag (spLoop f) [(f,⟨.type "frame",none,.dict ⟨[en (PP w b1 b2) (q [112,114,111,103,114,97,109]) (I 0) (.ref pr),en (PP w b1 b2) (q [116,101,120,116]) (I 1) (.str (q (tx)) (I 2)),en (PP w b1 b2) (q [97,116]) (I 3) (.int 0 (I 4)),en (PP w b1 b2) (q [108,105,109,105,116,115]) (I 5) (.ref lm),en (PP w b1 b2) (q [108,101,97,115,116,95,101,110,100]) (I 6) (.int 0 (I 7)),en (PP w b1 b2) (q [98,101,103,105,110]) (I 8) .none,en (PP w b1 b2) (q [115,112,101,110,116]) (I 9) .none,en (PP w b1 b2) (q [114,117,110]) (I 10) (.ref rn),en (PP w b1 b2) (q [119,111,114,100,115]) (I 11) (.ref wd),en (PP w b1 b2) (q [115,116,97,114,116]) (I 12) (.int (Int.ofNat (a k 1)) (a (p1.8) 1))]⟩ 10,⟨[]⟩⟩),(rn,⟨.ref 787,(some md),.plain,⟨[]⟩⟩),(md,⟨.type "dict",none,.dict ⟨[en (PP w b1 b2) (q [112,114,111,103,114,97,109]) (p1.1 0) (.ref pr),en (PP w b1 b2) (q [116,101,120,116]) (p1.1 1) (.str (q (tx)) (p1.1 2)),en (PP w b1 b2) (q [98,101,103,105,110]) (p1.1 3) (.int 0 (p1.1 4)),en (PP w b1 b2) (q [108,101,97,115,116,95,101,110,100]) (p1.1 5) (.int 0 (p1.1 6)),en (PP w b1 b2) (q [109,111,115,116]) (p1.1 7) (.int (Int.ofNat mo) (p1.1 8)),en (PP w b1 b2) (q [115,116,101,112,115]) (p1.1 9) (.int (Int.ofNat s2) (p1.1 10)),en (PP w b1 b2) (q [97,116]) (p1.1 11) (.int (Int.ofNat k) (p1.1 12)),en (PP w b1 b2) (q [114,111,119]) (p1.1 13) (.int 0 (p1.1 14)),en (PP w b1 b2) (q [103,114,111,117,112,115]) (p1.1 15) (.ref (p1.2)),en (PP w b1 b2) (q [114,101,103,105,115,116,101,114,115]) (p1.1 16) (.ref (p1.3)),en (PP w b1 b2) (q [112,105,108,101]) (p1.1 17) (.ref (p1.4))]⟩ 11,⟨[]⟩⟩)] (p1.7) 0 (p1.8) 3 [f,f,f,f,f,f,f,f])))))):=by revert b1 b2;apply bq2<;>kernel_rfl
theorem sp_hit (w:World) (x t f rn md pl gr rg pr pd rl gi tg ri tr nm wd lm ld lim tl stp tst tt tz tz2 mo s k0 s2 k r:Nat) (I J M W:Nat→Nat) (v1:Value) (tx:List Nat) (b1 b2:Bool):go (PP w b1 b2) [] 410 100000 (spLoop f) [(f,spF (PP w b1 b2) I pr lm rn wd k tx),(rn,oMR md),(md,dMR (PP w b1 b2) J pr mo s k0 r gr rg pl tx)] x 0 t 0 [0,2,0,0,2,0,2,0,2,0,2,2,2,0,2] (.val (fun t=>.int (Int.ofNat tx.length) (a t 1)) 2 <| .val (fun _=>.bool true) 0 <| .ask [1,2] 99 500 MF (fun _ _=>mfhSh (PP w b1 b2) md pr mo s2 k gi (I 13) tx) fun p=>.keepT [0,1,2] 3)=(.val (.bi (PySem.W.S.codeS "len") [.str (q (tx)) (I 2)]) (.int (Int.ofNat (tx.length)) (a t 1)) 2 t 1 (.val (.bi (PySem.W.S.codeS "int.__le__") [.int (Int.ofNat k) (I 13),.int (Int.ofNat (tx.length)) (a t 1)]) (.bool true) 0 (a t 2) 1 (.ask (.fn 971 [.ref rn,.ref wd,.int (Int.ofNat k) (I 13)]) [(rn,⟨.ref 787,(some md),.plain,⟨[]⟩⟩),(md,⟨.type "dict",none,.dict ⟨[en (PP w b1 b2) (q [112,114,111,103,114,97,109]) (J 0) (.ref pr),en (PP w b1 b2) (q [116,101,120,116]) (J 1) (.str (q (tx)) (J 2)),en (PP w b1 b2) (q [98,101,103,105,110]) (J 3) (.int 0 (J 4)),en (PP w b1 b2) (q [108,101,97,115,116,95,101,110,100]) (J 5) (.int 0 (J 6)),en (PP w b1 b2) (q [109,111,115,116]) (J 7) (.int (Int.ofNat mo) (J 8)),en (PP w b1 b2) (q [115,116,101,112,115]) (J 9) (.int (Int.ofNat s) (J 10)),en (PP w b1 b2) (q [97,116]) (J 11) (.int (Int.ofNat k0) (J 12)),en (PP w b1 b2) (q [114,111,119]) (J 13) (.int (Int.ofNat r) (J 14)),en (PP w b1 b2) (q [103,114,111,117,112,115]) (J 15) (.ref gr),en (PP w b1 b2) (q [114,101,103,105,115,116,101,114,115]) (J 16) (.ref rg),en (PP w b1 b2) (q [112,105,108,101]) (J 17) (.ref pl)]⟩ 11,⟨[]⟩⟩)] [] x 0 t 2 1 500 (MF) ((fun x x_1=>mfhSh (PP w b1 b2) md pr mo s2 k gi (I 13) tx) (Nat.add x 0) (Nat.add t 2)) (fun p1=>(dn (.ok .next) ([(f,⟨.type "frame",none,.dict ⟨[en (PP w b1 b2) (q [112,114,111,103,114,97,109]) (I 0) (.ref pr),en (PP w b1 b2) (q [116,101,120,116]) (I 1) (.str (q (tx)) (I 2)),en (PP w b1 b2) (q [97,116]) (I 3) (.int 0 (I 4)),en (PP w b1 b2) (q [108,105,109,105,116,115]) (I 5) (.ref lm),en (PP w b1 b2) (q [108,101,97,115,116,95,101,110,100]) (I 6) (.int 0 (I 7)),en (PP w b1 b2) (q [98,101,103,105,110]) (I 8) .none,en (PP w b1 b2) (q [115,112,101,110,116]) (I 9) .none,en (PP w b1 b2) (q [114,117,110]) (I 10) (.ref rn),en (PP w b1 b2) (q [119,111,114,100,115]) (I 11) (.ref wd),en (PP w b1 b2) (q [115,116,97,114,116]) (I 12) (.int (Int.ofNat k) (I 13))]⟩ 10,⟨[]⟩⟩),(rn,⟨.ref 787,(some md),.plain,⟨[]⟩⟩),(md,⟨.type "dict",none,.dict ⟨[en (PP w b1 b2) (q [112,114,111,103,114,97,109]) (p1.1 0) (.ref pr),en (PP w b1 b2) (q [116,101,120,116]) (p1.1 1) (.str (q (tx)) (p1.1 2)),en (PP w b1 b2) (q [98,101,103,105,110]) (p1.1 3) (.int 0 (p1.1 4)),en (PP w b1 b2) (q [108,101,97,115,116,95,101,110,100]) (p1.1 5) (.int 0 (p1.1 6)),en (PP w b1 b2) (q [109,111,115,116]) (p1.1 7) (.int (Int.ofNat mo) (p1.1 8)),en (PP w b1 b2) (q [115,116,101,112,115]) (p1.1 9) (.int (Int.ofNat s2) (p1.1 10)),en (PP w b1 b2) (q [97,116]) (p1.1 11) (.int (Int.ofNat (a k 1)) (p1.1 12)),en (PP w b1 b2) (q [114,111,119]) (p1.1 13) (.int 1 (p1.1 14)),en (PP w b1 b2) (q [103,114,111,117,112,115]) (p1.1 15) (.ref (p1.2)),en (PP w b1 b2) (q [114,101,103,105,115,116,101,114,115]) (p1.1 16) (.ref (p1.3)),en (PP w b1 b2) (q [112,105,108,101]) (p1.1 17) (.ref (p1.4))]⟩ 11,⟨[]⟩⟩)]++(mfhSh (PP w b1 b2) md pr mo s2 k gi (I 13) tx p1).tail) (p1.7) 0 (p1.8) 0 [f,f,f,f,f]))))):=by revert b1 b2;apply bq2<;>kernel_rfl
theorem sp_end (w:World) (x t f rn md pl gr rg pr pd rl gi tg ri tr nm wd lm ld lim tl stp tst tt tz tz2 mo s k0 k r:Nat) (I J M W:Nat→Nat) (v1:Value) (tx:List Nat) (b1 b2:Bool):goT (PP w b1 b2) [] 410 100000 (.func spB (spEnv f)) (exT [sAt 5 spB,sAt 6 spB] (spEnv f)) [(f,spF (PP w b1 b2) I pr lm rn wd k tx),(rn,oMR md),(md,dMR (PP w b1 b2) J pr mo s k0 r gr rg pl tx)] x 0 t 0 [2,2,0,0,2,0,2,0,2,2,3,0,0,0,0,3,0,0,0,3,3,0,4] (.val (fun t=>.int (Int.ofNat tx.length) (a t 1)) 2 <| .val (fun _=>.bool true) 0 <| .keep [0,1,2])=(.val (.bi (PySem.W.S.codeS "len") [.str (q (tx)) (I 2)]) (.int (Int.ofNat (tx.length)) (a t 1)) 2 t 1 (.val (.bi (PySem.W.S.codeS "int.__le__") [.int (Int.ofNat k) (I 13),.int (Int.ofNat (tx.length)) (a t 1)]) (.bool true) 0 (a t 2) 1 (dn (.ok (.ret (.ref gr))) ([(f,⟨.type "frame",none,.dict ⟨[en (PP w b1 b2) (q [112,114,111,103,114,97,109]) (I 0) (.ref pr),en (PP w b1 b2) (q [116,101,120,116]) (I 1) (.str (q (tx)) (I 2)),en (PP w b1 b2) (q [97,116]) (I 3) (.int 0 (I 4)),en (PP w b1 b2) (q [108,105,109,105,116,115]) (I 5) (.ref lm),en (PP w b1 b2) (q [108,101,97,115,116,95,101,110,100]) (I 6) (.int 0 (I 7)),en (PP w b1 b2) (q [98,101,103,105,110]) (I 8) .none,en (PP w b1 b2) (q [115,112,101,110,116]) (I 9) .none,en (PP w b1 b2) (q [114,117,110]) (I 10) (.ref rn),en (PP w b1 b2) (q [119,111,114,100,115]) (I 11) (.ref wd),en (PP w b1 b2) (q [115,116,97,114,116]) (I 12) (.int (Int.ofNat k) (I 13))]⟩ 10,⟨[]⟩⟩),(rn,⟨.ref 787,(some md),.plain,⟨[]⟩⟩),(md,⟨.type "dict",none,.dict ⟨[en (PP w b1 b2) (q [112,114,111,103,114,97,109]) (J 0) (.ref pr),en (PP w b1 b2) (q [116,101,120,116]) (J 1) (.str (q (tx)) (J 2)),en (PP w b1 b2) (q [98,101,103,105,110]) (J 3) (.int 0 (J 4)),en (PP w b1 b2) (q [108,101,97,115,116,95,101,110,100]) (J 5) (.int 0 (J 6)),en (PP w b1 b2) (q [109,111,115,116]) (J 7) (.int (Int.ofNat mo) (J 8)),en (PP w b1 b2) (q [115,116,101,112,115]) (J 9) (.int (Int.ofNat s) (J 10)),en (PP w b1 b2) (q [97,116]) (J 11) (.int (Int.ofNat k0) (J 12)),en (PP w b1 b2) (q [114,111,119]) (J 13) (.int (Int.ofNat r) (J 14)),en (PP w b1 b2) (q [103,114,111,117,112,115]) (J 15) (.ref gr),en (PP w b1 b2) (q [114,101,103,105,115,116,101,114,115]) (J 16) (.ref rg),en (PP w b1 b2) (q [112,105,108,101]) (J 17) (.ref pl)]⟩ 11,⟨[]⟩⟩)]) x 0 t 3 [md,rn,rn,rn,rn,f,f,f,f]))):=by revert b1 b2;apply bq2<;>kernel_rfl
theorem sp_long (w:World) (x t f rn md pl gr rg pr pd rl gi tg ri tr nm wd lm mo s k0 k r f2 f3:Nat) (I J:Nat→Nat) (o2 o3:Obj) (tx:List Nat) (b1 b2:Bool):goT (PP w b1 b2) [] 410 100000 (spLoop f) (isT (testE spW) (spEnv f)) [(f,spF (PP w b1 b2) I pr lm rn wd k tx),(rn,oMR md),(md,dMR (PP w b1 b2) J pr mo s k0 r gr rg pl tx),(f2,o2),(f3,o3)] x 0 t 0 [2,0,0,2,0,2,0,2,0,2,2,2,0,2] (.val (fun t=>.int (Int.ofNat tx.length) (a t 1)) 2 <| .val (fun _=>.bool true) 0 <| .askF [] [1,2,0,3,4] 99 500 ML (fun _ _=>mlSh (PP w b1 b2) md pr mo tx [(f,spF (PP w b1 b2) I pr lm rn wd k tx),(f2,o2),(f3,o3)]) fun p=>.keep [0,1,2,3,4,5,6,7])=(.val (.bi (PySem.W.S.codeS "len") [.str (q (tx)) (I 2)]) (.int (Int.ofNat (tx.length)) (a t 1)) 2 t 1 (.val (.bi (PySem.W.S.codeS "int.__le__") [.int (Int.ofNat k) (I 13),.int (Int.ofNat (tx.length)) (a t 1)]) (.bool true) 0 (a t 2) 1 (.askF (.fn 971 [.ref rn,.ref wd,.int (Int.ofNat k) (I 13)]) ([]) [(rn,⟨.ref 787,(some md),.plain,⟨[]⟩⟩),(md,⟨.type "dict",none,.dict ⟨[en (PP w b1 b2) (q [112,114,111,103,114,97,109]) (J 0) (.ref pr),en (PP w b1 b2) (q [116,101,120,116]) (J 1) (.str (q (tx)) (J 2)),en (PP w b1 b2) (q [98,101,103,105,110]) (J 3) (.int 0 (J 4)),en (PP w b1 b2) (q [108,101,97,115,116,95,101,110,100]) (J 5) (.int 0 (J 6)),en (PP w b1 b2) (q [109,111,115,116]) (J 7) (.int (Int.ofNat mo) (J 8)),en (PP w b1 b2) (q [115,116,101,112,115]) (J 9) (.int (Int.ofNat s) (J 10)),en (PP w b1 b2) (q [97,116]) (J 11) (.int (Int.ofNat k0) (J 12)),en (PP w b1 b2) (q [114,111,119]) (J 13) (.int (Int.ofNat r) (J 14)),en (PP w b1 b2) (q [103,114,111,117,112,115]) (J 15) (.ref gr),en (PP w b1 b2) (q [114,101,103,105,115,116,101,114,115]) (J 16) (.ref rg),en (PP w b1 b2) (q [112,105,108,101]) (J 17) (.ref pl)]⟩ 11,⟨[]⟩⟩),(f,⟨.type "frame",none,.dict ⟨[en (PP w b1 b2) (q [112,114,111,103,114,97,109]) (I 0) (.ref pr),en (PP w b1 b2) (q [116,101,120,116]) (I 1) (.str (q (tx)) (I 2)),en (PP w b1 b2) (q [97,116]) (I 3) (.int 0 (I 4)),en (PP w b1 b2) (q [108,105,109,105,116,115]) (I 5) (.ref lm),en (PP w b1 b2) (q [108,101,97,115,116,95,101,110,100]) (I 6) (.int 0 (I 7)),en (PP w b1 b2) (q [98,101,103,105,110]) (I 8) .none,en (PP w b1 b2) (q [115,112,101,110,116]) (I 9) .none,en (PP w b1 b2) (q [114,117,110]) (I 10) (.ref rn),en (PP w b1 b2) (q [119,111,114,100,115]) (I 11) (.ref wd),en (PP w b1 b2) (q [115,116,97,114,116]) (I 12) (.int (Int.ofNat k) (I 13))]⟩ 10,⟨[]⟩⟩),(f2,(o2)),(f3,(o3))] [] x 0 t 2 1 500 (ML) ((fun x x_1=>mlSh (PP w b1 b2) md pr mo tx [(f,spF (PP w b1 b2) I pr lm rn wd k tx),(f2,o2),(f3,o3)]) (Nat.add x 0) (Nat.add t 2)) (fun p1=>(dn (.error (.ref (p1.9))) ([((p1.8),⟨.type "traceback",none,.fields ⟨((p1.13)::(.ref (p1.12))::.none::.none::.none::p1.14)⟩,⟨[]⟩⟩),((p1.9),⟨.ref 111,(some (p1.10)),.fields ⟨[.ref (p1.11),.ref (p1.8),.none,.none,.bool false,.none]⟩,⟨[]⟩⟩),((p1.10),⟨.type "dict",none,.dict ⟨[en (PP w b1 b2) (q [116,101,120,116]) (p1.15 0) (.str (q [116,111,111,32,109,97,110,121,32,115,116,101,112,115]) (p1.15 1)),en (PP w b1 b2) (q [115,116,101,112,115]) (p1.15 2) (.int (Int.ofNat mo) (p1.15 3))]⟩ 2,⟨[]⟩⟩),(f,⟨.type "frame",none,.dict ⟨[en (PP w b1 b2) (q [112,114,111,103,114,97,109]) (I 0) (.ref pr),en (PP w b1 b2) (q [116,101,120,116]) (I 1) (.str (q (tx)) (I 2)),en (PP w b1 b2) (q [97,116]) (I 3) (.int 0 (I 4)),en (PP w b1 b2) (q [108,105,109,105,116,115]) (I 5) (.ref lm),en (PP w b1 b2) (q [108,101,97,115,116,95,101,110,100]) (I 6) (.int 0 (I 7)),en (PP w b1 b2) (q [98,101,103,105,110]) (I 8) .none,en (PP w b1 b2) (q [115,112,101,110,116]) (I 9) .none,en (PP w b1 b2) (q [114,117,110]) (I 10) (.ref rn),en (PP w b1 b2) (q [119,111,114,100,115]) (I 11) (.ref wd),en (PP w b1 b2) (q [115,116,97,114,116]) (I 12) (.int (Int.ofNat k) (I 13))]⟩ 10,(p1.7 (f,spF (PP w b1 b2) I pr lm rn wd k tx).fst)⟩),(rn,⟨.ref 787,(some md),.plain,⟨[]⟩⟩),(md,⟨.type "dict",none,.dict ⟨[en (PP w b1 b2) (q [112,114,111,103,114,97,109]) (p1.1 0) (.ref pr),en (PP w b1 b2) (q [116,101,120,116]) (p1.1 1) (.str (q (tx)) (p1.1 2)),en (PP w b1 b2) (q [98,101,103,105,110]) (p1.1 3) (.int 0 (p1.1 4)),en (PP w b1 b2) (q [108,101,97,115,116,95,101,110,100]) (p1.1 5) (.int 0 (p1.1 6)),en (PP w b1 b2) (q [109,111,115,116]) (p1.1 7) (.int (Int.ofNat mo) (p1.1 8)),en (PP w b1 b2) (q [115,116,101,112,115]) (p1.1 9) (.int (Int.ofNat (p1.2)) (p1.1 10)),en (PP w b1 b2) (q [97,116]) (p1.1 11) (.int (Int.ofNat (p1.3)) (p1.1 12)),en (PP w b1 b2) (q [114,111,119]) (p1.1 13) (.int 1 (p1.1 14)),en (PP w b1 b2) (q [103,114,111,117,112,115]) (p1.1 15) (.ref (p1.4)),en (PP w b1 b2) (q [114,101,103,105,115,116,101,114,115]) (p1.1 16) (.ref (p1.5)),en (PP w b1 b2) (q [112,105,108,101]) (p1.1 17) (.ref (p1.6))]⟩ 11,⟨[]⟩⟩),(f2,⟨o2.1,o2.2,o2.3,p1.7 f2⟩),(f3,⟨o3.1,o3.2,o3.3,p1.7 f3⟩)]) (p1.16) 0 (p1.17) 0 [f,f,f,f,f]))))):=by revert b1 b2;apply bq2<;>kernel_rfl
theorem spB_eq:spB=List.take 4 spB++[.While (testE spW) (whB spW) [] (whPos spW),sAt 5 spB,sAt 6 spB]:=by kernel_rfl
theorem spLoop_eq (f:Nat):spLoop f=.whileLoop (testE spW) (whB spW) [] (spEnv f):=by kernel_rfl
theorem sp_kind (f:Nat):(spEnv f).scope.kind≠.module:=by
 have e:(spEnv f).scope.kind=.function:=by kernel_rfl
 rw [e]
 exact fun h=>nomatch h
theorem v_le_t {w:World} {G:Heap→Prop} {t D n k:Nat} {u v:Tok} (h:n≤k):ValOK pw_qz0137_01 w G (.bi (PySem.W.S.codeS "int.__le__") [.int (Int.ofNat n) u,.int (Int.ofNat k) v]) (.bool true) 0 t D:=by
 have z:=v_le (w:=w) (G:=G) (t:=t) (D:=D) (Int.ofNat n) (Int.ofNat k) u v
 rw [decide_eq_true (by have a:Int.ofNat n=(n:Int):=rfl;have b:Int.ofNat k=(k:Int):=rfl;omega)] at z
 exact z
end
noncomputable section
theorem ne_MF:Nonempty MF:=⟨⟨fun _=>0,0,0,0,0,0,0,0⟩⟩
theorem ne_ML:Nonempty ML:=⟨⟨fun _=>0,0,0,0,0,0,fun _=>⟨[]⟩,0,0,0,0,0,.none,[],fun _=>0,0,0⟩⟩
theorem sp_weight {f:Nat}:(spLoop f).weight≤5:=by rw [spLoop_eq];exact weight_le rfl
section
variable {w:World} {L1:Led} {I J M K:Nat→Nat} {f rn md pl gr rg pr pd rl er r0 r1 e0 e1 e2 gi tg ri tr nm wd lm mo s k0 r k n t:Nat} {tx:List Nat} {g h:Heap} {A:Around} {R:Result→Shared→Prop} {gs:Array GenState} {d:Drawn} {os:OsState}
theorem sp_fail {S:Led} (hL:∀ q∈mkL w.params M K pr pd rl er r0 r1 e0 e1 e2 gi tg ri tr nm wd,q∈L1) (hx:tx[k]?=some 98) (hsz:tx.length≤1000) (hgi:gi≤1000) (hri:ri≤1000) (hs:s≤1000000) (hfit:s+(gi+ri) / 20+1≤mo) (low:Low 410 A) (hg:GL w L1 [] g)
  (rep:Rep g ((f,spF w.params I pr lm rn wd k tx)::(rn,oMR md)::(md,dMR w.params J pr mo s k0 r gr rg pl tx)::S) n h)
  (KK:∀ I' J' gr' rg' pl' h' n' t',Rep g ((f,spF w.params I' pr lm rn wd (k+1) tx)::(rn,oMR md)::(md,dMR w.params J' pr mo (s+(gi+ri) / 20+1) k 0 gr' rg' pl' tx)::S) n' h'→codeAny (MW w) A (spLoop f) R ⟨h',gs,d,t',os⟩):
  codeAny (MW w) A (spLoop f) R ⟨h,gs,d,t,os⟩:=by
 have hz:sizeLine=16777216:=rfl
 have hk:k < tx.length:=(List.getElem?_eq_some_iff.mp hx).1
 have e:=sp_step w n t f rn md pl gr rg pr 0 0 0 0 0 0 0 wd lm 0 0 0 0 0 0 0 0 mo s k0 (s+(gi+ri) / 20+1) k r I J M M .none tx (w.params.followText "special-get-raises") (w.params.followText "comprehension-iter-twice")
 rw [← PP_self w] at e
 have sl:Sel _ [0,1,2] _:=sel_spec (L:=(f,spF w.params I pr lm rn wd k tx)::(rn,oMR md)::(md,dMR w.params J pr mo s k0 r gr rg pl tx)::S) (l:=[(f,spF w.params I pr lm rn wd k tx),(rn,oMR md),(md,dMR w.params J pr mo s k0 r gr rg pl tx)]) rfl
 refine run_call (x:=n) (m:=0) (t:=t) (i:=0) e (GL_ok (L0:=L1) (xs:=[]) (fun _ hq=>nomatch hq)) (GL_mono _ _ (sub_hide rep sl.sub) hg) low (rep.hide sl) ?_
 refine ⟨v_len rfl (by omega),v_le_t (by omega),⟨ne_MF,nble rfl,fun _=>rfl,mf_fail hL hx hsz hgi hri hs hfit,fun p=>⟨v_addn,rfl,fun h' rep'=>?_⟩⟩⟩
 have rep':=rep.back (sh:=⟨.ok .next,[spF w.params (upI I [(13,a p.t 1)]) pr lm rn wd (k+1) tx,oMR md,dMR w.params p.J pr mo (s+(gi+ri) / 20+1) k 0 p.gr p.rg p.pl tx],[],0,0,0,0,[]⟩) sl rfl (n':=Nat.add p.x 0) (h':=h') rep'
 rw [List.append_nil] at rep'
 exact KK _ _ _ _ _ h' _ _ rep'
theorem sp_loop {S:Led} {ahead:Nat} (hL:∀ q∈mkL w.params M K pr pd rl er r0 r1 e0 e1 e2 gi tg ri tr nm wd,q∈L1) (htx:tx=List.replicate ahead 98++[97]) (hah:ahead≤100) (hgi:gi≤1000) (hri:ri≤1000) (hfit:ahead * ((gi+ri) / 20+1)+((gi+ri) / 20+2)≤mo) (low:Low 410 A) (hg:GL w L1 [] g)
  (KK:∀ I' J' gr' rg' pl' tp t0 t1 h' n' t',Rep g ((f,spF w.params I' pr lm rn wd ahead tx)::(rn,oMR md)::(md,dMR w.params J' pr mo (ahead * ((gi+ri) / 20+1)+((gi+ri) / 20+2)) (ahead+1) 1 gr' rg' pl' tx)::(gr',oLst (.ref tp::List.replicate gi .none) 0)::(tp,oTup [.int (Int.ofNat ahead) t0,.int (Int.ofNat (ahead+1)) t1])::S) n' h'→R (.ok .next) ⟨h',gs,d,t',os⟩):
  ∀ (j k k0 r:Nat) (I J:Nat→Nat) (gr rg pl n t:Nat) (h:Heap),k+j=ahead→Rep g ((f,spF w.params I pr lm rn wd k tx)::(rn,oMR md)::(md,dMR w.params J pr mo (k * ((gi+ri) / 20+1)) k0 r gr rg pl tx)::S) n h→codeAny (MW w) A (spLoop f) R ⟨h,gs,d,t,os⟩:=by
 have hz:sizeLine=16777216:=rfl
 have hsz:tx.length≤1000:=by rw [htx,List.length_append,List.length_replicate,List.length_singleton];omega
 have hm:(gi+ri) / 20≤100:=by omega
 intro j
 induction j with
 | zero=>
  intro k k0 r I J gr rg pl n t h hkj rep
  obtain rfl:k=ahead:=by omega
  have hx:tx[k]?=some 97:=by rw [htx];simp
  have hk:k < tx.length:=(List.getElem?_eq_some_iff.mp hx).1
  have hs:k * ((gi+ri) / 20+1)≤1000000:=by
   have hb:k * ((gi+ri) / 20+1)≤100 * 101:=Nat.mul_le_mul hah (by omega)
   omega
  have e:=sp_hit w n t f rn md pl gr rg pr 0 0 gi 0 0 0 0 wd lm 0 0 0 0 0 0 0 0 mo (k * ((gi+ri) / 20+1)) k0 (k * ((gi+ri) / 20+1)+(gi+ri) / 20+2) k r I J M M .none tx (w.params.followText "special-get-raises") (w.params.followText "comprehension-iter-twice")
  rw [← PP_self w] at e
  have sl:Sel _ [0,1,2] _:=sel_spec (L:=(f,spF w.params I pr lm rn wd k tx)::(rn,oMR md)::(md,dMR w.params J pr mo (k * ((gi+ri) / 20+1)) k0 r gr rg pl tx)::S) (l:=[(f,spF w.params I pr lm rn wd k tx),(rn,oMR md),(md,dMR w.params J pr mo (k * ((gi+ri) / 20+1)) k0 r gr rg pl tx)]) rfl
  refine run_call (x:=n) (m:=0) (t:=t) (i:=0) e (GL_ok (L0:=L1) (xs:=[]) (fun _ hq=>nomatch hq)) (GL_mono _ _ (sub_hide rep sl.sub) hg) low (rep.hide sl) ?_
  refine ⟨v_len rfl (by omega),v_le_t (by omega),⟨ne_MF,nble rfl,fun _=>rfl,mf_hit hL hx hsz hgi hri hs (by omega),fun p=>⟨rfl,fun h' rep'=>?_⟩⟩⟩
  have rep':=rep.back (sh:=⟨.ok .next,[spF w.params I pr lm rn wd k tx,oMR md,dMR w.params p.J pr mo (k * ((gi+ri) / 20+1)+(gi+ri) / 20+2) (k+1) 1 p.gr p.rg p.pl tx],[],0,0,0,0,[(p.gr,oLst (.ref p.tp::List.replicate gi .none) 0),(p.tp,oTup [.int (Int.ofNat k) (I 13),.int (Int.ofNat (k+1)) p.t1])]⟩) sl rfl (n':=Nat.add p.x 0) (h':=h') rep'
  refine KK I p.J p.gr p.rg p.pl p.tp (I 13) p.t1 h' _ _ (rep'.perm ?_)
  show ((f,spF w.params I pr lm rn wd k tx)::(rn,oMR md)::(md,dMR w.params p.J pr mo (k * ((gi+ri) / 20+1)+(gi+ri) / 20+2) (k+1) 1 p.gr p.rg p.pl tx)::(S++[(p.gr,oLst (.ref p.tp::List.replicate gi .none) 0),(p.tp,oTup [.int (Int.ofNat k) (I 13),.int (Int.ofNat (k+1)) p.t1])])).Perm _
  exact .cons _ (.cons _ (.cons _ (List.perm_append_comm (l₁:=S) (l₂:=[(p.gr,oLst (.ref p.tp::List.replicate gi .none) 0),(p.tp,oTup [.int (Int.ofNat k) (I 13),.int (Int.ofNat (k+1)) p.t1])]))))
 | succ j ih=>
  intro k k0 r I J gr rg pl n t h hkj rep
  have hlt:k < ahead:=by omega
  have hx:tx[k]?=some 98:=by rw [htx,List.getElem?_append_left (by rw [List.length_replicate];exact hlt),List.getElem?_replicate,if_pos hlt]
  have hmul:(k+1) * ((gi+ri) / 20+1)≤ahead * ((gi+ri) / 20+1):=Nat.mul_le_mul_right _ hlt
  have hsucc:(k+1) * ((gi+ri) / 20+1)=k * ((gi+ri) / 20+1)+(gi+ri) / 20+1:=by rw [Nat.succ_mul];omega
  have hb:ahead * ((gi+ri) / 20+1)≤100 * 101:=Nat.mul_le_mul hah (by omega)
  refine sp_fail hL hx hsz hgi hri (by omega) (by omega) low hg rep fun I' J' gr' rg' pl' h' n' t' rep'=>?_
  exact ih (k+1) k 0 I' J' gr' rg' pl' n' t' h' (by omega) (by rw [hsucc];exact rep')
end
end
noncomputable section
def wS (o:Obj) (s:Array (Option Value)):Obj:={ o with slots:=s }
section
variable {w:World} {L1:Led} {I J M K:Nat→Nat} {f rn md pl gr rg pr pd rl er r0 r1 e0 e1 e2 gi tg ri tr nm wd lm mo s k0 r k n t f2 f3:Nat} {o2 o3:Obj} {tx:List Nat} {g h:Heap} {A:Around} {R:Result→Shared→Prop} {gs:Array GenState} {d:Drawn} {os:OsState} {outer:List Env}
theorem sp_loopR {ahead:Nat} (hF:FrOK outer [(f2,o2),(f3,o3)]) (hL:∀ q∈mkL w.params M K pr pd rl er r0 r1 e0 e1 e2 gi tg ri tr nm wd,q∈L1) (htx:tx=List.replicate ahead 98++[97]) (hah:ahead≤100) (hgi:gi≤1000) (hri:ri≤1000)
  (hfit:ahead * ((gi+ri) / 20+1)+((gi+ri) / 20+1)=mo) (low:Low 410 A) (hfr:A.frames=some (spEnv f::outer)) (hg:GL w L1 [] g)
  (KK:∀ (T e dd ta:Nat) (hd:Value) (pls:List Value) (Z:Nat→Nat) (s2 s3:Array (Option Value)) h' n' t',Rep g [(T,oTb hd f (rawInt f) pls),(e,oXe dd (.ref T) ta),(dd,dXe w.params Z mo),(f2,wS o2 s2),(f3,wS o3 s3)] n' h'→R (.error (.ref e)) ⟨h',gs,d,t',os⟩):
  ∀ (j k k0 r:Nat) (I J:Nat→Nat) (gr rg pl n t:Nat) (h:Heap),k+j=ahead→Rep g ((f,spF w.params I pr lm rn wd k tx)::(rn,oMR md)::(md,dMR w.params J pr mo (k * ((gi+ri) / 20+1)) k0 r gr rg pl tx)::[(f2,o2),(f3,o3)]) n h→codeAny (MW w) A (spLoop f) R ⟨h,gs,d,t,os⟩:=by
 have hz:sizeLine=16777216:=rfl
 have hsz:tx.length≤1000:=by rw [htx,List.length_append,List.length_replicate,List.length_singleton];omega
 have hm:(gi+ri) / 20≤100:=by omega
 intro j
 induction j with
 | zero=>
  intro k k0 r I J gr rg pl n t h hkj rep
  obtain rfl:k=ahead:=by omega
  have hx:tx[k]?=some 97:=by rw [htx];simp
  have hk:k < tx.length:=(List.getElem?_eq_some_iff.mp hx).1
  have hs:k * ((gi+ri) / 20+1)≤1000000:=by
   have hb:k * ((gi+ri) / 20+1)≤100 * 101:=Nat.mul_le_mul hah (by omega)
   omega
  refine own_while_raise (spLoop_eq f) ?_
  have e:=sp_long w n t f rn md pl gr rg pr 0 0 0 0 0 0 0 wd lm mo (k * ((gi+ri) / 20+1)) k0 k r f2 f3 I J o2 o3 tx (w.params.followText "special-get-raises") (w.params.followText "comprehension-iter-twice")
  rw [← PP_self w] at e
  have hF1:FrOK (spEnv f::outer) [(f,spF w.params I pr lm rn wd k tx),(f2,o2),(f3,o3)]:=⟨sp_kind f,rfl,(fun vs q=>by unfold spF at q;cases q),hF⟩
  have hfr0:A.frames.map ([]++·)=some (spEnv f::outer):=by rw [hfr];rfl
  refine piece_testRaise (x:=n) (m:=0) (t:=t) (i:=0) (GL_ok (L0:=L1) (xs:=[]) (kl:=[]) (fun _ hq=>nomatch hq)) hg low sp_weight rep e ?_
  refine ⟨v_len rfl (by omega),v_le_t (by omega),⟨ne_ML,nble rfl,fun _=>rfl,hfr0 ▸ mf_long hF1 hL hx hsz hgi hri hs (by omega) (by omega),fun p=>⟨rfl,fun h' rep'=>?_⟩⟩⟩
  have rep1:Rep g [(p.T,oTb p.hd p.f .none p.pls),(p.e,oXe p.dd (.ref p.T) p.ta),(p.dd,dXe w.params p.Z mo),(f,wS (spF w.params I pr lm rn wd k tx) (p.σ f)),(rn,oMR md),(md,dMR w.params p.J pr mo p.s p.k 1 p.gr p.rg p.pl tx),(f2,wS o2 (p.σ f2)),(f3,wS o3 (p.σ f3))] (Nat.add p.x 0) h':=rep'
  have rep2:Rep g ((p.T,oTb p.hd p.f .none p.pls)::(p.e,oXe p.dd (.ref p.T) p.ta)::([(f,wS (spF w.params I pr lm rn wd k tx) (p.σ f)),(f2,wS o2 (p.σ f2)),(f3,wS o3 (p.σ f3))]++[(p.dd,dXe w.params p.Z mo)])) (Nat.add p.x 0) h':=rep1.sel (ps:=[0,1,3,6,7,2]) (sel_spec rfl)
  have hF2:FrOK (spEnv f::outer) [(f,wS (spF w.params I pr lm rn wd k tx) (p.σ f)),(f2,wS o2 (p.σ f2)),(f3,wS o3 (p.σ f3))]:=hF1.re p.σ
  have fr2:(A.under (spLoop f)).frames=some (spEnv f::outer):=by
   rw [spLoop_eq]
   show pushEnvs [] A.frames=_
   exact hfr
  show NotedE w A (spLoop f) (spEnv f) R (.ref p.e) ⟨h',gs,d,_,os⟩
  refine note_next fr2 hF2 rfl rep2 fun σ pls h2 rep3=>?_
  have rep4:Rep g [(Nat.add p.x 0,oTb (.ref p.T) f (rawInt f) pls),(p.e,oXe p.dd (.ref (Nat.add p.x 0)) p.ta),(p.dd,dXe w.params p.Z mo),(f2,wS o2 (σ f2)),(f3,wS o3 (σ f3))] (Nat.add p.x 0+1) h2:=rep3.sel (ps:=[0,1,5,3,4]) (sel_spec rfl)
  exact KK _ _ _ _ _ _ _ _ _ h2 _ _ rep4
 | succ j ih=>
  intro k k0 r I J gr rg pl n t h hkj rep
  have hlt:k < ahead:=by omega
  have hx:tx[k]?=some 98:=by rw [htx,List.getElem?_append_left (by rw [List.length_replicate];exact hlt),List.getElem?_replicate,if_pos hlt]
  have hmul:(k+1) * ((gi+ri) / 20+1)≤ahead * ((gi+ri) / 20+1):=Nat.mul_le_mul_right _ hlt
  have hsucc:(k+1) * ((gi+ri) / 20+1)=k * ((gi+ri) / 20+1)+(gi+ri) / 20+1:=by rw [Nat.succ_mul];omega
  have hb:ahead * ((gi+ri) / 20+1)≤100 * 101:=Nat.mul_le_mul hah (by omega)
  refine sp_fail hL hx hsz hgi hri (by omega) (by omega) low hg rep fun I' J' gr' rg' pl' h' n' t' rep'=>?_
  exact ih (k+1) k 0 I' J' gr' rg' pl' n' t' h' (by omega) (by rw [hsucc];exact rep')
end
end
noncomputable section
theorem Rep.weaken {g g1 h:Heap} {L:Led} {n:Nat} (D:Rep g1 L n h) (sub:∀ b o,g.get? b=some o→g1.get? b=some o):Rep g L n h:=
 ⟨D.size,fun q hq=>⟨(D.own q hq).1,by
  have:=(D.own q hq).2
  cases e:g.get? q.1 with
  | none=>rfl
  | some o=>rw [sub _ _ e] at this;cases this⟩,D.nd,fun b o e=>D.keep b o (sub b o e)⟩
theorem Rep.hideSub {g h:Heap} {L l:Led} {n:Nat} (D:Rep g L n h) (s:l.Sublist L):Rep (hideAll h (l.map (·.1))) l n h:=
 ⟨D.size,fun q hq=>⟨(D.own q (s.subset hq)).1,hideAll_none _ (List.mem_map_of_mem hq)⟩,(s.map _).nodup D.nd,fun _ _ e=>of_hideAll _ e⟩
def pgL (P:Params) (M W:Nat→Nat) (v1:Value) (pr pd rl er r0 r1 e0 e1 e2 gi tg ri tr nm lm ld stp tst lim tl:Nat):Led:=[(pr,oPr pd),(pd,dPr P M rl gi tg ri tr nm),(lm,oLim ld),(ld,dLim P W v1 stp tst lim tl),(rl,oLst [.ref r0,.ref r1] er),(r0,oTup [.str (q [115,105,103,110]) e0,.str (q [97]) e1,.bool false]),(r1,oTup [.str (q [101,110,100]) e2])]
section
variable {w:World} {L0:Led} {I M W:Nat→Nat} {v1:Value} {f pr pd rl er r0 r1 e0 e1 e2 gi tg ri tr nm lm ld stp tst lim tl n t:Nat} {tx:List Nat} {g h:Heap} {A:Around} {gs:Array GenState} {d:Drawn} {os:OsState} {Q:Flow→Shared→Prop} {E:Value→Shared→Prop} {S:Led}
theorem sp_pre (hL:∀ q∈pgL w.params M W v1 pr pd rl er r0 r1 e0 e1 e2 gi tg ri tr nm lm ld stp tst lim tl,q∈L0) (low:Low 410 A) (hg:GL w L0 [] g) (rep:Rep g ((f,spF0 w.params I pr lm tx)::S) n h)
  (KK:∀ I' J K gr rg pl rn md wd h' n' t',Rep g ((f,spF w.params I' pr lm rn wd 0 tx)::(rn,oMR md)::(md,dMR w.params J pr stp 0 0 0 gr rg pl tx)::(wd,oWd w.params K)::S) n' h'→Q .next ⟨h',gs,d,t',os⟩):
  wpOwn (MW w) A (.func spB (spEnv f)) (execs (List.take 4 spB) (spEnv f)) Q E ⟨h,gs,d,t,os⟩:=by
 have e:=sp_as w n t f 0 0 0 0 0 pr pd rl gi tg ri tr nm 0 lm ld lim tl stp tst 0 0 0 0 0 0 0 I (fun _=>0) M W v1 tx (w.params.followText "special-get-raises") (w.params.followText "comprehension-iter-twice")
 rw [← PP_self w] at e
 have sl:Sel _ [0] _:=sel_spec (L:=(f,spF0 w.params I pr lm tx)::S) (l:=[(f,spF0 w.params I pr lm tx)]) rfl
 have hL4:∀ q∈[(pr,oPr pd),(pd,dPr w.params M rl gi tg ri tr nm),(lm,oLim ld),(ld,dLim w.params W v1 stp tst lim tl)],q∈L0:=fun q hq=>hL q (List.mem_append_left [_,_,_] hq)
 refine piece_execs (x:=n) (m:=0) (t:=t) (i:=0) (GL_ok (L0:=L0) (xs:=[]) hL4) (GL_mono _ _ (sub_hide rep sl.sub) hg) low (weight_le rfl) (rep.hide sl) e ⟨rfl,fun h' rep'=>?_⟩
 have rep':=rep.back (sh:=⟨.ok .next,[spF w.params (upI I [(10,a t 31),(11,a t 73),(12,a t 74),(13,I 4)]) pr lm (a n 1) (a n 7) 0 tx],[],0,0,0,0,[(a n 1,oMR n),(n,dMR w.params (upI (fun _=>0) [(0,a t 8),(1,a t 10),(2,I 2),(3,a t 12),(4,I 4),(5,a t 14),(6,I 7),(7,a t 16),(8,tst),(9,a t 19),(10,a t 32),(11,a t 21),(12,I 4),(13,a t 24),(14,a t 22),(15,a t 26),(16,a t 28),(17,a t 30)]) pr stp 0 0 0 (a n 3) (a n 4) (a n 5) tx),(a n 7,oWd w.params (upI (fun j=>a t (35+2 * j)) [(18,a t 70)]))]⟩) sl rfl (n':=Nat.add n 9) (h':=h') rep'
 generalize (upI I [(10,a t 31),(11,a t 73),(12,a t 74),(13,I 4)])=I' at rep'
 generalize (upI (fun _=>0) [(0,a t 8),(1,a t 10),(2,I 2),(3,a t 12),(4,I 4),(5,a t 14),(6,I 7),(7,a t 16),(8,tst),(9,a t 19),(10,a t 32),(11,a t 21),(12,I 4),(13,a t 24),(14,a t 22),(15,a t 26),(16,a t 28),(17,a t 30)])=J' at rep'
 generalize (upI (fun j=>a t (35+2 * j)) [(18,a t 70)])=K' at rep'
 have rep2:Rep g ((f,spF w.params I' pr lm (a n 1) (a n 7) 0 tx)::(S++[(a n 1,oMR n),(n,dMR w.params J' pr stp 0 0 0 (a n 3) (a n 4) (a n 5) tx),(a n 7,oWd w.params K')])) (Nat.add n 9) h':=rep'
 exact KK I' J' K' (a n 3) (a n 4) (a n 5) (a n 1) n (a n 7) h' _ _ (rep2.perm (.cons _ (List.perm_append_comm (l₁:=S) (l₂:=[(a n 1,oMR n),(n,dMR w.params J' pr stp 0 0 0 (a n 3) (a n 4) (a n 5) tx),(a n 7,oWd w.params K')]))))
theorem mk_ground {I J K:Nat→Nat} {rn md wd k s k0 r gr rg pl mo:Nat} (hL:∀ q∈pgL w.params M W v1 pr pd rl er r0 r1 e0 e1 e2 gi tg ri tr nm lm ld stp tst lim tl,q∈L0) (hg:GL w L0 [] g)
  (rep:Rep g ((f,spF w.params I pr lm rn wd k tx)::(rn,oMR md)::(md,dMR w.params J pr mo s k0 r gr rg pl tx)::(wd,oWd w.params K)::S) n h):
  ∃ g1,Rep g1 ((f,spF w.params I pr lm rn wd k tx)::(rn,oMR md)::(md,dMR w.params J pr mo s k0 r gr rg pl tx)::S) n h∧GL w (mkL w.params M K pr pd rl er r0 r1 e0 e1 e2 gi tg ri tr nm wd) [] g1∧∀ b o,g.get? b=some o→g1.get? b=some o:=by
 have sub:((f,spF w.params I pr lm rn wd k tx)::(rn,oMR md)::(md,dMR w.params J pr mo s k0 r gr rg pl tx)::S).Sublist ((f,spF w.params I pr lm rn wd k tx)::(rn,oMR md)::(md,dMR w.params J pr mo s k0 r gr rg pl tx)::(wd,oWd w.params K)::S):=
  .cons₂ _ (.cons₂ _ (.cons₂ _ (List.sublist_cons_self _ _)))
 have sb:=sub_hide rep (fun q hq=>sub.subset hq)
 have nd:=rep.nd
 have hwd:=other_of rep (S:=((f,spF w.params I pr lm rn wd k tx)::(rn,oMR md)::(md,dMR w.params J pr mo s k0 r gr rg pl tx)::S).map (·.1)) (q:=(wd,oWd w.params K)) (.tail _ (.tail _ (.tail _ (.head _)))) (by
  simp only [List.map_cons,List.nodup_cons,List.mem_cons,not_or] at nd ⊢
  exact ⟨fun e=>nd.1.2.2.1 e.symm,fun e=>nd.2.1.2.1 e.symm,fun e=>nd.2.2.1.1 e.symm,nd.2.2.2.1⟩)
 refine ⟨_,rep.hideSub sub,GL0 (G0_mono w _ _ sb hg.1) (fun q hq=>?_),sb⟩
 unfold mkL at hq
 simp only [List.mem_cons,List.not_mem_nil,or_false] at hq
 rcases hq with rfl | rfl | rfl | rfl | rfl | rfl
 ·exact sb _ _ (hg.2.1 _ (hL _ (.head _)))
 ·exact sb _ _ (hg.2.1 _ (hL _ (.tail _ (.head _))))
 ·exact sb _ _ (hg.2.1 _ (hL _ (.tail _ (.tail _ (.tail _ (.tail _ (.head _)))))))
 ·exact sb _ _ (hg.2.1 _ (hL _ (.tail _ (.tail _ (.tail _ (.tail _ (.tail _ (.head _))))))))
 ·exact sb _ _ (hg.2.1 _ (hL _ (.tail _ (.tail _ (.tail _ (.tail _ (.tail _ (.tail _ (.head _)))))))))
 ·exact hwd
end
end
noncomputable section
structure SN where
 gr:Nat
 tp:Nat
 t0:Nat
 t1:Nat
 x:Nat
 t:Nat
theorem ne_SN:Nonempty SN:=⟨⟨0,0,0,0,0,0⟩⟩
def snL (gi ahead:Nat) (p:SN):Led:=[(p.gr,oLst (.ref p.tp::List.replicate gi .none) 0),(p.tp,oTup [.int (Int.ofNat ahead) p.t0,.int (Int.ofNat (ahead+1)) p.t1])]
def snSh (gi ahead:Nat) (p:SN):Shape:=⟨.ok (.ret (.ref p.gr)),[],snL gi ahead p,p.x,0,p.t,0,[]⟩
structure SR where
 T:Nat
 e:Nat
 dd:Nat
 ta:Nat
 f:Nat
 hd:Value
 pls:List Value
 Z:Nat→Nat
 s2:Array (Option Value)
 s3:Array (Option Value)
 x:Nat
 t:Nat
theorem ne_SR:Nonempty SR:=⟨⟨0,0,0,0,0,.none,[],fun _=>0,⟨[]⟩,⟨[]⟩,0,0⟩⟩
def srSh (P:Params) (mo:Nat) (o2 o3:Obj) (p:SR):Shape:=⟨.error (.ref p.e),[wS o2 p.s2,wS o3 p.s3],[(p.T,oTb p.hd p.f .none p.pls),(p.e,oXe p.dd (.ref p.T) p.ta),(p.dd,dXe P p.Z mo)],p.x,0,p.t,0,[]⟩
section
variable {w:World} {L0 kn:Led} {M W:Nat→Nat} {v1:Value} {pr pd rl er r0 r1 e0 e1 e2 gi tg ri tr nm lm ld stp tst lim tl x m t i tt tz tz2 ahead f2 f3:Nat} {o2 o3:Obj} {tx:List Nat} {outer:List Env}
theorem sp_norm (hL:∀ q∈pgL w.params M W v1 pr pd rl er r0 r1 e0 e1 e2 gi tg ri tr nm lm ld stp tst lim tl,q∈L0) (htx:tx=List.replicate ahead 98++[97]) (hah:ahead≤100) (hgi:gi≤1000) (hri:ri≤1000) (hfit:ahead * ((gi+ri) / 20+1)+((gi+ri) / 20+2)≤stp):
  AskOK pw_qz0137_01 w (GL w L0 []) (.fn 979 [.ref pr,.str (q tx) tt,.int 0 tz,.ref lm,.int 0 tz2]) [] kn x m t i 400 (snSh gi ahead):=by
 have hz:sizeLine=16777216:=rfl
 have hsz:tx.length=ahead+1:=by rw [htx,List.length_append,List.length_replicate,List.length_singleton]
 intro c hc g A R gs d os h hg _ low rep KK
 obtain rfl:c=.call (.ref 979) ⟨[.ref pr,.str (q tx) tt,.int 0 tz,.ref lm,.int 0 tz2],[]⟩:=hc
 have low':Low 410 A:=⟨low.1,by have:=low.2.1;omega,by have:=low.2.2;omega⟩
 have e:=sp_in w (Nat.add x m) (Nat.add t i) 0 0 0 0 0 0 pr pd rl gi tg ri tr nm 0 lm ld lim tl stp tst tt tz tz2 0 0 0 0 (fun _=>0) (fun _=>0) M W v1 tx (w.params.followText "special-get-raises") (w.params.followText "comprehension-iter-twice")
 rw [← PP_self w] at e
 refine run_call (x:=Nat.add x m) (m:=0) (t:=Nat.add t i) (i:=0) e (G0_ok w) hg.1 low rep ⟨rfl,fun h1 rep1=>?_⟩
 show codeAny (MW w) A (.func spB (spEnv (Nat.add x m))) R ⟨h1,gs,d,Nat.add (Nat.add t i) 7,os⟩
 have rep1:Rep g [(Nat.add x m,spF0 w.params (upI (fun _=>a (Nat.add t i) 6) [(0,Nat.add t i),(1,a (Nat.add t i) 1),(2,tt),(3,a (Nat.add t i) 2),(4,tz),(5,a (Nat.add t i) 3),(6,a (Nat.add t i) 4),(7,tz2),(8,a (Nat.add t i) 5)]) pr lm tx)] (Nat.add (Nat.add x m) 1) h1:=rep1
 generalize (upI (fun _=>a (Nat.add t i) 6) [(0,Nat.add t i),(1,a (Nat.add t i) 1),(2,tt),(3,a (Nat.add t i) 2),(4,tz),(5,a (Nat.add t i) 3),(6,a (Nat.add t i) 4),(7,tz2),(8,a (Nat.add t i) 5)])=I0 at rep1
 generalize Nat.add (Nat.add x m) 1=n1 at rep1
 generalize Nat.add x m=f at rep1
 generalize Nat.add (Nat.add t i) 7=t1
 have wf:(Code.func spB (spEnv f)).weight≤5:=weight_le rfl
 refine own_func2 rfl spB_eq (own_append (sp_pre hL low' hg rep1 fun I' J K gr rg pl rn md wd h2 n2 t2 rep2=>?_))
 show wpOwn (MW w) A (.func spB (spEnv f)) (execs [.While (testE spW) (whB spW) [] (whPos spW),sAt 5 spB,sAt 6 spB] (spEnv f)) _ _ ⟨h2,gs,d,t2,os⟩
 obtain ⟨g1,rep3,hg1,sub⟩:=mk_ground hL hg rep2
 refine own_cons (own_while_stmt ?_)
 rw [← spLoop_eq]
 have low0:=low_under low wf
 have low1:Low 410 ((A.under (.func spB (spEnv f))).mark none):=⟨low0.1,by have:=low0.2.1;omega,by have:=low0.2.2;omega⟩
 refine sp_loop (S:=[]) (ahead:=ahead) (L1:=mkL w.params M K pr pd rl er r0 r1 e0 e1 e2 gi tg ri tr nm wd) (fun q hq=>hq) htx hah hgi hri hfit low1 hg1 (fun I2 J2 gr2 rg2 pl2 tp t0 t1' h3 n3 t3 rep4=>?_) ahead 0 0 0 I' J gr rg pl n2 t2 h2 (Nat.zero_add _) (by rw [Nat.zero_mul];exact rep3)
 show wpOwn (MW w) A (.func spB (spEnv f)) (execs [sAt 5 spB,sAt 6 spB] (spEnv f)) _ _ ⟨h3,gs,d,t3,os⟩
 have ez:=sp_end w n3 t3 f rn md pl2 gr2 rg2 pr 0 0 0 0 0 0 0 wd lm 0 0 0 0 0 0 0 0 stp (ahead * ((gi+ri) / 20+1)+((gi+ri) / 20+2)) (ahead+1) ahead 1 I2 J2 M M .none tx (w.params.followText "special-get-raises") (w.params.followText "comprehension-iter-twice")
 rw [← PP_self w] at ez
 have sl:Sel _ [0,1,2] _:=sel_spec (L:=[(f,spF w.params I2 pr lm rn wd ahead tx),(rn,oMR md),(md,dMR w.params J2 pr stp (ahead * ((gi+ri) / 20+1)+((gi+ri) / 20+2)) (ahead+1) 1 gr2 rg2 pl2 tx),(gr2,oLst (.ref tp::List.replicate gi .none) 0),(tp,oTup [.int (Int.ofNat ahead) t0,.int (Int.ofNat (ahead+1)) t1'])]) (l:=[(f,spF w.params I2 pr lm rn wd ahead tx),(rn,oMR md),(md,dMR w.params J2 pr stp (ahead * ((gi+ri) / 20+1)+((gi+ri) / 20+2)) (ahead+1) 1 gr2 rg2 pl2 tx)]) rfl
 refine piece_execs (x:=n3) (m:=0) (t:=t3) (i:=0) (G0_ok w) (G0_mono w _ _ (sub_hide rep4 sl.sub) hg1.1) low' wf (rep4.hide sl) ez ⟨v_len rfl (by omega),v_le_t (by omega),rfl,fun h4 rep5=>?_⟩
 have rep5:=rep4.back (sh:=⟨.ok .next,[spF w.params I2 pr lm rn wd ahead tx,oMR md,dMR w.params J2 pr stp (ahead * ((gi+ri) / 20+1)+((gi+ri) / 20+2)) (ahead+1) 1 gr2 rg2 pl2 tx],[],0,0,0,0,[]⟩) sl rfl (n':=n3) (h':=h4) rep5
 have rep6:Rep g1 [(gr2,oLst (.ref tp::List.replicate gi .none) 0),(tp,oTup [.int (Int.ofNat ahead) t0,.int (Int.ofNat (ahead+1)) t1'])] n3 h4:=rep5.sel (ps:=[3,4]) (sel_spec rfl)
 exact KK ⟨gr2,tp,t0,t1',n3,Nat.add t3 3⟩ h4 (rep6.weaken sub)
theorem sp_raise (hF:FrOK outer [(f2,o2),(f3,o3)]) (hL:∀ q∈pgL w.params M W v1 pr pd rl er r0 r1 e0 e1 e2 gi tg ri tr nm lm ld stp tst lim tl,q∈L0) (htx:tx=List.replicate ahead 98++[97]) (hah:ahead≤100) (hgi:gi≤1000) (hri:ri≤1000) (hfit:ahead * ((gi+ri) / 20+1)+((gi+ri) / 20+1)=stp):
  AskF pw_qz0137_01 w (GL w L0 []) (some outer) (.fn 979 [.ref pr,.str (q tx) tt,.int 0 tz,.ref lm,.int 0 tz2]) [(f2,o2),(f3,o3)] kn x m t i 400 (srSh w.params stp o2 o3):=by
 have hz:sizeLine=16777216:=rfl
 have hsz:tx.length=ahead+1:=by rw [htx,List.length_append,List.length_replicate,List.length_singleton]
 intro c hc g A R gs d os h hg _ low hfr rep KK
 obtain rfl:c=.call (.ref 979) ⟨[.ref pr,.str (q tx) tt,.int 0 tz,.ref lm,.int 0 tz2],[]⟩:=hc
 have low':Low 410 A:=⟨low.1,by have:=low.2.1;omega,by have:=low.2.2;omega⟩
 have e:=sp_in w (Nat.add x m) (Nat.add t i) 0 0 0 0 0 0 pr pd rl gi tg ri tr nm 0 lm ld lim tl stp tst tt tz tz2 0 0 0 0 (fun _=>0) (fun _=>0) M W v1 tx (w.params.followText "special-get-raises") (w.params.followText "comprehension-iter-twice")
 rw [← PP_self w] at e
 have s0:Sel _ [] _:=sel_spec (L:=[(f2,o2),(f3,o3)]) (l:=[]) rfl
 refine run_call (x:=Nat.add x m) (m:=0) (t:=Nat.add t i) (i:=0) e (G0_ok w) (G0_mono w _ _ (sub_hide rep s0.sub) hg.1) low (rep.hide s0) ⟨rfl,fun h1 rep1=>?_⟩
 show codeAny (MW w) A (.func spB (spEnv (Nat.add x m))) R ⟨h1,gs,d,Nat.add (Nat.add t i) 7,os⟩
 have rep1:=rep.back (sh:=⟨.ok .next,[],[(Nat.add x m,spF0 w.params (upI (fun _=>a (Nat.add t i) 6) [(0,Nat.add t i),(1,a (Nat.add t i) 1),(2,tt),(3,a (Nat.add t i) 2),(4,tz),(5,a (Nat.add t i) 3),(6,a (Nat.add t i) 4),(7,tz2),(8,a (Nat.add t i) 5)]) pr lm tx)],0,0,0,0,[]⟩) s0 rfl (n':=Nat.add (Nat.add x m) 1) (h':=h1) rep1
 have rep1:Rep g [(Nat.add x m,spF0 w.params (upI (fun _=>a (Nat.add t i) 6) [(0,Nat.add t i),(1,a (Nat.add t i) 1),(2,tt),(3,a (Nat.add t i) 2),(4,tz),(5,a (Nat.add t i) 3),(6,a (Nat.add t i) 4),(7,tz2),(8,a (Nat.add t i) 5)]) pr lm tx),(f2,o2),(f3,o3)] (Nat.add (Nat.add x m) 1) h1:=rep1
 generalize (upI (fun _=>a (Nat.add t i) 6) [(0,Nat.add t i),(1,a (Nat.add t i) 1),(2,tt),(3,a (Nat.add t i) 2),(4,tz),(5,a (Nat.add t i) 3),(6,a (Nat.add t i) 4),(7,tz2),(8,a (Nat.add t i) 5)])=I0 at rep1
 generalize Nat.add (Nat.add x m) 1=n1 at rep1
 generalize Nat.add x m=f at rep1
 generalize Nat.add (Nat.add t i) 7=t1
 have wf:(Code.func spB (spEnv f)).weight≤5:=weight_le rfl
 refine own_func_raise rfl spB_eq (own_append (sp_pre hL low' hg rep1 fun I' J K gr rg pl rn md wd h2 n2 t2 rep2=>?_))
 show wpOwn (MW w) A (.func spB (spEnv f)) (execs [.While (testE spW) (whB spW) [] (whPos spW),sAt 5 spB,sAt 6 spB] (spEnv f)) _ _ ⟨h2,gs,d,t2,os⟩
 obtain ⟨g1,rep3,hg1,sub⟩:=mk_ground hL hg rep2
 refine own_cons (own_while_stmt ?_)
 rw [← spLoop_eq]
 have low0:=low_under low wf
 have low1:Low 410 ((A.under (.func spB (spEnv f))).mark none):=⟨low0.1,by have:=low0.2.1;omega,by have:=low0.2.2;omega⟩
 have fr1:((A.under (.func spB (spEnv f))).mark none).frames=some (spEnv f::outer):=by
  show pushEnvs [spEnv f] A.frames=_
  rw [hfr]
  rfl
 refine sp_loopR (ahead:=ahead) (L1:=mkL w.params M K pr pd rl er r0 r1 e0 e1 e2 gi tg ri tr nm wd) hF (fun q hq=>hq) htx hah hgi hri hfit low1 fr1 hg1 (fun T e dd ta hd pls Z s2 s3 h3 n3 t3 rep4=>?_) ahead 0 0 0 I' J gr rg pl n2 t2 h2 (Nat.zero_add _) (by rw [Nat.zero_mul];exact rep3)
 suffices zz:cameBackBy (MW w) (A.under (.func spB (spEnv f))) (spEnv f) (fun e s2=>wpAny (MW w) (A.under (.func spB (spEnv f))) (leaving (spEnv f) e) (fun _ s3=>R (.error e) s3) (fun _ _=>False) s2) (.ref e) ⟨h3,gs,d,t3,os⟩ from zz
 refine back_ok (f:=f) rfl rep4 fun h4 rep5=>?_
 refine leave_ok (f:=f) rfl rep5 fun h5 rep6=>?_
 exact KK ⟨T,e,dd,ta,f,hd,pls,Z,s2,s3,n3,t3⟩ h5 (rep6.weaken sub)
end
end
noncomputable section
def lsEnv (f:Nat):Env:=fenv (sAt 147 top) 998 997 f
def lsB:List Stmt:=fbody (sAt 147 top)
def tryB (s:Stmt):List Stmt:=match s with
 | .Try b _ _ _ _=>b
 | _=>[]
def tryH (s:Stmt):List ExceptHandler:=match s with
 | .Try _ h _ _ _=>h
 | _=>[]
def tryP (s:Stmt):Pos:=match s with
 | .Try _ _ _ _ p=>p
 | _=>default
def hbT (e:Value) (env:Env) (hs:List ExceptHandler):Sem PySem.Fin:=R.bindR (PySem.W.Fast.tw14206642085496868694 e env hs) fun f=>.pure (.done f)
def lhF (P:Params) (I:Nat→Nat) (pr st:Nat) (tx:List Nat):Obj:=⟨.type "frame",none,.dict ⟨[en P (q [112,114,111,103,114,97,109]) (I 0) (.ref pr),en P (q [116,101,120,116]) (I 1) (.str (q tx) (I 2)),en P (q [115,116,101,112,115]) (I 3) (.int (Int.ofNat st) (I 4))]⟩ 3,⟨[]⟩⟩
def snSh2 (l:List Obj) (gi ahead:Nat) (p:SN):Shape:=⟨.ok (.ret (.ref p.gr)),l,snL gi ahead p,p.x,0,p.t,0,[]⟩
def srSh2 (P:Params) (mo:Nat) (l:List Obj) (o2 o3:Obj) (p:SR):Shape:=⟨.error (.ref p.e),l++[wS o2 p.s2,wS o3 p.s3],[(p.T,oTb p.hd p.f .none p.pls),(p.e,oXe p.dd (.ref p.T) p.ta),(p.dd,dXe P p.Z mo)],p.x,0,p.t,0,[]⟩
end
noncomputable section
theorem ls_n (w:World) (x t f f3 pr st tt ts gi ahead:Nat) (I:Nat→Nat) (o3:Obj) (tx:List Nat) (b1 b2:Bool):go (PP w b1 b2) [] 350 100000 (.call (.ref 998) ⟨[.ref pr,.str (q tx) tt,.int (Int.ofNat st) ts],[]⟩) [] x 0 t 0 [1,0,0,2,0,2,0,2,0,0,0,0,2,2,0,2,0,0,0,0,0,0,0,0,0,0,0,0,0,0,0,0,0,0,0,0,0,0,0,0,0,0,0,0,0,0,0,0,0,2,0,2,0,0,0,0,1,0,0,0,2,0,2,0,2,0,2,0,2,0,2,0,0,0,2,2,3,0,0,0,0,3,0,0,3,0,3,0,0,0,3,0,4,2,4,2,2,3,0,0,0,0,3,0,0,3,0,3,0,0,0,3,0,4,2,4,2,2,3,0,0,0,0,3,0,0,3,0,3,0,0,0,3,0,4,2,4,2,2,3,0,0,0,0,3,0,0,3,0,3,0,0,0,3,0,4,2,4,2,2,3,0,0,0,0,3,0,0,3,0,3,0,0,0,3,0,4,2,4,0,2] (.ask [1,2] 99 400 SN (fun _ _=>snSh2 [oLim (a x 1),dLim (PP w b1 b2) (upI (fun _=>0) [(0,a t 11),(1,a t 13),(2,1383),(3,a t 15),(4,a t 17),(5,a t 19),(6,1392)]) (.int 64 1382) st ts 100000 1389] gi ahead) fun p=>.keep [0,1])=(.ask (.fn 979 [.ref pr,.str (q (tx)) tt,.int 0 (a t 3),.ref (a x 2),.int 0 (a t 20)]) [((a x 2),(oLim (a x 1))),((a x 1),⟨.type "dict",none,.dict ⟨[en (PP w b1 b2) (q [119,105,100,116,104]) (a t 11) (.int 64 1382),en (PP w b1 b2) (q [100,101,112,116,104]) (a t 13) (.int 50 1383),en (PP w b1 b2) (q [115,116,101,112,115]) (a t 15) (.int (Int.ofNat st) ts),en (PP w b1 b2) (q [116,101,120,116]) (a t 17) (.int 100000 1389),en (PP w b1 b2) (q [105,116,101,109,115]) (a t 19) (.int 10000 1392)]⟩ 5,⟨[]⟩⟩)] [] x 4 t 21 1 400 (SN) ((fun x_1 x_2=>snSh2 [oLim (a x 1),dLim (PP w b1 b2) (upI (fun x=>0) [(0,a t 11),(1,a t 13),(2,1383),(3,a t 15),(4,a t 17),(5,a t 19),(6,1392)]) (Value.int 64 1382) st ts 100000 1389] gi ahead) (Nat.add x 4) (Nat.add t 21)) (fun p1=>(dn (.ok (.ret (.ref (p1.1)))) ([((p1.1),⟨.type "list",none,.seq ⟨((.ref (p1.2))::(List.replicate gi .none))⟩ 0,⟨[]⟩⟩),((p1.2),⟨.type "tuple",none,.seq ⟨[.int (Int.ofNat ahead) (p1.3),.int (Int.ofNat (a ahead 1)) (p1.4)]⟩ 0,⟨[]⟩⟩)]) (p1.5) 0 (p1.6) 0 [(a x 1),(a x 1),(a x 1),(a x 2),(a x 2),(a x 2),(a x 2),(a x 2),(a x 3),(a x 3),(a x 1),(a x 1),(a x 1),(a x 2),(a x 2),(a x 2),(a x 2),(a x 2),(a x 3),(a x 3),(a x 1),(a x 1),(a x 1),(a x 2),(a x 2),(a x 2),(a x 2),(a x 2),(a x 3),(a x 3),(a x 1),(a x 1),(a x 1),(a x 2),(a x 2),(a x 2),(a x 2),(a x 2),(a x 3),(a x 3),(a x 1),(a x 1),(a x 1),(a x 2),(a x 2),(a x 2),(a x 2),(a x 2),(a x 3),(a x 3),(a x 3),(a x 3),(a x 3),(a x 3),(a x 3),(a x 3),(a x 3),(a x 3),(a x 3),(a x 3),(a x 3),(a x 3),(a x 2),(a x 2),x,x,x,x,x,x,x,x,x]))):=by revert b1 b2;apply bq2<;>kernel_rfl
theorem ls_in (w:World) (x t f f3 pr st tt ts gi ahead:Nat) (I:Nat→Nat) (o3:Obj) (tx:List Nat) (b1 b2:Bool):go (PP w b1 b2) [] 350 100000 (.call (.ref 998) ⟨[.ref pr,.str (q tx) tt,.int (Int.ofNat st) ts],[]⟩) [] x 0 t 0 [1,0,0,2,0,2,0,2,0,0,3] (.keep [0])=(ag (.func lsB (lsEnv x)) [(x,⟨.type "frame",none,.dict ⟨[en (PP w b1 b2) (q [112,114,111,103,114,97,109]) t (.ref pr),en (PP w b1 b2) (q [116,101,120,116]) (a t 1) (.str (q (tx)) tt),en (PP w b1 b2) (q [115,116,101,112,115]) (a t 2) (.int (Int.ofNat st) ts)]⟩ 3,⟨[]⟩⟩)] x 1 t 3 [x,x,x,x,x,x]):=by revert b1 b2;apply bq2<;>kernel_rfl
theorem ls_b (w:World) (x t f f3 pr st tt ts gi ahead:Nat) (I:Nat→Nat) (o3:Obj) (tx:List Nat) (b1 b2:Bool):goT (PP w b1 b2) [] 360 100000 (.func lsB (lsEnv f)) (exT (tryB (sAt 0 lsB)) (lsEnv f)) [(f,lhF (PP w b1 b2) I pr st tx),(f3,o3)] x 0 t 0 [0,2,2,0,2,0,0,0,0,0,0,0,0,0,0,0,0,0,0,0,0,0,0,0,0,0,0,0,0,0,0,0,0,0,0,0,0,0,2,0,2,0,0,0,0,1,0,0,0,2,0,2,0,2,0,2,0,2,0,2,0,0,0,2,2,3,0,0,0,0,3,0,0,3,0,3,0,0,0,3,0,4,2,4,2,2,3,0,0,0,0,3,0,0,3,0,3,0,0,0,3,0,4,2,4,2,2,3,0,0,0,0,3,0,0,3,0,3,0,0,0,3,0,4,2,4,2,2,3,0,0,0,0,3,0,0,3,0,3,0,0,0,3,0,4,2,4,2,2,3,0,0,0,0,3,0,0,3,0,3,0,0,0,3,0,4,2,4,0,2] (.askF [lsEnv f] [1,2,3,4] 99 400 SR (fun _ _=>srSh2 (PP w b1 b2) st [oLim x,dLim (PP w b1 b2) (upI (fun _=>0) [(0,a t 8),(1,a t 10),(2,1383),(3,a t 12),(4,a t 14),(5,a t 16),(6,1392)]) (.int 64 1382) st (I 4) 100000 1389] (lhF (PP w b1 b2) I pr st tx) o3) fun p=>.keep [0,1,2,6,7])=(.askF (.fn 979 [.ref pr,.str (q (tx)) (I 2),.int 0 t,.ref (a x 1),.int 0 (a t 17)]) ([lsEnv f]) [((a x 1),(oLim x)),(x,⟨.type "dict",none,.dict ⟨[en (PP w b1 b2) (q [119,105,100,116,104]) (a t 8) (.int 64 1382),en (PP w b1 b2) (q [100,101,112,116,104]) (a t 10) (.int 50 1383),en (PP w b1 b2) (q [115,116,101,112,115]) (a t 12) (.int (Int.ofNat st) (I 4)),en (PP w b1 b2) (q [116,101,120,116]) (a t 14) (.int 100000 1389),en (PP w b1 b2) (q [105,116,101,109,115]) (a t 16) (.int 10000 1392)]⟩ 5,⟨[]⟩⟩),(f,⟨.type "frame",none,.dict ⟨[en (PP w b1 b2) (q [112,114,111,103,114,97,109]) (I 0) (.ref pr),en (PP w b1 b2) (q [116,101,120,116]) (I 1) (.str (q (tx)) (I 2)),en (PP w b1 b2) (q [115,116,101,112,115]) (I 3) (.int (Int.ofNat st) (I 4))]⟩ 3,⟨[]⟩⟩),(f3,(o3))] [] x 3 t 18 1 400 (SR) ((fun x_1 x_2=>srSh2 (PP w b1 b2) st [oLim x,dLim (PP w b1 b2) (upI (fun x=>0) [(0,a t 8),(1,a t 10),(2,1383),(3,a t 12),(4,a t 14),(5,a t 16),(6,1392)]) (Value.int 64 1382) st (I 4) 100000 1389] (lhF (PP w b1 b2) I pr st tx) o3) (Nat.add x 3) (Nat.add t 18)) (fun p1=>(dn (.error (.ref (p1.2))) ([((p1.1),⟨.type "traceback",none,.fields ⟨((p1.6)::(.ref (p1.5))::.none::.none::.none::p1.7)⟩,⟨[]⟩⟩),((p1.2),⟨.ref 111,(some (p1.3)),.fields ⟨[.ref (p1.4),.ref (p1.1),.none,.none,.bool false,.none]⟩,⟨[]⟩⟩),((p1.3),⟨.type "dict",none,.dict ⟨[en (PP w b1 b2) (q [116,101,120,116]) (p1.8 0) (.str (q [116,111,111,32,109,97,110,121,32,115,116,101,112,115]) (p1.8 1)),en (PP w b1 b2) (q [115,116,101,112,115]) (p1.8 2) (.int (Int.ofNat st) (p1.8 3))]⟩ 2,⟨[]⟩⟩),(f,⟨.type "frame",none,.dict ⟨[en (PP w b1 b2) (q [112,114,111,103,114,97,109]) (I 0) (.ref pr),en (PP w b1 b2) (q [116,101,120,116]) (I 1) (.str (q (tx)) (I 2)),en (PP w b1 b2) (q [115,116,101,112,115]) (I 3) (.int (Int.ofNat st) (I 4))]⟩ 3,(p1.9)⟩),(f3,⟨o3.1,o3.2,o3.3,p1.10⟩)]) (p1.11) 0 (p1.12) 0 [x,x,x,(a x 1),(a x 1),(a x 1),(a x 1),(a x 1),(a x 2),(a x 2),x,x,x,(a x 1),(a x 1),(a x 1),(a x 1),(a x 1),(a x 2),(a x 2),x,x,x,(a x 1),(a x 1),(a x 1),(a x 1),(a x 1),(a x 2),(a x 2),x,x,x,(a x 1),(a x 1),(a x 1),(a x 1),(a x 1),(a x 2),(a x 2),x,x,x,(a x 1),(a x 1),(a x 1),(a x 1),(a x 1),(a x 2),(a x 2),(a x 2),(a x 2),(a x 2),(a x 2),(a x 2),(a x 2),(a x 2),(a x 2),(a x 2),(a x 2),(a x 2),(a x 2),(a x 1),(a x 1),f,f,f]))):=by revert b1 b2;apply bq2<;>kernel_rfl
theorem ls_h (w:World) (x t f f3 pr st ts T e dd ta f0 mo:Nat) (I Z:Nat→Nat) (hd:Value) (pls:List Value) (s2:Array (Option Value)) (o3:Obj) (tx:List Nat) (b1 b2:Bool):goT (PP w b1 b2) [] 360 100000 (.func lsB (lsEnv f)) (hbT (.ref e) (lsEnv f) (tryH (sAt 0 lsB))) [(T,oTb hd f0 .none pls),(e,oXe dd (.ref T) ta),(dd,dXe (PP w b1 b2) Z mo),(f,wS (lhF (PP w b1 b2) I pr st tx) s2),(f3,o3)] x 0 t 0 [0,0,0,0,0,3,0,0,3,2,0,5,3,5,3,0,0,0,0,0,0,0,0,0,0,0,3,0,0,3,0,0,0,0,0,3,3,0,4,5,3,5,3] (.keep [4])=(dn (.ok (.ret (.int (Int.ofNat mo) (Z 3)))) ([(f3,(o3))]) x 0 t 3 [f,f,f,f,dd,e,e,e,e,e,f,f,f,T,T,e,e]):=by revert b1 b2;apply bq2<;>kernel_rfl
theorem Rep.addBack {g g1 h:Heap} {L kk:Led} {n:Nat} (r:Rep g1 L n h) (sub:∀ b o,g.get? b=some o→g1.get? b=some o) (hk:∀ q∈kk,g1.get? q.1=some q.2) (hn:∀ q∈kk,g.get? q.1=none) (nd:(kk.map (·.1)).Nodup):Rep g (kk++L) n h:=by
 have r0:=r.weaken sub
 refine ⟨r.size,fun q hq=>?_,?_,r0.keep⟩
 ·rcases List.mem_append.mp hq with hq | hq
  ·exact ⟨r.keep _ _ (hk q hq),hn q hq⟩
  ·exact r0.own q hq
 ·rw [List.map_append,List.nodup_append]
  refine ⟨nd,r.nd,fun a ha b hb e=>?_⟩
  obtain ⟨q1,h1,rfl⟩:=List.mem_map.mp ha
  obtain ⟨q2,h2,rfl⟩:=List.mem_map.mp hb
  have z1:=hk q1 h1
  have z2:=(r.own q2 h2).2
  rw [e,z2] at z1
  cases z1
theorem zipUp_app (upd:List Obj) (l:Led):∀ kk:Led,zipUp (kk++l) (kk.map (·.2)++upd)=kk++zipUp l upd
 | []=>rfl
 | q::kk=>by
  show (q.1,q.2)::zipUp (kk++l) (kk.map (·.2)++upd)=q::(kk++zipUp l upd)
  rw [zipUp_app upd l kk]
theorem AskOK.toF {w:World} {G:Heap→Prop} {q:Asked} {l kn:Led} {x m t i D:Nat} {P:Type} {sh:P→Shape} (h:AskOK pw_qz0137_01 w G q l kn x m t i D sh) (fr:Option (List Env)):AskF pw_qz0137_01 w G fr q l kn x m t i D sh:=
 fun c hc g A R gs d os hp hg hkn low _=>h c hc g A R gs d os hp hg hkn low
theorem AskF.toOK {w:World} {G:Heap→Prop} {q:Asked} {l kn:Led} {x m t i D:Nat} {P:Type} {sh:P→Shape} (h:∀ fr,AskF pw_qz0137_01 w G fr q l kn x m t i D sh):AskOK pw_qz0137_01 w G q l kn x m t i D sh:=
 fun c hc g A R gs d os hp hg hkn low=>h A.frames c hc g A R gs d os hp hg hkn low rfl
theorem ask_ledgerF {w:World} {G G':Heap→Prop} {fr:Option (List Env)} {q:Asked} {l kk kn:Led} {x m t i D:Nat} {P:Type} {sh sh':P→Shape} (H:AskF pw_qz0137_01 w G fr q l [] x m t i D sh) (mono:∀ g g':Heap,(∀ b o,g.get? b=some o→g'.get? b=some o)→G' g→G' g')
  (hG:∀ g,G' g→(∀ q∈kk,g.get? q.1=some q.2)→G g) (hs:∀ p,sh' p={ sh p with upd:=kk.map (·.2)++(sh p).upd }):AskF pw_qz0137_01 w G' fr q (kk++l) kn x m t i D sh':=by
 intro c hc g A R gs d os h hg hkn low hfr rep K
 have sb:=sub_hide rep (l:=l) (fun q hq=>List.mem_append_right _ hq)
 have nd:=rep.nd
 rw [List.map_append,List.nodup_append] at nd
 have hk:∀ q∈kk,(hideAll h (l.map (·.1))).get? q.1=some q.2:=fun q hq=>other_of rep (List.mem_append_left _ hq) fun hm=>nd.2.2 q.1 (List.mem_map_of_mem hq) q.1 hm rfl
 refine H c hc _ A R gs d os h (hG _ (mono _ _ sb hg) hk) (fun _ hq=>nomatch hq) low hfr (rep.hideSub (List.sublist_append_right _ _)) fun p h' r=>?_
 have z:=K p h'
 rw [hs p] at z
 refine z ?_
 have r2:=Rep.addBack r sb hk (fun q hq=>(rep.own q (List.mem_append_left _ hq)).2) nd.1
 show Rep g ((sh p).new++zipUp (kk++l) (kk.map (·.2)++(sh p).upd)++(sh p).tail) _ h'
 rw [zipUp_app]
 refine r2.perm ?_
 show (kk++((sh p).new++zipUp l (sh p).upd++(sh p).tail)).Perm _
 rw [← List.append_assoc,← List.append_assoc,← List.append_assoc]
 exact (List.perm_append_comm.append_right _).append_right _
theorem ask_ledger {w:World} {G G':Heap→Prop} {q:Asked} {l kk kn:Led} {x m t i D:Nat} {P:Type} {sh sh':P→Shape} (H:AskOK pw_qz0137_01 w G q l [] x m t i D sh) (mono:∀ g g':Heap,(∀ b o,g.get? b=some o→g'.get? b=some o)→G' g→G' g')
  (hG:∀ g,G' g→(∀ q∈kk,g.get? q.1=some q.2)→G g) (hs:∀ p,sh' p={ sh p with upd:=kk.map (·.2)++(sh p).upd }):AskOK pw_qz0137_01 w G' q (kk++l) kn x m t i D sh':=
 AskF.toOK fun fr=>ask_ledgerF (H.toF fr) mono hG hs
def prL1 (P:Params) (M:Nat→Nat) (pr pd rl er r0 r1 e0 e1 e2 gi tg ri tr nm:Nat):Led:=[(pr,oPr pd),(pd,dPr P M rl gi tg ri tr nm),(rl,oLst [.ref r0,.ref r1] er),(r0,oTup [.str (q [115,105,103,110]) e0,.str (q [97]) e1,.bool false]),(r1,oTup [.str (q [101,110,100]) e2])]
section
variable {w:World} {L0 kn:Led} {M:Nat→Nat} {pr pd rl er r0 r1 e0 e1 e2 gi tg ri tr nm st x m t i tt ts ahead f3:Nat} {o3:Obj} {tx:List Nat} {outer:List Env}
theorem pg_of {W:Nat→Nat} {v1:Value} {lm ld stp tst lim tl:Nat} {g:Heap} (hL:∀ q∈prL1 w.params M pr pd rl er r0 r1 e0 e1 e2 gi tg ri tr nm,q∈L0) (hg:GL w L0 [] g) (hk:∀ q∈[(lm,oLim ld),(ld,dLim w.params W v1 stp tst lim tl)],g.get? q.1=some q.2):
  GL w (pgL w.params M W v1 pr pd rl er r0 r1 e0 e1 e2 gi tg ri tr nm lm ld stp tst lim tl) [] g:=GL0 hg.1 fun q hq=>by
 unfold pgL at hq
 simp only [List.mem_cons,List.not_mem_nil,or_false] at hq
 rcases hq with rfl | rfl | rfl | rfl | rfl | rfl | rfl
 ·exact hg.2.1 _ (hL _ (.head _))
 ·exact hg.2.1 _ (hL _ (.tail _ (.head _)))
 ·exact hk _ (.head _)
 ·exact hk _ (.tail _ (.head _))
 ·exact hg.2.1 _ (hL _ (.tail _ (.tail _ (.head _))))
 ·exact hg.2.1 _ (hL _ (.tail _ (.tail _ (.tail _ (.head _)))))
 ·exact hg.2.1 _ (hL _ (.tail _ (.tail _ (.tail _ (.tail _ (.head _))))))
theorem ls_norm (hL:∀ q∈prL1 w.params M pr pd rl er r0 r1 e0 e1 e2 gi tg ri tr nm,q∈L0) (htx:tx=List.replicate ahead 98++[97]) (hah:ahead≤100) (hgi:gi≤1000) (hri:ri≤1000) (hfit:ahead * ((gi+ri) / 20+1)+((gi+ri) / 20+2)≤st):
  AskOK pw_qz0137_01 w (GL w L0 []) (.fn 998 [.ref pr,.str (q tx) tt,.int (Int.ofNat st) ts]) [] kn x m t i 350 (snSh gi ahead):=by
 have e:=ls_n w (Nat.add x m) (Nat.add t i) 0 0 pr st tt ts gi ahead (fun _=>0) (oTup []) tx (w.params.followText "special-get-raises") (w.params.followText "comprehension-iter-twice")
 rw [← PP_self w] at e
 exact AskOK.shift (ask_run e (GL_ok (L0:=L0) (xs:=[]) (fun _ hq=>nomatch hq)) (fun _ h=>h) fun g A R gs dr os hg low H=>
  ⟨ne_SN,nble rfl,fun _=>rfl,ask_ledger (l:=[]) (kk:=[(a (Nat.add x m) 2,oLim (a (Nat.add x m) 1)),(a (Nat.add x m) 1,dLim w.params (upI (fun _=>0) [(0,a (Nat.add t i) 11),(1,a (Nat.add t i) 13),(2,1383),(3,a (Nat.add t i) 15),(4,a (Nat.add t i) 17),(5,a (Nat.add t i) 19),(6,1392)]) (.int 64 1382) st ts 100000 1389)])
   (sp_norm (M:=M) (pd:=pd) (rl:=rl) (er:=er) (r0:=r0) (r1:=r1) (e0:=e0) (e1:=e1) (e2:=e2) (tg:=tg) (tr:=tr) (nm:=nm) (fun q hq=>hq) htx hah hgi hri hfit) GL_mono (fun g hg hk=>pg_of hL hg hk) (fun _=>rfl),fun p=>⟨rfl,fun h' r=>H ⟨p.gr,p.tp,p.t0,p.t1,Nat.add p.x 0,Nat.add p.t 0⟩ h' r⟩⟩)
end
end
noncomputable section
theorem lsB_eq:lsB=[.Try (tryB (sAt 0 lsB)) (tryH (sAt 0 lsB)) [] [] (tryP (sAt 0 lsB))]:=by kernel_rfl
theorem lsH_eq:tryH (sAt 0 lsB)=(tryH (sAt 0 lsB)).head!::[]:=by kernel_rfl
theorem ls_kind (f:Nat):(lsEnv f).scope.kind≠.module:=by
 have e:(lsEnv f).scope.kind=.function:=by kernel_rfl
 rw [e]
 exact fun h=>nomatch h
theorem own_handleBy {w:World} {A:Around} {c:Code} {s:Shared} {env:Env} {e:Value} {hs:List ExceptHandler} {R0:Result→Shared→Prop} (h:wpOwn (MW w) A c (hbT e env hs) (postC pw_qz0137_01 w A R0) (postE R0) s):wpOwn (MW w) A c (handleBy e env hs) (fun f s'=>R0 (.ok f) s') (fun e s'=>R0 (.error e) s') s:=by
 refine own_of_bind (enc:=fun f=>f) ?_
 unfold hbT at h
 rw [← R.bindR_eq,← Fast.te14206642085496868694] at h
 exact h
structure SV where
 tk:Nat
 s3:Array (Option Value)
 x:Nat
 t:Nat
theorem ne_SV:Nonempty SV:=⟨⟨0,⟨[]⟩,0,0⟩⟩
def svSh (st:Nat) (o3:Obj) (p:SV):Shape:=⟨.ok (.ret (.int (Int.ofNat st) p.tk)),[wS o3 p.s3],[],p.x,0,p.t,0,[]⟩
section
variable {w:World} {L0 kn:Led} {M:Nat→Nat} {pr pd rl er r0 r1 e0 e1 e2 gi tg ri tr nm st x m t i tt ts ahead f3:Nat} {o3:Obj} {tx:List Nat} {outer:List Env}
theorem ls_raise (hF:FrOK outer [(f3,o3)]) (hL:∀ q∈prL1 w.params M pr pd rl er r0 r1 e0 e1 e2 gi tg ri tr nm,q∈L0) (htx:tx=List.replicate ahead 98++[97]) (hah:ahead≤100) (hgi:gi≤1000) (hri:ri≤1000) (hfit:ahead * ((gi+ri) / 20+1)+((gi+ri) / 20+1)=st):
  AskF pw_qz0137_01 w (GL w L0 []) (some outer) (.fn 998 [.ref pr,.str (q tx) tt,.int (Int.ofNat st) ts]) [(f3,o3)] kn x m t i 350 (svSh st o3):=by
 intro c hc g A R gs d os h hg _ low hfr rep KK
 obtain rfl:c=.call (.ref 998) ⟨[.ref pr,.str (q tx) tt,.int (Int.ofNat st) ts],[]⟩:=hc
 have low':Low 360 A:=⟨low.1,by have:=low.2.1;omega,by have:=low.2.2;omega⟩
 have e:=ls_in w (Nat.add x m) (Nat.add t i) 0 0 pr st tt ts gi ahead (fun _=>0) o3 tx (w.params.followText "special-get-raises") (w.params.followText "comprehension-iter-twice")
 rw [← PP_self w] at e
 have s0:Sel _ [] _:=sel_spec (L:=[(f3,o3)]) (l:=[]) rfl
 refine run_call (x:=Nat.add x m) (m:=0) (t:=Nat.add t i) (i:=0) e (G0_ok w) (G0_mono w _ _ (sub_hide rep s0.sub) hg.1) low (rep.hide s0) ⟨rfl,fun h1 rep1=>?_⟩
 show codeAny (MW w) A (.func lsB (lsEnv (Nat.add x m))) R ⟨h1,gs,d,Nat.add (Nat.add t i) 3,os⟩
 have rep1:=rep.back (sh:=⟨.ok .next,[],[(Nat.add x m,lhF w.params (upI (fun _=>0) [(0,Nat.add t i),(1,a (Nat.add t i) 1),(2,tt),(3,a (Nat.add t i) 2),(4,ts)]) pr st tx)],0,0,0,0,[]⟩) s0 rfl (n':=Nat.add (Nat.add x m) 1) (h':=h1) rep1
 have rep1:Rep g [(Nat.add x m,lhF w.params (upI (fun _=>0) [(0,Nat.add t i),(1,a (Nat.add t i) 1),(2,tt),(3,a (Nat.add t i) 2),(4,ts)]) pr st tx),(f3,o3)] (Nat.add (Nat.add x m) 1) h1:=rep1
 generalize (upI (fun _=>0) [(0,Nat.add t i),(1,a (Nat.add t i) 1),(2,tt),(3,a (Nat.add t i) 2),(4,ts)])=I at rep1
 generalize Nat.add (Nat.add x m) 1=n1 at rep1
 generalize Nat.add x m=f at rep1
 generalize Nat.add (Nat.add t i) 3=t1
 have wf:(Code.func lsB (lsEnv f)).weight≤5:=weight_le rfl
 have fr2:(A.under (.func lsB (lsEnv f))).frames=some (lsEnv f::outer):=by
  show pushEnvs [lsEnv f] A.frames=_
  rw [hfr]
  rfl
 have hF1:FrOK (lsEnv f::outer) [(f,lhF w.params I pr st tx),(f3,o3)]:=⟨ls_kind f,rfl,(fun vs q=>by unfold lhF at q;cases q),hF⟩
 have hfr0:A.frames.map ([lsEnv f]++·)=some (lsEnv f::outer):=by rw [hfr];rfl
 refine own_func2 rfl lsB_eq (own_cons ?_)
 rw [lsH_eq]
 refine own_try ?_
 rw [← lsH_eq]
 have eb:=ls_b w n1 t1 f f3 pr st tt ts gi ahead I o3 tx (w.params.followText "special-get-raises") (w.params.followText "comprehension-iter-twice")
 rw [← PP_self w] at eb
 refine piece_raise (x:=n1) (m:=0) (t:=t1) (i:=0) (GL_ok (L0:=L0) (xs:=[]) (kl:=[]) (fun _ hq=>nomatch hq)) hg low' wf rep1 eb ?_
 refine ⟨ne_SR,nble rfl,fun _=>rfl,hfr0 ▸ ask_ledgerF (l:=[(f,lhF w.params I pr st tx),(f3,o3)]) (kk:=[(a n1 1,oLim n1),(n1,dLim w.params (upI (fun _=>0) [(0,a t1 8),(1,a t1 10),(2,1383),(3,a t1 12),(4,a t1 14),(5,a t1 16),(6,1392)]) (.int 64 1382) st (I 4) 100000 1389)])
   (sp_raise (M:=M) (pd:=pd) (rl:=rl) (er:=er) (r0:=r0) (r1:=r1) (e0:=e0) (e1:=e1) (e2:=e2) (tg:=tg) (tr:=tr) (nm:=nm) hF1 (fun q hq=>hq) htx hah hgi hri hfit) GL_mono (fun g hg hk=>pg_of hL hg hk) (fun _=>rfl),fun p=>⟨rfl,fun h2 rep2=>?_⟩⟩
 have rep3:Rep g [(p.T,oTb p.hd p.f .none p.pls),(p.e,oXe p.dd (.ref p.T) p.ta),(p.dd,dXe w.params p.Z st),(f,wS (lhF w.params I pr st tx) p.s2),(f3,wS o3 p.s3)] (Nat.add p.x 0) h2:=rep2
 have rep4:Rep g ((p.T,oTb p.hd p.f .none p.pls)::(p.e,oXe p.dd (.ref p.T) p.ta)::([(f,wS (lhF w.params I pr st tx) p.s2),(f3,wS o3 p.s3)]++[(p.dd,dXe w.params p.Z st)])) (Nat.add p.x 0) h2:=rep3.sel (ps:=[0,1,3,4,2]) (sel_spec rfl)
 have hF2:FrOK (lsEnv f::outer) [(f,wS (lhF w.params I pr st tx) p.s2),(f3,wS o3 p.s3)]:=by
  have h0:=hF
  cases outer with
  | nil=>exact h0.elim
  | cons e1 l1=>exact ⟨ls_kind f,rfl,(fun vs q=>by unfold wS lhF at q;cases q),h0.1,h0.2.1,h0.2.2.1,h0.2.2.2⟩
 show wpAny (MW w) (A.under (.func lsB (lsEnv f))) (noteFrame (.ref p.e) (lsEnv f)) _ _ ⟨h2,gs,d,Nat.add p.t 0,os⟩
 refine note_next fr2 hF2 rfl rep4 fun σ pls h3 rep5=>?_
 refine flight_ok (fr:=none) rep5 fun h4 rep6=>?_
 have rep7:Rep g [(Nat.add p.x 0,oTb (.ref p.T) f .none pls),(p.e,oXe p.dd (.ref (Nat.add p.x 0)) p.ta),(p.dd,dXe w.params p.Z st),(f,wS (lhF w.params I pr st tx) (σ f)),(f3,wS o3 (σ f3))] (Nat.add (Nat.add p.x 0) 1) h4:=rep6.sel (ps:=[0,1,4,2,3]) (sel_spec rfl)
 have eh:=ls_h w (Nat.add (Nat.add p.x 0) 1) (Nat.add p.t 0) f f3 pr st ts (Nat.add p.x 0) p.e p.dd p.ta f st I p.Z (.ref p.T) pls (σ f) (wS o3 (σ f3)) tx (w.params.followText "special-get-raises") (w.params.followText "comprehension-iter-twice")
 rw [← PP_self w] at eh
 exact wpOwn_mono (own_handleBy (R0:=fun r s'=>match r with | .ok (.ret v)=>R (.ok (.ret v)) s' | _=>False) (run_tree (x:=Nat.add (Nat.add p.x 0) 1) (m:=0) (t:=Nat.add p.t 0) (i:=0) eh (G0_ok w) hg.1 low' wf rep7 ⟨rfl,fun h5 rep8=>KK ⟨p.Z 3,σ f3,Nat.add (Nat.add p.x 0) 1,Nat.add (Nat.add p.t 0) 3⟩ h5 rep8⟩)) (fun fl s' hfl=>by cases fl<;>first | exact hfl | exact hfl.elim) (fun _ _ h=>h.elim)
end
end
noncomputable section
def lwE (P:Params) (I:Nat→Nat) (Vv:Nat→Value) (bdA:Nat):Obj:=
 ⟨.type "frame",none,.dict ⟨[en P (q [115,99,114,105,112,116]) (I 0) (Vv 0),en P (q [98,111,97,114,100]) (I 1) (.ref bdA),en P (q [114,117,110]) (I 2) (Vv 2),en P (q [107,101,112,116]) (I 3) (Vv 3),en P (q [115,105,103,110,115]) (I 4) (Vv 4),en P (q [115,116,101,112,115]) (I 5) (Vv 5),en P (q [116,111,108,100]) (I 6) (Vv 6),en P (q [116,117,114,110]) (I 7) (Vv 7),en P (q [102,108,97,103,115]) (I 8) (Vv 8),en P (q [116,101,120,116]) (I 9) (Vv 9),en P (q [112,114,111,103,114,97,109]) (I 10) (Vv 10),en P (q [108,97,115,116]) (I 11) (Vv 11)]⟩ 12,⟨[]⟩⟩
def lwF0 (P:Params) (t0 sl:Nat):Obj:=⟨.type "frame",none,.dict ⟨[en P (q [115,99,114,105,112,116]) t0 (.ref sl)]⟩ 1,⟨[]⟩⟩
structure LE where
 I:Nat→Nat
 Vv:Nat→Value
 n:Nat
 hn:n≤890
 tn:Nat
 o:Nat→Obj
 x:Nat
 t:Nat
theorem ne_LE:Nonempty LE:=⟨⟨fun _=>0,fun _=>.none,0,by decide,0,fun _=>oEmp,0,0⟩⟩
def leSh (P:Params) (bdA:Nat) (sv:List Value) (kk:List Obj) (p:LE):Shape:=⟨.ok .next,kk++[p.o 0,oBd p.n p.tn sv 0,lwE P p.I p.Vv bdA,p.o 1,p.o 2,p.o 3,p.o 4,p.o 5,p.o 6],[],p.x,0,p.t,0,[]⟩
def lwZ (P:Params) (I Z:Nat→Nat) (Vv:Nat→Value) (bdA g1 g2 g3 mr nd pr du:Nat):Obj:=
 ⟨.type "frame",none,.dict ⟨[en P (q [115,99,114,105,112,116]) (I 0) (Vv 0),en P (q [98,111,97,114,100]) (I 1) (.ref bdA),en P (q [114,117,110]) (I 2) (Vv 2),en P (q [107,101,112,116]) (I 3) (Vv 3),en P (q [115,105,103,110,115]) (I 4) (Vv 4),en P (q [115,116,101,112,115]) (I 5) (Vv 5),en P (q [116,111,108,100]) (I 6) (Vv 6),en P (q [116,117,114,110]) (I 7) (Vv 7),en P (q [102,108,97,103,115]) (I 8) (Vv 8),en P (q [116,101,120,116]) (I 9) (Vv 9),en P (q [112,114,111,103,114,97,109]) (I 10) (.ref pr),en P (q [108,97,115,116]) (I 11) (Vv 11),en P (q [97,104,101,97,100]) (Z 0) (.int (Int.ofNat g3) (Z 1)),en P (q [114,101,103,105,115,116,101,114,115]) (Z 2) (.int (Int.ofNat g2) (Z 3)),en P (q [103,114,111,117,112,115]) (Z 4) (.int (Int.ofNat g1) (Z 5)),en P (q [109,111,114,101]) (Z 6) (.int (Int.ofNat mr) (Z 7)),en P (q [110,101,101,100,101,100]) (Z 8) (.int (Int.ofNat nd) (Z 9)),en P (q [100,117,101]) (Z 10) (.ref du)]⟩ 18,⟨[]⟩⟩
def retV (s:Stmt):Expr:=match s with
 | .Return (some e) _=>e
 | _=>default
def retP (s:Stmt):Pos:=match s with
 | .Return _ p=>p
 | _=>default
def lwC1:Expr:=orL (retV (sAt 9 lwB))
def lwC2:Expr:=orR (retV (sAt 9 lwB))
end
noncomputable section
theorem lw_in (w:World) (x t sl ep fr cl:Nat) (I:Nat→Nat) (items:List Value) (b1 b2:Bool):go (PP w b1 b2) [(sl,oLst items ep)] 305 100000 (.call (.ref 1003) ⟨[.ref sl],[]⟩) [] x 0 t 0 [1,0,0,3,1,0,3] (.keep [1,0])=(ag (.func lwB (lwEnv x (a x 1))) [(x,⟨.type "frame",none,.dict ⟨[en (PP w b1 b2) (q [115,99,114,105,112,116]) t (.ref sl)]⟩ 1,⟨[]⟩⟩),((a x 1),⟨.type "cell",none,.cell none,⟨[]⟩⟩)] x 2 t 1 [x,x]):=by revert b1 b2;apply bq2<;>kernel_rfl
theorem lw_b (w:World) (x t t0 sl ep fr cl:Nat) (items:List Value) (gl:Nat→List Value) (b1 b2:Bool):goT (PP w b1 b2) [(sl,oLst items ep)] 305 100000 (.func lwB (lwEnv fr cl)) (exT (List.take 9 lwB) (lwEnv fr cl)) [(fr,lwF0 (PP w b1 b2) t0 sl),(cl,oCl false 0)] x 0 t 0 [3,1,0,1,0,1,0,0,1,0,2,4,2,4,0,4,2,6,4,0,0,0,6,0,2,0,2,0,0,0,0,0,0,0,0,0,0,0,0,0,0,0,0,0,0,0,0,0,0,0,0,0,0,0,0,0,0,0,0,0,2,0,2,0,0,0,0,1,0,0,0,2,0,2,0,2,0,2,0,2,0,2,0,0,0,2,2,3,0,0,0,0,3,0,0,3,0,3,0,0,0,3,0,4,2,4,2,2,3,0,0,0,0,3,0,0,3,0,3,0,0,0,3,0,4,2,4,2,2,3,0,0,0,0,3,0,0,3,0,3,0,0,0,3,0,4,2,4,2,2,3,0,0,0,0,3,0,0,3,0,3,0,0,0,3,0,4,2,4,2,2,3,0,0,0,0,3,0,0,3,0,3,0,0,0,3,0,4,2,4,0,0,0,0,0,0,0,0,0,0,0,0,0,0,0,0,0,0,0,0,0,0,0,0,0,0,0,0,0,0,0,0,0,2,0,2,0,0,0,0,1,0,0,2,0,2,0,2,0,2,0,2,0,0,0,2,2,3,0,0,0,0,3,0,0,3,0,3,0,0,0,3,0,4,2,4,2,2,3,0,0,0,0,3,0,0,3,0,3,0,0,0,3,0,4,2,4,2,2,3,0,0,0,0,3,0,0,3,0,3,0,0,0,3,0,4,2,4,2,2,3,0,0,0,0,3,0,0,3,0,3,0,0,0,3,0,4,2,4,3,4,0,0,0,0,4,0,0,4,0,4,0,0,0,4,0,5,3,5,4,5,0,0,0,0,5,0,0,5,0,5,0,0,0,5,0,6,4,6,5,6,0,0,0,0,6,0,0,6,0,6,0,0,0,6,0,7,5,7,6,7,0,0,0,0,7,0,0,7,0,7,0,0,0,7,0,8,6,8,7,8,0,0,0,0,8,0,0,8,0,8,0,0,0,8,0,9,7,9,8,9,0,0,0,0,9,0,0,9,0,9,0,0,0,9,0,10,8,10,9,10,0,0,0,0,10,0,0,10,0,10,0,0,0,10,0,11,9,11,10,11,0,0,0,0,11,0,0,11,0,11,0,0,0,11,0,12,10,12,11,12,0,0,0,0,12,0,0,12,0,12,0,0,0,12,0,13,11,13,11,12,0,0,0,0,12,0,0,12,0,12,0,0,0,12,0,13,11,13,12,13,0,0,0,0,13,0,0,13,0,13,0,0,0,13,0,14,12,14,12,13,0,0,0,0,13,0,0,13,0,13,0,0,0,13,0,14,12,14,12,13,0,0,0,0,13,0,0,13,0,13,0,0,0,13,0,14,12,14,12,13,0,0,0,0,13,0,0,13,0,13,0,0,0,13,0,14,12,14,12,13,0,0,0,0,13,0,0,13,0,13,0,0,0,13,0,14,12,14,22,20,2,2,2,0,2,0,2,2,0,2,0,2,2,3,2,0,2,0,2,0,2,2,3,2,0,2,0,2,0,2,2,3,2,0,2,0,2,0,2,2,3,2,0,2,0,2,0,2,2,3,2,0,2,27,25,27,25,27,25,27,25,0,0,0,27,0,2,0,2,0,0,0,0,2,2,0,2,0,2,2,2,0,2,2,2,2,0,29,0,2,0,29,0,2,0,29,0,2,2,2,2,0,2,0,2,2,0,2,0,2,2,3,2,0,2,0,2,0,2,2,3,2,0,2,0,2,0,2,2,3,2,0,2,0,2,0,2,2,3,2,0,2,33,31,33,31,33,31,0,36,36,0,0,0,0,0,0,0,0,0,0,0,0,0,0,0,0,0,0,0,0,0,0,0,0,0,0,0,0,0,0,0,0,0,2,0,2,0,0,0,0,1,0,0,2,0,2,0,2,0,2,0,2,0,0,0,2,2,3,0,0,0,0,3,0,0,3,0,3,0,0,0,3,0,4,2,4,2,2,3,0,0,0,0,3,0,0,3,0,3,0,0,0,3,0,4,2,4,2,2,3,0,0,0,0,3,0,0,3,0,3,0,0,0,3,0,4,2,4,2,2,3,0,0,0,0,3,0,0,3,0,3,0,0,0,3,0,4,2,4,40,38,40,40,0,2,0,2,40,38,40,40,0,2,0,2,0,2,40,0,2,40,38,40,40,0,2,43,2,0,0,2,2,0,2,2,4,2,4,0,4,2,45,43] (.ask [0] 99 950 SL (slS [oSl .none (.int 60 (a t 1))]) fun p=>.ask [2,0] 99 950 Unit (newLs (.int 0 t::p.ys) [oLst [.int 0 t] 0,oLst p.ys 0]) fun _=>.ask [0] 99 900 (PG 40) (fun _ _=>pgSh p.ys 0 0 40) fun pg=>.val (fun t=>.int (Int.ofNat (20+pg.r)) t) 1 <| .ask [21] 99 900 (PG 12) (fun _ _=>pgSh p.ys 0 1 12) fun pg2=>.val (fun t=>.int (Int.ofNat (1+pg2.r)) t) 1 <| .ask [0] 99 950 Unit (newSh (fun x=>.ref x) (oRi 0 (1+pg2.r)) [oRg (1+pg2.r) (a pg2.t 1) pg2.t (a pg2.t 2)]) fun _=>.ask [21,22,8,0,23,27,28,18,19,7,6,9] 99 320 LE (fun _ _=>leSh (PP w b1 b2) (a x 3) p.ys [oLim pg.x,dLim (PP w b1 b2) (upI (fun _=>0) [(0,a pg.t 8),(1,a pg.t 10),(2,1383),(3,a pg.t 12),(4,a pg.t 14),(5,a pg.t 16),(6,1392)]) (.int 64 1382) 1000000 1386 (20+pg.r) pg.t,oLst [] 0]) fun le=>.ask [23] 99 900 (PG 101) (fun _ _=>pgSh p.ys 0 le.n 101) fun g1=>.ask [23] 99 900 (PG 101) (fun _ _=>pgSh p.ys 0 (le.n+1) 101) fun g2=>.ask [23] 99 900 (PG 9) (fun _ _=>pgSh p.ys 0 (le.n+2) 9) fun g3=>.val (fun t=>.int (Int.ofNat (g1.r+g2.r)) t) 1 <| .val (fun t=>.int (Int.ofNat ((g1.r+g2.r) / 20)) t) 1 <| .val (fun t=>.int (Int.ofNat (1+(g1.r+g2.r) / 20)) t) 1 <| .val (fun t=>.int (Int.ofNat (g3.r * (1+(g1.r+g2.r) / 20))) t) 1 <| .val (fun t=>.int (Int.ofNat (g3.r * (1+(g1.r+g2.r) / 20)+2)) t) 1 <| .val (fun t=>.int (Int.ofNat (g3.r * (1+(g1.r+g2.r) / 20)+2+(g1.r+g2.r) / 20)) t) 1 <| .val (fun t=>.int (Int.ofNat (g3.r+1)) t) 1 <| .ask [0] 99 950 Unit (newLs (gl g1.r) [oLst [.none] 0]) fun _=>.ask [2,0] 99 950 Unit (newLs (.ref (a g3.x 11)::gl g1.r) [oLst [.ref (a g3.x 11)] 0,oLst (gl g1.r) 0]) fun _=>.keep [43,6,7,9,11,10,0,4])=(.ask (.bi (PySem.W.S.codeS "list.__getitem__") [.ref sl,.ref (a x 1)]) [((a x 1),⟨.type "slice",none,.fields ⟨[.none,.int 60 (a t 1),.none]⟩,⟨[]⟩⟩)] [] x 2 t 2 1 950 (SL) ((slS [oSl Value.none (Value.int 60 (a t 1))]) (Nat.add x 2) (Nat.add t 2)) (fun p1=>(.ask (.bi (PySem.W.S.codeS "list.__add__") [.ref x,.ref (a x 2)]) [(x,⟨.type "list",none,.seq ⟨[.int 0 t]⟩ 0,⟨[]⟩⟩),((a x 2),⟨.type "list",none,.seq ⟨(p1.ys)⟩ 0,⟨[]⟩⟩)] [] (a x 2) 1 (a t 2) 0 1 950 (Unit) ((newLs (Value.int 0 t::p1.ys) [oLst [Value.int 0 t] 0,oLst p1.ys 0]) (Nat.add (a x 2) 1) (Nat.add (a t 2) 0)) (fun p2=>(.ask (.fn 986 [.ref (a x 3),.int 40 (a t 4)]) [((a x 3),⟨.type "list",none,.seq ⟨((.int 0 t)::p1.1)⟩ 0,⟨[]⟩⟩)] [] (a x 3) 1 (a t 2) 3 1 900 (PG 40) ((fun x x_1=>pgSh p1.ys 0 0 40) (Nat.add (a x 3) 1) (Nat.add (a t 2) 3)) (fun p3=>(.val (.bi (PySem.W.S.codeS "int.__add__") [.int 20 (a t 3),.int (Int.ofNat (p3.1)) (p3.3)]) (.int (Int.ofNat (20+p3.r)) (p3.6)) 1 (p3.6) 1 (.ask (.fn 986 [.ref (a x 3),.int 12 (a (p3.6) 69)]) [((a x 3),⟨.type "list",none,.seq ⟨((.int 1 (p3.4))::p1.1)⟩ 0,⟨[]⟩⟩)] [] (p3.5) 21 (p3.6) 70 1 900 (PG 12) ((fun x x_1=>pgSh p1.ys 0 1 12) (Nat.add (p3.5) 21) (Nat.add (p3.6) 70)) (fun p4=>(.val (.bi (PySem.W.S.codeS "int.__add__") [.int 1 (a (p3.6) 68),.int (Int.ofNat (p4.1)) (p4.3)]) (.int (Int.ofNat (1+p4.r)) (p4.6)) 1 (p4.6) 1 (.ask (.bi (PySem.W.S.codeS "range.__iter__") [.ref (p4.5)]) [((p4.5),⟨.type "range",none,.fields ⟨[.int 0 (a (p4.6) 1),.int (Int.ofNat (1+p4.r)) (p4.6),.int 1 (a (p4.6) 2)]⟩,⟨[]⟩⟩)] [] (p4.5) 1 (p4.6) 3 1 950 (Unit) ((newSh (fun x=>Value.ref x) (oRi 0 (1+p4.r)) [oRg (1+p4.r) (a p4.t 1) p4.t (a p4.t 2)]) (Nat.add (p4.5) 1) (Nat.add (p4.6) 3)) (fun p5=>(.ask (.code (lwLoop (a (p4.5) 1) fr cl)) [((a (p3.5) 1),(oLim (p3.5))),((p3.5),⟨.type "dict",none,.dict ⟨[en (PP w b1 b2) (q [119,105,100,116,104]) (a (p3.6) 8) (.int 64 1382),en (PP w b1 b2) (q [100,101,112,116,104]) (a (p3.6) 10) (.int 50 1383),en (PP w b1 b2) (q [115,116,101,112,115]) (a (p3.6) 12) (.int 1000000 1386),en (PP w b1 b2) (q [116,101,120,116]) (a (p3.6) 14) (.int (Int.ofNat (20+p3.r)) (p3.6)),en (PP w b1 b2) (q [105,116,101,109,115]) (a (p3.6) 16) (.int 10000 1392)]⟩ 5,⟨[]⟩⟩),((a (p3.5) 14),⟨.type "list",none,.seq ⟨[]⟩ 0,⟨[]⟩⟩),((a (p4.5) 1),⟨.type "range_iterator",none,.fields ⟨[.int 0 0,.int (Int.ofNat (1+p4.r)) 0,.int 1 0]⟩,⟨[]⟩⟩),((a x 3),⟨.type "list",none,.seq ⟨((.int 2 (p4.4))::p1.1)⟩ 0,⟨[]⟩⟩),(fr,⟨.type "frame",none,.dict ⟨[en (PP w b1 b2) (q [115,99,114,105,112,116]) t0 (.ref sl),en (PP w b1 b2) (q [98,111,97,114,100]) (a t 2) (.ref (a x 3)),en (PP w b1 b2) (q [114,117,110]) (a (p3.6) 61) (.ref (a (p3.5) 4)),en (PP w b1 b2) (q [107,101,112,116]) (a (p3.6) 64) (.ref (a (p3.5) 16)),en (PP w b1 b2) (q [115,105,103,110,115]) (a (p3.6) 65) (.int 0 (a (p3.6) 62)),en (PP w b1 b2) (q [115,116,101,112,115]) (a (p3.6) 66) (.int 0 (a (p3.6) 63)),en (PP w b1 b2) (q [116,111,108,100]) (a (p3.6) 67) .none]⟩ 7,⟨[]⟩⟩),(cl,⟨.type "cell",none,.cell none,⟨[]⟩⟩),((a (p3.5) 4),(oRun (a (p3.5) 3))),((a (p3.5) 3),⟨.type "dict",none,.dict ⟨[en (PP w b1 b2) (q [104,101,97,112]) (a (p3.6) 23) .none,en (PP w b1 b2) (q [99,111,117,110,116,101,114]) (a (p3.6) 25) .none,en (PP w b1 b2) (q [115,116,97,115,104]) (a (p3.6) 27) .none,en (PP w b1 b2) (q [108,105,109,105,116,115]) (a (p3.6) 29) (.ref (a (p3.5) 1)),en (PP w b1 b2) (q [110,111,100,101,115]) (a (p3.6) 31) (.ref (a (p3.5) 6)),en (PP w b1 b2) (q [108,118,115]) (a (p3.6) 33) (.ref (a (p3.5) 7)),en (PP w b1 b2) (q [115,116,97,116,101,109,101,110,116,115]) (a (p3.6) 35) (.ref (a (p3.5) 8)),en (PP w b1 b2) (q [102,117,110,99,115]) (a (p3.6) 37) (.ref (a (p3.5) 9)),en (PP w b1 b2) (q [111,112,101,114,97,116,111,114,115]) (a (p3.6) 39) (.ref (a (p3.5) 10)),en (PP w b1 b2) (q [111,117,116]) (a (p3.6) 41) (.ref (a (p3.5) 11)),en (PP w b1 b2) (q [101,114,114]) (a (p3.6) 43) (.ref (a (p3.5) 12)),en (PP w b1 b2) (q [115,97,118,101,115]) (a (p3.6) 45) (.ref (a (p3.5) 13)),en (PP w b1 b2) (q [102,114,97,109,101,115]) (a (p3.6) 47) (.ref (a (p3.5) 14)),en (PP w b1 b2) (q [109,97,116,99,104]) (a (p3.6) 49) .none,en (PP w b1 b2) (q [112,97,116,116,101,114,110,115]) (a (p3.6) 51) (.ref (a (p3.5) 15)),en (PP w b1 b2) (q [115,116,101,112,115]) (a (p3.6) 54) (.int 0 (a (p3.6) 52)),en (PP w b1 b2) (q [109,101,116,104,111,100,115]) (a (p3.6) 56) .none,en (PP w b1 b2) (q [99,97,108,108,95,99,111,100,101]) (a (p3.6) 58) .none,en (PP w b1 b2) (q [99,111,109,112,105,108,101,95,116,101,120,116]) (a (p3.6) 60) .none]⟩ 19,⟨[]⟩⟩),((a (p3.5) 15),⟨.type "dict",none,.dict ⟨[]⟩ 0,⟨[]⟩⟩),((a (p3.5) 16),⟨.type "dict",none,.dict ⟨[]⟩ 0,⟨[]⟩⟩),((a (p3.5) 13),⟨.type "list",none,.seq ⟨[]⟩ 0,⟨[]⟩⟩)] [] (a (p4.5) 1) 1 (a (p4.6) 3) 0 1 320 (Mine.LE) ((fun x_1 x_2=>leSh (PP w b1 b2) (a x 3) p1.ys [oLim p3.x,dLim (PP w b1 b2) (upI (fun x=>0) [(0,a p3.t 8),(1,a p3.t 10),(2,1383),(3,a p3.t 12),(4,a p3.t 14),(5,a p3.t 16),(6,1392)]) (Value.int 64 1382) 1000000 1386 (20+p3.r) p3.t,oLst [] 0]) (Nat.add (a (p4.5) 1) 1) (Nat.add (a (p4.6) 3) 0)) (fun p6=>(.ask (.fn 986 [.ref (a x 3),.int 101 (p6.8)]) [((a x 3),⟨.type "list",none,.seq ⟨((.int (Int.ofNat (p6.3)) (p6.5))::p1.1)⟩ 0,⟨[]⟩⟩)] [] (p6.7) 0 (p6.8) 1 1 900 (PG 101) ((fun x x_1=>pgSh p1.ys 0 p6.n 101) (Nat.add (p6.7) 0) (Nat.add (p6.8) 1)) (fun p7=>(.ask (.fn 986 [.ref (a x 3),.int 101 (p7.6)]) [((a x 3),⟨.type "list",none,.seq ⟨((.int (Int.ofNat (a (p6.3) 1)) (p7.4))::p1.1)⟩ 0,⟨[]⟩⟩)] [] (p7.5) 0 (p7.6) 1 1 900 (PG 101) ((fun x x_1=>pgSh p1.ys 0 (p6.n+1) 101) (Nat.add (p7.5) 0) (Nat.add (p7.6) 1)) (fun p8=>(.ask (.fn 986 [.ref (a x 3),.int 9 (p8.6)]) [((a x 3),⟨.type "list",none,.seq ⟨((.int (Int.ofNat (a (p6.3) 2)) (p8.4))::p1.1)⟩ 0,⟨[]⟩⟩)] [] (p8.5) 0 (p8.6) 1 1 900 (PG 9) ((fun x x_1=>pgSh p1.ys 0 (p6.n+2) 9) (Nat.add (p8.5) 0) (Nat.add (p8.6) 1)) (fun p9=>(.val (.bi (PySem.W.S.codeS "int.__add__") [.int (Int.ofNat (p7.1)) (p7.3),.int (Int.ofNat (p8.1)) (p8.3)]) (.int (Int.ofNat (p7.r+p8.r)) (a (p9.6) 20)) 1 (a (p9.6) 20) 1 (.val (.bi (PySem.W.S.codeS "int.__floordiv__") [.int (Int.ofNat (p7.r+p8.r)) (a (p9.6) 20),.int 20 (a (p9.6) 21)]) (.int (Int.ofNat ((p7.r+p8.r) / 20)) (a (p9.6) 22)) 1 (a (p9.6) 22) 1 (.val (.bi (PySem.W.S.codeS "int.__add__") [.int 1 (a (p9.6) 24),.int (Int.ofNat ((p7.r+p8.r) / 20)) (a (p9.6) 22)]) (.int (Int.ofNat (1+(p7.r+p8.r) / 20)) (a (p9.6) 25)) 1 (a (p9.6) 25) 1 (.val (.bi (PySem.W.S.codeS "int.__mul__") [.int (Int.ofNat (p9.1)) (p9.3),.int (Int.ofNat (1+(p7.r+p8.r) / 20)) (a (p9.6) 25)]) (.int (Int.ofNat (p9.r * (1+(p7.r+p8.r) / 20))) (a (p9.6) 26)) 1 (a (p9.6) 26) 1 (.val (.bi (PySem.W.S.codeS "int.__add__") [.int (Int.ofNat (p9.r * (1+(p7.r+p8.r) / 20))) (a (p9.6) 26),.int 2 (a (p9.6) 27)]) (.int (Int.ofNat (a (p9.r * (1+(p7.r+p8.r) / 20)) 2)) (a (p9.6) 28)) 1 (a (p9.6) 28) 1 (.val (.bi (PySem.W.S.codeS "int.__add__") [.int (Int.ofNat (a (p9.r * (1+(p7.r+p8.r) / 20)) 2)) (a (p9.6) 28),.int (Int.ofNat ((p7.r+p8.r) / 20)) (a (p9.6) 22)]) (.int (Int.ofNat (p9.r * (1+(p7.r+p8.r) / 20)+2+(p7.r+p8.r) / 20)) (a (p9.6) 29)) 1 (a (p9.6) 29) 1 (.val (.bi (PySem.W.S.codeS "int.__add__") [.int (Int.ofNat (p9.1)) (p9.3),.int 1 (a (p9.6) 31)]) (.int (Int.ofNat (a (p9.1) 1)) (a (p9.6) 32)) 1 (a (p9.6) 32) 1 (.ask (.bi (PySem.W.S.codeS "list.__mul__") [.ref (a (p9.5) 13),.int (Int.ofNat (p7.1)) (p7.3)]) [((a (p9.5) 13),⟨.type "list",none,.seq ⟨[.none]⟩ 0,⟨[]⟩⟩)] [] (p9.5) 14 (p9.6) 33 1 950 (Unit) ((newLs (gl p7.r) [oLst [Value.none] 0]) (Nat.add (p9.5) 14) (Nat.add (p9.6) 33)) (fun p10=>(.ask (.bi (PySem.W.S.codeS "list.__add__") [.ref (a (p9.5) 12),.ref (a (p9.5) 14)]) [((a (p9.5) 12),⟨.type "list",none,.seq ⟨[.ref (a (p9.5) 11)]⟩ 0,⟨[]⟩⟩),((a (p9.5) 14),⟨.type "list",none,.seq ⟨(gl p7.r)⟩ 0,⟨[]⟩⟩)] [] (a (p9.5) 14) 1 (a (p9.6) 33) 0 1 950 (Unit) ((newLs (Value.ref (a p9.x 11)::gl p7.r) [oLst [Value.ref (a p9.x 11)] 0,oLst (gl p7.r) 0]) (Nat.add (a (p9.5) 14) 1) (Nat.add (a (p9.6) 33) 0)) (fun p11=>(dn (.ok .next) ([(fr,⟨.type "frame",none,.dict ⟨[en (PP w b1 b2) (q [115,99,114,105,112,116]) (p6.1 0) (p6.2 0),en (PP w b1 b2) (q [98,111,97,114,100]) (p6.1 1) (.ref (a x 3)),en (PP w b1 b2) (q [114,117,110]) (p6.1 2) (p6.2 2),en (PP w b1 b2) (q [107,101,112,116]) (p6.1 3) (p6.2 3),en (PP w b1 b2) (q [115,105,103,110,115]) (p6.1 4) (p6.2 4),en (PP w b1 b2) (q [115,116,101,112,115]) (p6.1 5) (p6.2 5),en (PP w b1 b2) (q [116,111,108,100]) (p6.1 6) (p6.2 6),en (PP w b1 b2) (q [116,117,114,110]) (p6.1 7) (p6.2 7),en (PP w b1 b2) (q [102,108,97,103,115]) (p6.1 8) (p6.2 8),en (PP w b1 b2) (q [116,101,120,116]) (p6.1 9) (p6.2 9),en (PP w b1 b2) (q [112,114,111,103,114,97,109]) (p6.1 10) (.ref (a (p9.5) 9)),en (PP w b1 b2) (q [108,97,115,116]) (p6.1 11) (p6.2 11),en (PP w b1 b2) (q [97,104,101,97,100]) (p9.6) (.int (Int.ofNat (p9.1)) (p9.3)),en (PP w b1 b2) (q [114,101,103,105,115,116,101,114,115]) (a (p9.6) 1) (.int (Int.ofNat (p8.1)) (p8.3)),en (PP w b1 b2) (q [103,114,111,117,112,115]) (a (p9.6) 2) (.int (Int.ofNat (p7.1)) (p7.3)),en (PP w b1 b2) (q [109,111,114,101]) (a (p9.6) 23) (.int (Int.ofNat ((p7.r+p8.r) / 20)) (a (p9.6) 22)),en (PP w b1 b2) (q [110,101,101,100,101,100]) (a (p9.6) 30) (.int (Int.ofNat (p9.r * (1+(p7.r+p8.r) / 20)+2+(p7.r+p8.r) / 20)) (a (p9.6) 29)),en (PP w b1 b2) (q [100,117,101]) (a (p9.6) 33) (.ref (a (p9.5) 15))]⟩ 18,⟨[]⟩⟩),((a (p9.5) 9),(oPr (a (p9.5) 8))),((a (p9.5) 8),⟨.type "dict",none,.dict ⟨[en (PP w b1 b2) (q [114,111,119,115]) (a (p9.6) 12) (.ref (a (p9.5) 6)),en (PP w b1 b2) (q [103,114,111,117,112,115]) (a (p9.6) 14) (.int (Int.ofNat (p7.1)) (p7.3)),en (PP w b1 b2) (q [114,101,103,105,115,116,101,114,115]) (a (p9.6) 16) (.int (Int.ofNat (p8.1)) (p8.3)),en (PP w b1 b2) (q [110,97,109,101,115]) (a (p9.6) 18) (.ref (a (p9.5) 7))]⟩ 4,⟨[]⟩⟩),((a (p9.5) 6),⟨.type "list",none,.seq ⟨[.ref (a (p9.5) 4),.ref (a (p9.5) 5)]⟩ 0,⟨[]⟩⟩),((a (p9.5) 4),⟨.type "tuple",none,.seq ⟨[.str (q [115,105,103,110]) (a (p9.6) 3),.str (q [97]) (a (p9.6) 4),.bool false]⟩ 0,⟨[]⟩⟩),((a (p9.5) 5),⟨.type "tuple",none,.seq ⟨[.str (q [101,110,100]) (a (p9.6) 5)]⟩ 0,⟨[]⟩⟩),((a (p9.5) 15),⟨.type "list",none,.seq ⟨((.ref (a (p9.5) 11))::gl p7.r)⟩ 0,⟨[]⟩⟩),((a (p9.5) 11),⟨.type "tuple",none,.seq ⟨[.int (Int.ofNat (p9.1)) (p9.3),.int (Int.ofNat (a (p9.1) 1)) (a (p9.6) 32)]⟩ 0,⟨[]⟩⟩)]) (a (p9.5) 15) 1 (a (p9.6) 33) 1 [fr,fr,(a (p9.5) 12),(a (p9.5) 12),(a (p9.5) 14),(a (p9.5) 12),(a (p9.5) 13),(a (p9.5) 13),(a (p9.5) 13),(a (p9.5) 13),fr,fr,fr,fr,fr,fr,fr,fr,fr,fr,fr,fr,fr,fr,(a (p9.5) 8),(a (p9.5) 8),(a (p9.5) 8),(a (p9.5) 9),(a (p9.5) 9),(a (p9.5) 9),(a (p9.5) 9),(a (p9.5) 9),(a (p9.5) 10),(a (p9.5) 10),(a (p9.5) 8),(a (p9.5) 8),(a (p9.5) 8),(a (p9.5) 9),(a (p9.5) 9),(a (p9.5) 9),(a (p9.5) 9),(a (p9.5) 9),(a (p9.5) 10),(a (p9.5) 10),(a (p9.5) 8),(a (p9.5) 8),(a (p9.5) 8),(a (p9.5) 9),(a (p9.5) 9),(a (p9.5) 9),(a (p9.5) 9),(a (p9.5) 9),(a (p9.5) 10),(a (p9.5) 10),(a (p9.5) 8),(a (p9.5) 8),(a (p9.5) 8),(a (p9.5) 9),(a (p9.5) 9),(a (p9.5) 9),(a (p9.5) 9),(a (p9.5) 9),(a (p9.5) 10),(a (p9.5) 10),(a (p9.5) 10),(a (p9.5) 10),(a (p9.5) 10),(a (p9.5) 10),(a (p9.5) 10),(a (p9.5) 10),(a (p9.5) 10),(a (p9.5) 10),(a (p9.5) 10),(a (p9.5) 10),(a (p9.5) 9),(a (p9.5) 9),fr,fr,fr,fr,fr,fr,fr,fr,(a (p9.5) 3),(a (p9.5) 1),(a (p9.5) 1),(p9.5),(a (p9.5) 1),(a (p9.5) 1),(a (p9.5) 1),(a (p9.5) 1),(a (p9.5) 1),(a (p9.5) 1),(p9.5),(a (p9.5) 1),(a (p9.5) 1),(a (p9.5) 1),(a (p9.5) 1),(a (p9.5) 1),(a (p9.5) 1),(p9.5),(a (p9.5) 1),(a (p9.5) 1),(a (p9.5) 1),(a (p9.5) 1),(a (p9.5) 1),(a (p9.5) 1),(p9.5),(a (p9.5) 1),(a (p9.5) 1),(a (p9.5) 1),(a (p9.5) 1),(a (p9.5) 1),(p9.5),(p9.5),(p9.5),(p9.5),fr,fr,fr,(a (p4.5) 1),(p4.5),(p4.5),(p4.5),(p4.5),(p4.5),(p4.5),(p4.5),fr,fr,fr,fr,fr,fr,fr,fr,fr,(a (p3.5) 20),(a (p3.5) 18),(a (p3.5) 18),(a (p3.5) 17),(a (p3.5) 18),(a (p3.5) 18),(a (p3.5) 18),(a (p3.5) 18),(a (p3.5) 18),(a (p3.5) 18),(a (p3.5) 17),(a (p3.5) 18),(a (p3.5) 18),(a (p3.5) 18),(a (p3.5) 18),(a (p3.5) 18),(a (p3.5) 18),(a (p3.5) 17),(a (p3.5) 18),(a (p3.5) 18),(a (p3.5) 18),(a (p3.5) 18),(a (p3.5) 18),(a (p3.5) 18),(a (p3.5) 17),(a (p3.5) 18),(a (p3.5) 18),(a (p3.5) 18),(a (p3.5) 18),(a (p3.5) 18),(a (p3.5) 18),(a (p3.5) 17),(a (p3.5) 18),(a (p3.5) 18),(a (p3.5) 18),(a (p3.5) 18),(a (p3.5) 18),(a (p3.5) 17),(a (p3.5) 17),(a (p3.5) 17),(a (p3.5) 17),fr,fr,(a (p3.5) 3),(a (p3.5) 3),(a (p3.5) 3),(a (p3.5) 4),(a (p3.5) 4),(a (p3.5) 4),(a (p3.5) 4),(a (p3.5) 4),(a (p3.5) 5),(a (p3.5) 3),(a (p3.5) 3),(a (p3.5) 3),(a (p3.5) 4),(a (p3.5) 4),(a (p3.5) 4),(a (p3.5) 4),(a (p3.5) 4),(a (p3.5) 5),(a (p3.5) 3),(a (p3.5) 3),(a (p3.5) 3),(a (p3.5) 4),(a (p3.5) 4),(a (p3.5) 4),(a (p3.5) 4),(a (p3.5) 4),(a (p3.5) 5),(a (p3.5) 3),(a (p3.5) 3),(a (p3.5) 3),(a (p3.5) 4),(a (p3.5) 4),(a (p3.5) 4),(a (p3.5) 4),(a (p3.5) 4),(a (p3.5) 5),(a (p3.5) 3),(a (p3.5) 3),(a (p3.5) 3),(a (p3.5) 4),(a (p3.5) 4),(a (p3.5) 4),(a (p3.5) 4),(a (p3.5) 4),(a (p3.5) 5),(a (p3.5) 3),(a (p3.5) 3),(a (p3.5) 3),(a (p3.5) 4),(a (p3.5) 4),(a (p3.5) 4),(a (p3.5) 4),(a (p3.5) 4),(a (p3.5) 5),(a (p3.5) 3),(a (p3.5) 3),(a (p3.5) 3),(a (p3.5) 4),(a (p3.5) 4),(a (p3.5) 4),(a (p3.5) 4),(a (p3.5) 4),(a (p3.5) 5),(a (p3.5) 3),(a (p3.5) 3),(a (p3.5) 3),(a (p3.5) 4),(a (p3.5) 4),(a (p3.5) 4),(a (p3.5) 4),(a (p3.5) 4),(a (p3.5) 5),(a (p3.5) 3),(a (p3.5) 3),(a (p3.5) 3),(a (p3.5) 4),(a (p3.5) 4),(a (p3.5) 4),(a (p3.5) 4),(a (p3.5) 4),(a (p3.5) 5),(a (p3.5) 3),(a (p3.5) 3),(a (p3.5) 3),(a (p3.5) 4),(a (p3.5) 4),(a (p3.5) 4),(a (p3.5) 4),(a (p3.5) 4),(a (p3.5) 5),(a (p3.5) 3),(a (p3.5) 3),(a (p3.5) 3),(a (p3.5) 4),(a (p3.5) 4),(a (p3.5) 4),(a (p3.5) 4),(a (p3.5) 4),(a (p3.5) 5),(a (p3.5) 3),(a (p3.5) 3),(a (p3.5) 3),(a (p3.5) 4),(a (p3.5) 4),(a (p3.5) 4),(a (p3.5) 4),(a (p3.5) 4),(a (p3.5) 5),(a (p3.5) 3),(a (p3.5) 3),(a (p3.5) 3),(a (p3.5) 4),(a (p3.5) 4),(a (p3.5) 4),(a (p3.5) 4),(a (p3.5) 4),(a (p3.5) 5),(a (p3.5) 3),(a (p3.5) 3),(a (p3.5) 3),(a (p3.5) 4),(a (p3.5) 4),(a (p3.5) 4),(a (p3.5) 4),(a (p3.5) 4),(a (p3.5) 5),(a (p3.5) 3),(a (p3.5) 3),(a (p3.5) 3),(a (p3.5) 4),(a (p3.5) 4),(a (p3.5) 4),(a (p3.5) 4),(a (p3.5) 4),(a (p3.5) 5),(a (p3.5) 3),(a (p3.5) 3),(a (p3.5) 3),(a (p3.5) 4),(a (p3.5) 4),(a (p3.5) 4),(a (p3.5) 4),(a (p3.5) 4),(a (p3.5) 5),(a (p3.5) 5),(a (p3.5) 3),(a (p3.5) 3),(a (p3.5) 3),(a (p3.5) 4),(a (p3.5) 4),(a (p3.5) 4),(a (p3.5) 4),(a (p3.5) 4),(a (p3.5) 5),(a (p3.5) 5),(a (p3.5) 3),(a (p3.5) 3),(a (p3.5) 3),(a (p3.5) 4),(a (p3.5) 4),(a (p3.5) 4),(a (p3.5) 4),(a (p3.5) 4),(a (p3.5) 5),(a (p3.5) 5),(a (p3.5) 3),(a (p3.5) 3),(a (p3.5) 3),(a (p3.5) 4),(a (p3.5) 4),(a (p3.5) 4),(a (p3.5) 4),(a (p3.5) 4),(a (p3.5) 5),(a (p3.5) 5),(a (p3.5) 5),(a (p3.5) 5),(a (p3.5) 5),(a (p3.5) 5),(a (p3.5) 5),(a (p3.5) 5),(a (p3.5) 5),(a (p3.5) 5),(a (p3.5) 5),(a (p3.5) 5),(a (p3.5) 4),(a (p3.5) 4),(p3.5),(p3.5),(p3.5),(a (p3.5) 1),(a (p3.5) 1),(a (p3.5) 1),(a (p3.5) 1),(a (p3.5) 1),(a (p3.5) 2),(a (p3.5) 2),(p3.5),(p3.5),(p3.5),(a (p3.5) 1),(a (p3.5) 1),(a (p3.5) 1),(a (p3.5) 1),(a (p3.5) 1),(a (p3.5) 2),(a (p3.5) 2),(p3.5),(p3.5),(p3.5),(a (p3.5) 1),(a (p3.5) 1),(a (p3.5) 1),(a (p3.5) 1),(a (p3.5) 1),(a (p3.5) 2),(a (p3.5) 2),(p3.5),(p3.5),(p3.5),(a (p3.5) 1),(a (p3.5) 1),(a (p3.5) 1),(a (p3.5) 1),(a (p3.5) 1),(a (p3.5) 2),(a (p3.5) 2),(p3.5),(p3.5),(p3.5),(a (p3.5) 1),(a (p3.5) 1),(a (p3.5) 1),(a (p3.5) 1),(a (p3.5) 1),(a (p3.5) 2),(a (p3.5) 2),(a (p3.5) 2),(a (p3.5) 2),(a (p3.5) 2),(a (p3.5) 2),(a (p3.5) 2),(a (p3.5) 2),(a (p3.5) 2),(a (p3.5) 2),(a (p3.5) 2),(a (p3.5) 2),(a (p3.5) 2),(a (p3.5) 2),(a (p3.5) 1),(a (p3.5) 1),fr,fr,fr,x,x,(a x 2),x,sl,sl,sl,sl,fr])))))))))))))))))))))))))))))))):=by revert b1 b2;apply bq2<;>kernel_rfl
theorem lz_1 (w:World) (x t U1 U2 fr cl bdA g1 g2 g3 mr nd pr du f3:Nat) (I Z:Nat→Nat) (Vv:Nat→Value) (tx ty:List Nat) (m1 m2 b1 b2:Bool):goT (PP w b1 b2) [] 305 100000 (.func lwB (lwEnv fr cl)) (evT (cmpL lwC1) (lwEnv fr cl)) [(fr,lwZ (PP w b1 b2) I Z Vv bdA g1 g2 g3 mr nd pr du)] x 0 t 0 [0,2,2,0,0,0,2,0,2,2,0,2] (.val (fun t=>.str (q ty) (cond m1 t U1)) (cond m1 1 0) <| .val (fun t=>.str (q tx) (cond m2 t U2)) (cond m2 1 0) <| .ask [] 99 350 SN (fun _ _=>snSh g1 g3) fun p=>.keep [2,0,1])=(.val (.bi (PySem.W.S.codeS "str.__mul__") [.str (q [98]) t,.int (Int.ofNat g3) (Z 1)]) (.str (q (ty)) (cond m1 (a t 1) U1)) (cond m1 1 0) (a t 1) 1 (.val (.bi (PySem.W.S.codeS "str.__add__") [.str (q (ty)) (cond m1 (a t 1) U1),.str (q [97]) (a t (cond m1 2 1))]) (.str (q (tx)) (cond m2 (a t (cond m1 3 2)) U2)) (cond m2 1 0) (a t (cond m1 3 2)) 1 (.ask (.fn 998 [.ref pr,.str (q (tx)) (cond m2 (a t (cond m1 3 2)) U2),.int (Int.ofNat nd) (Z 9)]) [] [] x 0 t (cond m1 (cond m2 4 3) (cond m2 3 2)) 1 350 (SN) ((fun x x_1=>snSh g1 g3) (Nat.add x 0) (Nat.add t (cond m1 (cond m2 4 3) (cond m2 3 2)))) (fun p1=>(dn (.ok (.ret (.ref (p1.1)))) ([(fr,⟨.type "frame",none,.dict ⟨[en (PP w b1 b2) (q [115,99,114,105,112,116]) (I 0) (Vv 0),en (PP w b1 b2) (q [98,111,97,114,100]) (I 1) (.ref bdA),en (PP w b1 b2) (q [114,117,110]) (I 2) (Vv 2),en (PP w b1 b2) (q [107,101,112,116]) (I 3) (Vv 3),en (PP w b1 b2) (q [115,105,103,110,115]) (I 4) (Vv 4),en (PP w b1 b2) (q [115,116,101,112,115]) (I 5) (Vv 5),en (PP w b1 b2) (q [116,111,108,100]) (I 6) (Vv 6),en (PP w b1 b2) (q [116,117,114,110]) (I 7) (Vv 7),en (PP w b1 b2) (q [102,108,97,103,115]) (I 8) (Vv 8),en (PP w b1 b2) (q [116,101,120,116]) (I 9) (Vv 9),en (PP w b1 b2) (q [112,114,111,103,114,97,109]) (I 10) (.ref pr),en (PP w b1 b2) (q [108,97,115,116]) (I 11) (Vv 11),en (PP w b1 b2) (q [97,104,101,97,100]) (Z 0) (.int (Int.ofNat g3) (Z 1)),en (PP w b1 b2) (q [114,101,103,105,115,116,101,114,115]) (Z 2) (.int (Int.ofNat g2) (Z 3)),en (PP w b1 b2) (q [103,114,111,117,112,115]) (Z 4) (.int (Int.ofNat g1) (Z 5)),en (PP w b1 b2) (q [109,111,114,101]) (Z 6) (.int (Int.ofNat mr) (Z 7)),en (PP w b1 b2) (q [110,101,101,100,101,100]) (Z 8) (.int (Int.ofNat nd) (Z 9)),en (PP w b1 b2) (q [100,117,101]) (Z 10) (.ref du)]⟩ 18,⟨[]⟩⟩),((p1.1),⟨.type "list",none,.seq ⟨((.ref (p1.2))::(List.replicate g1 .none))⟩ 0,⟨[]⟩⟩),((p1.2),⟨.type "tuple",none,.seq ⟨[.int (Int.ofNat g3) (p1.3),.int (Int.ofNat (a g3 1)) (p1.4)]⟩ 0,⟨[]⟩⟩)]) (p1.5) 0 (p1.6) 0 [fr,fr,fr]))))):=by revert m1 m2 b1 b2;apply bq4<;>kernel_rfl
theorem lz_2 (w:World) (x t U1 U2 fr cl bdA g1 g2 g3 mr nd pr du f3:Nat) (I Z:Nat→Nat) (Vv:Nat→Value) (tx ty:List Nat) (b1 b2:Bool):goT (PP w b1 b2) [] 305 100000 (.func lwB (lwEnv fr cl)) (evT (cmpR lwC1) (lwEnv fr cl)) [(fr,lwZ (PP w b1 b2) I Z Vv bdA g1 g2 g3 mr nd pr du)] x 0 t 0 [2] (.keep [0])=(dn (.ok (.ret (.ref du))) ([(fr,⟨.type "frame",none,.dict ⟨[en (PP w b1 b2) (q [115,99,114,105,112,116]) (I 0) (Vv 0),en (PP w b1 b2) (q [98,111,97,114,100]) (I 1) (.ref bdA),en (PP w b1 b2) (q [114,117,110]) (I 2) (Vv 2),en (PP w b1 b2) (q [107,101,112,116]) (I 3) (Vv 3),en (PP w b1 b2) (q [115,105,103,110,115]) (I 4) (Vv 4),en (PP w b1 b2) (q [115,116,101,112,115]) (I 5) (Vv 5),en (PP w b1 b2) (q [116,111,108,100]) (I 6) (Vv 6),en (PP w b1 b2) (q [116,117,114,110]) (I 7) (Vv 7),en (PP w b1 b2) (q [102,108,97,103,115]) (I 8) (Vv 8),en (PP w b1 b2) (q [116,101,120,116]) (I 9) (Vv 9),en (PP w b1 b2) (q [112,114,111,103,114,97,109]) (I 10) (.ref pr),en (PP w b1 b2) (q [108,97,115,116]) (I 11) (Vv 11),en (PP w b1 b2) (q [97,104,101,97,100]) (Z 0) (.int (Int.ofNat g3) (Z 1)),en (PP w b1 b2) (q [114,101,103,105,115,116,101,114,115]) (Z 2) (.int (Int.ofNat g2) (Z 3)),en (PP w b1 b2) (q [103,114,111,117,112,115]) (Z 4) (.int (Int.ofNat g1) (Z 5)),en (PP w b1 b2) (q [109,111,114,101]) (Z 6) (.int (Int.ofNat mr) (Z 7)),en (PP w b1 b2) (q [110,101,101,100,101,100]) (Z 8) (.int (Int.ofNat nd) (Z 9)),en (PP w b1 b2) (q [100,117,101]) (Z 10) (.ref du)]⟩ 18,⟨[]⟩⟩)]) x 0 t 0 [fr]):=by revert b1 b2;apply bq2<;>kernel_rfl
theorem lz_3 (w:World) (x t U1 U2 fr cl bdA g1 g2 g3 mr nd pr du f3:Nat) (I Z:Nat→Nat) (Vv:Nat→Value) (tx ty:List Nat) (m1 m2 b1 b2:Bool):goT (PP w b1 b2) [] 305 100000 (.func lwB (lwEnv fr cl)) (evT lwC2 (lwEnv fr cl)) [(fr,lwZ (PP w b1 b2) I Z Vv bdA g1 g2 g3 mr nd pr du)] x 0 t 0 [0,2,2,0,0,0,2,0,2,2,0,2,0,2,2,0,2,0,2] (.val (fun t=>.str (q ty) (cond m1 t U1)) (cond m1 1 0) <| .val (fun t=>.str (q tx) (cond m2 t U2)) (cond m2 1 0) <| .val (fun t=>.int (Int.ofNat (nd - 1)) t) 1 <| .askF [lwEnv fr cl] [0] 99 350 SV (fun _ _=>svSh (nd - 1) (lwZ (PP w b1 b2) I Z Vv bdA g1 g2 g3 mr nd pr du)) fun p=>.val (fun t=>.int (Int.ofNat (nd - 1)) t) 1 <| .val (fun _=>.bool true) 0 <| .keep [0])=(.val (.bi (PySem.W.S.codeS "str.__mul__") [.str (q [98]) t,.int (Int.ofNat g3) (Z 1)]) (.str (q (ty)) (cond m1 (a t 1) U1)) (cond m1 1 0) (a t 1) 1 (.val (.bi (PySem.W.S.codeS "str.__add__") [.str (q (ty)) (cond m1 (a t 1) U1),.str (q [97]) (a t (cond m1 2 1))]) (.str (q (tx)) (cond m2 (a t (cond m1 3 2)) U2)) (cond m2 1 0) (a t (cond m1 3 2)) 1 (.val (.bi (PySem.W.S.codeS "int.__sub__") [.int (Int.ofNat nd) (Z 9),.int 1 (a t (cond m1 (cond m2 4 3) (cond m2 3 2)))]) (.int (Int.ofNat (nd - 1)) (a t (cond m1 (cond m2 5 4) (cond m2 4 3)))) 1 (a t (cond m1 (cond m2 5 4) (cond m2 4 3))) 1 (.askF (.fn 998 [.ref pr,.str (q (tx)) (cond m2 (a t (cond m1 3 2)) U2),.int (Int.ofNat (nd - 1)) (a t (cond m1 (cond m2 5 4) (cond m2 4 3)))]) ([lwEnv fr cl]) [(fr,⟨.type "frame",none,.dict ⟨[en (PP w b1 b2) (q [115,99,114,105,112,116]) (I 0) (Vv 0),en (PP w b1 b2) (q [98,111,97,114,100]) (I 1) (.ref bdA),en (PP w b1 b2) (q [114,117,110]) (I 2) (Vv 2),en (PP w b1 b2) (q [107,101,112,116]) (I 3) (Vv 3),en (PP w b1 b2) (q [115,105,103,110,115]) (I 4) (Vv 4),en (PP w b1 b2) (q [115,116,101,112,115]) (I 5) (Vv 5),en (PP w b1 b2) (q [116,111,108,100]) (I 6) (Vv 6),en (PP w b1 b2) (q [116,117,114,110]) (I 7) (Vv 7),en (PP w b1 b2) (q [102,108,97,103,115]) (I 8) (Vv 8),en (PP w b1 b2) (q [116,101,120,116]) (I 9) (Vv 9),en (PP w b1 b2) (q [112,114,111,103,114,97,109]) (I 10) (.ref pr),en (PP w b1 b2) (q [108,97,115,116]) (I 11) (Vv 11),en (PP w b1 b2) (q [97,104,101,97,100]) (Z 0) (.int (Int.ofNat g3) (Z 1)),en (PP w b1 b2) (q [114,101,103,105,115,116,101,114,115]) (Z 2) (.int (Int.ofNat g2) (Z 3)),en (PP w b1 b2) (q [103,114,111,117,112,115]) (Z 4) (.int (Int.ofNat g1) (Z 5)),en (PP w b1 b2) (q [109,111,114,101]) (Z 6) (.int (Int.ofNat mr) (Z 7)),en (PP w b1 b2) (q [110,101,101,100,101,100]) (Z 8) (.int (Int.ofNat nd) (Z 9)),en (PP w b1 b2) (q [100,117,101]) (Z 10) (.ref du)]⟩ 18,⟨[]⟩⟩)] [] x 0 t (cond m1 (cond m2 6 5) (cond m2 5 4)) 1 350 (SV) ((fun x x_1=>svSh (nd - 1) (lwZ (PP w b1 b2) I Z Vv bdA g1 g2 g3 mr nd pr du)) (Nat.add x 0) (Nat.add t (cond m1 (cond m2 6 5) (cond m2 5 4)))) (fun p1=>(.val (.bi (PySem.W.S.codeS "int.__sub__") [.int (Int.ofNat nd) (Z 9),.int 1 (p1.4)]) (.int (Int.ofNat (nd - 1)) (a (p1.4) 1)) 1 (a (p1.4) 1) 1 (.val (.bi (PySem.W.S.codeS "int.__eq__") [.int (Int.ofNat (nd - 1)) (p1.1),.int (Int.ofNat (nd - 1)) (a (p1.4) 1)]) (.bool true) 0 (a (p1.4) 2) 1 (dn (.ok (.ret (.bool true))) ([(fr,⟨.type "frame",none,.dict ⟨[en (PP w b1 b2) (q [115,99,114,105,112,116]) (I 0) (Vv 0),en (PP w b1 b2) (q [98,111,97,114,100]) (I 1) (.ref bdA),en (PP w b1 b2) (q [114,117,110]) (I 2) (Vv 2),en (PP w b1 b2) (q [107,101,112,116]) (I 3) (Vv 3),en (PP w b1 b2) (q [115,105,103,110,115]) (I 4) (Vv 4),en (PP w b1 b2) (q [115,116,101,112,115]) (I 5) (Vv 5),en (PP w b1 b2) (q [116,111,108,100]) (I 6) (Vv 6),en (PP w b1 b2) (q [116,117,114,110]) (I 7) (Vv 7),en (PP w b1 b2) (q [102,108,97,103,115]) (I 8) (Vv 8),en (PP w b1 b2) (q [116,101,120,116]) (I 9) (Vv 9),en (PP w b1 b2) (q [112,114,111,103,114,97,109]) (I 10) (.ref pr),en (PP w b1 b2) (q [108,97,115,116]) (I 11) (Vv 11),en (PP w b1 b2) (q [97,104,101,97,100]) (Z 0) (.int (Int.ofNat g3) (Z 1)),en (PP w b1 b2) (q [114,101,103,105,115,116,101,114,115]) (Z 2) (.int (Int.ofNat g2) (Z 3)),en (PP w b1 b2) (q [103,114,111,117,112,115]) (Z 4) (.int (Int.ofNat g1) (Z 5)),en (PP w b1 b2) (q [109,111,114,101]) (Z 6) (.int (Int.ofNat mr) (Z 7)),en (PP w b1 b2) (q [110,101,101,100,101,100]) (Z 8) (.int (Int.ofNat nd) (Z 9)),en (PP w b1 b2) (q [100,117,101]) (Z 10) (.ref du)]⟩ 18,(p1.2)⟩)]) (p1.3) 0 (p1.4) 2 [fr,fr,fr,fr])))))))):=by revert m1 m2 b1 b2;apply bq4<;>kernel_rfl
theorem lsliceG {w:World} {G:Heap→Prop} {kn:Led} {l sl e x m t i D u:Nat} {k:Int} {items:List Value} (hi:Ints items) (hG:∀ g,G g→g.get? l=some (oLst items e)):
  AskOK pw_qz0137_01 w G (.bi (PySem.W.S.codeS "list.__getitem__") [.ref l,.ref sl]) [(sl,oSl .none (.int k u))] kn x m t i D (slS [oSl .none (.int k u)] (Nat.add x m) (Nat.add t i)):=by
 have hz:sizeLine=16777216:=rfl
 have hsz:=hi.size
 refine ask_wp (by decide +kernel) F.entry_list_getitem fun g A R gs d os h hg _ low rep K=>?_
 have ho:h.get? l=some (oLst items e):=rep.keep _ _ (hG g hg)
 have hos:h.get? sl=some (oSl .none (.int k u)):=(rep.own _ (.head _)).1
 have hTs:(⟨h,gs,d,Nat.add t i,os⟩:Shared).TypeIs (.ref sl) "slice":=⟨_,hos,rfl⟩
 have hp:∀ v∈(slicePick ⟨items⟩ none (some k) none).toList,v∈items:=by
  intro v hv
  unfold slicePick at hv
  obtain ⟨j,_,hj⟩:=List.mem_filterMap.mp (by simpa using hv)
  have:items[j]?=some v:=by simpa using hj
  exact List.mem_of_getElem? this
 have hl:=slicePick_size_le ⟨items⟩ none (some k) none
 have hl2:(slicePick ⟨items⟩ none (some k) none).size≤items.length:=hl
 show wpAny _ _ (Builtin.List.listSubscript? (.ref sl) >>= _) _ _ _
 refine wpAny_bind ?_
 unfold Builtin.List.listSubscript?
 refine wpAny_bind (wpAny_specialOf hTs slice_no_index ?_)
 simp only [Option.isNone_none,if_true]
 refine wpAny_pure ?_
 show wpAny _ _ (typeOf (.ref sl) >>= _) _ _ _
 refine wpAny_bind (wpAny_typeOf hTs ?_)
 rw [if_neg (by decide)]
 rw [listSliceParts_eq]
 have hstep:¬ ((rawPart none == rawInt 0)=true):=Bool.false_ne_true
 refine wpAny_bind (wpAny_bind (wpAny_field hos rfl (x:=.none) rfl (wpAny_bind (wpAny_listPart .none ?_))))
 rw [if_neg hstep]
 refine wpAny_bind (wpAny_field hos rfl (x:=.none) rfl (wpAny_bind (wpAny_listPart .none ?_)))
 refine wpAny_bind (wpAny_field hos rfl (x:=.int k u) rfl (wpAny_bind (wpAny_listPart (.int k u) (wpAny_pure ?_))))
 refine wpAny_bind (m:=Builtin.List.listItems (.ref l)) ?_
 unfold Builtin.List.listItems
 refine wpAny_bind (wpAny_seqItems ho rfl (wpAny_pure ?_))
 refine wpAny_bind (wpAny_of_eq (sliceIndices_raw none (some k) none (⟨items⟩:Array Value).size (by simp)) ?_)
 refine wpAny_bind (wpAny_newObj_type (wpAny_pure ?_) (Nat.le_trans hl (by show items.length≤_;omega)))
 have z:=rep.alloc (o:=oLst (slicePick ⟨items⟩ none (some k) none).toList 0) rfl
 rw [show h.objs.size=Nat.add x m from rep.size] at z
 have kk:=K ⟨_,⟨fun v hv=>hi.each v (hp v hv),by rw [Array.length_toList];omega⟩⟩ _ z
 show R (.ok (.ret (.ref h.objs.size))) ⟨h.push (oLst (slicePick ⟨items⟩ none (some k) none).toList 0),gs,d,Nat.add t i,os⟩
 rw [show h.objs.size=Nat.add x m from rep.size]
 exact kk
theorem foldl_cps:∀ (n:Nat) (acc:List Nat),List.foldl (·++·) (⟨acc⟩:Array Nat) (List.replicate n ⟨[98]⟩)=⟨acc++List.replicate n 98⟩
 | 0,acc=>by simp
 | n+1,acc=>by
  rw [List.replicate_succ,List.foldl_cons]
  have e:((⟨acc⟩:Array Nat)++⟨[98]⟩)=⟨acc++[98]⟩:=by simp
  rw [e,foldl_cps n (acc++[98]),List.append_assoc]
  rfl
theorem v_smul {w:World} {G:Heap→Prop} {t D n:Nat} {u v:Tok} (hn:n≤1000):ValOK pw_qz0137_01 w G (.bi (PySem.W.S.codeS "str.__mul__") [.str (q [98]) u,.int (Int.ofNat n) v]) (.str (q (List.replicate n 98)) (cond (n != 1) t u)) (cond (n != 1) 1 0) t D:=by
 have hz:sizeLine=16777216:=rfl
 have en:Int.ofNat n=(n:Int):=rfl
 have g:=gives_str_mul (q [98]) (Int.ofNat n) u v (by rw [en];simp;omega) (fun _ _=>by
  rw [en]
  show ¬ ((1:Int) > (2 ^ 63 - 1) / (n:Int))
  by_cases h0:n=0
  ·subst h0;contradiction
  ·have:(1:Int)≤(2 ^ 63 - 1) / (n:Int):=Int.le_ediv_of_mul_le (by omega) (by omega)
   omega) (fun _ _=>by
  show Builtin.Str.tooLong (1 * n)=false
  unfold Builtin.Str.tooLong
  rw [decide_eq_false_iff_not]
  omega)
 rcases (by omega:n=0∨n=1∨2≤n) with rfl | rfl | h2
 ·exact v_str (by decide +kernel) F.entry_str_mul (by decide) g
 ·exact v_val (by decide +kernel) F.entry_str_mul g
 ·rw [if_neg (by rw [en];omega),if_neg (by
   have a1:(Int.ofNat n == 1)=false:=beq_eq_false_iff_ne.mpr (by rw [en];omega)
   rw [a1]
   show ¬ ((false || (1 == 0:Bool))=true)
   decide)] at g
  have e1:(n != 1)=true:=by simp;omega
  rw [e1]
  have e2:(⟨(List.replicate (Int.ofNat n).toNat (q [98]).cps).foldl (·++·) #[]⟩:Str)=q (List.replicate n 98):=by
   show (⟨(List.replicate n ⟨[98]⟩).foldl (·++·) ⟨[]⟩⟩:Str)=_
   rw [foldl_cps n []]
   rfl
  rw [e2] at g
  exact v_str (by decide +kernel) F.entry_str_mul (by show (List.replicate n 98).length≤_;rw [List.length_replicate];omega) g
theorem v_sadd {w:World} {G:Heap→Prop} {t D n:Nat} {u v:Tok} (hn:n≤1000):ValOK pw_qz0137_01 w G (.bi (PySem.W.S.codeS "str.__add__") [.str (q (List.replicate n 98)) u,.str (q [97]) v]) (.str (q (List.replicate n 98++[97])) (cond (n != 0) t v)) (cond (n != 0) 1 0) t D:=by
 have hz:sizeLine=16777216:=rfl
 have g:=gives_str_add (q (List.replicate n 98)) (q [97]) u v
 have hl:(q (List.replicate n 98)).length=n:=by show (List.replicate n 98).length=n;rw [List.length_replicate]
 rw [hl] at g
 by_cases h0:n=0
 ·subst h0
  exact v_val (by decide +kernel) F.entry_str_add g
 ·rw [if_neg (by simp;omega),if_neg (by decide)] at g
  have e1:(n != 0)=true:=by simp;omega
  rw [e1]
  have e2:q (List.replicate n 98)++q [97]=q (List.replicate n 98++[97]):=by
   show (⟨(⟨List.replicate n 98⟩:Array Nat)++⟨[97]⟩⟩:Str)=⟨⟨List.replicate n 98++[97]⟩⟩
   rw [List.append_toArray]
  rw [e2] at g
  exact v_str (by decide +kernel) F.entry_str_add (by show (List.replicate n 98++[97]).length≤_;rw [List.length_append,List.length_replicate,List.length_singleton];omega) g
theorem eq_lists {w:World} {A:Around} {s:Shared} {l1 l2 e1 e2:Nat} {xs ys:List Value} {Q:Value→Shared→Prop} {E:Value→Shared→Prop} (h1:s.heap.get? l1=some (oLst xs e1)) (h2:s.heap.get? l2=some (oLst ys e2)) (hu:A.units < cLine) (hp:Pairs (fun x y=>SeqAt.EqAt A.in1 s x y true) xs ys)
  (hQ:Q (.bool true) s):wpAny (MW w) A (compareOp .Eq (.ref l1) (.ref l2)) Q E s:=by
 refine SeqAt.eq_listAt (s:=s) (items:=⟨xs⟩) (items2:=⟨ys⟩) (e:=fun _=>true) ⟨_,h1,rfl,e1,rfl⟩ ⟨_,h2,rfl,e2,rfl⟩ hp.len hu (fun j j1 j2=>hp.at j j1 j2) ?_
 rw [all_true]
 exact hQ
theorem pairs_none {A:Around} {s:Shared}:∀ n:Nat,Pairs (fun x y=>SeqAt.EqAt A s x y true) (List.replicate n .none) (List.replicate n .none)
 | 0=>rfl
 | n+1=>⟨.none,List.replicate n .none,rfl,SeqAt.EqAt.same _,pairs_none n⟩
theorem eq_ints {A:Around} {s:Shared} (k:Int) (t u:Tok):SeqAt.EqAt A s (.int k t) (.int k u) true:=by
 have z:=SeqAt.EqAt.int_int (A:=A) (s:=s) k t k u
 rw [beq_self_eq_true] at z
 exact z
section
variable {w:World} {A:Around} {c:Code} {s:Shared} {env:Env} {E:Value→Shared→Prop}
theorem own_return {e:Expr} {pos:Pos} {Q:Flow→Shared→Prop} (h:wpOwn (MW w) A c (eval e env) (fun v s'=>Q (.ret v) s') E s):wpOwn (MW w) A c (PySem.exec (.Return (some e) pos) env) Q E s:=by
 show wpOwn (MW w) A c (standAt pos >>= fun _=>eval e env >>= fun v=>pure (.ret v)) Q E s
 exact wpOwn_bind (wpOwn_of_wpAny (wpAny_standAt (wpOwn_bind (wpOwn_mono h (fun v s' h'=>fun _ _ _ _=>h') fun _ _ h=>h))))
theorem own_and {x y:Expr} {pos:Pos} {Q:Value→Shared→Prop} (h:wpOwn (MW w) A c (eval x env) (fun v s'=>v=.bool true∧wpOwn (MW w) A c (eval y env) Q E s') E s):wpOwn (MW w) A c (eval (.BoolOp .And [x,y] pos) env) Q E s:=by
 show wpOwn (MW w) A c (eval x env >>= fun v=>standAt pos >>= fun _=>holding [v] (truthy v) >>= fun t=>match BoolOp.And,t with | .And,false | .Or,true=>pure v | _,_=>boolOp pos .And [eval y env]) Q E s
 refine wpOwn_bind (wpOwn_mono h (fun v s' h'=>?_) fun _ _ h=>h)
 obtain ⟨rfl,h'⟩:=h'
 refine wpOwn_bind (wpOwn_of_wpAny (wpAny_standAt ?_))
 exact wpOwn_bind (wpOwn_of_wpAny (wpAny_holding (wpAny_truthy_bool h')))
theorem own_cmpE {l r:Expr} {op:CmpOp} {pos:Pos} {Q:Value→Shared→Prop} (hm:markedEach [op] [r] (evalEach [r] env)=[eval r env]) (h:wpOwn (MW w) A c (eval l env) (fun a s'=>wpOwn (MW w) A c (eval r env) (fun b s'=>wpOwn (MW w) A c (compareOp op a b) Q E s') E s') E s):
  wpOwn (MW w) A c (eval (.Compare l [op] [r] pos) env) Q E s:=by
 show wpOwn (MW w) A c (eval l env >>= fun a=>compareChain pos a [op] (markedEach [op] [r] (evalEach [r] env))) Q E s
 refine wpOwn_bind (wpOwn_mono h (fun a s' h'=>?_) fun _ _ h=>h)
 rw [hm]
 show wpOwn (MW w) A c (holding [a] (eval r env) >>= fun rv=>standAt pos >>= fun _=>operate [a,rv] (compareOp op a rv)) Q E s'
 have hh:wpOwn (MW w) A c (holding [a] (eval r env)) (fun b s'=>wpOwn (MW w) A c (compareOp op a b) Q E s') E s':=fun Γ p hc hΓ=>by
  rw [Sem.wp_holding]
  exact h' Γ p hc hΓ
 refine wpOwn_bind (wpOwn_mono hh (fun b s2 h2=>?_) fun _ _ h=>h)
 refine wpOwn_bind (wpOwn_of_wpAny (wpAny_standAt ?_))
 intro Γ p hc hΓ
 rw [Sem.wp_operate]
 exact h2 Γ p hc hΓ
end
end
noncomputable section
def GLw (w:World) (S:Led):Heap→Prop:=fun g=>G1 w g∧∀ q∈S,g.get? q.1=some q.2
theorem GLw_mono {w:World} {S:Led}:∀ g g':Heap,(∀ b o,g.get? b=some o→g'.get? b=some o)→GLw w S g→GLw w S g':=fun g g' k h=>⟨G1_mono w g g' k h.1,fun q hq=>k _ _ (h.2 q hq)⟩
theorem GLw_ok {w:World} {S kl:Led} (h:∀ q∈kl,q∈S):Grd w kl (GLw w S):=⟨GLw_mono,fun g hg=>⟨hg.1.1,fun q hq=>hg.2 q (h q hq)⟩⟩
def iiOf (I:Nat→Nat) (j:Nat):Nat:=match j with
 | 5=>I 6
 | 6=>I 8
 | 7=>I 10
 | 8=>I 14
 | 9=>I 12
 | 10=>I 16
 | 11=>I 17
 | j=>I j
def vvOf (V0:Value) (rn:Nat) (s:LS) (j:Nat):Value:=match j with
 | 0=>V0
 | 2=>.ref rn
 | 3=>.ref s.kd
 | 4=>.int (Int.ofNat s.sg) (s.I 5)
 | 5=>.int (Int.ofNat s.st) (s.I 7)
 | 6=>toV s.tb s.to (s.I 9)
 | 7=>.int (Int.ofNat s.tu) (s.I 11)
 | 8=>.str (q s.fx) (s.I 15)
 | 9=>.str (q s.tx) (s.I 13)
 | 10=>.ref s.pr
 | 11=>lvV s.lf s.lpf
 | _=>.none
theorem lsF_end {w:World} {V0:Value} {bdA rn m:Nat} {s:LS} (h:s.g=true):lsF w V0 bdA rn m s=lwE w.params (iiOf s.I) (vvOf V0 rn s) bdA:=by
 obtain ⟨I,g0,lf,tb,mb,v,n,tn,sg,st,to,tu,pr,lpf,lp,ka,ma,pt,kd,ts,ep,ek,es,tx,fx,xs,ys,svs⟩:=s
 dsimp only at h
 subst h
 rfl
section
variable {w:World} {T V W I:Nat→Nat} {V0 v1:Value} {it bdA fr cl rn rd lm ld sa fm pt kd left n tn ts stp tst lim tl x m t i:Nat} {sv:List Value} {kn:Led}
theorem loop_ask (hs:Ints sv) (hn:n+3 * left≤890) (h0:0 < left) (hl:left≤100):
  AskOK pw_qz0137_01 w (GLw w (limL w lm ld W v1 stp tst lim tl++[(fm,oLst [] 0)])) (.code (lwLoop it fr cl)) [(it,oRi 0 left),(bdA,oBd n tn sv 0),(fr,lwG w.params I V0 false false false 0 bdA rn kd 0 0 0 0 [] [] 0 0),(cl,oCl false 0),(rn,oRun rd),(rd,dRun w.params T V lm sa fm .none pt 0 ts),(pt,oDk w [] 0),(kd,oDk w [] 0),(sa,oLst [] 0)] kn x m t i 320
   (leSh w.params bdA sv []):=by
 intro c hc g A R gs d os h hg _ low rep KK
 obtain rfl:c=lwLoop it fr cl:=hc
 have gt:GT w (limL w lm ld W v1 stp tst lim tl++[(fm,oLst [] 0)]) [] [] false 0 0 g:={
  base:=hg.1
  l0:=hg.2
  kx:=⟨fun y hy=>(List.not_mem_nil hy).elim,List.nodup_nil⟩
  ky:=⟨fun y hy=>(List.not_mem_nil hy).elim,List.nodup_nil⟩
  progs:=fun _ _ _ _ _ e=>by cases e
  none:=fun _ _ _ _=>rfl
  last:=rfl
  told:=fun e=>by cases e }
 refine loop_ok (ef:=0) (v1:=v1) (W:=W) (ld:=ld) (stp:=stp) (tst:=tst) (lim:=lim) (tl:=tl) (V0:=V0) (T:=T) (V:=V) (sa:=sa) (bdA:=bdA) (rn:=rn) (rd:=rd) (lm:=lm) (fm:=fm) hs (fun q hq=>List.mem_append_left _ hq) (List.mem_append_right _ (.head _)) left ⟨I,false,false,false,false,0,n,tn,0,0,0,0,0,0,0,0,0,pt,kd,ts,0,0,0,[],[],[],[],[]⟩ g h (Nat.add x m) (Nat.add t i) A R gs d os low
  ⟨gt,.inr ⟨rfl,rfl⟩,by show 0+_≤_;omega,by show 0+_≤_;omega,by show 0+_≤_;omega,hn,by show 0+_≤_;omega,rfl,rfl⟩ (fun e=>absurd e (by omega)) rep ?_
 intro g2 s' h' x' t' sub inv' hg' hpt hkd rep'
 obtain ⟨o4,h4⟩:∃ o,h'.get? pt=some o:=by
  rcases hpt with e | e
  ·exact ⟨_,by rw [show pt=s'.pt from e.symm];exact (rep'.own (s'.pt,oDk w s'.xs s'.ep) (.tail _ (.tail _ (.tail _ (.tail _ (.tail _ (.tail _ (.head _)))))))).1⟩
  ·obtain ⟨o,eo⟩:=Option.isSome_iff_exists.mp e
   exact ⟨o,rep'.keep _ _ eo⟩
 obtain ⟨o5,h5⟩:∃ o,h'.get? kd=some o:=by
  rcases hkd with e | e
  ·exact ⟨_,by rw [show kd=s'.kd from e.symm];exact (rep'.own (s'.kd,oDk w s'.ys s'.ek) (.tail _ (.tail _ (.tail _ (.tail _ (.tail _ (.tail _ (.tail _ (.head _))))))))).1⟩
  ·obtain ⟨o,eo⟩:=Option.isSome_iff_exists.mp e
   exact ⟨o,rep'.keep _ _ eo⟩
 refine KK ⟨iiOf s'.I,vvOf V0 rn s',s'.n,inv'.bn,s'.tn,fun j=>match j with | 0=>oRi s'.v 0 | 1=>oCl true s'.ka | 2=>oRun rd | 3=>dRun w.params T V lm sa fm (lvV s'.mb s'.ma) s'.pt s'.st s'.ts | 4=>o4 | 5=>o5 | _=>oLst s'.svs s'.es,x',t'⟩ h' ?_
 have r2:Rep g [(it,oRi s'.v 0),(bdA,oBd s'.n s'.tn sv 0),(fr,lsF w V0 bdA rn 0 s'),(cl,oCl true s'.ka),(rn,oRun rd),(rd,dRun w.params T V lm sa fm (lvV s'.mb s'.ma) s'.pt s'.st s'.ts),(pt,o4),(kd,o5),(sa,oLst s'.svs s'.es)] x' h':=by
  refine rep_finish rep' sub (fun q hq=>?_) (fun q hq=>?_) rep.nd
  ·simp only [List.mem_cons,List.not_mem_nil,or_false] at hq
   rcases hq with rfl | rfl | rfl | rfl | rfl | rfl | rfl | rfl | rfl
   ·exact (rep'.own _ (.head _)).1
   ·exact (rep'.own _ (.tail _ (.head _))).1
   ·exact (rep'.own _ (.tail _ (.tail _ (.head _)))).1
   ·exact (rep'.own _ (.tail _ (.tail _ (.tail _ (.head _))))).1
   ·exact (rep'.own _ (.tail _ (.tail _ (.tail _ (.tail _ (.head _)))))).1
   ·exact (rep'.own _ (.tail _ (.tail _ (.tail _ (.tail _ (.tail _ (.head _))))))).1
   ·exact h4
   ·exact h5
   ·exact (rep'.own _ (.tail _ (.tail _ (.tail _ (.tail _ (.tail _ (.tail _ (.tail _ (.tail _ (.head _)))))))))).1
  ·simp only [List.mem_cons,List.not_mem_nil,or_false] at hq
   rcases hq with rfl | rfl | rfl | rfl | rfl | rfl | rfl | rfl | rfl
   ·exact (rep.own _ (.head _)).2
   ·exact (rep.own _ (.tail _ (.head _))).2
   ·exact (rep.own _ (.tail _ (.tail _ (.head _)))).2
   ·exact (rep.own _ (.tail _ (.tail _ (.tail _ (.head _))))).2
   ·exact (rep.own _ (.tail _ (.tail _ (.tail _ (.tail _ (.head _)))))).2
   ·exact (rep.own _ (.tail _ (.tail _ (.tail _ (.tail _ (.tail _ (.head _))))))).2
   ·exact (rep.own _ (.tail _ (.tail _ (.tail _ (.tail _ (.tail _ (.tail _ (.head _)))))))).2
   ·exact (rep.own _ (.tail _ (.tail _ (.tail _ (.tail _ (.tail _ (.tail _ (.tail _ (.head _))))))))).2
   ·exact (rep.own _ (.tail _ (.tail _ (.tail _ (.tail _ (.tail _ (.tail _ (.tail _ (.tail _ (.head _)))))))))).2
 rw [lsF_end hg'] at r2
 exact r2
end
end
noncomputable section
theorem lwB_eq:lwB=List.take 9 lwB++[.Return (some (.BoolOp .And [.Compare (cmpL lwC1) [.Eq] [cmpR lwC1] (ePos lwC1),lwC2] (ePos (retV (sAt 9 lwB))))) (retP (sAt 9 lwB))]:=by kernel_rfl
theorem lw_kind (f cl:Nat):(lwEnv f cl).scope.kind≠.module:=by
 have e:(lwEnv f cl).scope.kind=.function:=by kernel_rfl
 rw [e]
 exact fun h=>nomatch h
section
variable {w:World} {g h:Heap} {A:Around} {gs:Array GenState} {d:Drawn} {os:OsState} {n t f cl bdA g1 g2 ahead pr pd rl r0 r1 e0 e1 e2 tg tr nm du dt t0 t1:Nat} {I Z M:Nat→Nat} {Vv:Nat→Value} {R:Result→Shared→Prop}
theorem v_subn {G:Heap→Prop} {t D n:Nat} {u v:Tok} (h:1≤n):ValOK pw_qz0137_01 w G (.bi (PySem.W.S.codeS "int.__sub__") [.int (Int.ofNat n) u,.int 1 v]) (.int (Int.ofNat (n - 1)) t) 1 t D:=by
 have z:=v_sub (w:=w) (G:=G) (t:=t) (D:=D) (Int.ofNat n) 1 u v
 rw [show Int.ofNat n - 1=Int.ofNat (n - 1) from by have a:Int.ofNat n=(n:Int):=rfl;have b:Int.ofNat (n - 1)=((n - 1:Nat):Int):=rfl;omega] at z
 exact z
theorem law_end (low:Low 305 A) (hfr:A.frames=some []) (hg1:g1≤1000) (hg2:g2≤1000) (hah:ahead≤100)
  (rep:Rep g [(f,lwZ w.params I Z Vv bdA g1 g2 ahead ((g1+g2) / 20) (ahead * (1+(g1+g2) / 20)+2+(g1+g2) / 20) pr du),(pr,oPr pd),(pd,dPr w.params M rl g1 tg g2 tr nm),(rl,oLst [.ref r0,.ref r1] 0),(r0,oTup [.str (q [115,105,103,110]) e0,.str (q [97]) e1,.bool false]),(r1,oTup [.str (q [101,110,100]) e2]),(du,oLst (.ref dt::List.replicate g1 .none) 0),(dt,oTup [.int (Int.ofNat ahead) t0,.int (Int.ofNat (ahead+1)) t1])] n h)
  (hg0:G0 w g) (KK:∀ h' n' t',Rep g [] n' h'→R (.ok (.ret (.bool true))) ⟨h',gs,d,t',os⟩):
  wpOwn (MW w) A (.func lwB (lwEnv f cl)) (execs [.Return (some (.BoolOp .And [.Compare (cmpL lwC1) [.Eq] [cmpR lwC1] (ePos lwC1),lwC2] (ePos (retV (sAt 9 lwB))))) (retP (sAt 9 lwB))] (lwEnv f cl)) (fun f s'=>match f with | .ret v=>R (.ok (.ret v)) s' | _=>R (.ok (.ret .none)) s') (fun _ _=>False) ⟨h,gs,d,t,os⟩:=by
 have wf:(Code.func lwB (lwEnv f cl)).weight≤5:=weight_le rfl
 generalize hmr:(g1+g2) / 20=mr at rep
 generalize hnd:ahead * (1+mr)+2+mr=nd at rep
 have hmr':mr≤100:=by omega
 have hcomm:ahead * (1+mr)=ahead * (mr+1):=by rw [Nat.add_comm]
 have sub1:[(f,lwZ w.params I Z Vv bdA g1 g2 ahead mr nd pr du)].Sublist [(f,lwZ w.params I Z Vv bdA g1 g2 ahead mr nd pr du),(pr,oPr pd),(pd,dPr w.params M rl g1 tg g2 tr nm),(rl,oLst [.ref r0,.ref r1] 0),(r0,oTup [.str (q [115,105,103,110]) e0,.str (q [97]) e1,.bool false]),(r1,oTup [.str (q [101,110,100]) e2]),(du,oLst (.ref dt::List.replicate g1 .none) 0),(dt,oTup [.int (Int.ofNat ahead) t0,.int (Int.ofNat (ahead+1)) t1])]:=.cons₂ _ (List.nil_sublist _)
 have sl:Sel _ [0] _:=sel_spec (L:=[(f,lwZ w.params I Z Vv bdA g1 g2 ahead mr nd pr du),(pr,oPr pd),(pd,dPr w.params M rl g1 tg g2 tr nm),(rl,oLst [.ref r0,.ref r1] 0),(r0,oTup [.str (q [115,105,103,110]) e0,.str (q [97]) e1,.bool false]),(r1,oTup [.str (q [101,110,100]) e2]),(du,oLst (.ref dt::List.replicate g1 .none) 0),(dt,oTup [.int (Int.ofNat ahead) t0,.int (Int.ofNat (ahead+1)) t1])]) (l:=[(f,lwZ w.params I Z Vv bdA g1 g2 ahead mr nd pr du)]) rfl
 have sub:=sub_hide rep sl.sub
 have c1:=other_hide rep sl (p:=1) (q:=(pr,oPr pd)) rfl (by decide)
 have c2:=other_hide rep sl (p:=2) (q:=(pd,dPr w.params M rl g1 tg g2 tr nm)) rfl (by decide)
 have c3:=other_hide rep sl (p:=3) (q:=(rl,oLst [.ref r0,.ref r1] 0)) rfl (by decide)
 have c4:=other_hide rep sl (p:=4) (q:=(r0,oTup [.str (q [115,105,103,110]) e0,.str (q [97]) e1,.bool false])) rfl (by decide)
 have c5:=other_hide rep sl (p:=5) (q:=(r1,oTup [.str (q [101,110,100]) e2])) rfl (by decide)
 have c6:=other_hide rep sl (p:=6) (q:=(du,oLst (.ref dt::List.replicate g1 .none) 0)) rfl (by decide)
 have c7:=other_hide rep sl (p:=7) (q:=(dt,oTup [.int (Int.ofNat ahead) t0,.int (Int.ofNat (ahead+1)) t1])) rfl (by decide)
 have repg:=rep.hide sl
 generalize hideAll h (List.map (fun x=>x.1) [(f,lwZ w.params I Z Vv bdA g1 g2 ahead mr nd pr du)])=gg at sub c1 c2 c3 c4 c5 c6 c7 repg
 have hgg:GL w (prL1 w.params M pr pd rl 0 r0 r1 e0 e1 e2 g1 tg g2 tr nm) [] gg:=GL0 (G0_mono w _ _ sub hg0) fun q hq=>by
  unfold prL1 at hq
  simp only [List.mem_cons,List.not_mem_nil,or_false] at hq
  rcases hq with rfl | rfl | rfl | rfl | rfl<;>assumption
 have hGL:Grd w [] (GL w (prL1 w.params M pr pd rl 0 r0 r1 e0 e1 e2 g1 tg g2 tr nm) []):=GL_ok (fun _ hq=>nomatch hq)
 refine own_cons (own_return (own_and (own_cmpE rfl ?_)))
 have ea:=lz_1 w n t t (a t (cond (ahead != 1) 2 1)) f cl bdA g1 g2 ahead mr nd pr du 0 I Z Vv (List.replicate ahead 98++[97]) (List.replicate ahead 98) (ahead != 1) (ahead != 0) (w.params.followText "special-get-raises") (w.params.followText "comprehension-iter-twice")
 rw [← PP_self w] at ea
 refine piece_eval (x:=n) (m:=0) (t:=t) (i:=0) hGL hgg low wf repg ea ?_
 refine ⟨v_smul (n:=ahead) (by omega),v_sadd (n:=ahead) (by omega),⟨ne_SN,nble rfl,fun _=>rfl,ls_norm (fun q hq=>hq) rfl hah hg1 hg2 (by rw [hmr];omega),fun p=>⟨rfl,fun h1 rep1=>?_⟩⟩⟩
 have rep1:Rep gg [(f,lwZ w.params I Z Vv bdA g1 g2 ahead mr nd pr du),(p.gr,oLst (.ref p.tp::List.replicate g1 .none) 0),(p.tp,oTup [.int (Int.ofNat ahead) p.t0,.int (Int.ofNat (ahead+1)) p.t1])] (Nat.add p.x 0) h1:=rep1
 have eb:=lz_2 w (Nat.add p.x 0) (Nat.add p.t 0) 0 0 f cl bdA g1 g2 ahead mr nd pr du 0 I Z Vv [] [] (w.params.followText "special-get-raises") (w.params.followText "comprehension-iter-twice")
 rw [← PP_self w] at eb
 have sb:Sel _ [0] _:=sel_spec (L:=[(f,lwZ w.params I Z Vv bdA g1 g2 ahead mr nd pr du),(p.gr,oLst (.ref p.tp::List.replicate g1 .none) 0),(p.tp,oTup [.int (Int.ofNat ahead) p.t0,.int (Int.ofNat (ahead+1)) p.t1])]) (l:=[(f,lwZ w.params I Z Vv bdA g1 g2 ahead mr nd pr du)]) rfl
 show wpOwn (MW w) A (.func lwB (lwEnv f cl)) (eval (cmpR lwC1) (lwEnv f cl)) _ _ ⟨h1,gs,d,Nat.add p.t 0,os⟩
 refine piece_eval (x:=Nat.add p.x 0) (m:=0) (t:=Nat.add p.t 0) (i:=0) (G0_ok w) (G0_mono w _ _ (sub_hide rep1 sb.sub) hgg.1) low wf (rep1.hide sb) eb ⟨rfl,fun h2 rep2=>?_⟩
 have rep2:=rep1.back (sh:=⟨.ok .next,[lwZ w.params I Z Vv bdA g1 g2 ahead mr nd pr du],[],0,0,0,0,[]⟩) sb rfl (n':=Nat.add p.x 0) (h':=h2) rep2
 have rep2:Rep gg [(f,lwZ w.params I Z Vv bdA g1 g2 ahead mr nd pr du),(p.gr,oLst (.ref p.tp::List.replicate g1 .none) 0),(p.tp,oTup [.int (Int.ofNat ahead) p.t0,.int (Int.ofNat (ahead+1)) p.t1])] (Nat.add p.x 0) h2:=rep2
 generalize Nat.add p.t 0=tb
 generalize Nat.add p.x 0=nb at rep2
 refine wpOwn_of_wpAny (eq_lists (xs:=.ref p.tp::List.replicate g1 .none) (ys:=.ref dt::List.replicate g1 .none) (rep2.own _ (.tail _ (.head _))).1 (rep2.keep _ _ c6) (under_room low (by decide))
  ⟨.ref dt,List.replicate g1 .none,rfl,eq_tups (rep2.own _ (.tail _ (.tail _ (.head _)))).1 (rep2.keep _ _ c7) (under_room2 low (by decide)) ⟨_,_,rfl,eq_ints _ _ _,_,_,rfl,eq_ints _ _ _,rfl⟩,pairs_none _⟩ ⟨rfl,?_⟩)
 have rep3:Rep gg [(f,lwZ w.params I Z Vv bdA g1 g2 ahead mr nd pr du)] nb h2:=rep2.sel (ps:=[0]) (sel_spec rfl)
 have hF:FrOK [lwEnv f cl] [(f,lwZ w.params I Z Vv bdA g1 g2 ahead mr nd pr du)]:=⟨lw_kind f cl,rfl,(fun vs q=>by unfold lwZ at q;cases q),trivial⟩
 have hfr0:A.frames.map ([lwEnv f cl]++·)=some [lwEnv f cl]:=by rw [hfr];rfl
 have ec:=lz_3 w nb tb tb (a tb (cond (ahead != 1) 2 1)) f cl bdA g1 g2 ahead mr nd pr du 0 I Z Vv (List.replicate ahead 98++[97]) (List.replicate ahead 98) (ahead != 1) (ahead != 0) (w.params.followText "special-get-raises") (w.params.followText "comprehension-iter-twice")
 rw [← PP_self w] at ec
 show wpOwn (MW w) A (.func lwB (lwEnv f cl)) (eval lwC2 (lwEnv f cl)) _ _ ⟨h2,gs,d,tb,os⟩
 refine piece_eval (x:=nb) (m:=0) (t:=tb) (i:=0) hGL hgg low wf rep3 ec ?_
 refine ⟨v_smul (n:=ahead) (by omega),v_sadd (n:=ahead) (by omega),v_subn (by omega),⟨ne_SV,nble rfl,fun _=>rfl,hfr0 ▸ ls_raise hF (fun q hq=>hq) rfl hah hg1 hg2 (by rw [hmr];omega),fun p2=>⟨v_subn (by omega),v_eqt,rfl,fun h3 rep4=>?_⟩⟩⟩
 have rep5:Rep gg [] (Nat.add p2.x 0) h3:=Rep.sel (ps:=[]) rep4 (sel_spec rfl)
 exact KK h3 _ _ (rep5.weaken sub)
end
section
variable {w:World} {sl ep:Nat} {items:List Value} {g h:Heap} {A:Around} {gs:Array GenState} {d:Drawn} {os:OsState} {x t:Nat} {R:Result→Shared→Prop}
theorem law_ok (hi:Ints items) (hg:GLw w [(sl,oLst items ep)] g) (low:Low 305 A) (hfr:A.frames=some []) (rep:Rep g [] x h) (KK:∀ h' n' t',Rep g [] n' h'→R (.ok (.ret (.bool true))) ⟨h',gs,d,t',os⟩):
  codeAny (MW w) A (.call (.ref 1003) ⟨[.ref sl],[]⟩) R ⟨h,gs,d,t,os⟩:=by
 have hz:sizeLine=16777216:=rfl
 have e1:=lw_in w x t sl ep 0 0 (fun _=>0) items (w.params.followText "special-get-raises") (w.params.followText "comprehension-iter-twice")
 rw [← PP_self w] at e1
 refine run_call (x:=x) (m:=0) (t:=t) (i:=0) e1 (GLw_ok (w:=w) (S:=[(sl,oLst items ep)]) fun _ h=>h) hg low rep ⟨rfl,fun h1 rep1=>?_⟩
 show codeAny (MW w) A (.func lwB (lwEnv x (a x 1))) R ⟨h1,gs,d,Nat.add t 1,os⟩
 have rep1:Rep g [(x,lwF0 w.params t sl),(a x 1,oCl false 0)] (Nat.add x 2) h1:=rep1
 generalize Nat.add x 2=n1 at rep1
 generalize a x 1=cl at rep1
 generalize Nat.add t 1=t1
 generalize x=f at rep1
 have wf:(Code.func lwB (lwEnv f cl)).weight≤5:=weight_le rfl
 refine own_func2 rfl lwB_eq (own_append ?_)
 have e2:=lw_b w n1 t1 t sl ep f cl items (fun n=>List.replicate n .none) (w.params.followText "special-get-raises") (w.params.followText "comprehension-iter-twice")
 rw [← PP_self w] at e2
 refine piece_execs (x:=n1) (m:=0) (t:=t1) (i:=0) (GLw_ok (w:=w) (S:=[(sl,oLst items ep)]) fun _ h=>h) hg low wf rep1 e2 ?_
 have m0:∀ g,GLw w [(sl,oLst items ep)] g→G0 w g:=fun g h=>h.1.1
 refine ⟨ne_SL,nble rfl,fun _=>rfl,lsliceG hi (fun g hg=>hg.2 _ (.head _)),fun p1=>⟨⟨()⟩,nble rfl,fun _=>rfl,ladd_ok (by have:=p1.ok.size;show 1+p1.ys.length≤_;omega),fun _=>
  ⟨⟨⟨0,by decide,0,0,0,0⟩⟩,nble rfl,fun _=>rfl,(pg_ok p1.ok (n:=0) (by decide) (by decide) (by decide)).mono m0,fun p3=>⟨v_addn (n:=20),⟨⟨0,by decide,0,0,0,0⟩⟩,nble rfl,fun _=>rfl,(pg_ok p1.ok (n:=1) (by decide) (by decide) (by decide)).mono m0,fun p4=>⟨v_addn (n:=1),⟨()⟩,nble rfl,fun _=>rfl,range_iter_ok (n:=1+p4.r) (by have:=p4.hr;omega),fun _=>
  ⟨ne_LE,nble rfl,fun _=>rfl,
   ask_ledger (l:=[(a p4.x 1,oRi 0 (1+p4.r)),(a n1 3,oBd 2 p4.tn p1.ys 0),(f,lwG w.params (upI (fun _=>0) [(0,t),(1,a t1 2),(2,a p3.t 61),(3,a p3.t 64),(4,a p3.t 65),(5,a p3.t 62),(6,a p3.t 66),(7,a p3.t 63),(8,a p3.t 67)]) (.ref sl) false false false 0 (a n1 3) (a p3.x 4) (a p3.x 16) 0 0 0 0 [] [] 0 0),(cl,oCl false 0),(a p3.x 4,oRun (a p3.x 3)),(a p3.x 3,dRun w.params (upI (fun j=>a p3.t (23+2 * j)) [(15,a p3.t 54),(16,a p3.t 56),(17,a p3.t 58),(18,a p3.t 60)]) (fun j=>a p3.x (6+j)) (a p3.x 1) (a p3.x 13) (a p3.x 14) .none (a p3.x 15) 0 (a p3.t 52)),(a p3.x 15,oDk w [] 0),(a p3.x 16,oDk w [] 0),(a p3.x 13,oLst [] 0)])
    (kk:=[(a p3.x 1,oLim p3.x),(p3.x,dLim w.params (upI (fun _=>0) [(0,a p3.t 8),(1,a p3.t 10),(2,1383),(3,a p3.t 12),(4,a p3.t 14),(5,a p3.t 16),(6,1392)]) (.int 64 1382) 1000000 1386 (20+p3.r) p3.t),(a p3.x 14,oLst [] 0)])
    (sh':=leSh w.params (a n1 3) p1.ys [oLim p3.x,dLim w.params (upI (fun _=>0) [(0,a p3.t 8),(1,a p3.t 10),(2,1383),(3,a p3.t 12),(4,a p3.t 14),(5,a p3.t 16),(6,1392)]) (.int 64 1382) 1000000 1386 (20+p3.r) p3.t,oLst [] 0])
    (loop_ask (lm:=a p3.x 1) (ld:=p3.x) (fm:=a p3.x 14) (W:=(upI (fun _=>0) [(0,a p3.t 8),(1,a p3.t 10),(2,1383),(3,a p3.t 12),(4,a p3.t 14),(5,a p3.t 16),(6,1392)])) (v1:=.int 64 1382) (stp:=1000000) (tst:=1386) (lim:=20+p3.r) (tl:=p3.t) p1.ok (by have:=p4.hr;omega) (by omega) (by have:=p4.hr;omega))
    GLw_mono (fun g hg hk=>⟨hg.1,fun q hq=>hk q hq⟩) (fun _=>rfl),fun le=>
  ⟨⟨⟨0,by decide,0,0,0,0⟩⟩,nble rfl,fun _=>rfl,(pg_ok p1.ok (n:=le.n) (by have:=le.hn;omega) (by decide) (by decide)).mono m0,fun g1=>⟨⟨⟨0,by decide,0,0,0,0⟩⟩,nble rfl,fun _=>rfl,(pg_ok p1.ok (n:=le.n+1) (by have:=le.hn;omega) (by decide) (by decide)).mono m0,fun g2=>
  ⟨⟨⟨0,by decide,0,0,0,0⟩⟩,nble rfl,fun _=>rfl,(pg_ok p1.ok (n:=le.n+2) (by have:=le.hn;omega) (by decide) (by decide)).mono m0,fun g3=>
  ⟨v_addn,v_fdivn (k:=20) (by omega) (by have:=g1.hr;have:=g2.hr;omega) (by omega),v_addn (n:=1),v_muln (by have:=g3.hr;omega),v_addn (k:=2),v_addn,v_addn (k:=1),
   ⟨⟨()⟩,nble rfl,fun _=>rfl,lmul_ok (n:=g1.r) (by have:=g1.hr;omega),fun _=>⟨⟨()⟩,nble rfl,fun _=>rfl,ladd_ok (by rw [List.length_replicate,List.length_singleton];have:=g1.hr;omega),fun _=>⟨rfl,fun h2 rep2=>?_⟩⟩⟩⟩⟩⟩⟩⟩⟩⟩⟩⟩⟩
 have rep2:Rep g [(f,lwZ w.params le.I (upI (fun _=>0) [(0,g3.t),(1,g3.tr),(2,a g3.t 1),(3,g2.tr),(4,a g3.t 2),(5,g1.tr),(6,a g3.t 23),(7,a g3.t 22),(8,a g3.t 30),(9,a g3.t 29),(10,a g3.t 33)]) le.Vv (a n1 3) g1.r g2.r g3.r ((g1.r+g2.r) / 20) (g3.r * (1+(g1.r+g2.r) / 20)+2+(g1.r+g2.r) / 20) (a g3.x 9) (a g3.x 15)),(a g3.x 9,oPr (a g3.x 8)),(a g3.x 8,dPr w.params (upI (fun _=>0) [(0,a g3.t 12),(1,a g3.t 14),(2,a g3.t 16),(3,a g3.t 18)]) (a g3.x 6) g1.r g1.tr g2.r g2.tr (a g3.x 7)),(a g3.x 6,oLst [.ref (a g3.x 4),.ref (a g3.x 5)] 0),(a g3.x 4,oTup [.str (q [115,105,103,110]) (a g3.t 3),.str (q [97]) (a g3.t 4),.bool false]),(a g3.x 5,oTup [.str (q [101,110,100]) (a g3.t 5)]),(a g3.x 15,oLst (.ref (a g3.x 11)::List.replicate g1.r .none) 0),(a g3.x 11,oTup [.int (Int.ofNat g3.r) g3.tr,.int (Int.ofNat (g3.r+1)) (a g3.t 32)])] (Nat.add (a g3.x 15) 1) h2:=rep2
 show wpOwn (MW w) A (.func lwB (lwEnv f cl)) (execs [.Return (some (.BoolOp .And [.Compare (cmpL lwC1) [.Eq] [cmpR lwC1] (ePos lwC1),lwC2] (ePos (retV (sAt 9 lwB))))) (retP (sAt 9 lwB))] (lwEnv f cl)) _ _ ⟨h2,gs,d,Nat.add (a g3.t 33) 1,os⟩
 have h1r:=g1.hr
 have h2r:=g2.hr
 have h3r:=g3.hr
 exact law_end low hfr (g1:=g1.r) (g2:=g2.r) (ahead:=g3.r) (by omega) (by omega) (by omega) rep2 hg.1.1 KK
end
end
noncomputable section
set_option maxRecDepth 1000000
theorem k_open:opening pw_qz0137_01=plainProg pw_qz0137_01.main.scope.names:=by kernel_rfl
theorem k_fence (s:Shared):fenceModules? pw_qz0137_01 s=some s:=by kernel_rfl
abbrev NN:Nat:=10000
abbrev MM:Nat:=(12+(1+(839+(989+(821+(979+(845+(948+(995+(497+2))))))))))
theorem run_all (w:World) (os:OsState):topRun treeTable pw_qz0137_01 w m0 ann MM ⟨boot_heap w.params,⟨[]⟩,boot_drawn,boot_toks,os⟩ (topStub pw_qz0137_01)=some ⟨absHeap (tr8 w.params) 1004 {},⟨[]⟩,boot_drawn,1756,os⟩:=by
 have z:=top_run w os
 dsimp only [SharedT.abs,st8] at z
 exact z
theorem seen_all (w:World) (os:OsState):openSeen qv loose (importedModules pw_qz0137_01.main.body) (fun _=>true) true (S8 w os)=openGood qv loose:=by
 unfold openSeen openGood
 rw [k_seen w os,k_blt w os,k_keys w os,k_acc w os,k_ns1 w os,k_ns2 w os,k_tabs w os,k_tabs2 w os,k_pinD w os,k_plE w os,k_plD w os,k_wide w os,k_cls w os,if_pos rfl,k_gens w os]
 rfl
def lawRec:DefRec:=match sAt 148 top with
 | .FunctionDef name args body _ _ _ scope _ _ pos=>⟨name,args,body,scope,pos⟩
 | _=>⟨default,default,[],default,default⟩
theorem k_def:defOf qv rw_qz0137_01.row.name=some (lawRec,[]):=by kernel_rfl
theorem k_the:rw_qz0137_01.row.prog.theDef rw_qz0137_01.row.name=some (lawRec.params,lawRec.body,lawRec.scope):=by kernel_rfl
theorem k_kw:kwWritten? lawRec.params.kwonlyargs lawRec.params.kw_defaults=some []:=by kernel_rfl
theorem k_ok:(chainsOk qv && opensWell rw_qz0137_01.row.prog && (frees rw_qz0137_01.row.toRowW && rw_qz0137_01.row.within.isEmpty))=true:=by kernel_rfl
theorem k_b1:rw_qz0137_01.row.prog.modules=[]∧rw_qz0137_01.row.prog.parses=[]∧rw_qz0137_01.row.prog.absent=[]∧rw_qz0137_01.row.prog.harvested=[]:=⟨by kernel_rfl,by kernel_rfl,by kernel_rfl,by kernel_rfl⟩
theorem k_b2:rw_qz0137_01.row.prog.given={ argv:=[],stdin:=[],environ:=some Program.claimEnviron,cwd:=none,tree:=none,leftOut:=[],nothingAt:=[] }:=by kernel_rfl
theorem told {P:Program} (e:P=rw_qz0137_01.row.prog):TablesWhole.wSs TablesWhole.gather P.main.scope ⟨P.main.scope,[],[],[],none⟩ P.main.scope P.main.body=[]:=by subst e;kernel_rfl
theorem k_b3:rw_qz0137_01.row.prog.tablesWhole=true:=by
 refine tw_of k_b1 (wm_of rfl rfl rfl (by decide +kernel) ?_)
 rw [told rfl]
 iterate 5 refine ss_cut 25 rfl (by decide +kernel) ?_
 decide +kernel
theorem bare_of (p:Program) (a:p.modules=[]∧p.parses=[]∧p.absent=[]∧p.harvested=[]) (b:p.given={ argv:=[],stdin:=[],environ:=some Program.claimEnviron,cwd:=none,tree:=none,leftOut:=[],nothingAt:=[] }) (c:p.tablesWhole=true):p.bare:=⟨a.1,a.2.1,a.2.2.1,a.2.2.2,b,c⟩
theorem k_bare:rw_qz0137_01.row.prog.bare:=bare_of rw_qz0137_01.row.prog k_b1 k_b2 k_b3
theorem k_promised:rw_qz0137_01.row.toRowW.promised:=⟨[.list [.int 3,.int 1]],by decide +kernel,by decide +kernel⟩
end
noncomputable section
set_option maxRecDepth 1000000
theorem left_of {p q:Program} {loose:List Str} {Xt:Shared→Bool} {α:Type} {Yf:Shared→α} {Ya:World→α} {N:Nat} {H₀ H₁:Params→Heap} {gs₀ gs₁:Array GenState} {d₀ d₁:Drawn} {k₀ k₁:Nat} {m₀:Nat} {ann:Option Value} {M:Nat}
  (open_:∀ w:World,(fencedOpening treeTable p w N).map (fun s=>(s.heap,s.gens,s.drawn,s.toks))=some (H₀ w.params,gs₀,d₀,k₀))
  (size:∀ w:World,((H₀ w.params).isNs mainGlobals && gs₀.size == 0,(H₀ w.params).objs.size,(H₀ w.params).nsMap mainGlobals "__annotations__")=(true,m₀,ann))
  (run:∀ (w:World) (os:OsState),topRun treeTable p w m₀ ann M ⟨H₀ w.params,gs₀,d₀,k₀,os⟩ (topStub p)=some ⟨H₁ w.params,gs₁,d₁,k₁,os⟩) (le:Nat.ble M N=true)
  (a:∀ (w:World) (os:OsState),staticsOk (importedModules p.main.body) (H₀ w.params) (H₁ w.params)=true) (b:∀ (w:World) (os:OsState),namesBound p (H₁ w.params)=true)
  (c:∀ (w:World) (os:OsState),gensDone ⟨H₁ w.params,gs₁,d₁,k₁,os⟩=true) (d:∀ (w:World) (os:OsState),laidKept (H₀ w.params) (H₁ w.params)=true)
  (s:∀ (w:World) (os:OsState),openSeen q loose (importedModules p.main.body) Xt true ⟨H₁ w.params,gs₁,d₁,k₁,os⟩=openGood q loose) (y:∀ (w:World) (os:OsState),Yf ⟨H₁ w.params,gs₁,d₁,k₁,os⟩=Ya w):LeftO p q loose Xt Yf Ya N:=
 LeftO.of_pieces open_ size run le fun w=>funext fun os=>by rw [a w os,b w os,c w os,d w os,s w os,y w os];rfl
theorem left:LeftO pw_qz0137_01 qv loose (fun _=>true) Yf Ya NN:=
 left_of (H₀:=boot_heap) (gs₀:=⟨[]⟩) (d₀:=boot_drawn) (k₀:=boot_toks) (m₀:=m0) (ann:=ann) (M:=MM) (H₁:=fun P=>absHeap (tr8 P) 1004 {}) (gs₁:=⟨[]⟩) (d₁:=boot_drawn) (k₁:=1756) (boot_open k_open (by decide +kernel) k_fence) (fun w=>k_size w default) run_all (by decide +kernel) k_stat k_bound k_gdone k_kept seen_all k_used
end
noncomputable section
set_option maxRecDepth 1000000
theorem law_head (call:WalkX qv loose (fun _ _=>True) Yf Ya rw_qz0137_01.row.toRowW lawRec [] fun f vs=>PySem.call f vs):rw_qz0137_01.Holds:=
 holds_law w_law fun _=>holds_openX (r:=rw_qz0137_01.row) (q:=qv) (loose:=loose) (Xt:=fun _=>true) (XP:=fun _ _=>True) (Yf:=Yf) (Ya:=Ya) (N:=NN) left (fun _ _=>trivial) (fun _ _ _ _ _=>trivial) k_def k_the k_kw (fun s _=>recFacts_nil rfl) rfl w_row k_ok k_bare k_promised call
end
noncomputable section
def o3 (w:World):Obj:=glob w.params (.str (q [108,97,119,95,113,122,48,49,51,55,95,48,49]) 1723) 143 144
theorem o3_at (w:World):(kt w.params).get 3=some (o3 w):=by kernel_rfl
def esOf (o:Obj):Array DictEntry:=match o.data with
 | .dict es _=>es
 | _=>#[]
theorem law_at (w:World):nsFind (esOf (o3 w)) lawRec.name=some (.ref 1003):=by kernel_rfl
theorem law_addr {w:World} {h:Heap} {mg:Str→Option Value} {a:Addr} (hg:G0 w h) (hn:h.Ns mainGlobals mg) (hm:mg lawRec.name=some (.ref a)):a=1003:=by
 obtain ⟨o,es,ep,ho,hd,_,hf⟩:=hn
 have e3:h.get? mainGlobals=some (o3 w):=hg.get (o3_at w)
 obtain rfl:o=o3 w:=Option.some.inj (ho.symm.trans e3)
 have ee:esOf (o3 w)=es:=by unfold esOf;rw [hd]
 have:=hf lawRec.name
 rw [← ee,law_at w,hm] at this
 exact (Value.ref.inj (Option.some.inj this)).symm
theorem ints_laid {R:WRecords} {cl:Str→Option Addr} {P:Params} {ord:List DictEntry→List DictEntry}:∀ (xs:List WData) (s s':Shared) (vs:List Value),WShape.hasItems R xs .int=true→layAllW R cl P ord xs s=some (vs,s') →
  (∀ v∈vs,∃ i t,v=Value.int i t)∧vs.length=xs.length
 | [],s,s',vs,_,e=>by
  simp only [layAllW,Option.some.injEq,Prod.mk.injEq] at e
  obtain ⟨rfl,_⟩:=e
  exact ⟨fun v hv=>(nomatch hv),rfl⟩
 | x::xs,s,s',vs,hh,e=>by
  simp only [WShape.hasItems,Bool.and_eq_true] at hh
  obtain ⟨i,rfl⟩:=hasW_int hh.1
  simp only [layAllW,layW] at e
  cases z:layAllW R cl P ord xs { s with toks:=s.toks+1 } with
  | none=>rw [z] at e;cases e
  | some r=>
   rw [z] at e
   simp only [Option.some.injEq,Prod.mk.injEq] at e
   obtain ⟨rfl,_⟩:=e
   have ih:=ints_laid xs _ _ _ hh.2 z
   refine ⟨fun v hv=>?_,?_⟩
   ·rcases List.mem_cons.mp hv with rfl | hv
    ·exact ⟨_,_,rfl⟩
    ·exact ih.1 v hv
   ·simp only [List.length_cons,ih.2]
theorem list_laid {R:WRecords} {cl:Str→Option Addr} {P:Params} {ord:List DictEntry→List DictEntry} {xs:List WData} {s s':Shared} {vs:List Value} (hh:WShape.hasItems R xs .int=true) (e:layAllW R cl P ord [.list xs] s=some (vs,s')):
  ∃ items sl,vs=[.ref sl]∧s'.heap.get? sl=some (oLst items 0)∧(∀ v∈items,∃ i t,v=Value.int i t)∧items.length=xs.length:=by
 simp only [layAllW,layW] at e
 cases z:layAllW R cl P ord xs s with
 | none=>rw [z] at e;cases e
 | some r=>
  rw [z] at e
  simp only [Option.some.injEq,Prod.mk.injEq] at e
  obtain ⟨rfl,rfl⟩:=e
  have ih:=ints_laid xs _ _ _ hh z
  exact ⟨r.1,_,rfl,Heap.get?_push_size _ rfl,ih.1,ih.2⟩
theorem few {xs:List WData} (h:WTm.holds [] rw_qz0137_01.row.toRowW.pre { args:=[.list xs] }=true):xs.length≤63:=by
 have h:WTm.holds [] (.and (.not (.lt (.lit (.int 63)) (.len (.arg 0)))) (.lit (.bool true))) { args:=[.list xs] }=true:=h
 obtain ⟨h1,_⟩:=holds_andW h
 have hc:=condW_of h1 (by wtm_val)
 simp at hc
 omega
theorem w_call:WalkX qv loose (fun _ _=>True) Yf Ya rw_qz0137_01.row.toRowW lawRec [] fun f vs=>PySem.call f vs:=by
 intro w s₀ s₁ mg mb G y a o pm cd doc dV kV ho hd hcd hD hmg hgens args vals as L hpre hlay hrd hwl hlo
 have g0:G1 w s₁.heap:=G1_mono w _ _ L.keeps ⟨kt_holds y,one_holds y⟩
 obtain rfl:=law_addr g0.1 G.T.g hmg
 obtain ⟨hh,hp⟩:=pre_splitW hpre
 obtain ⟨d,r,rfl,h1,h2⟩:=hasAllW_cons (e:=.list .int) (es:=[]) hh
 obtain rfl:=hasAllW_nil h2
 obtain ⟨xs,rfl,h3⟩:=hasW_list h1
 have hl:=few hp
 obtain ⟨ord,_,hla⟩:=L.laid
 obtain ⟨items,sl,rfl,hs,h4,h5⟩:=list_laid h3 hla
 obtain ⟨hp₁,gs,d,t,os⟩:=s₁
 obtain rfl:gs=#[]:=hgens
 refine wpAny_call ?_
 refine law_ok (g:=hp₁) (x:=hp₁.objs.size) (sl:=sl) (ep:=0) (items:=items) ⟨h4,by omega⟩ ⟨g0,fun q hq=>?_⟩ ⟨rfl,by decide,by decide⟩ rfl ⟨rfl,fun q hq=>(nomatch hq),List.nodup_nil,fun _ _ e=>e⟩ ?_
 ·obtain rfl:=List.mem_singleton.mp hq
  exact hs
 ·intro h' n' t' rep
  exact ⟨.inl ⟨_,_,[],rfl,fun _=>rfl,ReadsW.bool true,(by wrow_post),fun _=>⟨List.nodup_nil,fun _ hm=>nomatch hm⟩⟩,.of_keep rep.keep,rfl,AllBare.empty⟩
theorem w_holds:rw_qz0137_01.Holds:=law_head w_call
end
end Mine

theorem PySem.Challenge.cw_qz0137_01_holds : PySem.Challenge.rw_qz0137_01.Holds := by
  exact Mine.w_holds
