import PyProof.Rows.All
import Wide.All
import OpenK.AllK
import Wide.FinOn
import KE.BitLaws
import KE.IntBitsLaws
import KE.KDictOf
import KE.KBytesWalk
import KE.KSortTup
import Lean
import PySem.Challenge.RW_nn0069_01
set_option Elab.async false
set_option maxRecDepth 100000
set_option maxHeartbeats 4000000
set_option linter.all false
set_option genSizeOf false
set_option backward.match.sparseCases false
set_option tactic.hygienic false
set_option bootstrap.genMatcherCode false
section
open PySem PySem.W
namespace Hd
noncomputable section
abbrev D:=Params
noncomputable def q (l:List Nat):Str:=⟨⟨l⟩⟩
noncomputable abbrev pq:Program:=PySem.Challenge.pw_nn0069_01
noncomputable def s (x:Str) (t:Nat):Value:=.str x t
noncomputable def i (n:Nat):Value:=.int n 0
noncomputable def it (n:Int) (t:Nat):Value:=.int n t
noncomputable def r (a:Nat):Value:=.ref a
noncomputable def o:Value:=.none
noncomputable def t (n:String):Value:=.type n
noncomputable def b (n:String):Value:=.builtin n
noncomputable def B1:Value:=.bool true
noncomputable def B0:Value:=.bool false
noncomputable def pl (c:Value) (d:Option Nat) (l:List (Option Value)):Obj:=⟨c,d,.plain,⟨l⟩⟩
noncomputable def sq (c:Value) (l:List Value) (n:Nat):Obj:=⟨c,none,.seq ⟨l⟩ n,⟨[]⟩⟩
noncomputable def fd (c:Value) (l:List Value):Obj:=⟨c,none,.fields ⟨l⟩,⟨[]⟩⟩
noncomputable def e (P:D) (k:Str) (t:Nat) (v:Value):DictEntry:=⟨PyData.keyHash P k,.str k t,v⟩
noncomputable def dc (c:Value) (l:List DictEntry) (n:Nat):Obj:=⟨c,none,.dict ⟨l⟩ n,⟨[]⟩⟩
noncomputable def nth:List Stmt→Nat→Stmt
 | [],_=>.Pass ⟨0,0,0,0⟩
 | x::_,0=>x
 | _::l,k + 1=>nth l k
noncomputable def st (k:Nat):Stmt:=nth pq.main.body k
noncomputable def clsBody:Stmt→List Stmt
 | .ClassDef _ _ _ b ..=>b
 | _=>[]
noncomputable def sm (k j:Nat):Stmt:=nth (clsBody (st k)) j
noncomputable def fA:Stmt→Arguments
 | .FunctionDef _ a ..=>a
 | _=>⟨[],[],none,[],[],none,[]⟩
noncomputable def fB:Stmt→List Stmt
 | .FunctionDef _ _ b ..=>b
 | _=>[]
noncomputable def fS:Stmt→Scope
 | .FunctionDef _ _ _ _ _ _ sc ..=>sc
 | _=>⟨.function,[],false,false,[]⟩
noncomputable def fn (c:Value) (x:Stmt) (name qual:Str) (gl:Nat) (df kd doc pm cd ct:Value) (bi:Nat):Obj :=
 ⟨c,none,.func { name:=name,qualname:=qual,params:=fA x,body:=.stmts (fB x),scope:=fS x,globals:=gl,closure:=[],defaults:=df,kwdefaults:=kd,doc:=doc,pyModule:=pm,annotations:=none,code:=cd,closureTuple:=ct,builtins:=bi },⟨[]⟩⟩
noncomputable def kl (c:Value) (name:Str) (bases mro:List Value) (ns:Nat) (qual:Str) (hd:Bool) (sn:List Str) (subs:List Value) (l:List (Option Value)):Obj :=
 ⟨c,none,.cls { name:=name,bases:=bases,mro:=mro,ns:=ns,qualname:=qual,hasDict:=hd,slotNames:=sn,subclasses:=subs },⟨l⟩⟩
noncomputable def fz (x:Stmt) (a b:Str):Obj:=fn o x a b 0 o o o o o o 0
noncomputable def fy (x:Stmt) (a b:Str) (c d:Value):Obj:=fn (t PySem.W.SL.s7174869446012820540x8) x a b 3 o o o c d o 0
noncomputable def s0:List Value→Nat→Obj:=sq (t PySem.W.SL.s2766695959194262286x5)
noncomputable def ev:List Obj→List Obj
 | []=>[]
 | [x]=>[x]
 | x::_::l=>x::ev l
noncomputable def od:List Obj→List Obj
 | []=>[]
 | _::l=>ev l
noncomputable def bt:Nat→List Obj→BT
 | 0,_=>.nil
 | _ + 1,[]=>.nil
 | n + 1,x::l=>.node x (bt n (ev l)) (bt n (od l))
noncomputable def T (l:List Obj) (n toks:Nat) (os:OsState):SharedT:=⟨bt 11 l,n,{},⟨[]⟩,boot_drawn,toks,os⟩
noncomputable def envM:Env:={ scope:=pq.main.scope,locals:=mainNs,globals:=mainNs,cells:=[],code:=.ref 13,frame:=some 14 }
noncomputable def cB:Code:=.body (behindTheImports pq) envM
noncomputable def th (l:List Stmt) (p:Pos):Thread:=⟨(PySem.W.Fast.tw12563942051412417395 l envM).wrap doneF deadEnd id id,cB,p,[topFrame ⟨0,0,0,0⟩]⟩
noncomputable def run (w:World) (n:Nat) (s:SharedT) (t:Thread):Option (Flow × SharedT × Code × Pos):=PySem.W.Fast.tw10110043849684766642 PySem.W.Fast.tw14364793385576792824 pq w 11 (some (.ref 6)) 1 n s t
noncomputable abbrev Y0:String:=PySem.W.SL.s2766695959194262286x5
noncomputable abbrev Y1:String:=PySem.W.SL.s5856160107412720595x4
noncomputable abbrev Y2:String:=PySem.W.SL.s658472552662922059x5
noncomputable abbrev Y3:String:=PySem.W.SL.s14018661285674007319x4
noncomputable abbrev Y4:String:=PySem.W.SL.s7097527257260152453x26
noncomputable abbrev Y5:String:=PySem.W.SL.s7174869446012820540x8
noncomputable abbrev Y6:String:=PySem.W.SL.s5946037652744460706x9
noncomputable abbrev Y7:String:=PySem.W.SL.s11030030927630378310x26
noncomputable abbrev Y8:String:=PySem.W.SL.s10062305145149207511x16
noncomputable abbrev Y9:String:=PySem.W.SL.s17162191345867700912x4
noncomputable abbrev Y10:String:=PySem.W.SL.s4278001404047624695x13
noncomputable abbrev Y11:String:=PySem.W.SL.s2742458400755230247x6
noncomputable abbrev Y12:String:=PySem.W.SL.s5160863994218179198x17
noncomputable abbrev Y13:String:=PySem.W.SL.s14755015743595814543x17
noncomputable abbrev Y14:String:=PySem.W.SL.s10220274742760427390x26
noncomputable abbrev Y15:String:=PySem.W.SL.s4290257624100764138x5
noncomputable abbrev Y16:String:=PySem.W.SL.s4860613602091757760x24
noncomputable abbrev Y17:String:=PySem.W.SL.s11443829558043349243x14
noncomputable abbrev Y18:String:=PySem.W.SL.s6511155373996960695x17
noncomputable abbrev Y19:String:=PySem.W.SL.s12411053484034534018x21
def S0:Str:=q [60,109,111,100,117,108,101,62]
def S1:Str:=q [47,99,108,97,105,109,47,99,117,116,46,112,121]
def S2:Str:=q [95,95,109,97,105,110,95,95]
def S3:Str:=q [116,121,112,101,46,95,95,115,117,98,99,108,97,115,115,101,115,95,95,46,69,120,99,101,112,116,105,111,110,46,48]
def S4:Str:=q [116,121,112,101,46,95,95,115,117,98,99,108,97,115,115,101,115,95,95,46,69,120,99,101,112,116,105,111,110,46,110]
def S5:Str:=q [95,95,110,97,109,101,95,95]
def S6:Str:=q [111,99,116,101,116,109,105,110,116,46,98,97,115,105,99,115]
def S7:Str:=q [95,95,100,111,99,95,95]
def S8:Str:=q [95,95,112,97,99,107,97,103,101,95,95]
def S9:Str:=q [95,95,108,111,97,100,101,114,95,95]
def S10:Str:=q [95,95,115,112,101,99,95,95]
def S11:Str:=q [95,95,97,110,110,111,116,97,116,105,111,110,115,95,95]
def S12:Str:=q [95,95,98,117,105,108,116,105,110,115,95,95]
def S13:Str:=q [95,95,102,105,108,101,95,95]
def S14:Str:=q [95,95,99,97,99,104,101,100,95,95]
def S15:Str:=q [95,119,97,108,108]
def S16:Str:=q [101,120,99,104,97,110,103,101]
def S17:Str:=q [109,111,118,101,95,100,101,101,100]
def S18:Str:=q [77,105,110,116,69,114,114,111,114]
def S19:Str:=q [107]
def S20:Str:=q [115,116,97,116,101]
def S21:Str:=q [111,110,101]
def S22:Str:=q [111,116,104,101,114]
def S23:Str:=q [115,105,122,101]
def S24:Str:=q [102,105,114,115,116]
def S25:Str:=q [115,101,99,111,110,100]
def S26:Str:=q [111,99,116,101,116,109,105,110,116,46,116,114,97,110,115,102,101,114,115]
def S27:Str:=q [105,110,115,116,114,117,99,116,105,111,110]
def S28:Str:=q [110,97,109,101]
def S29:Str:=q [95,95,109,111,100,117,108,101,95,95]
def S30:Str:=q [95,95,113,117,97,108,110,97,109,101,95,95]
def S31:Str:=q [95,95,102,105,114,115,116,108,105,110,101,110,111,95,95]
def S32:Str:=q [95,95,105,110,105,116,95,95]
def S33:Str:=q [116,111,108,100]
def S34:Str:=q [95,95,115,116,97,116,105,99,95,97,116,116,114,105,98,117,116,101,115,95,95]
def S35:Str:=q [115,101,108,102]
def S36:Str:=q [119,104,97,116]
def S37:Str:=q [97,116]
def S38:Str:=q [77,105,110,116,69,114,114,111,114,46,95,95,105,110,105,116,95,95]
def S39:Str:=q [77,105,110,116,69,114,114,111,114,46,116,111,108,100]
def S40:Str:=q [95,95,119,101,97,107,114,101,102,95,95]
def S41:Str:=q [79,112,101,114,97,110,100,69,114,114,111,114]
def S42:Str:=q [111,99,116,101,116,109,105,110,116,46,102,111,114,109,115]
def S43:Str:=q [77,97,99,104,105,110,101,69,114,114,111,114]
def S44:Str:=q [109,97,115,107]
def S45:Str:=q [119,114,97,112]
def S46:Str:=q [98,105,116]
def S47:Str:=q [111,110,101,115]
def S48:Str:=q [112,97,114,105,116,121]
def S49:Str:=q [67,79,78,68,73,84,73,79,78,83]
def S50:Str:=q [111,32,110,111,32,98,32,97,101,32,101,32,110,101,32,98,101,32,97,32,115,32,110,115,32,112,32,110,112,32,108,32,103,101,32,108,101,32,103]
def S51:Str:=q [119,111,114,116,104]
def S52:Str:=q [110]
def S53:Str:=q [114,101,115,116]
def S54:Str:=q [99,111,117,110,116]
def S55:Str:=q [111,99,116,101,116,109,105,110,116,46,102,108,97,103,115]
def S56:Str:=q [99,111,110,100,105,116,105,111,110,95,110,97,109,101,115]
def S57:Str:=q [67,70]
def S58:Str:=q [80,70]
def S59:Str:=q [65,70]
def S60:Str:=q [90,70]
def S61:Str:=q [83,70]
def S62:Str:=q [68,70]
def S63:Str:=q [79,70]
def S64:Str:=q [70,76,65,71,95,78,65,77,69,83]
def S65:Str:=q [99,102,32,112,102,32,97,102,32,122,102,32,115,102,32,111,102,32,100,102]
def S66:Str:=q [70,108,97,103,115]
def S67:Str:=q [112,97,99,107]
def S68:Str:=q [117,110,112,97,99,107]
def S69:Str:=q [117,110,112,97,99,107,95,108,111,119]
def S70:Str:=q [99,111,112,121]
def S71:Str:=q [103,101,116]
def S72:Str:=q [112,117,116]
def S73:Str:=q [115,104,111,119]
def S74:Str:=q [70,108,97,103,115,46,95,95,105,110,105,116,95,95]
def S75:Str:=q [70,108,97,103,115,46,116,111,108,100]
def S76:Str:=q [108,111,119]
def S77:Str:=q [70,108,97,103,115,46,112,97,99,107]
def S78:Str:=q [110,117,109,98,101,114]
def S79:Str:=q [70,108,97,103,115,46,117,110,112,97,99,107]
def S80:Str:=q [111,99,116,101,116]
def S81:Str:=q [70,108,97,103,115,46,117,110,112,97,99,107,95,108,111,119]
def S82:Str:=q [70,108,97,103,115,46,99,111,112,121]
def S83:Str:=q [110,97,109,101,115]
def S84:Str:=q [70,108,97,103,115,46,103,101,116]
def S85:Str:=q [115,112,111,116,115]
def S86:Str:=q [115,112,111,116]
def S87:Str:=q [70,108,97,103,115,46,112,117,116]
def S88:Str:=q [70,108,97,103,115,46,115,104,111,119]
def S89:Str:=q [97,102]
def S90:Str:=q [99,102]
def S91:Str:=q [100,102]
def S92:Str:=q [111,102]
def S93:Str:=q [112,102]
def S94:Str:=q [115,102]
def S95:Str:=q [122,102]
def S96:Str:=q [95,95,100,105,99,116,95,95]
def S97:Str:=q [111,99,116,101,116,109,105,110,116,46,114,101,103,105,115,116,101,114,115]
def S98:Str:=q [99,111,110,100,105,116,105,111,110,95,110,117,109,98,101,114]
def S99:Str:=q [104,111,108,100,115,95,110,117,109,98,101,114]
def S100:Str:=q [104,111,108,100,115]
def S101:Str:=q [115,122,112]
def S102:Str:=q [97,100,100,95,102,108,97,103,115]
def S103:Str:=q [115,117,98,95,102,108,97,103,115]
def S104:Str:=q [108,111,103,105,99,95,102,108,97,103,115]
def S105:Str:=q [105,110,99,95,102,108,97,103,115]
def S106:Str:=q [100,101,99,95,102,108,97,103,115]
def S107:Str:=q [110,101,103,95,102,108,97,103,115]
def S108:Str:=q [99,111,110,100,105,116,105,111,110,95,111,102]
def S109:Str:=q [78,65,77,69,83,95,56]
def S110:Str:=q [97,108,32,99,108,32,100,108,32,98,108,32,115,112,108,32,98,112,108,32,115,105,108,32,100,105,108]
def S111:Str:=q [78,65,77,69,83,95,49,54]
def S112:Str:=q [97,120,32,99,120,32,100,120,32,98,120,32,115,112,32,98,112,32,115,105,32,100,105]
def S113:Str:=q [78,65,77,69,83,95,51,50]
def S114:Str:=q [101,97,120,32,101,99,120,32,101,100,120,32,101,98,120,32,101,115,112,32,101,98,112,32,101,115,105,32,101,100,105]
def S115:Str:=q [99,111,110,100,105,116,105,111,110]
def S116:Str:=q [102,108,97,103,115]
def S117:Str:=q [112,97,105,114]
def S118:Str:=q [116,114,117,116,104]
def S119:Str:=q [114,101,115,117,108,116]
def S120:Str:=q [97]
def S121:Str:=q [98]
def S122:Str:=q [99,97,114,114,121]
def S123:Str:=q [116,119,111]
def S124:Str:=q [116,111,116,97,108]
def S125:Str:=q [98,111,114,114,111,119]
def S126:Str:=q [107,101,112,116]
def S127:Str:=q [115,116,101,109]
def S128:Str:=q [111,99,116,101,116,109,105,110,116,46,102,108,111,119]
def S129:Str:=q [78,65,77,69,83,95,54,52]
def S130:Str:=q [114,97,120,32,114,99,120,32,114,100,120,32,114,98,120,32,114,115,112,32,114,98,112,32,114,115,105,32,114,100,105]
def S131:Str:=q [72,73,71,72,95,78,65,77,69,83]
def S132:Str:=q [97,104,32,99,104,32,100,104,32,98,104]
def S133:Str:=q [82,101,103,105,115,116,101,114]
def S134:Str:=q [99,111,100,101]
def S135:Str:=q [105,115,95,101,120,116,101,110,100,101,100]
def S136:Str:=q [105,115,95,104,105,103,104]
def S137:Str:=q [110,101,101,100,115,95,114,101,120]
def S138:Str:=q [107,105,110,100]
def S139:Str:=q [82,101,103,105,115,116,101,114,46,95,95,105,110,105,116,95,95]
def S140:Str:=q [82,101,103,105,115,116,101,114,46,99,111,100,101]
def S141:Str:=q [82,101,103,105,115,116,101,114,46,105,115,95,101,120,116,101,110,100,101,100]
def S142:Str:=q [82,101,103,105,115,116,101,114,46,105,115,95,104,105,103,104]
def S143:Str:=q [82,101,103,105,115,116,101,114,46,110,101,101,100,115,95,114,101,120]
def S144:Str:=q [82,101,103,105,115,116,101,114,46,116,111,108,100]
def S145:Str:=q [111,99,116,101,116,109,105,110,116,46,100,101,101,100,115]
def S146:Str:=q [101,97,114,108,121,95,110,97,109,101,115]
def S147:Str:=q [108,97,116,101,95,101,110,100,105,110,103]
def S148:Str:=q [103,112,114]
def S149:Str:=q [104,105,103,104]
def S150:Str:=q [114,105,112]
def S151:Str:=q [65,72,95,78,85,77,66,69,82]
def S152:Str:=q [99,111,109,98,105,110,101,100]
def S153:Str:=q [116,119,111,95,100,101,101,100]
def S154:Str:=q [111,110,101,95,100,101,101,100]
def S155:Str:=q [120,97,100,100,95,100,101,101,100]
def S156:Str:=q [99,109,112,120,99,104,103,95,100,101,101,100]
def S157:Str:=q [102,108,97,103,95,100,101,101,100]
def S158:Str:=q [116,97,114,103,101,116]
def S159:Str:=q [115,111,117,114,99,101]
def S160:Str:=q [97,99,99,117,109,117,108,97,116,111,114]
def S161:Str:=q [111,108,100]
def S162:Str:=q [110,101,119]
def S163:Str:=q [111,99,116,101,116,109,105,110,116,46,109,97,99,104,105,110,101]
def S164:Str:=q [115,101,116,95,100,101,101,100]
def S165:Str:=q [99,109,111,118,95,100,101,101,100]
def S166:Str:=q [97,114,105,116,104,95,100,101,101,100]
def S167:Str:=q [77,101,109,111,114,121]
def S168:Str:=q [115,101,116,95,111,99,116,101,116]
def S169:Str:=q [114,101,97,100]
def S170:Str:=q [119,114,105,116,101]
def S171:Str:=q [108,111,97,100]
def S172:Str:=q [111,99,116,101,116,115]
def S173:Str:=q [119,114,105,116,116,101,110]
def S174:Str:=q [115,112,97,110,115]
def S175:Str:=q [102,105,110,100]
def S176:Str:=q [77,101,109,111,114,121,46,95,95,105,110,105,116,95,95]
def S177:Str:=q [112,108,97,99,101]
def S178:Str:=q [77,101,109,111,114,121,46,111,99,116,101,116]
def S179:Str:=q [77,101,109,111,114,121,46,115,101,116,95,111,99,116,101,116]
def S180:Str:=q [119,105,100,116,104]
def S181:Str:=q [77,101,109,111,114,121,46,114,101,97,100]
def S182:Str:=q [77,101,109,111,114,121,46,119,114,105,116,101]
def S183:Str:=q [77,101,109,111,114,121,46,108,111,97,100]
def S184:Str:=q [77,101,109,111,114,121,46,111,99,116,101,116,115]
def S185:Str:=q [77,101,109,111,114,121,46,119,114,105,116,116,101,110]
def S186:Str:=q [77,101,109,111,114,121,46,115,112,97,110,115]
def S187:Str:=q [98,101,103,105,110]
def S188:Str:=q [101,110,100]
def S189:Str:=q [77,101,109,111,114,121,46,102,105,110,100]
def S190:Str:=q [77,101,109,111,114,121,46,99,111,112,121]
def S191:Str:=q [77,101,109,111,114,121,46,116,111,108,100]
def S192:Str:=q [104,101,108,100]
def S193:Str:=q [106,111,105,110,101,100]
def S194:Str:=q [83,116,97,116,101]
def S195:Str:=q [112,117,116,95,108,111,119]
def S196:Str:=q [114,101,103,105,115,116,101,114,115]
def S197:Str:=q [111,102,102,115,101,116]
def S198:Str:=q [115,105,122,101,95,111,102]
def S199:Str:=q [112,117,115,104]
def S200:Str:=q [112,111,112]
def S201:Str:=q [105,115,101,116]
def S202:Str:=q [83,116,97,116,101,46,95,95,105,110,105,116,95,95]
def S203:Str:=q [114,101,103,105,115,116,101,114]
def S204:Str:=q [83,116,97,116,101,46,103,101,116]
def S205:Str:=q [83,116,97,116,101,46,112,117,116]
def S206:Str:=q [83,116,97,116,101,46,112,117,116,95,108,111,119]
def S207:Str:=q [83,116,97,116,101,46,114,101,103,105,115,116,101,114,115]
def S208:Str:=q [109,101,109]
def S209:Str:=q [83,116,97,116,101,46,111,102,102,115,101,116]
def S210:Str:=q [98,97,115,101]
def S211:Str:=q [83,116,97,116,101,46,112,108,97,99,101]
def S212:Str:=q [111,112,101,114,97,110,100]
def S213:Str:=q [83,116,97,116,101,46,115,105,122,101,95,111,102]
def S214:Str:=q [83,116,97,116,101,46,114,101,97,100]
def S215:Str:=q [83,116,97,116,101,46,119,114,105,116,101]
def S216:Str:=q [83,116,97,116,101,46,112,117,115,104]
def S217:Str:=q [83,116,97,116,101,46,112,111,112]
def S218:Str:=q [98,97,115,101,115]
def S219:Str:=q [83,116,97,116,101,46,116,111,108,100]
def S220:Str:=q [83,116,97,116,101,46,99,111,112,121]
def S221:Str:=q [105,115,95,104,97,108,116,101,100]
def S222:Str:=q [109,101,109,111,114,121]
def S223:Str:=q [114,101,103,115]
def S224:Str:=q [115,101,103,109,101,110,116,115]
def S225:Str:=q [120,109,109]
def S226:Str:=q [111,99,116,101,116,109,105,110,116,46,111,112,101,114,97,110,100,115]
def S227:Str:=q [79,112,101,114,97,110,100]
def S228:Str:=q [115,121,109,98,111,108]
def S229:Str:=q [79,112,101,114,97,110,100,46,95,95,105,110,105,116,95,95]
def S230:Str:=q [79,112,101,114,97,110,100,46,116,111,108,100]
def S231:Str:=q [79,112,101,114,97,110,100,46,115,121,109,98,111,108]
def S232:Str:=q [79,112,101,114,97,110,100,46,114,101,103,105,115,116,101,114,115]
def S233:Str:=q [82,101,103]
def S234:Str:=q [82,101,103,46,95,95,105,110,105,116,95,95]
def S235:Str:=q [82,101,103,46,116,111,108,100]
def S236:Str:=q [82,101,103,46,114,101,103,105,115,116,101,114,115]
def S237:Str:=q [77,101,109]
def S238:Str:=q [105,115,95,114,105,112]
def S239:Str:=q [105,115,95,97,98,115,111,108,117,116,101]
def S240:Str:=q []
def S241:Str:=q [105,110,100,101,120]
def S242:Str:=q [115,99,97,108,101]
def S243:Str:=q [115,101,103,109,101,110,116]
def S244:Str:=q [77,101,109,46,95,95,105,110,105,116,95,95]
def S245:Str:=q [77,101,109,46,116,111,108,100]
def S246:Str:=q [77,101,109,46,115,121,109,98,111,108]
def S247:Str:=q [77,101,109,46,114,101,103,105,115,116,101,114,115]
def S248:Str:=q [77,101,109,46,105,115,95,114,105,112]
def S249:Str:=q [77,101,109,46,105,115,95,97,98,115,111,108,117,116,101]
def S250:Str:=q [108,97,119,95,110,110,48,48,54,57,95,48,49]
def S251:Str:=q [73,110,115,116,114,117,99,116,105,111,110]
def S252:Str:=q [109,101,109,111,114,121,95,97,116]
def S253:Str:=q [115,121,109,98,111,108,115]
def S254:Str:=q [114,101,112,108,97,99,101,100]
def S255:Str:=q [111,112,101,114,97,110,100,115]
def S256:Str:=q [112,114,101,102,105,120]
def S257:Str:=q [73,110,115,116,114,117,99,116,105,111,110,46,95,95,105,110,105,116,95,95]
def S258:Str:=q [73,110,115,116,114,117,99,116,105,111,110,46,116,111,108,100]
def S259:Str:=q [73,110,115,116,114,117,99,116,105,111,110,46,109,101,109,111,114,121,95,97,116]
def S260:Str:=q [73,110,115,116,114,117,99,116,105,111,110,46,109,101,109,111,114,121]
def S261:Str:=q [73,110,115,116,114,117,99,116,105,111,110,46,115,121,109,98,111,108,115]
def S262:Str:=q [73,110,115,116,114,117,99,116,105,111,110,46,114,101,112,108,97,99,101,100]
def S263:Str:=q [95,108,97,119,95,112,101,110]
def S264:Str:=q [95,108,97,119,95,100,114,97,119]
def S265:Str:=q [95,108,97,119,95,112,105,99,107]
def S266:Str:=q [95,108,97,119,95,114,101,103]
def S267:Str:=q [95,108,97,119,95,109,101,109]
def S268:Str:=q [95,108,97,119,95,108,105,110,101]
def S269:Str:=q [95,108,97,119,95,111,112,101,114,97,110,100]
def S270:Str:=q [95,108,97,119,95,112,108,97,99,101]
def S271:Str:=q [95,108,97,119,95,103,101,116]
def S272:Str:=q [95,108,97,119,95,112,117,116]
def S273:Str:=q [95,108,97,119,95,97,100,100,101,100]
def S274:Str:=q [95,108,97,119,95,100,111]
def S275:Str:=q [112,101,110]
def S276:Str:=q [109,97,110,121]
def S277:Str:=q [100,105,103,105,116]
def S278:Str:=q [99,101,108,108]
def S279:Str:=q [103,114,101,97,116]
def S280:Str:=q [109,105,120,101,100]
def S281:Str:=q [115,111,109,101]
def S282:Str:=q [102,97,114]
def S283:Str:=q [114,101,103]
def S284:Str:=q [119,97,121]
def S285:Str:=q [115,111,114,116]
def S286:Str:=q [108,101,97,110]
def S287:Str:=q [108,101,97,100]
def S288:Str:=q [119,111,114,108,100]
def S289:Str:=q [105,115,95,112,108,97,105,110]
def S290:Str:=q [116,105,109,101,115]
def S291:Str:=q [115,104,105,102,116]
def S292:Str:=q [108,97,119]
noncomputable def cd (q n:Str) (x f c a z:Nat):Obj:=fd (t Y1) [s q x,s n (x + 1),s S1 (x + 2),i f,i c,i 0,i 0,i 3,r a,B1,i 181,r (a + 1),o,r (a + 2),r (a + 3),r (a + 4),i z,i f,s S1 (z + 1)]
noncomputable def ce (q n:Str) (x f c a z:Nat):Obj:=fd (t Y1) [s q x,s n (x + 1),s S1 (x + 2),i f,i c,i 0,i 0,i 3,r a,B1,i 181,r (a + 1),o,o,o,r (a + 2),i z,i f,s S1 (z + 1)]
noncomputable def cf (q n:Str) (x f c a z:Nat):Obj:=fd (t Y1) [s q x,s n (x + 1),s S1 (x + 2),i f,i c,i 0,i 0,i 0,r a,B0,i 181,r (a + 1),o,o,o,o,i z,i f,s S1 (z + 1)]
noncomputable def kz (P:D):List Addr→List (Params→Obj)→Frag
 | a::r,f::l=>(a,f P)::kz P r l
 | _,_=>[]
def z (P:D):Obj:=s0 [] 0
def o1 (P:D):Obj:=fd (o) []
def o2 (P:D):Obj:=cf S0 S0 182 1 0 11 185
def o3 (P:D):Obj:=pl (t Y2) none [some (r 13),some (r 3),some (r 3),none,some (s S2 164),none,some (r 0)]
def o4 (P:D):Obj:=dc (o) [e P S3 256 (i 60),e P S4 257 (i 1)] 2
def o5 (P:D):Obj:=dc (t Y3) [e P S5 165 (s S6 220),e P S7 166 (o),e P S8 167 (o),e P S9 168 (b Y4),e P S10 169 (o),e P S11 170 (r 6),e P S12 171 (r 4),e P S13 173 (s S1 172),e P S14 174 (o),e P S15 193 (r 21),e P S16 207 (r 28),e P S17 219 (r 35),e P S18 259 (r 60)] 13
def o6 (P:D):Obj:=fd (o) [i 1,i 0,r 20,i 5,i 0,r 27,i 12,i 0,r 34,i 29,i 0,r 41]
def o7 (P:D):Obj:=s0 [s S19 190] 0
def o8 (P:D):Obj:=fz (st 0) S15 S15
def o9 (P:D):Obj:=cd S15 S15 187 1 1 15 191
def o10 (P:D):Obj:=fy (st 0) S15 S15 (s S2 164) (r 20)
def o11 (P:D):Obj:=s0 [s S20 199,s S21 200,s S22 201,s S23 202,s S24 203,s S25 204] 0
def o12 (P:D):Obj:=fz (st 2) S16 S16
def o13 (P:D):Obj:=cd S16 S16 196 5 4 22 205
def o14 (P:D):Obj:=fy (st 2) S16 S16 (s S26 194) (r 27)
def o15 (P:D):Obj:=s0 [s S20 211,s S27 212,s S28 213,s S21 214,s S22 215,s S23 216] 0
def o16 (P:D):Obj:=fz (st 3) S17 S17
def o17 (P:D):Obj:=cd S17 S17 208 12 2 29 217
def o18 (P:D):Obj:=fy (st 3) S17 S17 (s S26 194) (r 34)
def o19 (P:D):Obj:=s0 [t Y6] 0
def o20 (P:D):Obj:=fd (t Y7) [b Y8,t Y9]
def o21 (P:D):Obj:=dc (t Y3) [e P S29 229 (s S6 220),e P S30 231 (s S18 230),e P S31 233 (it 29 232),e P S32 242 (r 50),e P S33 249 (r 57),e P S34 252 (r 58)] 6
def o22 (P:D):Obj:=fd (o) [i 31,i 4,r 49,i 36,i 4,r 56]
def o23 (P:D):Obj:=cf S18 S18 224 29 0 39 227
def o24 (P:D):Obj:=pl (t Y2) none [some (r 41),some (r 3),some (r 38),none,some (s S6 220),none,some (r 0)]
def o25 (P:D):Obj:=s0 [o] 0
def o26 (P:D):Obj:=s0 [s S35 237,s S36 238,s S37 239] 0
def o27 (P:D):Obj:=fz (sm 5 0) S32 S38
def o28 (P:D):Obj:=cd S32 S38 234 31 3 44 240
def o29 (P:D):Obj:=fn (t Y5) (sm 5 0) S32 S38 3 (r 43) (o) (o) (s S6 220) (r 49) (o) 0
def o30 (P:D):Obj:=s0 [s S35 246] 0
def o31 (P:D):Obj:=fz (sm 5 1) S33 S39
def o32 (P:D):Obj:=cd S33 S39 243 36 1 51 247
def o33 (P:D):Obj:=fy (sm 5 1) S33 S39 (s S6 220) (r 56)
def o34 (P:D):Obj:=s0 [s S37 250,s S36 251] 0
def o35 (P:D):Obj:=dc (t Y3) [e P S29 229 (s S6 220),e P S31 233 (it 29 232),e P S32 242 (r 50),e P S33 249 (r 57),e P S34 252 (r 58),e P S40 254 (r 61),e P S7 255 (o)] 3
def o36 (P:D):Obj:=kl (t Y9) S18 [t Y6] [r 60,t Y6,t Y10,t Y11] 59 S18 true [] [] [some (r 36),none,some (s S18 222),some (s S18 230),some (b Y12),some (B1)]
def o37 (P:D):Obj:=fd (t Y13) [s S40 253,r 60,b Y14,o]
def o38 (P:D):Obj:=fd (t Y15) [r 60,r 60,r 60]
def o39 (P:D):Obj:=fd (t Y7) [b Y16,r 60]
def o40 (P:D):Obj:=dc (t Y3) [e P S5 165 (s S6 220),e P S7 166 (o),e P S8 167 (o),e P S9 168 (b Y4),e P S10 169 (o),e P S11 170 (r 6),e P S12 171 (r 4),e P S13 173 (s S1 172),e P S14 174 (o),e P S15 193 (r 21),e P S16 207 (r 28),e P S17 219 (r 35),e P S18 259 (r 60),e P S41 275 (r 73)] 14
def o41 (P:D):Obj:=fd (o) [i 1,i 0,r 20,i 5,i 0,r 27,i 12,i 0,r 34,i 29,i 0,r 41,i 40,i 0,r 69]
def o42 (P:D):Obj:=kl (t Y9) S18 [t Y6] [r 60,t Y6,t Y10,t Y11] 59 S18 true [] [r 73] [some (r 36),none,some (s S18 222),some (s S18 230),some (b Y12),some (B1)]
def o43 (P:D):Obj:=s0 [r 60] 0
def o44 (P:D):Obj:=dc (t Y3) [e P S29 267 (s S6 220),e P S30 269 (s S41 268),e P S31 271 (it 40 270),e P S34 272 (r 71)] 4
def o45 (P:D):Obj:=cf S41 S41 262 40 0 67 265
def o46 (P:D):Obj:=pl (t Y2) none [some (r 69),some (r 3),some (r 66),none,some (s S6 220),none,some (r 0)]
def o47 (P:D):Obj:=dc (t Y3) [e P S29 267 (s S6 220),e P S31 271 (it 40 270),e P S34 272 (r 71),e P S7 273 (o)] 2
def o48 (P:D):Obj:=kl (t Y9) S41 [r 60] [r 73,r 60,t Y6,t Y10,t Y11] 72 S41 true [] [] [some (r 64),none,some (s S41 260),some (s S41 268),some (b Y12),some (B1)]
def o49 (P:D):Obj:=fd (t Y15) [r 73,r 73,r 73]
def o50 (P:D):Obj:=fd (t Y7) [b Y16,r 73]
def o51 (P:D):Obj:=dc (t Y3) [e P S5 165 (s S42 332),e P S7 166 (o),e P S8 167 (o),e P S9 168 (b Y4),e P S10 169 (o),e P S11 170 (r 6),e P S12 171 (r 4),e P S13 173 (s S1 172),e P S14 174 (o),e P S15 193 (r 21),e P S16 207 (r 28),e P S17 219 (r 35),e P S18 259 (r 60),e P S41 275 (r 73),e P S43 291 (r 85),e P S44 298 (r 94),e P S45 306 (r 101),e P S46 314 (r 108),e P S47 324 (r 115),e P S48 331 (r 122),e P S49 335 (s S50 334)] 21
def o52 (P:D):Obj:=fd (o) [i 1,i 0,r 20,i 5,i 0,r 27,i 12,i 0,r 34,i 29,i 0,r 41,i 40,i 0,r 69,i 42,i 0,r 81,i 44,i 0,r 93,i 46,i 0,r 100,i 48,i 0,r 107,i 50,i 0,r 114,i 57,i 0,r 121]
def o53 (P:D):Obj:=kl (t Y9) S18 [t Y6] [r 60,t Y6,t Y10,t Y11] 59 S18 true [] [r 73,r 85] [some (r 36),none,some (s S18 222),some (s S18 230),some (b Y12),some (B1)]
def o54 (P:D):Obj:=dc (t Y3) [e P S29 283 (s S6 220),e P S30 285 (s S43 284),e P S31 287 (it 42 286),e P S34 288 (r 83)] 4
def o55 (P:D):Obj:=cf S43 S43 278 42 0 79 281
def o56 (P:D):Obj:=pl (t Y2) none [some (r 81),some (r 3),some (r 78),none,some (s S6 220),none,some (r 0)]
def o57 (P:D):Obj:=dc (t Y3) [e P S29 283 (s S6 220),e P S31 287 (it 42 286),e P S34 288 (r 83),e P S7 289 (o)] 2
def o58 (P:D):Obj:=kl (t Y9) S43 [r 60] [r 85,r 60,t Y6,t Y10,t Y11] 84 S43 true [] [] [some (r 76),none,some (s S43 276),some (s S43 284),some (b Y12),some (B1)]
def o59 (P:D):Obj:=fd (t Y15) [r 85,r 85,r 85]
def o60 (P:D):Obj:=fd (t Y7) [b Y16,r 85]
def o61 (P:D):Obj:=s0 [s S23 295] 0
def o62 (P:D):Obj:=fz (st 8) S44 S44
def o63 (P:D):Obj:=cd S44 S44 292 44 1 88 296
def o64 (P:D):Obj:=fy (st 8) S44 S44 (s S6 220) (r 93)
def o65 (P:D):Obj:=s0 [s S51 302,s S23 303] 0
def o66 (P:D):Obj:=fz (st 9) S45 S45
def o67 (P:D):Obj:=cd S45 S45 299 46 2 95 304
def o68 (P:D):Obj:=fy (st 9) S45 S45 (s S6 220) (r 100)
def o69 (P:D):Obj:=s0 [s S51 310,s S52 311] 0
def o70 (P:D):Obj:=fz (st 10) S46 S46
def o71 (P:D):Obj:=cd S46 S46 307 48 2 102 312
def o72 (P:D):Obj:=fy (st 10) S46 S46 (s S6 220) (r 107)
def o73 (P:D):Obj:=s0 [s S51 318,s S23 319,s S53 320,s S54 321] 0
def o74 (P:D):Obj:=fz (st 11) S47 S47
def o75 (P:D):Obj:=cd S47 S47 315 50 2 109 322
def o76 (P:D):Obj:=fy (st 11) S47 S47 (s S6 220) (r 114)
def o77 (P:D):Obj:=s0 [s S51 328] 0
def o78 (P:D):Obj:=fz (st 12) S48 S48
def o79 (P:D):Obj:=cd S48 S48 325 57 1 116 329
def o80 (P:D):Obj:=fy (st 12) S48 S48 (s S6 220) (r 121)
def o81 (P:D):Obj:=dc (t Y3) [e P S5 165 (s S55 342),e P S7 166 (o),e P S8 167 (o),e P S9 168 (b Y4),e P S10 169 (o),e P S11 170 (r 6),e P S12 171 (r 4),e P S13 173 (s S1 172),e P S14 174 (o),e P S15 193 (r 21),e P S16 207 (r 28),e P S17 219 (r 35),e P S18 259 (r 60),e P S41 275 (r 73),e P S43 291 (r 85),e P S44 298 (r 94),e P S45 306 (r 101),e P S46 314 (r 108),e P S47 324 (r 115),e P S48 331 (r 122),e P S49 335 (s S50 334),e P S56 341 (r 129),e P S57 345 (it 0 344),e P S58 347 (it 2 346),e P S59 349 (it 4 348),e P S60 351 (it 6 350),e P S61 353 (it 7 352),e P S62 355 (it 10 354),e P S63 357 (it 11 356),e P S64 359 (s S65 358)] 30
def o82 (P:D):Obj:=fd (o) [i 1,i 0,r 20,i 5,i 0,r 27,i 12,i 0,r 34,i 29,i 0,r 41,i 40,i 0,r 69,i 42,i 0,r 81,i 44,i 0,r 93,i 46,i 0,r 100,i 48,i 0,r 107,i 50,i 0,r 114,i 57,i 0,r 121,i 61,i 0,r 128]
def o83 (P:D):Obj:=fz (st 15) S56 S56
def o84 (P:D):Obj:=cd S56 S56 336 61 0 123 339
def o85 (P:D):Obj:=fy (st 15) S56 S56 (s S42 332) (r 128)
def o86 (P:D):Obj:=dc (t Y3) [e P S5 165 (s S55 342),e P S7 166 (o),e P S8 167 (o),e P S9 168 (b Y4),e P S10 169 (o),e P S11 170 (r 6),e P S12 171 (r 4),e P S13 173 (s S1 172),e P S14 174 (o),e P S15 193 (r 21),e P S16 207 (r 28),e P S17 219 (r 35),e P S18 259 (r 60),e P S41 275 (r 73),e P S43 291 (r 85),e P S44 298 (r 94),e P S45 306 (r 101),e P S46 314 (r 108),e P S47 324 (r 115),e P S48 331 (r 122),e P S49 335 (s S50 334),e P S56 341 (r 129),e P S57 345 (it 0 344),e P S58 347 (it 2 346),e P S59 349 (it 4 348),e P S60 351 (it 6 350),e P S61 353 (it 7 352),e P S62 355 (it 10 354),e P S63 357 (it 11 356),e P S64 359 (s S65 358),e P S66 459 (r 202)] 31
def o87 (P:D):Obj:=fd (o) [i 1,i 0,r 20,i 5,i 0,r 27,i 12,i 0,r 34,i 29,i 0,r 41,i 40,i 0,r 69,i 42,i 0,r 81,i 44,i 0,r 93,i 46,i 0,r 100,i 48,i 0,r 107,i 50,i 0,r 114,i 57,i 0,r 121,i 61,i 0,r 128,i 72,i 0,r 135]
def o88 (P:D):Obj:=dc (t Y3) [e P S29 367 (s S55 342),e P S30 369 (s S66 368),e P S31 371 (it 72 370),e P S32 378 (r 143),e P S33 385 (r 150),e P S67 393 (r 157),e P S68 401 (r 164),e P S69 409 (r 171),e P S70 416 (r 178),e P S71 425 (r 185),e P S72 437 (r 192),e P S73 444 (r 199),e P S34 452 (r 200)] 13
def o89 (P:D):Obj:=fd (o) [i 74,i 4,r 142,i 83,i 4,r 149,i 86,i 4,r 156,i 90,i 4,r 163,i 99,i 4,r 170,i 106,i 4,r 177,i 109,i 4,r 184,i 115,i 4,r 191,i 123,i 4,r 198]
def o90 (P:D):Obj:=cf S66 S66 362 72 0 133 365
def o91 (P:D):Obj:=pl (t Y2) none [some (r 135),some (r 3),some (r 132),none,some (s S55 342),none,some (r 0)]
def o92 (P:D):Obj:=s0 [s S35 375] 0
def o93 (P:D):Obj:=fz (sm 25 0) S32 S74
def o94 (P:D):Obj:=cd S32 S74 372 74 1 137 376
def o95 (P:D):Obj:=fy (sm 25 0) S32 S74 (s S55 342) (r 142)
def o96 (P:D):Obj:=s0 [s S35 382] 0
def o97 (P:D):Obj:=fz (sm 25 1) S33 S75
def o98 (P:D):Obj:=cd S33 S75 379 83 1 144 383
def o99 (P:D):Obj:=fy (sm 25 1) S33 S75 (s S55 342) (r 149)
def o100 (P:D):Obj:=s0 [s S35 389,s S76 390] 0
def o101 (P:D):Obj:=fz (sm 25 2) S67 S77
def o102 (P:D):Obj:=cd S67 S77 386 86 1 151 391
def o103 (P:D):Obj:=fy (sm 25 2) S67 S77 (s S55 342) (r 156)
def o104 (P:D):Obj:=s0 [s S35 397,s S78 398] 0
def o105 (P:D):Obj:=fz (sm 25 3) S68 S79
def o106 (P:D):Obj:=cd S68 S79 394 90 2 158 399
def o107 (P:D):Obj:=fy (sm 25 3) S68 S79 (s S55 342) (r 163)
def o108 (P:D):Obj:=s0 [s S35 405,s S80 406] 0
def o109 (P:D):Obj:=fz (sm 25 4) S69 S81
def o110 (P:D):Obj:=cd S69 S81 402 99 2 165 407
def o111 (P:D):Obj:=fy (sm 25 4) S69 S81 (s S55 342) (r 170)
def o112 (P:D):Obj:=s0 [s S35 413] 0
def o113 (P:D):Obj:=fz (sm 25 5) S70 S82
def o114 (P:D):Obj:=cd S70 S82 410 106 1 172 414
def o115 (P:D):Obj:=fy (sm 25 5) S70 S82 (s S55 342) (r 177)
def o116 (P:D):Obj:=s0 [s S35 420,s S28 421,s S83 422] 0
def o117 (P:D):Obj:=fz (sm 25 6) S71 S84
def o118 (P:D):Obj:=cd S71 S84 417 109 2 179 423
def o119 (P:D):Obj:=fy (sm 25 6) S71 S84 (s S55 342) (r 184)
def o120 (P:D):Obj:=s0 [s S35 429,s S28 430,s S51 431,s S85 432,s S86 433,s S78 434] 0
def o121 (P:D):Obj:=fz (sm 25 7) S72 S87
def o122 (P:D):Obj:=cd S72 S87 426 115 3 186 435
def o123 (P:D):Obj:=fy (sm 25 7) S72 S87 (s S55 342) (r 191)
def o124 (P:D):Obj:=s0 [s S35 441] 0
def o125 (P:D):Obj:=fz (sm 25 8) S73 S88
def o126 (P:D):Obj:=cd S73 S88 438 123 1 193 442
def o127 (P:D):Obj:=fy (sm 25 8) S73 S88 (s S55 342) (r 198)
def o128 (P:D):Obj:=s0 [s S89 445,s S90 446,s S91 447,s S92 448,s S93 449,s S94 450,s S95 451] 0
def o129 (P:D):Obj:=dc (t Y3) [e P S29 367 (s S55 342),e P S31 371 (it 72 370),e P S32 378 (r 143),e P S33 385 (r 150),e P S67 393 (r 157),e P S68 401 (r 164),e P S69 409 (r 171),e P S70 416 (r 178),e P S71 425 (r 185),e P S72 437 (r 192),e P S73 444 (r 199),e P S34 452 (r 200),e P S96 454 (r 203),e P S40 456 (r 204),e P S7 457 (o)] 4
def o130 (P:D):Obj:=kl (t Y9) S66 [t Y11] [r 202,t Y11] 201 S66 true [] [] [none,none,some (s S66 360),some (s S66 368),some (b Y17),some (B1)]
def o131 (P:D):Obj:=fd (t Y13) [s S96 453,r 202,b Y18,b Y19]
def o132 (P:D):Obj:=fd (t Y13) [s S40 455,r 202,b Y14,o]
def o133 (P:D):Obj:=fd (t Y15) [r 202,r 202,r 202]
def o134 (P:D):Obj:=fd (t Y7) [b Y16,r 202]
def o135 (P:D):Obj:=dc (t Y3) [e P S5 165 (s S97 575),e P S7 166 (o),e P S8 167 (o),e P S9 168 (b Y4),e P S10 169 (o),e P S11 170 (r 6),e P S12 171 (r 4),e P S13 173 (s S1 172),e P S14 174 (o),e P S15 193 (r 21),e P S16 207 (r 28),e P S17 219 (r 35),e P S18 259 (r 60),e P S41 275 (r 73),e P S43 291 (r 85),e P S44 298 (r 94),e P S45 306 (r 101),e P S46 314 (r 108),e P S47 324 (r 115),e P S48 331 (r 122),e P S49 335 (s S50 334),e P S56 341 (r 129),e P S57 345 (it 0 344),e P S58 347 (it 2 346),e P S59 349 (it 4 348),e P S60 351 (it 6 350),e P S61 353 (it 7 352),e P S62 355 (it 10 354),e P S63 357 (it 11 356),e P S64 359 (s S65 358),e P S66 459 (r 202),e P S98 466 (r 213),e P S99 476 (r 220),e P S100 484 (r 227),e P S101 494 (r 234),e P S102 509 (r 241),e P S103 524 (r 248),e P S104 533 (r 255),e P S105 544 (r 262),e P S106 555 (r 269),e P S107 564 (r 276),e P S108 574 (r 283),e P S109 578 (s S110 577),e P S111 580 (s S112 579),e P S113 582 (s S114 581)] 45
def o136 (P:D):Obj:=fd (o) [i 1,i 0,r 20,i 5,i 0,r 27,i 12,i 0,r 34,i 29,i 0,r 41,i 40,i 0,r 69,i 42,i 0,r 81,i 44,i 0,r 93,i 46,i 0,r 100,i 48,i 0,r 107,i 50,i 0,r 114,i 57,i 0,r 121,i 61,i 0,r 128,i 72,i 0,r 135,i 125,i 0,r 212,i 129,i 0,r 219,i 148,i 0,r 226,i 150,i 0,r 233,i 156,i 0,r 240,i 164,i 0,r 247,i 172,i 0,r 254,i 177,i 0,r 261,i 182,i 0,r 268,i 187,i 0,r 275,i 190,i 0,r 282]
def o137 (P:D):Obj:=s0 [s S115 463] 0
def o138 (P:D):Obj:=fz (st 26) S98 S98
def o139 (P:D):Obj:=cd S98 S98 460 125 1 207 464
def o140 (P:D):Obj:=fy (st 26) S98 S98 (s S55 342) (r 212)
def o141 (P:D):Obj:=s0 [s S116 470,s S78 471,s S117 472,s S118 473] 0
def o142 (P:D):Obj:=fz (st 27) S99 S99
def o143 (P:D):Obj:=cd S99 S99 467 129 2 214 474
def o144 (P:D):Obj:=fy (st 27) S99 S99 (s S55 342) (r 219)
def o145 (P:D):Obj:=s0 [s S116 480,s S115 481] 0
def o146 (P:D):Obj:=fz (st 28) S100 S100
def o147 (P:D):Obj:=cd S100 S100 477 148 2 221 482
def o148 (P:D):Obj:=fy (st 28) S100 S100 (s S55 342) (r 226)
def o149 (P:D):Obj:=s0 [s S116 488,s S119 489,s S23 490,s S33 491] 0
def o150 (P:D):Obj:=fz (st 29) S101 S101
def o151 (P:D):Obj:=cd S101 S101 485 150 3 228 492
def o152 (P:D):Obj:=fy (st 29) S101 S101 (s S55 342) (r 233)
def o153 (P:D):Obj:=s0 [s S116 498,s S120 499,s S121 500,s S122 501,s S23 502,s S21 503,s S123 504,s S124 505,s S119 506] 0
def o154 (P:D):Obj:=fz (st 30) S102 S102
def o155 (P:D):Obj:=cd S102 S102 495 156 5 235 507
def o156 (P:D):Obj:=fy (st 30) S102 S102 (s S55 342) (r 240)
def o157 (P:D):Obj:=s0 [s S116 513,s S120 514,s S121 515,s S125 516,s S23 517,s S21 518,s S123 519,s S53 520,s S119 521] 0
def o158 (P:D):Obj:=fz (st 31) S103 S103
def o159 (P:D):Obj:=cd S103 S103 510 164 5 242 522
def o160 (P:D):Obj:=fy (st 31) S103 S103 (s S55 342) (r 247)
def o161 (P:D):Obj:=s0 [s S116 528,s S119 529,s S23 530] 0
def o162 (P:D):Obj:=fz (st 32) S104 S104
def o163 (P:D):Obj:=cd S104 S104 525 172 3 249 531
def o164 (P:D):Obj:=fy (st 32) S104 S104 (s S55 342) (r 254)
def o165 (P:D):Obj:=s0 [s S116 537,s S120 538,s S23 539,s S126 540,s S119 541] 0
def o166 (P:D):Obj:=fz (st 33) S105 S105
def o167 (P:D):Obj:=cd S105 S105 534 177 3 256 542
def o168 (P:D):Obj:=fy (st 33) S105 S105 (s S55 342) (r 261)
def o169 (P:D):Obj:=s0 [s S116 548,s S120 549,s S23 550,s S126 551,s S119 552] 0
def o170 (P:D):Obj:=fz (st 34) S106 S106
def o171 (P:D):Obj:=cd S106 S106 545 182 3 263 553
def o172 (P:D):Obj:=fy (st 34) S106 S106 (s S55 342) (r 268)
def o173 (P:D):Obj:=s0 [s S116 559,s S120 560,s S23 561] 0
def o174 (P:D):Obj:=fz (st 35) S107 S107
def o175 (P:D):Obj:=cd S107 S107 556 187 3 270 562
def o176 (P:D):Obj:=fy (st 35) S107 S107 (s S55 342) (r 275)
def o177 (P:D):Obj:=s0 [s S28 570,s S127 571] 0
def o178 (P:D):Obj:=fz (st 37) S108 S108
def o179 (P:D):Obj:=cd S108 S108 567 190 1 277 572
def o180 (P:D):Obj:=fy (st 37) S108 S108 (s S128 565) (r 282)
def o181 (P:D):Obj:=dc (t Y3) [e P S5 165 (s S97 575),e P S7 166 (o),e P S8 167 (o),e P S9 168 (b Y4),e P S10 169 (o),e P S11 170 (r 6),e P S12 171 (r 4),e P S13 173 (s S1 172),e P S14 174 (o),e P S15 193 (r 21),e P S16 207 (r 28),e P S17 219 (r 35),e P S18 259 (r 60),e P S41 275 (r 73),e P S43 291 (r 85),e P S44 298 (r 94),e P S45 306 (r 101),e P S46 314 (r 108),e P S47 324 (r 115),e P S48 331 (r 122),e P S49 335 (s S50 334),e P S56 341 (r 129),e P S57 345 (it 0 344),e P S58 347 (it 2 346),e P S59 349 (it 4 348),e P S60 351 (it 6 350),e P S61 353 (it 7 352),e P S62 355 (it 10 354),e P S63 357 (it 11 356),e P S64 359 (s S65 358),e P S66 459 (r 202),e P S98 466 (r 213),e P S99 476 (r 220),e P S100 484 (r 227),e P S101 494 (r 234),e P S102 509 (r 241),e P S103 524 (r 248),e P S104 533 (r 255),e P S105 544 (r 262),e P S106 555 (r 269),e P S107 564 (r 276),e P S108 574 (r 283),e P S109 578 (s S110 577),e P S111 580 (s S112 579),e P S113 582 (s S114 581),e P S129 584 (s S130 583),e P S131 586 (s S132 585)] 47
def o182 (P:D):Obj:=dc (t Y3) [e P S5 165 (s S97 575),e P S7 166 (o),e P S8 167 (o),e P S9 168 (b Y4),e P S10 169 (o),e P S11 170 (r 6),e P S12 171 (r 4),e P S13 173 (s S1 172),e P S14 174 (o),e P S15 193 (r 21),e P S16 207 (r 28),e P S17 219 (r 35),e P S18 259 (r 60),e P S41 275 (r 73),e P S43 291 (r 85),e P S44 298 (r 94),e P S45 306 (r 101),e P S46 314 (r 108),e P S47 324 (r 115),e P S48 331 (r 122),e P S49 335 (s S50 334),e P S56 341 (r 129),e P S57 345 (it 0 344),e P S58 347 (it 2 346),e P S59 349 (it 4 348),e P S60 351 (it 6 350),e P S61 353 (it 7 352),e P S62 355 (it 10 354),e P S63 357 (it 11 356),e P S64 359 (s S65 358),e P S66 459 (r 202),e P S98 466 (r 213),e P S99 476 (r 220),e P S100 484 (r 227),e P S101 494 (r 234),e P S102 509 (r 241),e P S103 524 (r 248),e P S104 533 (r 255),e P S105 544 (r 262),e P S106 555 (r 269),e P S107 564 (r 276),e P S108 574 (r 283),e P S109 578 (s S110 577),e P S111 580 (s S112 579),e P S113 582 (s S114 581),e P S129 584 (s S130 583),e P S131 586 (s S132 585),e P S133 656 (r 335)] 48
def o183 (P:D):Obj:=fd (o) [i 1,i 0,r 20,i 5,i 0,r 27,i 12,i 0,r 34,i 29,i 0,r 41,i 40,i 0,r 69,i 42,i 0,r 81,i 44,i 0,r 93,i 46,i 0,r 100,i 48,i 0,r 107,i 50,i 0,r 114,i 57,i 0,r 121,i 61,i 0,r 128,i 72,i 0,r 135,i 125,i 0,r 212,i 129,i 0,r 219,i 148,i 0,r 226,i 150,i 0,r 233,i 156,i 0,r 240,i 164,i 0,r 247,i 172,i 0,r 254,i 177,i 0,r 261,i 182,i 0,r 268,i 187,i 0,r 275,i 190,i 0,r 282,i 201,i 0,r 289]
def o184 (P:D):Obj:=dc (t Y3) [e P S29 594 (s S97 575),e P S30 596 (s S133 595),e P S31 598 (it 201 597),e P S32 609 (r 297),e P S134 616 (r 304),e P S135 623 (r 311),e P S136 630 (r 318),e P S137 637 (r 325),e P S33 644 (r 332),e P S34 649 (r 333)] 10
def o185 (P:D):Obj:=fd (o) [i 203,i 4,r 296,i 209,i 4,r 303,i 212,i 4,r 310,i 215,i 4,r 317,i 218,i 4,r 324,i 221,i 4,r 331]
def o186 (P:D):Obj:=cf S133 S133 589 201 0 287 592
def o187 (P:D):Obj:=pl (t Y2) none [some (r 289),some (r 3),some (r 286),none,some (s S97 575),none,some (r 0)]
def o188 (P:D):Obj:=s0 [s S35 602,s S28 603,s S138 604,s S78 605,s S23 606] 0
def o189 (P:D):Obj:=fz (sm 44 0) S32 S139
def o190 (P:D):Obj:=cd S32 S139 599 203 5 291 607
def o191 (P:D):Obj:=fy (sm 44 0) S32 S139 (s S97 575) (r 296)
def o192 (P:D):Obj:=s0 [s S35 613] 0
def o193 (P:D):Obj:=fz (sm 44 1) S134 S140
def o194 (P:D):Obj:=cd S134 S140 610 209 1 298 614
def o195 (P:D):Obj:=fy (sm 44 1) S134 S140 (s S97 575) (r 303)
def o196 (P:D):Obj:=s0 [s S35 620] 0
def o197 (P:D):Obj:=fz (sm 44 2) S135 S141
def o198 (P:D):Obj:=cd S135 S141 617 212 1 305 621
def o199 (P:D):Obj:=fy (sm 44 2) S135 S141 (s S97 575) (r 310)
def o200 (P:D):Obj:=s0 [s S35 627] 0
def o201 (P:D):Obj:=fz (sm 44 3) S136 S142
def o202 (P:D):Obj:=cd S136 S142 624 215 1 312 628
def o203 (P:D):Obj:=fy (sm 44 3) S136 S142 (s S97 575) (r 317)
def o204 (P:D):Obj:=s0 [s S35 634] 0
def o205 (P:D):Obj:=fz (sm 44 4) S137 S143
def o206 (P:D):Obj:=cd S137 S143 631 218 1 319 635
def o207 (P:D):Obj:=fy (sm 44 4) S137 S143 (s S97 575) (r 324)
def o208 (P:D):Obj:=s0 [s S35 641] 0
def o209 (P:D):Obj:=fz (sm 44 5) S33 S144
def o210 (P:D):Obj:=cd S33 S144 638 221 1 326 642
def o211 (P:D):Obj:=fy (sm 44 5) S33 S144 (s S97 575) (r 331)
def o212 (P:D):Obj:=s0 [s S138 645,s S28 646,s S78 647,s S23 648] 0
def o213 (P:D):Obj:=dc (t Y3) [e P S29 594 (s S97 575),e P S31 598 (it 201 597),e P S32 609 (r 297),e P S134 616 (r 304),e P S135 623 (r 311),e P S136 630 (r 318),e P S137 637 (r 325),e P S33 644 (r 332),e P S34 649 (r 333),e P S96 651 (r 336),e P S40 653 (r 337),e P S7 654 (o)] 4
def o214 (P:D):Obj:=kl (t Y9) S133 [t Y11] [r 335,t Y11] 334 S133 true [] [] [none,none,some (s S133 587),some (s S133 595),some (b Y17),some (B1)]
def o215 (P:D):Obj:=fd (t Y13) [s S96 650,r 335,b Y18,b Y19]
def o216 (P:D):Obj:=fd (t Y13) [s S40 652,r 335,b Y14,o]
def o217 (P:D):Obj:=fd (t Y15) [r 335,r 335,r 335]
def o218 (P:D):Obj:=fd (t Y7) [b Y16,r 335]
def o219 (P:D):Obj:=dc (t Y3) [e P S5 165 (s S145 693),e P S7 166 (o),e P S8 167 (o),e P S9 168 (b Y4),e P S10 169 (o),e P S11 170 (r 6),e P S12 171 (r 4),e P S13 173 (s S1 172),e P S14 174 (o),e P S15 193 (r 21),e P S16 207 (r 28),e P S17 219 (r 35),e P S18 259 (r 60),e P S41 275 (r 73),e P S43 291 (r 85),e P S44 298 (r 94),e P S45 306 (r 101),e P S46 314 (r 108),e P S47 324 (r 115),e P S48 331 (r 122),e P S49 335 (s S50 334),e P S56 341 (r 129),e P S57 345 (it 0 344),e P S58 347 (it 2 346),e P S59 349 (it 4 348),e P S60 351 (it 6 350),e P S61 353 (it 7 352),e P S62 355 (it 10 354),e P S63 357 (it 11 356),e P S64 359 (s S65 358),e P S66 459 (r 202),e P S98 466 (r 213),e P S99 476 (r 220),e P S100 484 (r 227),e P S101 494 (r 234),e P S102 509 (r 241),e P S103 524 (r 248),e P S104 533 (r 255),e P S105 544 (r 262),e P S106 555 (r 269),e P S107 564 (r 276),e P S108 574 (r 283),e P S109 578 (s S110 577),e P S111 580 (s S112 579),e P S113 582 (s S114 581),e P S129 584 (s S130 583),e P S131 586 (s S132 585),e P S133 656 (r 335),e P S146 663 (r 346),e P S147 670 (r 353),e P S148 679 (r 360),e P S149 686 (r 367),e P S150 692 (r 374),e P S151 696 (it 4 695),e P S152 707 (r 381),e P S153 721 (r 388),e P S154 733 (r 395),e P S155 747 (r 402),e P S156 762 (r 409),e P S157 771 (r 416)] 60
def o220 (P:D):Obj:=fd (o) [i 1,i 0,r 20,i 5,i 0,r 27,i 12,i 0,r 34,i 29,i 0,r 41,i 40,i 0,r 69,i 42,i 0,r 81,i 44,i 0,r 93,i 46,i 0,r 100,i 48,i 0,r 107,i 50,i 0,r 114,i 57,i 0,r 121,i 61,i 0,r 128,i 72,i 0,r 135,i 125,i 0,r 212,i 129,i 0,r 219,i 148,i 0,r 226,i 150,i 0,r 233,i 156,i 0,r 240,i 164,i 0,r 247,i 172,i 0,r 254,i 177,i 0,r 261,i 182,i 0,r 268,i 187,i 0,r 275,i 190,i 0,r 282,i 201,i 0,r 289,i 223,i 0,r 345,i 233,i 0,r 352,i 241,i 0,r 359,i 248,i 0,r 366,i 252,i 0,r 373,i 256,i 0,r 380,i 270,i 0,r 387,i 277,i 0,r 394,i 290,i 0,r 401,i 301,i 0,r 408,i 311,i 0,r 415]
def o221 (P:D):Obj:=s0 [s S23 660] 0
def o222 (P:D):Obj:=fz (st 45) S146 S146
def o223 (P:D):Obj:=cd S146 S146 657 223 1 340 661
def o224 (P:D):Obj:=fy (st 45) S146 S146 (s S97 575) (r 345)
def o225 (P:D):Obj:=s0 [s S23 667] 0
def o226 (P:D):Obj:=fz (st 46) S147 S147
def o227 (P:D):Obj:=cd S147 S147 664 233 1 347 668
def o228 (P:D):Obj:=fy (st 46) S147 S147 (s S97 575) (r 352)
def o229 (P:D):Obj:=s0 [s S78 674,s S23 675,s S83 676] 0
def o230 (P:D):Obj:=fz (st 47) S148 S148
def o231 (P:D):Obj:=cd S148 S148 671 241 2 354 677
def o232 (P:D):Obj:=fy (st 47) S148 S148 (s S97 575) (r 359)
def o233 (P:D):Obj:=s0 [s S78 683] 0
def o234 (P:D):Obj:=fz (st 48) S149 S149
def o235 (P:D):Obj:=cd S149 S149 680 248 1 361 684
def o236 (P:D):Obj:=fy (st 48) S149 S149 (s S97 575) (r 366)
def o237 (P:D):Obj:=fz (st 49) S150 S150
def o238 (P:D):Obj:=cd S150 S150 687 252 0 368 690
def o239 (P:D):Obj:=fy (st 49) S150 S150 (s S97 575) (r 373)
def o240 (P:D):Obj:=s0 [s S116 700,s S28 701,s S120 702,s S121 703,s S23 704] 0
def o241 (P:D):Obj:=fz (st 52) S152 S152
def o242 (P:D):Obj:=cd S152 S152 697 256 5 375 705
def o243 (P:D):Obj:=fy (st 52) S152 S152 (s S145 693) (r 380)
def o244 (P:D):Obj:=s0 [s S20 711,s S27 712,s S158 713,s S159 714,s S23 715,s S120 716,s S121 717,s S119 718] 0
def o245 (P:D):Obj:=fz (st 53) S153 S153
def o246 (P:D):Obj:=cd S153 S153 708 270 2 382 719
def o247 (P:D):Obj:=fy (st 53) S153 S153 (s S145 693) (r 387)
def o248 (P:D):Obj:=s0 [s S20 725,s S27 726,s S158 727,s S23 728,s S120 729,s S119 730] 0
def o249 (P:D):Obj:=fz (st 54) S154 S154
def o250 (P:D):Obj:=cd S154 S154 722 277 2 389 731
def o251 (P:D):Obj:=fy (st 54) S154 S154 (s S145 693) (r 394)
def o252 (P:D):Obj:=s0 [s S20 737,s S27 738,s S158 739,s S159 740,s S23 741,s S120 742,s S121 743,s S119 744] 0
def o253 (P:D):Obj:=fz (st 55) S155 S155
def o254 (P:D):Obj:=cd S155 S155 734 290 2 396 745
def o255 (P:D):Obj:=fy (st 55) S155 S155 (s S145 693) (r 401)
def o256 (P:D):Obj:=s0 [s S20 751,s S27 752,s S158 753,s S159 754,s S23 755,s S160 756,s S120 757,s S161 758,s S162 759] 0
def o257 (P:D):Obj:=fz (st 56) S156 S156
def o258 (P:D):Obj:=cd S156 S156 748 301 2 403 760
def o259 (P:D):Obj:=fy (st 56) S156 S156 (s S145 693) (r 408)
def o260 (P:D):Obj:=s0 [s S20 766,s S28 767,s S116 768] 0
def o261 (P:D):Obj:=fz (st 57) S157 S157
def o262 (P:D):Obj:=cd S157 S157 763 311 2 410 769
def o263 (P:D):Obj:=fy (st 57) S157 S157 (s S145 693) (r 415)
def o264 (P:D):Obj:=dc (t Y3) [e P S5 165 (s S163 803),e P S7 166 (o),e P S8 167 (o),e P S9 168 (b Y4),e P S10 169 (o),e P S11 170 (r 6),e P S12 171 (r 4),e P S13 173 (s S1 172),e P S14 174 (o),e P S15 193 (r 21),e P S16 207 (r 28),e P S17 219 (r 35),e P S18 259 (r 60),e P S41 275 (r 73),e P S43 291 (r 85),e P S44 298 (r 94),e P S45 306 (r 101),e P S46 314 (r 108),e P S47 324 (r 115),e P S48 331 (r 122),e P S49 335 (s S50 334),e P S56 341 (r 129),e P S57 345 (it 0 344),e P S58 347 (it 2 346),e P S59 349 (it 4 348),e P S60 351 (it 6 350),e P S61 353 (it 7 352),e P S62 355 (it 10 354),e P S63 357 (it 11 356),e P S64 359 (s S65 358),e P S66 459 (r 202),e P S98 466 (r 213),e P S99 476 (r 220),e P S100 484 (r 227),e P S101 494 (r 234),e P S102 509 (r 241),e P S103 524 (r 248),e P S104 533 (r 255),e P S105 544 (r 262),e P S106 555 (r 269),e P S107 564 (r 276),e P S108 574 (r 283),e P S109 578 (s S110 577),e P S111 580 (s S112 579),e P S113 582 (s S114 581),e P S129 584 (s S130 583),e P S131 586 (s S132 585),e P S133 656 (r 335),e P S146 663 (r 346),e P S147 670 (r 353),e P S148 679 (r 360),e P S149 686 (r 367),e P S150 692 (r 374),e P S151 696 (it 4 695),e P S152 707 (r 381),e P S153 721 (r 388),e P S154 733 (r 395),e P S155 747 (r 402),e P S156 762 (r 409),e P S157 771 (r 416),e P S164 780 (r 423),e P S165 793 (r 430),e P S166 802 (r 437)] 63
def o265 (P:D):Obj:=fd (o) [i 1,i 0,r 20,i 5,i 0,r 27,i 12,i 0,r 34,i 29,i 0,r 41,i 40,i 0,r 69,i 42,i 0,r 81,i 44,i 0,r 93,i 46,i 0,r 100,i 48,i 0,r 107,i 50,i 0,r 114,i 57,i 0,r 121,i 61,i 0,r 128,i 72,i 0,r 135,i 125,i 0,r 212,i 129,i 0,r 219,i 148,i 0,r 226,i 150,i 0,r 233,i 156,i 0,r 240,i 164,i 0,r 247,i 172,i 0,r 254,i 177,i 0,r 261,i 182,i 0,r 268,i 187,i 0,r 275,i 190,i 0,r 282,i 201,i 0,r 289,i 223,i 0,r 345,i 233,i 0,r 352,i 241,i 0,r 359,i 248,i 0,r 366,i 252,i 0,r 373,i 256,i 0,r 380,i 270,i 0,r 387,i 277,i 0,r 394,i 290,i 0,r 401,i 301,i 0,r 408,i 311,i 0,r 415,i 327,i 0,r 422,i 330,i 0,r 429,i 335,i 0,r 436]
def o266 (P:D):Obj:=s0 [s S20 775,s S27 776,s S118 777] 0
def o267 (P:D):Obj:=fz (st 58) S164 S164
def o268 (P:D):Obj:=cd S164 S164 772 327 2 417 778
def o269 (P:D):Obj:=fy (st 58) S164 S164 (s S145 693) (r 422)
def o270 (P:D):Obj:=s0 [s S20 784,s S27 785,s S158 786,s S159 787,s S23 788,s S161 789,s S162 790] 0
def o271 (P:D):Obj:=fz (st 59) S165 S165
def o272 (P:D):Obj:=cd S165 S165 781 330 2 424 791
def o273 (P:D):Obj:=fy (st 59) S165 S165 (s S145 693) (r 429)
def o274 (P:D):Obj:=s0 [s S20 797,s S27 798,s S28 799] 0
def o275 (P:D):Obj:=fz (st 60) S166 S166
def o276 (P:D):Obj:=cd S166 S166 794 335 2 431 800
def o277 (P:D):Obj:=fy (st 60) S166 S166 (s S145 693) (r 436)
def o278 (P:D):Obj:=dc (t Y3) [e P S5 165 (s S163 803),e P S7 166 (o),e P S8 167 (o),e P S9 168 (b Y4),e P S10 169 (o),e P S11 170 (r 6),e P S12 171 (r 4),e P S13 173 (s S1 172),e P S14 174 (o),e P S15 193 (r 21),e P S16 207 (r 28),e P S17 219 (r 35),e P S18 259 (r 60),e P S41 275 (r 73),e P S43 291 (r 85),e P S44 298 (r 94),e P S45 306 (r 101),e P S46 314 (r 108),e P S47 324 (r 115),e P S48 331 (r 122),e P S49 335 (s S50 334),e P S56 341 (r 129),e P S57 345 (it 0 344),e P S58 347 (it 2 346),e P S59 349 (it 4 348),e P S60 351 (it 6 350),e P S61 353 (it 7 352),e P S62 355 (it 10 354),e P S63 357 (it 11 356),e P S64 359 (s S65 358),e P S66 459 (r 202),e P S98 466 (r 213),e P S99 476 (r 220),e P S100 484 (r 227),e P S101 494 (r 234),e P S102 509 (r 241),e P S103 524 (r 248),e P S104 533 (r 255),e P S105 544 (r 262),e P S106 555 (r 269),e P S107 564 (r 276),e P S108 574 (r 283),e P S109 578 (s S110 577),e P S111 580 (s S112 579),e P S113 582 (s S114 581),e P S129 584 (s S130 583),e P S131 586 (s S132 585),e P S133 656 (r 335),e P S146 663 (r 346),e P S147 670 (r 353),e P S148 679 (r 360),e P S149 686 (r 367),e P S150 692 (r 374),e P S151 696 (it 4 695),e P S152 707 (r 381),e P S153 721 (r 388),e P S154 733 (r 395),e P S155 747 (r 402),e P S156 762 (r 409),e P S157 771 (r 416),e P S164 780 (r 423),e P S165 793 (r 430),e P S166 802 (r 437),e P S167 925 (r 527)] 64
def o279 (P:D):Obj:=fd (o) [i 1,i 0,r 20,i 5,i 0,r 27,i 12,i 0,r 34,i 29,i 0,r 41,i 40,i 0,r 69,i 42,i 0,r 81,i 44,i 0,r 93,i 46,i 0,r 100,i 48,i 0,r 107,i 50,i 0,r 114,i 57,i 0,r 121,i 61,i 0,r 128,i 72,i 0,r 135,i 125,i 0,r 212,i 129,i 0,r 219,i 148,i 0,r 226,i 150,i 0,r 233,i 156,i 0,r 240,i 164,i 0,r 247,i 172,i 0,r 254,i 177,i 0,r 261,i 182,i 0,r 268,i 187,i 0,r 275,i 190,i 0,r 282,i 201,i 0,r 289,i 223,i 0,r 345,i 233,i 0,r 352,i 241,i 0,r 359,i 248,i 0,r 366,i 252,i 0,r 373,i 256,i 0,r 380,i 270,i 0,r 387,i 277,i 0,r 394,i 290,i 0,r 401,i 301,i 0,r 408,i 311,i 0,r 415,i 327,i 0,r 422,i 330,i 0,r 429,i 335,i 0,r 436,i 355,i 0,r 443]
def o280 (P:D):Obj:=dc (t Y3) [e P S29 812 (s S163 803),e P S30 814 (s S167 813),e P S31 816 (it 355 815),e P S32 823 (r 451),e P S80 831 (r 458),e P S168 840 (r 465),e P S169 851 (r 472),e P S170 862 (r 479),e P S171 873 (r 486),e P S172 879 (r 491),e P S173 885 (r 496),e P S174 892 (r 503),e P S175 902 (r 510),e P S70 909 (r 517),e P S33 916 (r 524),e P S34 918 (r 525)] 16
def o281 (P:D):Obj:=fd (o) [i 357,i 4,r 450,i 360,i 4,r 457,i 363,i 4,r 464,i 366,i 4,r 471,i 372,i 4,r 478,i 376,i 4,r 485,i 380,i 4,r 490,i 383,i 4,r 495,i 386,i 4,r 502,i 389,i 4,r 509,i 392,i 4,r 516,i 395,i 4,r 523]
def o282 (P:D):Obj:=cf S167 S167 807 355 0 441 810
def o283 (P:D):Obj:=pl (t Y2) none [some (r 443),some (r 3),some (r 440),none,some (s S163 803),none,some (r 0)]
def o284 (P:D):Obj:=s0 [s S35 820] 0
def o285 (P:D):Obj:=fz (sm 62 0) S32 S176
def o286 (P:D):Obj:=cd S32 S176 817 357 1 445 821
def o287 (P:D):Obj:=fy (sm 62 0) S32 S176 (s S163 803) (r 450)
def o288 (P:D):Obj:=s0 [s S35 827,s S177 828] 0
def o289 (P:D):Obj:=fz (sm 62 1) S80 S178
def o290 (P:D):Obj:=cd S80 S178 824 360 2 452 829
def o291 (P:D):Obj:=fy (sm 62 1) S80 S178 (s S163 803) (r 457)
def o292 (P:D):Obj:=s0 [s S35 835,s S177 836,s S80 837] 0
def o293 (P:D):Obj:=fz (sm 62 2) S168 S179
def o294 (P:D):Obj:=cd S168 S179 832 363 3 459 838
def o295 (P:D):Obj:=fy (sm 62 2) S168 S179 (s S163 803) (r 464)
def o296 (P:D):Obj:=s0 [s S35 844,s S177 845,s S180 846,s S51 847,s S37 848] 0
def o297 (P:D):Obj:=fz (sm 62 3) S169 S181
def o298 (P:D):Obj:=cd S169 S181 841 366 3 466 849
def o299 (P:D):Obj:=fy (sm 62 3) S169 S181 (s S163 803) (r 471)
def o300 (P:D):Obj:=s0 [s S35 855,s S177 856,s S180 857,s S51 858,s S37 859] 0
def o301 (P:D):Obj:=fz (sm 62 4) S170 S182
def o302 (P:D):Obj:=cd S170 S182 852 372 4 473 860
def o303 (P:D):Obj:=fy (sm 62 4) S170 S182 (s S163 803) (r 478)
def o304 (P:D):Obj:=s0 [s S35 866,s S177 867,s S172 868,s S37 869,s S80 870] 0
def o305 (P:D):Obj:=fz (sm 62 5) S171 S183
def o306 (P:D):Obj:=cd S171 S183 863 376 3 480 871
def o307 (P:D):Obj:=fy (sm 62 5) S171 S183 (s S163 803) (r 485)
def o308 (P:D):Obj:=fz (sm 62 6) S172 S184
def o309 (P:D):Obj:=ce S172 S184 874 380 3 487 877
def o310 (P:D):Obj:=fy (sm 62 6) S172 S184 (s S163 803) (r 490)
def o311 (P:D):Obj:=fz (sm 62 7) S173 S185
def o312 (P:D):Obj:=ce S173 S185 880 383 1 492 883
def o313 (P:D):Obj:=fy (sm 62 7) S173 S185 (s S163 803) (r 495)
def o314 (P:D):Obj:=s0 [s S35 889] 0
def o315 (P:D):Obj:=fz (sm 62 8) S174 S186
def o316 (P:D):Obj:=cd S174 S186 886 386 1 497 890
def o317 (P:D):Obj:=fy (sm 62 8) S174 S186 (s S163 803) (r 502)
def o318 (P:D):Obj:=s0 [s S35 896,s S172 897,s S187 898,s S188 899] 0
def o319 (P:D):Obj:=fz (sm 62 9) S175 S189
def o320 (P:D):Obj:=cd S175 S189 893 389 4 504 900
def o321 (P:D):Obj:=fy (sm 62 9) S175 S189 (s S163 803) (r 509)
def o322 (P:D):Obj:=s0 [s S35 906] 0
def o323 (P:D):Obj:=fz (sm 62 10) S70 S190
def o324 (P:D):Obj:=cd S70 S190 903 392 1 511 907
def o325 (P:D):Obj:=fy (sm 62 10) S70 S190 (s S163 803) (r 516)
def o326 (P:D):Obj:=s0 [s S35 913] 0
def o327 (P:D):Obj:=fz (sm 62 11) S33 S191
def o328 (P:D):Obj:=cd S33 S191 910 395 1 518 914
def o329 (P:D):Obj:=fy (sm 62 11) S33 S191 (s S163 803) (r 523)
def o330 (P:D):Obj:=s0 [s S192 917] 0
def o331 (P:D):Obj:=dc (t Y3) [e P S29 812 (s S163 803),e P S31 816 (it 355 815),e P S32 823 (r 451),e P S80 831 (r 458),e P S168 840 (r 465),e P S169 851 (r 472),e P S170 862 (r 479),e P S171 873 (r 486),e P S172 879 (r 491),e P S173 885 (r 496),e P S174 892 (r 503),e P S175 902 (r 510),e P S70 909 (r 517),e P S33 916 (r 524),e P S34 918 (r 525),e P S96 920 (r 528),e P S40 922 (r 529),e P S7 923 (o)] 4
def o332 (P:D):Obj:=kl (t Y9) S167 [t Y11] [r 527,t Y11] 526 S167 true [] [] [none,none,some (s S167 805),some (s S167 813),some (b Y17),some (B1)]
def o333 (P:D):Obj:=fd (t Y13) [s S96 919,r 527,b Y18,b Y19]
def o334 (P:D):Obj:=fd (t Y13) [s S40 921,r 527,b Y14,o]
def o335 (P:D):Obj:=fd (t Y15) [r 527,r 527,r 527]
def o336 (P:D):Obj:=fd (t Y7) [b Y16,r 527]
def o337 (P:D):Obj:=dc (t Y3) [e P S5 165 (s S163 803),e P S7 166 (o),e P S8 167 (o),e P S9 168 (b Y4),e P S10 169 (o),e P S11 170 (r 6),e P S12 171 (r 4),e P S13 173 (s S1 172),e P S14 174 (o),e P S15 193 (r 21),e P S16 207 (r 28),e P S17 219 (r 35),e P S18 259 (r 60),e P S41 275 (r 73),e P S43 291 (r 85),e P S44 298 (r 94),e P S45 306 (r 101),e P S46 314 (r 108),e P S47 324 (r 115),e P S48 331 (r 122),e P S49 335 (s S50 334),e P S56 341 (r 129),e P S57 345 (it 0 344),e P S58 347 (it 2 346),e P S59 349 (it 4 348),e P S60 351 (it 6 350),e P S61 353 (it 7 352),e P S62 355 (it 10 354),e P S63 357 (it 11 356),e P S64 359 (s S65 358),e P S66 459 (r 202),e P S98 466 (r 213),e P S99 476 (r 220),e P S100 484 (r 227),e P S101 494 (r 234),e P S102 509 (r 241),e P S103 524 (r 248),e P S104 533 (r 255),e P S105 544 (r 262),e P S106 555 (r 269),e P S107 564 (r 276),e P S108 574 (r 283),e P S109 578 (s S110 577),e P S111 580 (s S112 579),e P S113 582 (s S114 581),e P S129 584 (s S130 583),e P S131 586 (s S132 585),e P S133 656 (r 335),e P S146 663 (r 346),e P S147 670 (r 353),e P S148 679 (r 360),e P S149 686 (r 367),e P S150 692 (r 374),e P S151 696 (it 4 695),e P S152 707 (r 381),e P S153 721 (r 388),e P S154 733 (r 395),e P S155 747 (r 402),e P S156 762 (r 409),e P S157 771 (r 416),e P S164 780 (r 423),e P S165 793 (r 430),e P S166 802 (r 437),e P S167 925 (r 527),e P S193 934 (r 538)] 65
def o338 (P:D):Obj:=fd (o) [i 1,i 0,r 20,i 5,i 0,r 27,i 12,i 0,r 34,i 29,i 0,r 41,i 40,i 0,r 69,i 42,i 0,r 81,i 44,i 0,r 93,i 46,i 0,r 100,i 48,i 0,r 107,i 50,i 0,r 114,i 57,i 0,r 121,i 61,i 0,r 128,i 72,i 0,r 135,i 125,i 0,r 212,i 129,i 0,r 219,i 148,i 0,r 226,i 150,i 0,r 233,i 156,i 0,r 240,i 164,i 0,r 247,i 172,i 0,r 254,i 177,i 0,r 261,i 182,i 0,r 268,i 187,i 0,r 275,i 190,i 0,r 282,i 201,i 0,r 289,i 223,i 0,r 345,i 233,i 0,r 352,i 241,i 0,r 359,i 248,i 0,r 366,i 252,i 0,r 373,i 256,i 0,r 380,i 270,i 0,r 387,i 277,i 0,r 394,i 290,i 0,r 401,i 301,i 0,r 408,i 311,i 0,r 415,i 327,i 0,r 422,i 330,i 0,r 429,i 335,i 0,r 436,i 355,i 0,r 443,i 397,i 0,r 537]
def o339 (P:D):Obj:=s0 [s S161 929,s S51 930,s S23 931] 0
def o340 (P:D):Obj:=fz (st 63) S193 S193
def o341 (P:D):Obj:=cd S193 S193 926 397 3 532 932
def o342 (P:D):Obj:=fy (st 63) S193 S193 (s S163 803) (r 537)
def o343 (P:D):Obj:=dc (t Y3) [e P S5 165 (s S163 803),e P S7 166 (o),e P S8 167 (o),e P S9 168 (b Y4),e P S10 169 (o),e P S11 170 (r 6),e P S12 171 (r 4),e P S13 173 (s S1 172),e P S14 174 (o),e P S15 193 (r 21),e P S16 207 (r 28),e P S17 219 (r 35),e P S18 259 (r 60),e P S41 275 (r 73),e P S43 291 (r 85),e P S44 298 (r 94),e P S45 306 (r 101),e P S46 314 (r 108),e P S47 324 (r 115),e P S48 331 (r 122),e P S49 335 (s S50 334),e P S56 341 (r 129),e P S57 345 (it 0 344),e P S58 347 (it 2 346),e P S59 349 (it 4 348),e P S60 351 (it 6 350),e P S61 353 (it 7 352),e P S62 355 (it 10 354),e P S63 357 (it 11 356),e P S64 359 (s S65 358),e P S66 459 (r 202),e P S98 466 (r 213),e P S99 476 (r 220),e P S100 484 (r 227),e P S101 494 (r 234),e P S102 509 (r 241),e P S103 524 (r 248),e P S104 533 (r 255),e P S105 544 (r 262),e P S106 555 (r 269),e P S107 564 (r 276),e P S108 574 (r 283),e P S109 578 (s S110 577),e P S111 580 (s S112 579),e P S113 582 (s S114 581),e P S129 584 (s S130 583),e P S131 586 (s S132 585),e P S133 656 (r 335),e P S146 663 (r 346),e P S147 670 (r 353),e P S148 679 (r 360),e P S149 686 (r 367),e P S150 692 (r 374),e P S151 696 (it 4 695),e P S152 707 (r 381),e P S153 721 (r 388),e P S154 733 (r 395),e P S155 747 (r 402),e P S156 762 (r 409),e P S157 771 (r 416),e P S164 780 (r 423),e P S165 793 (r 430),e P S166 802 (r 437),e P S167 925 (r 527),e P S193 934 (r 538),e P S194 1085 (r 644)] 66
def o344 (P:D):Obj:=fd (o) [i 1,i 0,r 20,i 5,i 0,r 27,i 12,i 0,r 34,i 29,i 0,r 41,i 40,i 0,r 69,i 42,i 0,r 81,i 44,i 0,r 93,i 46,i 0,r 100,i 48,i 0,r 107,i 50,i 0,r 114,i 57,i 0,r 121,i 61,i 0,r 128,i 72,i 0,r 135,i 125,i 0,r 212,i 129,i 0,r 219,i 148,i 0,r 226,i 150,i 0,r 233,i 156,i 0,r 240,i 164,i 0,r 247,i 172,i 0,r 254,i 177,i 0,r 261,i 182,i 0,r 268,i 187,i 0,r 275,i 190,i 0,r 282,i 201,i 0,r 289,i 223,i 0,r 345,i 233,i 0,r 352,i 241,i 0,r 359,i 248,i 0,r 366,i 252,i 0,r 373,i 256,i 0,r 380,i 270,i 0,r 387,i 277,i 0,r 394,i 290,i 0,r 401,i 301,i 0,r 408,i 311,i 0,r 415,i 327,i 0,r 422,i 330,i 0,r 429,i 335,i 0,r 436,i 355,i 0,r 443,i 397,i 0,r 537,i 401,i 0,r 544]
def o345 (P:D):Obj:=dc (t Y3) [e P S29 942 (s S163 803),e P S30 944 (s S194 943),e P S31 946 (it 401 945),e P S32 954 (r 552),e P S71 962 (r 559),e P S72 972 (r 566),e P S195 983 (r 573),e P S196 989 (r 578),e P S197 998 (r 585),e P S177 1007 (r 592),e P S198 1017 (r 599),e P S169 1026 (r 606),e P S170 1036 (r 613),e P S199 1045 (r 620),e P S200 1053 (r 627),e P S33 1061 (r 634),e P S70 1068 (r 641),e P S34 1078 (r 642)] 18
def o346 (P:D):Obj:=fd (o) [i 403,i 4,r 551,i 414,i 4,r 558,i 425,i 4,r 565,i 437,i 4,r 572,i 444,i 4,r 577,i 447,i 4,r 584,i 455,i 4,r 591,i 459,i 4,r 598,i 467,i 4,r 605,i 474,i 4,r 612,i 482,i 4,r 619,i 485,i 4,r 626,i 488,i 4,r 633,i 492,i 4,r 640]
def o347 (P:D):Obj:=cf S194 S194 937 401 0 542 940
def o348 (P:D):Obj:=pl (t Y2) none [some (r 544),some (r 3),some (r 541),none,some (s S163 803),none,some (r 0)]
def o349 (P:D):Obj:=s0 [s S35 950,s S201 951] 0
def o350 (P:D):Obj:=fz (sm 64 0) S32 S202
def o351 (P:D):Obj:=cd S32 S202 947 403 2 546 952
def o352 (P:D):Obj:=fy (sm 64 0) S32 S202 (s S163 803) (r 551)
def o353 (P:D):Obj:=s0 [s S35 958,s S203 959] 0
def o354 (P:D):Obj:=fz (sm 64 1) S71 S204
def o355 (P:D):Obj:=cd S71 S204 955 414 2 553 960
def o356 (P:D):Obj:=fy (sm 64 1) S71 S204 (s S163 803) (r 558)
def o357 (P:D):Obj:=s0 [s S35 966,s S203 967,s S51 968,s S161 969] 0
def o358 (P:D):Obj:=fz (sm 64 2) S72 S205
def o359 (P:D):Obj:=cd S72 S205 963 425 3 560 970
def o360 (P:D):Obj:=fy (sm 64 2) S72 S205 (s S163 803) (r 565)
def o361 (P:D):Obj:=s0 [s S35 976,s S203 977,s S23 978,s S51 979,s S161 980] 0
def o362 (P:D):Obj:=fz (sm 64 3) S195 S206
def o363 (P:D):Obj:=cd S195 S206 973 437 4 567 981
def o364 (P:D):Obj:=fy (sm 64 3) S195 S206 (s S163 803) (r 572)
def o365 (P:D):Obj:=fz (sm 64 4) S196 S207
def o366 (P:D):Obj:=ce S196 S207 984 444 1 574 987
def o367 (P:D):Obj:=fy (sm 64 4) S196 S207 (s S163 803) (r 577)
def o368 (P:D):Obj:=s0 [s S35 993,s S208 994,s S124 995] 0
def o369 (P:D):Obj:=fz (sm 64 5) S197 S209
def o370 (P:D):Obj:=cd S197 S209 990 447 2 579 996
def o371 (P:D):Obj:=fy (sm 64 5) S197 S209 (s S163 803) (r 584)
def o372 (P:D):Obj:=s0 [s S35 1002,s S208 1003,s S210 1004] 0
def o373 (P:D):Obj:=fz (sm 64 6) S177 S211
def o374 (P:D):Obj:=cd S177 S211 999 455 2 586 1005
def o375 (P:D):Obj:=fy (sm 64 6) S177 S211 (s S163 803) (r 591)
def o376 (P:D):Obj:=s0 [s S35 1011,s S212 1012,s S27 1013,s S21 1014] 0
def o377 (P:D):Obj:=fz (sm 64 7) S198 S213
def o378 (P:D):Obj:=cd S198 S213 1008 459 3 593 1015
def o379 (P:D):Obj:=fy (sm 64 7) S198 S213 (s S163 803) (r 598)
def o380 (P:D):Obj:=s0 [s S35 1021,s S212 1022,s S23 1023] 0
def o381 (P:D):Obj:=fz (sm 64 8) S169 S214
def o382 (P:D):Obj:=cd S169 S214 1018 467 3 600 1024
def o383 (P:D):Obj:=fy (sm 64 8) S169 S214 (s S163 803) (r 605)
def o384 (P:D):Obj:=s0 [s S35 1030,s S212 1031,s S23 1032,s S51 1033] 0
def o385 (P:D):Obj:=fz (sm 64 9) S170 S215
def o386 (P:D):Obj:=cd S170 S215 1027 474 4 607 1034
def o387 (P:D):Obj:=fy (sm 64 9) S170 S215 (s S163 803) (r 612)
def o388 (P:D):Obj:=s0 [s S35 1040,s S51 1041,s S180 1042] 0
def o389 (P:D):Obj:=fz (sm 64 10) S199 S216
def o390 (P:D):Obj:=cd S199 S216 1037 482 3 614 1043
def o391 (P:D):Obj:=fy (sm 64 10) S199 S216 (s S163 803) (r 619)
def o392 (P:D):Obj:=s0 [s S35 1049,s S180 1050] 0
def o393 (P:D):Obj:=fz (sm 64 11) S200 S217
def o394 (P:D):Obj:=cd S200 S217 1046 485 2 621 1051
def o395 (P:D):Obj:=fy (sm 64 11) S200 S217 (s S163 803) (r 626)
def o396 (P:D):Obj:=s0 [s S35 1057,s S218 1058] 0
def o397 (P:D):Obj:=fz (sm 64 12) S33 S219
def o398 (P:D):Obj:=cd S33 S219 1054 488 1 628 1059
def o399 (P:D):Obj:=fy (sm 64 12) S33 S219 (s S163 803) (r 633)
def o400 (P:D):Obj:=s0 [s S35 1065] 0
def o401 (P:D):Obj:=fz (sm 64 13) S70 S220
def o402 (P:D):Obj:=cd S70 S220 1062 492 1 635 1066
def o403 (P:D):Obj:=fy (sm 64 13) S70 S220 (s S163 803) (r 640)
def o404 (P:D):Obj:=s0 [s S187 1069,s S116 1070,s S221 1071,s S201 1072,s S222 1073,s S223 1074,s S150 1075,s S224 1076,s S225 1077] 0
def o405 (P:D):Obj:=dc (t Y3) [e P S29 942 (s S163 803),e P S31 946 (it 401 945),e P S32 954 (r 552),e P S71 962 (r 559),e P S72 972 (r 566),e P S195 983 (r 573),e P S196 989 (r 578),e P S197 998 (r 585),e P S177 1007 (r 592),e P S198 1017 (r 599),e P S169 1026 (r 606),e P S170 1036 (r 613),e P S199 1045 (r 620),e P S200 1053 (r 627),e P S33 1061 (r 634),e P S70 1068 (r 641),e P S34 1078 (r 642),e P S96 1080 (r 645),e P S40 1082 (r 646),e P S7 1083 (o)] 4
def o406 (P:D):Obj:=kl (t Y9) S194 [t Y11] [r 644,t Y11] 643 S194 true [] [] [none,none,some (s S194 935),some (s S194 943),some (b Y17),some (B1)]
def o407 (P:D):Obj:=fd (t Y13) [s S96 1079,r 644,b Y18,b Y19]
def o408 (P:D):Obj:=fd (t Y13) [s S40 1081,r 644,b Y14,o]
def o409 (P:D):Obj:=fd (t Y15) [r 644,r 644,r 644]
def o410 (P:D):Obj:=fd (t Y7) [b Y16,r 644]
def o411 (P:D):Obj:=dc (t Y3) [e P S5 165 (s S226 1086),e P S7 166 (o),e P S8 167 (o),e P S9 168 (b Y4),e P S10 169 (o),e P S11 170 (r 6),e P S12 171 (r 4),e P S13 173 (s S1 172),e P S14 174 (o),e P S15 193 (r 21),e P S16 207 (r 28),e P S17 219 (r 35),e P S18 259 (r 60),e P S41 275 (r 73),e P S43 291 (r 85),e P S44 298 (r 94),e P S45 306 (r 101),e P S46 314 (r 108),e P S47 324 (r 115),e P S48 331 (r 122),e P S49 335 (s S50 334),e P S56 341 (r 129),e P S57 345 (it 0 344),e P S58 347 (it 2 346),e P S59 349 (it 4 348),e P S60 351 (it 6 350),e P S61 353 (it 7 352),e P S62 355 (it 10 354),e P S63 357 (it 11 356),e P S64 359 (s S65 358),e P S66 459 (r 202),e P S98 466 (r 213),e P S99 476 (r 220),e P S100 484 (r 227),e P S101 494 (r 234),e P S102 509 (r 241),e P S103 524 (r 248),e P S104 533 (r 255),e P S105 544 (r 262),e P S106 555 (r 269),e P S107 564 (r 276),e P S108 574 (r 283),e P S109 578 (s S110 577),e P S111 580 (s S112 579),e P S113 582 (s S114 581),e P S129 584 (s S130 583),e P S131 586 (s S132 585),e P S133 656 (r 335),e P S146 663 (r 346),e P S147 670 (r 353),e P S148 679 (r 360),e P S149 686 (r 367),e P S150 692 (r 374),e P S151 696 (it 4 695),e P S152 707 (r 381),e P S153 721 (r 388),e P S154 733 (r 395),e P S155 747 (r 402),e P S156 762 (r 409),e P S157 771 (r 416),e P S164 780 (r 423),e P S165 793 (r 430),e P S166 802 (r 437),e P S167 925 (r 527),e P S193 934 (r 538),e P S194 1085 (r 644),e P S227 1137 (r 686)] 67
def o412 (P:D):Obj:=fd (o) [i 1,i 0,r 20,i 5,i 0,r 27,i 12,i 0,r 34,i 29,i 0,r 41,i 40,i 0,r 69,i 42,i 0,r 81,i 44,i 0,r 93,i 46,i 0,r 100,i 48,i 0,r 107,i 50,i 0,r 114,i 57,i 0,r 121,i 61,i 0,r 128,i 72,i 0,r 135,i 125,i 0,r 212,i 129,i 0,r 219,i 148,i 0,r 226,i 150,i 0,r 233,i 156,i 0,r 240,i 164,i 0,r 247,i 172,i 0,r 254,i 177,i 0,r 261,i 182,i 0,r 268,i 187,i 0,r 275,i 190,i 0,r 282,i 201,i 0,r 289,i 223,i 0,r 345,i 233,i 0,r 352,i 241,i 0,r 359,i 248,i 0,r 366,i 252,i 0,r 373,i 256,i 0,r 380,i 270,i 0,r 387,i 277,i 0,r 394,i 290,i 0,r 401,i 301,i 0,r 408,i 311,i 0,r 415,i 327,i 0,r 422,i 330,i 0,r 429,i 335,i 0,r 436,i 355,i 0,r 443,i 397,i 0,r 537,i 401,i 0,r 544,i 495,i 0,r 654]
def o413 (P:D):Obj:=dc (t Y3) [e P S29 1095 (s S226 1086),e P S30 1097 (s S227 1096),e P S31 1099 (it 495 1098),e P S32 1107 (r 662),e P S33 1114 (r 669),e P S228 1121 (r 676),e P S196 1128 (r 683),e P S34 1130 (r 684)] 8
def o414 (P:D):Obj:=fd (o) [i 497,i 4,r 661,i 500,i 4,r 668,i 503,i 4,r 675,i 506,i 4,r 682]
def o415 (P:D):Obj:=cf S227 S227 1090 495 0 652 1093
def o416 (P:D):Obj:=pl (t Y2) none [some (r 654),some (r 3),some (r 651),none,some (s S226 1086),none,some (r 0)]
def o417 (P:D):Obj:=s0 [s S35 1103,s S138 1104] 0
def o418 (P:D):Obj:=fz (sm 66 0) S32 S229
def o419 (P:D):Obj:=cd S32 S229 1100 497 2 656 1105
def o420 (P:D):Obj:=fy (sm 66 0) S32 S229 (s S226 1086) (r 661)
def o421 (P:D):Obj:=s0 [s S35 1111] 0
def o422 (P:D):Obj:=fz (sm 66 1) S33 S230
def o423 (P:D):Obj:=cd S33 S230 1108 500 1 663 1112
def o424 (P:D):Obj:=fy (sm 66 1) S33 S230 (s S226 1086) (r 668)
def o425 (P:D):Obj:=s0 [s S35 1118] 0
def o426 (P:D):Obj:=fz (sm 66 2) S228 S231
def o427 (P:D):Obj:=cd S228 S231 1115 503 1 670 1119
def o428 (P:D):Obj:=fy (sm 66 2) S228 S231 (s S226 1086) (r 675)
def o429 (P:D):Obj:=s0 [s S35 1125] 0
def o430 (P:D):Obj:=fz (sm 66 3) S196 S232
def o431 (P:D):Obj:=cd S196 S232 1122 506 1 677 1126
def o432 (P:D):Obj:=fy (sm 66 3) S196 S232 (s S226 1086) (r 682)
def o433 (P:D):Obj:=s0 [s S138 1129] 0
def o434 (P:D):Obj:=dc (t Y3) [e P S29 1095 (s S226 1086),e P S31 1099 (it 495 1098),e P S32 1107 (r 662),e P S33 1114 (r 669),e P S228 1121 (r 676),e P S196 1128 (r 683),e P S34 1130 (r 684),e P S96 1132 (r 687),e P S40 1134 (r 688),e P S7 1135 (o)] 4
def o435 (P:D):Obj:=kl (t Y9) S227 [t Y11] [r 686,t Y11] 685 S227 true [] [] [none,none,some (s S227 1088),some (s S227 1096),some (b Y17),some (B1)]
def o436 (P:D):Obj:=fd (t Y13) [s S96 1131,r 686,b Y18,b Y19]
def o437 (P:D):Obj:=fd (t Y13) [s S40 1133,r 686,b Y14,o]
def o438 (P:D):Obj:=fd (t Y15) [r 686,r 686,r 686]
def o439 (P:D):Obj:=fd (t Y7) [b Y16,r 686]
def o440 (P:D):Obj:=dc (t Y3) [e P S5 165 (s S226 1086),e P S7 166 (o),e P S8 167 (o),e P S9 168 (b Y4),e P S10 169 (o),e P S11 170 (r 6),e P S12 171 (r 4),e P S13 173 (s S1 172),e P S14 174 (o),e P S15 193 (r 21),e P S16 207 (r 28),e P S17 219 (r 35),e P S18 259 (r 60),e P S41 275 (r 73),e P S43 291 (r 85),e P S44 298 (r 94),e P S45 306 (r 101),e P S46 314 (r 108),e P S47 324 (r 115),e P S48 331 (r 122),e P S49 335 (s S50 334),e P S56 341 (r 129),e P S57 345 (it 0 344),e P S58 347 (it 2 346),e P S59 349 (it 4 348),e P S60 351 (it 6 350),e P S61 353 (it 7 352),e P S62 355 (it 10 354),e P S63 357 (it 11 356),e P S64 359 (s S65 358),e P S66 459 (r 202),e P S98 466 (r 213),e P S99 476 (r 220),e P S100 484 (r 227),e P S101 494 (r 234),e P S102 509 (r 241),e P S103 524 (r 248),e P S104 533 (r 255),e P S105 544 (r 262),e P S106 555 (r 269),e P S107 564 (r 276),e P S108 574 (r 283),e P S109 578 (s S110 577),e P S111 580 (s S112 579),e P S113 582 (s S114 581),e P S129 584 (s S130 583),e P S131 586 (s S132 585),e P S133 656 (r 335),e P S146 663 (r 346),e P S147 670 (r 353),e P S148 679 (r 360),e P S149 686 (r 367),e P S150 692 (r 374),e P S151 696 (it 4 695),e P S152 707 (r 381),e P S153 721 (r 388),e P S154 733 (r 395),e P S155 747 (r 402),e P S156 762 (r 409),e P S157 771 (r 416),e P S164 780 (r 423),e P S165 793 (r 430),e P S166 802 (r 437),e P S167 925 (r 527),e P S193 934 (r 538),e P S194 1085 (r 644),e P S227 1137 (r 686),e P S233 1176 (r 721)] 68
def o441 (P:D):Obj:=fd (o) [i 1,i 0,r 20,i 5,i 0,r 27,i 12,i 0,r 34,i 29,i 0,r 41,i 40,i 0,r 69,i 42,i 0,r 81,i 44,i 0,r 93,i 46,i 0,r 100,i 48,i 0,r 107,i 50,i 0,r 114,i 57,i 0,r 121,i 61,i 0,r 128,i 72,i 0,r 135,i 125,i 0,r 212,i 129,i 0,r 219,i 148,i 0,r 226,i 150,i 0,r 233,i 156,i 0,r 240,i 164,i 0,r 247,i 172,i 0,r 254,i 177,i 0,r 261,i 182,i 0,r 268,i 187,i 0,r 275,i 190,i 0,r 282,i 201,i 0,r 289,i 223,i 0,r 345,i 233,i 0,r 352,i 241,i 0,r 359,i 248,i 0,r 366,i 252,i 0,r 373,i 256,i 0,r 380,i 270,i 0,r 387,i 277,i 0,r 394,i 290,i 0,r 401,i 301,i 0,r 408,i 311,i 0,r 415,i 327,i 0,r 422,i 330,i 0,r 429,i 335,i 0,r 436,i 355,i 0,r 443,i 397,i 0,r 537,i 401,i 0,r 544,i 495,i 0,r 654,i 508,i 0,r 696]
def o442 (P:D):Obj:=kl (t Y9) S227 [t Y11] [r 686,t Y11] 685 S227 true [] [r 721] [none,none,some (s S227 1088),some (s S227 1096),some (b Y17),some (B1)]
def o443 (P:D):Obj:=s0 [r 686] 0
def o444 (P:D):Obj:=dc (t Y3) [e P S29 1145 (s S226 1086),e P S30 1147 (s S233 1146),e P S31 1149 (it 508 1148),e P S32 1157 (r 704),e P S33 1164 (r 711),e P S196 1171 (r 718),e P S34 1173 (r 719)] 7
def o445 (P:D):Obj:=fd (o) [i 510,i 4,r 703,i 514,i 4,r 710,i 517,i 4,r 717]
def o446 (P:D):Obj:=cf S233 S233 1140 508 0 694 1143
def o447 (P:D):Obj:=pl (t Y2) none [some (r 696),some (r 3),some (r 693),none,some (s S226 1086),none,some (r 0)]
def o448 (P:D):Obj:=s0 [s S35 1153,s S203 1154] 0
def o449 (P:D):Obj:=fz (sm 67 0) S32 S234
def o450 (P:D):Obj:=cd S32 S234 1150 510 2 698 1155
def o451 (P:D):Obj:=fy (sm 67 0) S32 S234 (s S226 1086) (r 703)
def o452 (P:D):Obj:=s0 [s S35 1161] 0
def o453 (P:D):Obj:=fz (sm 67 1) S33 S235
def o454 (P:D):Obj:=cd S33 S235 1158 514 1 705 1162
def o455 (P:D):Obj:=fy (sm 67 1) S33 S235 (s S226 1086) (r 710)
def o456 (P:D):Obj:=s0 [s S35 1168] 0
def o457 (P:D):Obj:=fz (sm 67 2) S196 S236
def o458 (P:D):Obj:=cd S196 S236 1165 517 1 712 1169
def o459 (P:D):Obj:=fy (sm 67 2) S196 S236 (s S226 1086) (r 717)
def o460 (P:D):Obj:=s0 [s S203 1172] 0
def o461 (P:D):Obj:=dc (t Y3) [e P S29 1145 (s S226 1086),e P S31 1149 (it 508 1148),e P S32 1157 (r 704),e P S33 1164 (r 711),e P S196 1171 (r 718),e P S34 1173 (r 719),e P S7 1174 (o)] 2
def o462 (P:D):Obj:=kl (t Y9) S233 [r 686] [r 721,r 686,t Y11] 720 S233 true [] [] [some (r 691),none,some (s S233 1138),some (s S233 1146),some (b Y17),some (B1)]
def o463 (P:D):Obj:=fd (t Y15) [r 721,r 721,r 721]
def o464 (P:D):Obj:=fd (t Y7) [b Y16,r 721]
def o465 (P:D):Obj:=dc (t Y3) [e P S5 165 (s S226 1086),e P S7 166 (o),e P S8 167 (o),e P S9 168 (b Y4),e P S10 169 (o),e P S11 170 (r 6),e P S12 171 (r 4),e P S13 173 (s S1 172),e P S14 174 (o),e P S15 193 (r 21),e P S16 207 (r 28),e P S17 219 (r 35),e P S18 259 (r 60),e P S41 275 (r 73),e P S43 291 (r 85),e P S44 298 (r 94),e P S45 306 (r 101),e P S46 314 (r 108),e P S47 324 (r 115),e P S48 331 (r 122),e P S49 335 (s S50 334),e P S56 341 (r 129),e P S57 345 (it 0 344),e P S58 347 (it 2 346),e P S59 349 (it 4 348),e P S60 351 (it 6 350),e P S61 353 (it 7 352),e P S62 355 (it 10 354),e P S63 357 (it 11 356),e P S64 359 (s S65 358),e P S66 459 (r 202),e P S98 466 (r 213),e P S99 476 (r 220),e P S100 484 (r 227),e P S101 494 (r 234),e P S102 509 (r 241),e P S103 524 (r 248),e P S104 533 (r 255),e P S105 544 (r 262),e P S106 555 (r 269),e P S107 564 (r 276),e P S108 574 (r 283),e P S109 578 (s S110 577),e P S111 580 (s S112 579),e P S113 582 (s S114 581),e P S129 584 (s S130 583),e P S131 586 (s S132 585),e P S133 656 (r 335),e P S146 663 (r 346),e P S147 670 (r 353),e P S148 679 (r 360),e P S149 686 (r 367),e P S150 692 (r 374),e P S151 696 (it 4 695),e P S152 707 (r 381),e P S153 721 (r 388),e P S154 733 (r 395),e P S155 747 (r 402),e P S156 762 (r 409),e P S157 771 (r 416),e P S164 780 (r 423),e P S165 793 (r 430),e P S166 802 (r 437),e P S167 925 (r 527),e P S193 934 (r 538),e P S194 1085 (r 644),e P S227 1137 (r 686),e P S233 1176 (r 721),e P S237 1252 (r 774)] 69
def o466 (P:D):Obj:=fd (o) [i 1,i 0,r 20,i 5,i 0,r 27,i 12,i 0,r 34,i 29,i 0,r 41,i 40,i 0,r 69,i 42,i 0,r 81,i 44,i 0,r 93,i 46,i 0,r 100,i 48,i 0,r 107,i 50,i 0,r 114,i 57,i 0,r 121,i 61,i 0,r 128,i 72,i 0,r 135,i 125,i 0,r 212,i 129,i 0,r 219,i 148,i 0,r 226,i 150,i 0,r 233,i 156,i 0,r 240,i 164,i 0,r 247,i 172,i 0,r 254,i 177,i 0,r 261,i 182,i 0,r 268,i 187,i 0,r 275,i 190,i 0,r 282,i 201,i 0,r 289,i 223,i 0,r 345,i 233,i 0,r 352,i 241,i 0,r 359,i 248,i 0,r 366,i 252,i 0,r 373,i 256,i 0,r 380,i 270,i 0,r 387,i 277,i 0,r 394,i 290,i 0,r 401,i 301,i 0,r 408,i 311,i 0,r 415,i 327,i 0,r 422,i 330,i 0,r 429,i 335,i 0,r 436,i 355,i 0,r 443,i 397,i 0,r 537,i 401,i 0,r 544,i 495,i 0,r 654,i 508,i 0,r 696,i 519,i 0,r 729]
def o467 (P:D):Obj:=kl (t Y9) S227 [t Y11] [r 686,t Y11] 685 S227 true [] [r 721,r 774] [none,none,some (s S227 1088),some (s S227 1096),some (b Y17),some (B1)]
def o468 (P:D):Obj:=dc (t Y3) [e P S29 1184 (s S226 1086),e P S30 1186 (s S237 1185),e P S31 1188 (it 519 1187),e P S32 1205 (r 738),e P S33 1214 (r 745),e P S228 1221 (r 752),e P S196 1227 (r 757),e P S238 1234 (r 764),e P S239 1241 (r 771),e P S34 1249 (r 772)] 10
def o469 (P:D):Obj:=fd (o) [i 521,i 4,r 737,i 531,i 4,r 744,i 536,i 4,r 751,i 539,i 4,r 756,i 542,i 4,r 763,i 545,i 4,r 770]
def o470 (P:D):Obj:=cf S237 S237 1179 519 0 727 1182
def o471 (P:D):Obj:=pl (t Y2) none [some (r 729),some (r 3),some (r 726),none,some (s S226 1086),none,some (r 0)]
def o472 (P:D):Obj:=s0 [it 0 1189,s S240 1190,s S240 1191] 0
def o473 (P:D):Obj:=s0 [s S35 1195,s S210 1196,s S241 1197,s S242 1198,s S51 1199,s S23 1200,s S243 1201,s S28 1202] 0
def o474 (P:D):Obj:=fz (sm 68 0) S32 S244
def o475 (P:D):Obj:=cd S32 S244 1192 521 8 732 1203
def o476 (P:D):Obj:=fn (t Y5) (sm 68 0) S32 S244 3 (r 731) (o) (o) (s S226 1086) (r 737) (o) 0
def o477 (P:D):Obj:=s0 [s S35 1209,s S210 1210,s S241 1211] 0
def o478 (P:D):Obj:=fz (sm 68 1) S33 S245
def o479 (P:D):Obj:=cd S33 S245 1206 531 1 739 1212
def o480 (P:D):Obj:=fy (sm 68 1) S33 S245 (s S226 1086) (r 744)
def o481 (P:D):Obj:=s0 [s S35 1218] 0
def o482 (P:D):Obj:=fz (sm 68 2) S228 S246
def o483 (P:D):Obj:=cd S228 S246 1215 536 1 746 1219
def o484 (P:D):Obj:=fy (sm 68 2) S228 S246 (s S226 1086) (r 751)
def o485 (P:D):Obj:=fz (sm 68 3) S196 S247
def o486 (P:D):Obj:=ce S196 S247 1222 539 1 753 1225
def o487 (P:D):Obj:=fy (sm 68 3) S196 S247 (s S226 1086) (r 756)
def o488 (P:D):Obj:=s0 [s S35 1231] 0
def o489 (P:D):Obj:=fz (sm 68 4) S238 S248
def o490 (P:D):Obj:=cd S238 S248 1228 542 1 758 1232
def o491 (P:D):Obj:=fy (sm 68 4) S238 S248 (s S226 1086) (r 763)
def o492 (P:D):Obj:=s0 [s S35 1238] 0
def o493 (P:D):Obj:=fz (sm 68 5) S239 S249
def o494 (P:D):Obj:=cd S239 S249 1235 545 1 765 1239
def o495 (P:D):Obj:=fy (sm 68 5) S239 S249 (s S226 1086) (r 770)
def o496 (P:D):Obj:=s0 [s S210 1242,s S241 1243,s S28 1244,s S242 1245,s S243 1246,s S23 1247,s S51 1248] 0
def o497 (P:D):Obj:=dc (t Y3) [e P S29 1184 (s S226 1086),e P S31 1188 (it 519 1187),e P S32 1205 (r 738),e P S33 1214 (r 745),e P S228 1221 (r 752),e P S196 1227 (r 757),e P S238 1234 (r 764),e P S239 1241 (r 771),e P S34 1249 (r 772),e P S7 1250 (o)] 2
def o498 (P:D):Obj:=kl (t Y9) S237 [r 686] [r 774,r 686,t Y11] 773 S237 true [] [] [some (r 724),none,some (s S237 1177),some (s S237 1185),some (b Y17),some (B1)]
def o499 (P:D):Obj:=fd (t Y15) [r 774,r 774,r 774]
def o500 (P:D):Obj:=fd (t Y7) [b Y16,r 774]
def o501 (P:D):Obj:=dc (t Y3) [e P S5 165 (s S250 1326),e P S7 166 (o),e P S8 167 (o),e P S9 168 (b Y4),e P S10 169 (o),e P S11 170 (r 6),e P S12 171 (r 4),e P S13 173 (s S1 172),e P S14 174 (o),e P S15 193 (r 21),e P S16 207 (r 28),e P S17 219 (r 35),e P S18 259 (r 60),e P S41 275 (r 73),e P S43 291 (r 85),e P S44 298 (r 94),e P S45 306 (r 101),e P S46 314 (r 108),e P S47 324 (r 115),e P S48 331 (r 122),e P S49 335 (s S50 334),e P S56 341 (r 129),e P S57 345 (it 0 344),e P S58 347 (it 2 346),e P S59 349 (it 4 348),e P S60 351 (it 6 350),e P S61 353 (it 7 352),e P S62 355 (it 10 354),e P S63 357 (it 11 356),e P S64 359 (s S65 358),e P S66 459 (r 202),e P S98 466 (r 213),e P S99 476 (r 220),e P S100 484 (r 227),e P S101 494 (r 234),e P S102 509 (r 241),e P S103 524 (r 248),e P S104 533 (r 255),e P S105 544 (r 262),e P S106 555 (r 269),e P S107 564 (r 276),e P S108 574 (r 283),e P S109 578 (s S110 577),e P S111 580 (s S112 579),e P S113 582 (s S114 581),e P S129 584 (s S130 583),e P S131 586 (s S132 585),e P S133 656 (r 335),e P S146 663 (r 346),e P S147 670 (r 353),e P S148 679 (r 360),e P S149 686 (r 367),e P S150 692 (r 374),e P S151 696 (it 4 695),e P S152 707 (r 381),e P S153 721 (r 388),e P S154 733 (r 395),e P S155 747 (r 402),e P S156 762 (r 409),e P S157 771 (r 416),e P S164 780 (r 423),e P S165 793 (r 430),e P S166 802 (r 437),e P S167 925 (r 527),e P S193 934 (r 538),e P S194 1085 (r 644),e P S227 1137 (r 686),e P S233 1176 (r 721),e P S237 1252 (r 774),e P S251 1325 (r 827)] 70
def o502 (P:D):Obj:=fd (o) [i 1,i 0,r 20,i 5,i 0,r 27,i 12,i 0,r 34,i 29,i 0,r 41,i 40,i 0,r 69,i 42,i 0,r 81,i 44,i 0,r 93,i 46,i 0,r 100,i 48,i 0,r 107,i 50,i 0,r 114,i 57,i 0,r 121,i 61,i 0,r 128,i 72,i 0,r 135,i 125,i 0,r 212,i 129,i 0,r 219,i 148,i 0,r 226,i 150,i 0,r 233,i 156,i 0,r 240,i 164,i 0,r 247,i 172,i 0,r 254,i 177,i 0,r 261,i 182,i 0,r 268,i 187,i 0,r 275,i 190,i 0,r 282,i 201,i 0,r 289,i 223,i 0,r 345,i 233,i 0,r 352,i 241,i 0,r 359,i 248,i 0,r 366,i 252,i 0,r 373,i 256,i 0,r 380,i 270,i 0,r 387,i 277,i 0,r 394,i 290,i 0,r 401,i 301,i 0,r 408,i 311,i 0,r 415,i 327,i 0,r 422,i 330,i 0,r 429,i 335,i 0,r 436,i 355,i 0,r 443,i 397,i 0,r 537,i 401,i 0,r 544,i 495,i 0,r 654,i 508,i 0,r 696,i 519,i 0,r 729,i 547,i 0,r 782]
def o503 (P:D):Obj:=dc (t Y3) [e P S29 1260 (s S226 1086),e P S30 1262 (s S251 1261),e P S31 1264 (it 547 1263),e P S32 1275 (r 791),e P S33 1281 (r 796),e P S252 1290 (r 803),e P S222 1298 (r 810),e P S253 1305 (r 817),e P S254 1314 (r 824),e P S34 1318 (r 825)] 10
def o504 (P:D):Obj:=fd (o) [i 549,i 4,r 790,i 554,i 4,r 795,i 557,i 4,r 802,i 563,i 4,r 809,i 567,i 4,r 816,i 570,i 4,r 823]
def o505 (P:D):Obj:=cf S251 S251 1255 547 0 780 1258
def o506 (P:D):Obj:=pl (t Y2) none [some (r 782),some (r 3),some (r 779),none,some (s S226 1086),none,some (r 0)]
def o507 (P:D):Obj:=s0 [s S240 1265] 0
def o508 (P:D):Obj:=s0 [s S35 1269,s S28 1270,s S255 1271,s S256 1272] 0
def o509 (P:D):Obj:=fz (sm 69 0) S32 S257
def o510 (P:D):Obj:=cd S32 S257 1266 549 4 785 1273
def o511 (P:D):Obj:=fn (t Y5) (sm 69 0) S32 S257 3 (r 784) (o) (o) (s S226 1086) (r 790) (o) 0
def o512 (P:D):Obj:=fz (sm 69 1) S33 S258
def o513 (P:D):Obj:=ce S33 S258 1276 554 1 792 1279
def o514 (P:D):Obj:=fy (sm 69 1) S33 S258 (s S226 1086) (r 795)
def o515 (P:D):Obj:=s0 [s S35 1285,s S37 1286,s S212 1287] 0
def o516 (P:D):Obj:=fz (sm 69 2) S252 S259
def o517 (P:D):Obj:=cd S252 S259 1282 557 1 797 1288
def o518 (P:D):Obj:=fy (sm 69 2) S252 S259 (s S226 1086) (r 802)
def o519 (P:D):Obj:=s0 [s S35 1294,s S37 1295] 0
def o520 (P:D):Obj:=fz (sm 69 3) S222 S260
def o521 (P:D):Obj:=cd S222 S260 1291 563 1 804 1296
def o522 (P:D):Obj:=fy (sm 69 3) S222 S260 (s S226 1086) (r 809)
def o523 (P:D):Obj:=s0 [s S35 1302] 0
def o524 (P:D):Obj:=fz (sm 69 4) S253 S261
def o525 (P:D):Obj:=cd S253 S261 1299 567 1 811 1303
def o526 (P:D):Obj:=fy (sm 69 4) S253 S261 (s S226 1086) (r 816)
def o527 (P:D):Obj:=s0 [s S35 1309,s S37 1310,s S212 1311] 0
def o528 (P:D):Obj:=fz (sm 69 5) S254 S262
def o529 (P:D):Obj:=cd S254 S262 1306 570 3 818 1312
def o530 (P:D):Obj:=fy (sm 69 5) S254 S262 (s S226 1086) (r 823)
def o531 (P:D):Obj:=s0 [s S28 1315,s S255 1316,s S256 1317] 0
def o532 (P:D):Obj:=dc (t Y3) [e P S29 1260 (s S226 1086),e P S31 1264 (it 547 1263),e P S32 1275 (r 791),e P S33 1281 (r 796),e P S252 1290 (r 803),e P S222 1298 (r 810),e P S253 1305 (r 817),e P S254 1314 (r 824),e P S34 1318 (r 825),e P S96 1320 (r 828),e P S40 1322 (r 829),e P S7 1323 (o)] 4
def o533 (P:D):Obj:=kl (t Y9) S251 [t Y11] [r 827,t Y11] 826 S251 true [] [] [none,none,some (s S251 1253),some (s S251 1261),some (b Y17),some (B1)]
def o534 (P:D):Obj:=fd (t Y13) [s S96 1319,r 827,b Y18,b Y19]
def o535 (P:D):Obj:=fd (t Y13) [s S40 1321,r 827,b Y14,o]
def o536 (P:D):Obj:=fd (t Y15) [r 827,r 827,r 827]
def o537 (P:D):Obj:=fd (t Y7) [b Y16,r 827]
def o538 (P:D):Obj:=dc (t Y3) [e P S5 165 (s S250 1326),e P S7 166 (o),e P S8 167 (o),e P S9 168 (b Y4),e P S10 169 (o),e P S11 170 (r 6),e P S12 171 (r 4),e P S13 173 (s S1 172),e P S14 174 (o),e P S15 193 (r 21),e P S16 207 (r 28),e P S17 219 (r 35),e P S18 259 (r 60),e P S41 275 (r 73),e P S43 291 (r 85),e P S44 298 (r 94),e P S45 306 (r 101),e P S46 314 (r 108),e P S47 324 (r 115),e P S48 331 (r 122),e P S49 335 (s S50 334),e P S56 341 (r 129),e P S57 345 (it 0 344),e P S58 347 (it 2 346),e P S59 349 (it 4 348),e P S60 351 (it 6 350),e P S61 353 (it 7 352),e P S62 355 (it 10 354),e P S63 357 (it 11 356),e P S64 359 (s S65 358),e P S66 459 (r 202),e P S98 466 (r 213),e P S99 476 (r 220),e P S100 484 (r 227),e P S101 494 (r 234),e P S102 509 (r 241),e P S103 524 (r 248),e P S104 533 (r 255),e P S105 544 (r 262),e P S106 555 (r 269),e P S107 564 (r 276),e P S108 574 (r 283),e P S109 578 (s S110 577),e P S111 580 (s S112 579),e P S113 582 (s S114 581),e P S129 584 (s S130 583),e P S131 586 (s S132 585),e P S133 656 (r 335),e P S146 663 (r 346),e P S147 670 (r 353),e P S148 679 (r 360),e P S149 686 (r 367),e P S150 692 (r 374),e P S151 696 (it 4 695),e P S152 707 (r 381),e P S153 721 (r 388),e P S154 733 (r 395),e P S155 747 (r 402),e P S156 762 (r 409),e P S157 771 (r 416),e P S164 780 (r 423),e P S165 793 (r 430),e P S166 802 (r 437),e P S167 925 (r 527),e P S193 934 (r 538),e P S194 1085 (r 644),e P S227 1137 (r 686),e P S233 1176 (r 721),e P S237 1252 (r 774),e P S251 1325 (r 827),e P S263 1333 (r 836),e P S264 1346 (r 843),e P S265 1354 (r 850),e P S266 1363 (r 857),e P S267 1375 (r 864),e P S268 1387 (r 871),e P S269 1402 (r 878),e P S270 1415 (r 885),e P S271 1421 (r 890),e P S272 1435 (r 897),e P S273 1441 (r 902),e P S274 1447 (r 907)] 82
def o539 (P:D):Obj:=fd (o) [i 1,i 0,r 20,i 5,i 0,r 27,i 12,i 0,r 34,i 29,i 0,r 41,i 40,i 0,r 69,i 42,i 0,r 81,i 44,i 0,r 93,i 46,i 0,r 100,i 48,i 0,r 107,i 50,i 0,r 114,i 57,i 0,r 121,i 61,i 0,r 128,i 72,i 0,r 135,i 125,i 0,r 212,i 129,i 0,r 219,i 148,i 0,r 226,i 150,i 0,r 233,i 156,i 0,r 240,i 164,i 0,r 247,i 172,i 0,r 254,i 177,i 0,r 261,i 182,i 0,r 268,i 187,i 0,r 275,i 190,i 0,r 282,i 201,i 0,r 289,i 223,i 0,r 345,i 233,i 0,r 352,i 241,i 0,r 359,i 248,i 0,r 366,i 252,i 0,r 373,i 256,i 0,r 380,i 270,i 0,r 387,i 277,i 0,r 394,i 290,i 0,r 401,i 301,i 0,r 408,i 311,i 0,r 415,i 327,i 0,r 422,i 330,i 0,r 429,i 335,i 0,r 436,i 355,i 0,r 443,i 397,i 0,r 537,i 401,i 0,r 544,i 495,i 0,r 654,i 508,i 0,r 696,i 519,i 0,r 729,i 547,i 0,r 782,i 573,i 0,r 835,i 575,i 0,r 842,i 592,i 0,r 849,i 594,i 0,r 856,i 597,i 0,r 863,i 603,i 0,r 870,i 612,i 0,r 877,i 620,i 0,r 884,i 626,i 0,r 889,i 630,i 0,r 896,i 641,i 0,r 901,i 649,i 0,r 906]
def o540 (P:D):Obj:=fz (st 71) S263 S263
def o541 (P:D):Obj:=ce S263 S263 1328 573 1 832 1331
def o542 (P:D):Obj:=fy (st 71) S263 S263 (s S250 1326) (r 835)
def o543 (P:D):Obj:=s0 [s S275 1337,s S276 1338,s S277 1339,s S86 1340,s S278 1341,s S279 1342,s S280 1343] 0
def o544 (P:D):Obj:=fz (st 72) S264 S264
def o545 (P:D):Obj:=cd S264 S264 1334 575 2 837 1344
def o546 (P:D):Obj:=fy (st 72) S264 S264 (s S250 1326) (r 842)
def o547 (P:D):Obj:=s0 [s S275 1350,s S281 1351] 0
def o548 (P:D):Obj:=fz (st 73) S265 S265
def o549 (P:D):Obj:=cd S265 S265 1347 592 2 844 1352
def o550 (P:D):Obj:=fy (st 73) S265 S265 (s S250 1326) (r 849)
def o551 (P:D):Obj:=s0 [s S275 1358,s S23 1359,s S78 1360] 0
def o552 (P:D):Obj:=fz (st 74) S266 S266
def o553 (P:D):Obj:=cd S266 S266 1355 594 2 851 1361
def o554 (P:D):Obj:=fy (st 74) S266 S266 (s S250 1326) (r 856)
def o555 (P:D):Obj:=s0 [s S275 1367,s S23 1368,s S210 1369,s S241 1370,s S242 1371,s S282 1372] 0
def o556 (P:D):Obj:=fz (st 75) S267 S267
def o557 (P:D):Obj:=cd S267 S267 1364 597 2 858 1373
def o558 (P:D):Obj:=fy (st 75) S267 S267 (s S250 1326) (r 863)
def o559 (P:D):Obj:=s0 [s S275 1379,s S28 1380,s S23 1381,s S283 1382,s S208 1383,s S284 1384] 0
def o560 (P:D):Obj:=fz (st 76) S268 S268
def o561 (P:D):Obj:=cd S268 S268 1376 603 1 865 1385
def o562 (P:D):Obj:=fy (st 76) S268 S268 (s S250 1326) (r 870)
def o563 (P:D):Obj:=s0 [s S33 1391,s S285 1392,s S210 1393,s S241 1394,s S242 1395,s S282 1396,s S286 1397,s S23 1398,s S287 1399] 0
def o564 (P:D):Obj:=fz (st 77) S269 S269
def o565 (P:D):Obj:=cd S269 S269 1388 612 1 872 1400
def o566 (P:D):Obj:=fy (st 77) S269 S269 (s S250 1326) (r 877)
def o567 (P:D):Obj:=s0 [s S288 1406,s S33 1407,s S289 1408,s S223 1409,s S124 1410,s S78 1411,s S290 1412] 0
def o568 (P:D):Obj:=fz (st 78) S270 S270
def o569 (P:D):Obj:=cd S270 S270 1403 620 3 879 1413
def o570 (P:D):Obj:=fy (st 78) S270 S270 (s S250 1326) (r 884)
def o571 (P:D):Obj:=fz (st 79) S271 S271
def o572 (P:D):Obj:=ce S271 S271 1416 626 4 886 1419
def o573 (P:D):Obj:=fy (st 79) S271 S271 (s S250 1326) (r 889)
def o574 (P:D):Obj:=s0 [s S288 1425,s S33 1426,s S177 1427,s S23 1428,s S51 1429,s S37 1430,s S161 1431,s S291 1432] 0
def o575 (P:D):Obj:=fz (st 80) S272 S272
def o576 (P:D):Obj:=cd S272 S272 1422 630 5 891 1433
def o577 (P:D):Obj:=fy (st 80) S272 S272 (s S250 1326) (r 896)
def o578 (P:D):Obj:=fz (st 81) S273 S273
def o579 (P:D):Obj:=ce S273 S273 1436 641 4 898 1439
def o580 (P:D):Obj:=fy (st 81) S273 S273 (s S250 1326) (r 901)
def o581 (P:D):Obj:=fz (st 82) S274 S274
def o582 (P:D):Obj:=ce S274 S274 1442 649 2 903 1445
def o583 (P:D):Obj:=fy (st 82) S274 S274 (s S250 1326) (r 906)
def o584 (P:D):Obj:=dc (t Y3) [e P S5 165 (s S250 1326),e P S7 166 (o),e P S8 167 (o),e P S9 168 (b Y4),e P S10 169 (o),e P S11 170 (r 6),e P S12 171 (r 4),e P S13 173 (s S1 172),e P S14 174 (o),e P S15 193 (r 21),e P S16 207 (r 28),e P S17 219 (r 35),e P S18 259 (r 60),e P S41 275 (r 73),e P S43 291 (r 85),e P S44 298 (r 94),e P S45 306 (r 101),e P S46 314 (r 108),e P S47 324 (r 115),e P S48 331 (r 122),e P S49 335 (s S50 334),e P S56 341 (r 129),e P S57 345 (it 0 344),e P S58 347 (it 2 346),e P S59 349 (it 4 348),e P S60 351 (it 6 350),e P S61 353 (it 7 352),e P S62 355 (it 10 354),e P S63 357 (it 11 356),e P S64 359 (s S65 358),e P S66 459 (r 202),e P S98 466 (r 213),e P S99 476 (r 220),e P S100 484 (r 227),e P S101 494 (r 234),e P S102 509 (r 241),e P S103 524 (r 248),e P S104 533 (r 255),e P S105 544 (r 262),e P S106 555 (r 269),e P S107 564 (r 276),e P S108 574 (r 283),e P S109 578 (s S110 577),e P S111 580 (s S112 579),e P S113 582 (s S114 581),e P S129 584 (s S130 583),e P S131 586 (s S132 585),e P S133 656 (r 335),e P S146 663 (r 346),e P S147 670 (r 353),e P S148 679 (r 360),e P S149 686 (r 367),e P S150 692 (r 374),e P S151 696 (it 4 695),e P S152 707 (r 381),e P S153 721 (r 388),e P S154 733 (r 395),e P S155 747 (r 402),e P S156 762 (r 409),e P S157 771 (r 416),e P S164 780 (r 423),e P S165 793 (r 430),e P S166 802 (r 437),e P S167 925 (r 527),e P S193 934 (r 538),e P S194 1085 (r 644),e P S227 1137 (r 686),e P S233 1176 (r 721),e P S237 1252 (r 774),e P S251 1325 (r 827),e P S263 1333 (r 836),e P S264 1346 (r 843),e P S265 1354 (r 850),e P S266 1363 (r 857),e P S267 1375 (r 864),e P S268 1387 (r 871),e P S269 1402 (r 878),e P S270 1415 (r 885),e P S271 1421 (r 890),e P S272 1435 (r 897),e P S273 1441 (r 902),e P S274 1447 (r 907),e P S292 1453 (r 912)] 83
def o585 (P:D):Obj:=fd (o) [i 1,i 0,r 20,i 5,i 0,r 27,i 12,i 0,r 34,i 29,i 0,r 41,i 40,i 0,r 69,i 42,i 0,r 81,i 44,i 0,r 93,i 46,i 0,r 100,i 48,i 0,r 107,i 50,i 0,r 114,i 57,i 0,r 121,i 61,i 0,r 128,i 72,i 0,r 135,i 125,i 0,r 212,i 129,i 0,r 219,i 148,i 0,r 226,i 150,i 0,r 233,i 156,i 0,r 240,i 164,i 0,r 247,i 172,i 0,r 254,i 177,i 0,r 261,i 182,i 0,r 268,i 187,i 0,r 275,i 190,i 0,r 282,i 201,i 0,r 289,i 223,i 0,r 345,i 233,i 0,r 352,i 241,i 0,r 359,i 248,i 0,r 366,i 252,i 0,r 373,i 256,i 0,r 380,i 270,i 0,r 387,i 277,i 0,r 394,i 290,i 0,r 401,i 301,i 0,r 408,i 311,i 0,r 415,i 327,i 0,r 422,i 330,i 0,r 429,i 335,i 0,r 436,i 355,i 0,r 443,i 397,i 0,r 537,i 401,i 0,r 544,i 495,i 0,r 654,i 508,i 0,r 696,i 519,i 0,r 729,i 547,i 0,r 782,i 573,i 0,r 835,i 575,i 0,r 842,i 592,i 0,r 849,i 594,i 0,r 856,i 597,i 0,r 863,i 603,i 0,r 870,i 612,i 0,r 877,i 620,i 0,r 884,i 626,i 0,r 889,i 630,i 0,r 896,i 641,i 0,r 901,i 649,i 0,r 906,i 672,i 0,r 911]
def o586 (P:D):Obj:=fz (st 83) S292 S292
def o587 (P:D):Obj:=ce S292 S292 1448 672 1 908 1451
def o588 (P:D):Obj:=fy (st 83) S292 S292 (s S250 1326) (r 911)
def o589 (P:D):Obj:=fd (t Y1) [s S0 176,s S0 177,s S1 178,i 1,i 0,i 0,i 0,i 0,r 7,B0,i 175,r 8,o,o,o,o,i 179,i 1,s S1 180]
def L0 (P:D):List Obj:=[boot_o_0 P,boot_o_1 P,boot_o_2 P,boot_o_3 P,boot_o_4 P,boot_o_5 P,boot_o_6 P,boot_o_7 P,boot_o_8 P,boot_o_9 P,boot_o_10 P,z P,o1 P,o2 P,o3 P]
def C0 (P:D):List Obj:=[boot_o_0 P,boot_o_1 P,o4 P]
def C4 (P:D):List Obj:=[boot_o_4 P,boot_o_5 P,boot_o_6 P,boot_o_7 P,boot_o_8 P,boot_o_9 P,boot_o_10 P,z P]
def C13 (P:D):List Obj:=[o2 P,o3 P,z P,o1 P,o7 P,z P,o8 P,o9 P,o10 P,z P,o1 P,o11 P,z P,o12 P,o13 P,o14 P,z P,o1 P,o15 P,z P,o16 P,o17 P,o18 P,o19 P,o20 P,o21 P,z P,o22 P,o23 P,o24 P,o25 P,z P,o1 P,o26 P,z P,o27 P,o28 P,o29 P,z P,o1 P,o30 P,z P,o31 P,o32 P,o33 P,o34 P,o35 P]
def C61 (P:D):List Obj:=[o37 P,o38 P,o39 P]
def C64 (P:D):List Obj:=[o43 P,o20 P,o44 P,z P,o1 P,o45 P,o46 P,z P,o47 P,o48 P,o49 P,o50 P]
def C76 (P:D):List Obj:=[o43 P,o20 P,o54 P,z P,o1 P,o55 P,o56 P,z P,o57 P,o58 P,o59 P,o60 P,z P,o1 P,o61 P,z P,o62 P,o63 P,o64 P,z P,o1 P,o65 P,z P,o66 P,o67 P,o68 P,z P,o1 P,o69 P,z P,o70 P,o71 P,o72 P,z P,o1 P,o73 P,z P,o74 P,o75 P,o76 P,z P,o1 P,o77 P,z P,o78 P,o79 P,o80 P]
def C123 (P:D):List Obj:=[z P,o1 P,z P,z P,o83 P,o84 P,o85 P]
def C130 (P:D):List Obj:=[z P,o20 P,o88 P,z P,o89 P,o90 P,o91 P,z P,o1 P,o92 P,z P,o93 P,o94 P,o95 P,z P,o1 P,o96 P,z P,o97 P,o98 P,o99 P,z P,o1 P,o100 P,z P,o101 P,o102 P,o103 P,z P,o1 P,o104 P,z P,o105 P,o106 P,o107 P,z P,o1 P,o108 P,z P,o109 P,o110 P,o111 P,z P,o1 P,o112 P,z P,o113 P,o114 P,o115 P,z P,o1 P,o116 P,z P,o117 P,o118 P,o119 P,z P,o1 P,o120 P,z P,o121 P,o122 P,o123 P,z P,o1 P,o124 P,z P,o125 P,o126 P,o127 P,o128 P,o129 P,o130 P,o131 P,o132 P,o133 P,o134 P]
def C207 (P:D):List Obj:=[z P,o1 P,o137 P,z P,o138 P,o139 P,o140 P,z P,o1 P,o141 P,z P,o142 P,o143 P,o144 P,z P,o1 P,o145 P,z P,o146 P,o147 P,o148 P,z P,o1 P,o149 P,z P,o150 P,o151 P,o152 P,z P,o1 P,o153 P,z P,o154 P,o155 P,o156 P,z P,o1 P,o157 P,z P,o158 P,o159 P,o160 P,z P,o1 P,o161 P,z P,o162 P,o163 P,o164 P,z P,o1 P,o165 P,z P,o166 P,o167 P,o168 P,z P,o1 P,o169 P,z P,o170 P,o171 P,o172 P,z P,o1 P,o173 P,z P,o174 P,o175 P,o176 P,z P,o1 P,o177 P,z P,o178 P,o179 P,o180 P]
def C284 (P:D):List Obj:=[z P,o20 P,o184 P,z P,o185 P,o186 P,o187 P,z P,o1 P,o188 P,z P,o189 P,o190 P,o191 P,z P,o1 P,o192 P,z P,o193 P,o194 P,o195 P,z P,o1 P,o196 P,z P,o197 P,o198 P,o199 P,z P,o1 P,o200 P,z P,o201 P,o202 P,o203 P,z P,o1 P,o204 P,z P,o205 P,o206 P,o207 P,z P,o1 P,o208 P,z P,o209 P,o210 P,o211 P,o212 P,o213 P,o214 P,o215 P,o216 P,o217 P,o218 P]
def C340 (P:D):List Obj:=[z P,o1 P,o221 P,z P,o222 P,o223 P,o224 P,z P,o1 P,o225 P,z P,o226 P,o227 P,o228 P,z P,o1 P,o229 P,z P,o230 P,o231 P,o232 P,z P,o1 P,o233 P,z P,o234 P,o235 P,o236 P,z P,o1 P,z P,z P,o237 P,o238 P,o239 P,z P,o1 P,o240 P,z P,o241 P,o242 P,o243 P,z P,o1 P,o244 P,z P,o245 P,o246 P,o247 P,z P,o1 P,o248 P,z P,o249 P,o250 P,o251 P,z P,o1 P,o252 P,z P,o253 P,o254 P,o255 P,z P,o1 P,o256 P,z P,o257 P,o258 P,o259 P,z P,o1 P,o260 P,z P,o261 P,o262 P,o263 P]
def C417 (P:D):List Obj:=[z P,o1 P,o266 P,z P,o267 P,o268 P,o269 P,z P,o1 P,o270 P,z P,o271 P,o272 P,o273 P,z P,o1 P,o274 P,z P,o275 P,o276 P,o277 P]
def C438 (P:D):List Obj:=[z P,o20 P,o280 P,z P,o281 P,o282 P,o283 P,z P,o1 P,o284 P,z P,o285 P,o286 P,o287 P,z P,o1 P,o288 P,z P,o289 P,o290 P,o291 P,z P,o1 P,o292 P,z P,o293 P,o294 P,o295 P,z P,o1 P,o296 P,z P,o297 P,o298 P,o299 P,z P,o1 P,o300 P,z P,o301 P,o302 P,o303 P,z P,o1 P,o304 P,z P,o305 P,o306 P,o307 P,z P,o1 P,o308 P,o309 P,o310 P,z P,o1 P,o311 P,o312 P,o313 P,z P,o1 P,o314 P,z P,o315 P,o316 P,o317 P,z P,o1 P,o318 P,z P,o319 P,o320 P,o321 P,z P,o1 P,o322 P,z P,o323 P,o324 P,o325 P,z P,o1 P,o326 P,z P,o327 P,o328 P,o329 P,o330 P,o331 P,o332 P,o333 P,o334 P,o335 P,o336 P]
def C532 (P:D):List Obj:=[z P,o1 P,o339 P,z P,o340 P,o341 P,o342 P]
def C539 (P:D):List Obj:=[z P,o20 P,o345 P,z P,o346 P,o347 P,o348 P,z P,o1 P,o349 P,z P,o350 P,o351 P,o352 P,z P,o1 P,o353 P,z P,o354 P,o355 P,o356 P,z P,o1 P,o357 P,z P,o358 P,o359 P,o360 P,z P,o1 P,o361 P,z P,o362 P,o363 P,o364 P,z P,o1 P,o365 P,o366 P,o367 P,z P,o1 P,o368 P,z P,o369 P,o370 P,o371 P,z P,o1 P,o372 P,z P,o373 P,o374 P,o375 P,z P,o1 P,o376 P,z P,o377 P,o378 P,o379 P,z P,o1 P,o380 P,z P,o381 P,o382 P,o383 P,z P,o1 P,o384 P,z P,o385 P,o386 P,o387 P,z P,o1 P,o388 P,z P,o389 P,o390 P,o391 P,z P,o1 P,o392 P,z P,o393 P,o394 P,o395 P,z P,o1 P,o396 P,z P,o397 P,o398 P,o399 P,z P,o1 P,o400 P,z P,o401 P,o402 P,o403 P,o404 P,o405 P,o406 P,o407 P,o408 P,o409 P,o410 P]
def C649 (P:D):List Obj:=[z P,o20 P,o413 P,z P,o414 P,o415 P,o416 P,z P,o1 P,o417 P,z P,o418 P,o419 P,o420 P,z P,o1 P,o421 P,z P,o422 P,o423 P,o424 P,z P,o1 P,o425 P,z P,o426 P,o427 P,o428 P,z P,o1 P,o429 P,z P,o430 P,o431 P,o432 P,o433 P,o434 P]
def C687 (P:D):List Obj:=[o436 P,o437 P,o438 P,o439 P]
def C691 (P:D):List Obj:=[o443 P,o20 P,o444 P,z P,o445 P,o446 P,o447 P,z P,o1 P,o448 P,z P,o449 P,o450 P,o451 P,z P,o1 P,o452 P,z P,o453 P,o454 P,o455 P,z P,o1 P,o456 P,z P,o457 P,o458 P,o459 P,o460 P,o461 P,o462 P,o463 P,o464 P]
def C724 (P:D):List Obj:=[o443 P,o20 P,o468 P,z P,o469 P,o470 P,o471 P,o472 P,z P,o1 P,o473 P,z P,o474 P,o475 P,o476 P,z P,o1 P,o477 P,z P,o478 P,o479 P,o480 P,z P,o1 P,o481 P,z P,o482 P,o483 P,o484 P,z P,o1 P,o485 P,o486 P,o487 P,z P,o1 P,o488 P,z P,o489 P,o490 P,o491 P,z P,o1 P,o492 P,z P,o493 P,o494 P,o495 P,o496 P,o497 P,o498 P,o499 P,o500 P]
def C777 (P:D):List Obj:=[z P,o20 P,o503 P,z P,o504 P,o505 P,o506 P,o507 P,z P,o1 P,o508 P,z P,o509 P,o510 P,o511 P,z P,o1 P,o512 P,o513 P,o514 P,z P,o1 P,o515 P,z P,o516 P,o517 P,o518 P,z P,o1 P,o519 P,z P,o520 P,o521 P,o522 P,z P,o1 P,o523 P,z P,o524 P,o525 P,o526 P,z P,o1 P,o527 P,z P,o528 P,o529 P,o530 P,o531 P,o532 P,o533 P,o534 P,o535 P,o536 P,o537 P]
def C832 (P:D):List Obj:=[z P,o1 P,o540 P,o541 P,o542 P,z P,o1 P,o543 P,z P,o544 P,o545 P,o546 P,z P,o1 P,o547 P,z P,o548 P,o549 P,o550 P,z P,o1 P,o551 P,z P,o552 P,o553 P,o554 P,z P,o1 P,o555 P,z P,o556 P,o557 P,o558 P,z P,o1 P,o559 P,z P,o560 P,o561 P,o562 P,z P,o1 P,o563 P,z P,o564 P,o565 P,o566 P,z P,o1 P,o567 P,z P,o568 P,o569 P,o570 P,z P,o1 P,o571 P,o572 P,o573 P,z P,o1 P,o574 P,z P,o575 P,o576 P,o577 P,z P,o1 P,o578 P,o579 P,o580 P,z P,o1 P,o581 P,o582 P,o583 P]
def C908 (P:D):List Obj:=[z P,o1 P,o586 P,o587 P,o588 P]
def L1 (P:D):List Obj:=(C0 P).append (o5 P::(C4 P).append (o6 P::(C13 P).append (o36 P::C61 P)))
def L2 (P:D):List Obj:=(C0 P).append (o40 P::(C4 P).append (o41 P::(C13 P).append (o42 P::(C61 P).append (C64 P))))
def L3 (P:D):List Obj:=(C0 P).append (o51 P::(C4 P).append (o52 P::(C13 P).append (o53 P::(C61 P).append ((C64 P).append (C76 P)))))
def L4 (P:D):List Obj:=(C0 P).append (o81 P::(C4 P).append (o82 P::(C13 P).append (o53 P::(C61 P).append ((C64 P).append ((C76 P).append (C123 P))))))
def L5 (P:D):List Obj:=(C0 P).append (o86 P::(C4 P).append (o87 P::(C13 P).append (o53 P::(C61 P).append ((C64 P).append ((C76 P).append ((C123 P).append (C130 P)))))))
def L6 (P:D):List Obj:=(C0 P).append (o135 P::(C4 P).append (o136 P::(C13 P).append (o53 P::(C61 P).append ((C64 P).append ((C76 P).append ((C123 P).append ((C130 P).append (C207 P))))))))
def L7 (P:D):List Obj:=(C0 P).append (o181 P::(C4 P).append (o136 P::(C13 P).append (o53 P::(C61 P).append ((C64 P).append ((C76 P).append ((C123 P).append ((C130 P).append (C207 P))))))))
def L8 (P:D):List Obj:=(C0 P).append (o182 P::(C4 P).append (o183 P::(C13 P).append (o53 P::(C61 P).append ((C64 P).append ((C76 P).append ((C123 P).append ((C130 P).append ((C207 P).append (C284 P)))))))))
def L9 (P:D):List Obj:=(C0 P).append (o219 P::(C4 P).append (o220 P::(C13 P).append (o53 P::(C61 P).append ((C64 P).append ((C76 P).append ((C123 P).append ((C130 P).append ((C207 P).append ((C284 P).append (C340 P))))))))))
def L10 (P:D):List Obj:=(C0 P).append (o264 P::(C4 P).append (o265 P::(C13 P).append (o53 P::(C61 P).append ((C64 P).append ((C76 P).append ((C123 P).append ((C130 P).append ((C207 P).append ((C284 P).append ((C340 P).append (C417 P)))))))))))
def L11 (P:D):List Obj:=(C0 P).append (o278 P::(C4 P).append (o279 P::(C13 P).append (o53 P::(C61 P).append ((C64 P).append ((C76 P).append ((C123 P).append ((C130 P).append ((C207 P).append ((C284 P).append ((C340 P).append ((C417 P).append (C438 P))))))))))))
def L12 (P:D):List Obj:=(C0 P).append (o337 P::(C4 P).append (o338 P::(C13 P).append (o53 P::(C61 P).append ((C64 P).append ((C76 P).append ((C123 P).append ((C130 P).append ((C207 P).append ((C284 P).append ((C340 P).append ((C417 P).append ((C438 P).append (C532 P)))))))))))))
def L13 (P:D):List Obj:=(C0 P).append (o343 P::(C4 P).append (o344 P::(C13 P).append (o53 P::(C61 P).append ((C64 P).append ((C76 P).append ((C123 P).append ((C130 P).append ((C207 P).append ((C284 P).append ((C340 P).append ((C417 P).append ((C438 P).append ((C532 P).append (C539 P))))))))))))))
def L14 (P:D):List Obj:=(C0 P).append (o411 P::(C4 P).append (o412 P::(C13 P).append (o53 P::(C61 P).append ((C64 P).append ((C76 P).append ((C123 P).append ((C130 P).append ((C207 P).append ((C284 P).append ((C340 P).append ((C417 P).append ((C438 P).append ((C532 P).append ((C539 P).append ((C649 P).append (o435 P::C687 P))))))))))))))))
def L15 (P:D):List Obj:=(C0 P).append (o440 P::(C4 P).append (o441 P::(C13 P).append (o53 P::(C61 P).append ((C64 P).append ((C76 P).append ((C123 P).append ((C130 P).append ((C207 P).append ((C284 P).append ((C340 P).append ((C417 P).append ((C438 P).append ((C532 P).append ((C539 P).append ((C649 P).append (o442 P::(C687 P).append (C691 P)))))))))))))))))
def L16 (P:D):List Obj:=(C0 P).append (o465 P::(C4 P).append (o466 P::(C13 P).append (o53 P::(C61 P).append ((C64 P).append ((C76 P).append ((C123 P).append ((C130 P).append ((C207 P).append ((C284 P).append ((C340 P).append ((C417 P).append ((C438 P).append ((C532 P).append ((C539 P).append ((C649 P).append (o467 P::(C687 P).append ((C691 P).append (C724 P))))))))))))))))))
def L17 (P:D):List Obj:=(C0 P).append (o501 P::(C4 P).append (o502 P::(C13 P).append (o53 P::(C61 P).append ((C64 P).append ((C76 P).append ((C123 P).append ((C130 P).append ((C207 P).append ((C284 P).append ((C340 P).append ((C417 P).append ((C438 P).append ((C532 P).append ((C539 P).append ((C649 P).append (o467 P::(C687 P).append ((C691 P).append ((C724 P).append (C777 P)))))))))))))))))))
def L18 (P:D):List Obj:=(C0 P).append (o538 P::(C4 P).append (o539 P::(C13 P).append (o53 P::(C61 P).append ((C64 P).append ((C76 P).append ((C123 P).append ((C130 P).append ((C207 P).append ((C284 P).append ((C340 P).append ((C417 P).append ((C438 P).append ((C532 P).append ((C539 P).append ((C649 P).append (o467 P::(C687 P).append ((C691 P).append ((C724 P).append ((C777 P).append (C832 P))))))))))))))))))))
def L19 (P:D):List Obj:=(C0 P).append (o584 P::(C4 P).append (o585 P::(C13 P).append (o53 P::(C61 P).append ((C64 P).append ((C76 P).append ((C123 P).append ((C130 P).append ((C207 P).append ((C284 P).append ((C340 P).append ((C417 P).append ((C438 P).append ((C532 P).append ((C539 P).append ((C649 P).append (o467 P::(C687 P).append ((C691 P).append ((C724 P).append ((C777 P).append ((C832 P).append (C908 P)))))))))))))))))))))
noncomputable def loose:List Str:=[S15,S16,S17,S18,S41,S43,S44,S45,S46,S47,S48,S49,S56,S57,S58,S59,S60,S61,S62,S63,S64,S66,S98,S99,S100,S101,S102,S103,S104,S105,S106,S107,S108,S109,S111,S113,S129,S131,S133,S146,S147,S148,S149,S150,S151,S152,S153,S154,S155,S156,S157,S164,S165,S166,S167,S193,S194,S227,S233,S237,S251,S263,S264,S265,S266,S267,S268,S269,S270,S271,S272,S273,S274]
noncomputable def lawN:Str:=S292
noncomputable def ks:List Addr:=[1,2,3,9,13,20,21,27,28,34,35,41,43,49,50,56,57,59,60,69,72,73,81,84,85,93,94,100,101,107,108,114,115,121,122,128,129,135,142,143,149,150,156,157,163,164,170,171,177,178,184,185,191,192,198,199,201,202,212,213,219,220,226,227,233,234,240,241,247,248,254,255,261,262,268,269,275,276,282,283,289,296,297,303,304,310,311,317,318,324,325,331,332,334,335,345,346,352,353,359,360,366,367,373,374,380,381,387,388,394,395,401,402,408,409,415,416,422,423,429,430,436,437,443,450,451,457,458,464,465,471,472,478,479,485,486,490,491,495,496,502,503,509,510,516,517,523,524,526,527,537,538,544,551,552,558,559,565,566,572,573,577,578,584,585,591,592,598,599,605,606,612,613,619,620,626,627,633,634,640,641,643,644,654,661,662,668,669,675,676,682,683,685,686,696,703,704,710,711,717,718,720,721,729,731,737,738,744,745,751,752,756,757,763,764,770,771,773,774,782,784,790,791,795,796,802,803,809,810,816,817,823,824,826,827,835,836,842,843,849,850,856,857,863,864,870,871,877,878,884,885,889,890,896,897,901,902,906,907,911,912]
noncomputable def K (P:D):Frag:=kz P ks [boot_o_1,o4,o584,o589,o2,o9,o10,o13,o14,o17,o18,o23,o25,o28,o29,o32,o33,o35,o53,o45,o47,o48,o55,o57,o58,o63,o64,o67,o68,o71,o72,o75,o76,o79,o80,o84,o85,o90,o94,o95,o98,o99,o102,o103,o106,o107,o110,o111,o114,o115,o118,o119,o122,o123,o126,o127,o129,o130,o139,o140,o143,o144,o147,o148,o151,o152,o155,o156,o159,o160,o163,o164,o167,o168,o171,o172,o175,o176,o179,o180,o186,o190,o191,o194,o195,o198,o199,o202,o203,o206,o207,o210,o211,o213,o214,o223,o224,o227,o228,o231,o232,o235,o236,o238,o239,o242,o243,o246,o247,o250,o251,o254,o255,o258,o259,o262,o263,o268,o269,o272,o273,o276,o277,o282,o286,o287,o290,o291,o294,o295,o298,o299,o302,o303,o306,o307,o309,o310,o312,o313,o316,o317,o320,o321,o324,o325,o328,o329,o331,o332,o341,o342,o347,o351,o352,o355,o356,o359,o360,o363,o364,o366,o367,o370,o371,o374,o375,o378,o379,o382,o383,o386,o387,o390,o391,o394,o395,o398,o399,o402,o403,o405,o406,o415,o419,o420,o423,o424,o427,o428,o431,o432,o434,o467,o446,o450,o451,o454,o455,o458,o459,o461,o462,o470,o472,o475,o476,o479,o480,o483,o484,o486,o487,o490,o491,o494,o495,o497,o498,o505,o507,o510,o511,o513,o514,o517,o518,o521,o522,o525,o526,o529,o530,o532,o533,o541,o542,o545,o546,o549,o550,o553,o554,o557,o558,o561,o562,o565,o566,o569,o570,o572,o573,o576,o577,o579,o580,o582,o583,o587,o588]
def sts0:List Stmt:=[st 0,st 1,st 2,st 3,st 4,st 5]
def sts1:List Stmt:=[st 6]
def sts2:List Stmt:=[st 7,st 8,st 9,st 10,st 11,st 12,st 13,st 14]
def sts3:List Stmt:=[st 15,st 16,st 17,st 18,st 19,st 20,st 21,st 22,st 23,st 24]
def sts4:List Stmt:=[st 25]
def sts5:List Stmt:=[st 26,st 27,st 28,st 29,st 30,st 31,st 32,st 33,st 34,st 35,st 36,st 37,st 38,st 39,st 40,st 41]
def sts6:List Stmt:=[st 42,st 43]
def sts7:List Stmt:=[st 44]
def sts8:List Stmt:=[st 45,st 46,st 47,st 48,st 49,st 50,st 51,st 52,st 53,st 54,st 55,st 56,st 57]
def sts9:List Stmt:=[st 58,st 59,st 60,st 61]
def sts10:List Stmt:=[st 62]
def sts11:List Stmt:=[st 63]
def sts12:List Stmt:=[st 64]
def sts13:List Stmt:=[st 65,st 66]
def sts14:List Stmt:=[st 67]
def sts15:List Stmt:=[st 68]
def sts16:List Stmt:=[st 69,st 70]
def sts17:List Stmt:=[st 71,st 72,st 73,st 74,st 75,st 76,st 77,st 78,st 79,st 80,st 81,st 82]
def sts18:List Stmt:=[st 83]
end
end Hd
end
section
open PySem PySem.W
namespace Hd
theorem p0 (w:World) (os:OsState):run w 378 (T (L0 w.params) 15 187 os) (th sts0 ⟨0,0,0,0⟩) = some (.next,T (L1 w.params) 64 260 os,cB,⟨29,0,39,29⟩):=by kernel_rfl
theorem p1 (w:World) (os:OsState):run w 214 (T (L1 w.params) 64 260 os) (th sts1 ⟨29,0,39,29⟩) = some (.next,T (L2 w.params) 76 276 os,cB,⟨40,0,41,8⟩):=by kernel_rfl
theorem p2 (w:World) (os:OsState):run w 382 (T (L2 w.params) 76 276 os) (th sts2 ⟨40,0,41,8⟩) = some (.next,T (L3 w.params) 123 336 os,cB,⟨60,0,60,10⟩):=by kernel_rfl
theorem p3 (w:World) (os:OsState):run w 110 (T (L3 w.params) 123 336 os) (th sts3 ⟨60,0,60,10⟩) = some (.next,T (L4 w.params) 130 360 os,cB,⟨71,0,71,10⟩):=by kernel_rfl
theorem p4 (w:World) (os:OsState):run w 486 (T (L4 w.params) 130 360 os) (th sts4 ⟨71,0,71,10⟩) = some (.next,T (L5 w.params) 207 460 os,cB,⟨72,0,124,16⟩):=by kernel_rfl
theorem p5 (w:World) (os:OsState):run w 401 (T (L5 w.params) 207 460 os) (th sts5 ⟨72,0,124,16⟩) = some (.next,T (L6 w.params) 284 583 os,cB,⟨198,0,198,8⟩):=by kernel_rfl
theorem p6 (w:World) (os:OsState):run w 19 (T (L6 w.params) 284 583 os) (th sts6 ⟨198,0,198,8⟩) = some (.next,T (L7 w.params) 284 587 os,cB,⟨200,0,200,10⟩):=by kernel_rfl
theorem p7 (w:World) (os:OsState):run w 384 (T (L7 w.params) 284 587 os) (th sts7 ⟨200,0,200,10⟩) = some (.next,T (L8 w.params) 340 657 os,cB,⟨201,0,222,24⟩):=by kernel_rfl
theorem p8 (w:World) (os:OsState):run w 372 (T (L8 w.params) 340 657 os) (th sts8 ⟨201,0,222,24⟩) = some (.next,T (L9 w.params) 417 772 os,cB,⟨311,0,326,52⟩):=by kernel_rfl
theorem p9 (w:World) (os:OsState):run w 107 (T (L9 w.params) 417 772 os) (th sts9 ⟨311,0,326,52⟩) = some (.next,T (L10 w.params) 438 805 os,cB,⟨354,0,354,8⟩):=by kernel_rfl
theorem p10 (w:World) (os:OsState):run w 575 (T (L10 w.params) 438 805 os) (th sts10 ⟨354,0,354,8⟩) = some (.next,T (L11 w.params) 532 926 os,cB,⟨355,0,396,36⟩):=by kernel_rfl
theorem p11 (w:World) (os:OsState):run w 32 (T (L11 w.params) 532 926 os) (th sts11 ⟨355,0,396,36⟩) = some (.next,T (L12 w.params) 539 935 os,cB,⟨397,0,400,40⟩):=by kernel_rfl
theorem p12 (w:World) (os:OsState):run w 655 (T (L12 w.params) 539 935 os) (th sts12 ⟨397,0,400,40⟩) = some (.next,T (L13 w.params) 649 1086 os,cB,⟨401,0,493,17⟩):=by kernel_rfl
theorem p13 (w:World) (os:OsState):run w 325 (T (L13 w.params) 649 1086 os) (th sts13 ⟨401,0,493,17⟩) = some (.next,T (L14 w.params) 691 1138 os,cB,⟨495,0,507,17⟩):=by kernel_rfl
theorem p14 (w:World) (os:OsState):run w 308 (T (L14 w.params) 691 1138 os) (th sts14 ⟨495,0,507,17⟩) = some (.next,T (L15 w.params) 724 1177 os,cB,⟨508,0,518,30⟩):=by kernel_rfl
theorem p15 (w:World) (os:OsState):run w 416 (T (L15 w.params) 724 1177 os) (th sts15 ⟨508,0,518,30⟩) = some (.next,T (L16 w.params) 777 1253 os,cB,⟨519,0,546,17⟩):=by kernel_rfl
theorem p16 (w:World) (os:OsState):run w 395 (T (L16 w.params) 777 1253 os) (th sts16 ⟨519,0,546,17⟩) = some (.next,T (L17 w.params) 832 1328 os,cB,⟨572,0,572,8⟩):=by kernel_rfl
theorem p17 (w:World) (os:OsState):run w 377 (T (L17 w.params) 832 1328 os) (th sts17 ⟨572,0,572,8⟩) = some (.next,T (L18 w.params) 908 1448 os,cB,⟨649,0,671,57⟩):=by kernel_rfl
theorem p18 (w:World) (os:OsState):run w 27 (T (L18 w.params) 908 1448 os) (th sts18 ⟨649,0,671,57⟩) = some (.next,T (L19 w.params) 913 1454 os,cB,⟨672,0,698,89⟩):=by kernel_rfl
end Hd
end
section
open PySem PySem.W
namespace Hd
section
theorem e_topGo:@topGo = @PySem.W.Fast.tw15667345088766844465:=PySem.W.Fast.te15667345088766844465
theorem e_topRun:@topRun = @PySem.W.Fast.tw14082659384304107361:=PySem.W.Fast.te14082659384304107361
theorem e_denote:@denote = @PySem.W.Fast.tw11892475500146522536:=PySem.W.Fast.te11892475500146522536
theorem e_tree:treeTable = PySem.W.Fast.tw14364793385576792824:=PySem.W.Fast.te14364793385576792824
theorem e_segRunT:@segRunT = @PySem.W.Fast.tw10110043849684766642:=PySem.W.Fast.te10110043849684766642
theorem e_segRun:@segRun = @PySem.W.Fast.tw14374325043358763698:=PySem.W.Fast.te14374325043358763698
theorem e_execs:@execs = @PySem.W.Fast.tw12563942051412417395:=PySem.W.Fast.te12563942051412417395
noncomputable abbrev q0:Pos:=⟨0,0,0,0⟩
noncomputable abbrev ann:Option Value:=some (.ref 6)
theorem said:PySem.Challenge.rw_nn0069_01.wellSaid = true:=by
 rw [show @OpenLaw.wellSaid = @PySem.W.Fast.tw9446332074065402090 from PySem.W.Fast.te9446332074065402090]
 kernel_rfl
theorem conv {w:World} {n:Nat} {l l':List Obj} {n0 k0 n1 k1:Nat} {os:OsState} {sts:List Stmt} {p p':Pos} (h:run w n (T l n0 k0 os) (th sts p) = some (.next,T l' n1 k1 os,cB,p')) :
  segRun treeTable pq w 11 ann 1 n (T l n0 k0 os).abs (piecesOf sts envM cB p [topFrame q0]) = some (.next,(T l' n1 k1 os).abs,cB,p'):=by
 refine segRun_of ?_
 unfold run at h
 rw [← e_segRunT,← e_tree] at h
 unfold th at h
 rw [← e_execs] at h
 exact h
theorem pre (w:World) (os:OsState):topGo treeTable pq w 11 ann 12 ⟨boot_heap w.params,⟨[]⟩,boot_drawn,boot_toks,os⟩ (topStub pq) = some ((T (L0 w.params) 15 187 os).abs,⟨denote treeTable cB,cB,q0,[topFrame q0]⟩):=by
 rw [e_topGo,e_denote,e_tree]
 kernel_rfl
theorem block (w:World) (os:OsState):segRun treeTable pq w 11 ann 1 1 (T (L0 w.params) 15 187 os).abs (blockOf (behindTheImports pq) envM cB q0 [topFrame q0]) = some (.next,(T (L0 w.params) 15 187 os).abs,cB,q0):=by
 rw [e_segRun,e_tree]
 kernel_rfl
noncomputable def H1 (P:Params):Heap:=⟨⟨L19 P⟩,{}⟩
theorem abs1 (P:Params) (os:OsState):(T (L19 P) 913 1454 os).abs = ⟨H1 P,⟨[]⟩,boot_drawn,1454,os⟩:=by kernel_rfl
theorem fin (w:World) (os:OsState):topRun treeTable pq w 11 ann 2 (T (L19 w.params) 913 1454 os).abs (restOf [] envM cB ⟨672,0,698,89⟩ [topFrame q0]) = some ⟨H1 w.params,⟨[]⟩,boot_drawn,1454,os⟩:=by
 rw [abs1,e_topRun,e_tree]
 kernel_rfl
theorem body_eq:behindTheImports pq = sts0++(sts1++(sts2++(sts3++(sts4++(sts5++(sts6++(sts7++(sts8++(sts9++(sts10++(sts11++(sts12++(sts13++(sts14++(sts15++(sts16++(sts17++(sts18++[])))))))))))))))))):=by kernel_rfl
theorem runs (w:World) (os:OsState):topRun treeTable pq w 11 ann (12 + (1 + (378 + (214 + (382 + (110 + (486 + (401 + (19 + (384 + (372 + (107 + (575 + (32 + (655 + (325 + (308 + (416 + (395 + (377 + (27 + 2))))))))))))))))))))) ⟨boot_heap w.params,⟨[]⟩,boot_drawn,boot_toks,os⟩ (topStub pq) = some ⟨H1 w.params,⟨[]⟩,boot_drawn,1454,os⟩:=by
 refine go_top (pre w os) ?_
 refine piece_block (block w os) ?_
 rw [body_eq]
 exact piece_app (conv (p0 w os)) (piece_app (conv (p1 w os)) (piece_app (conv (p2 w os)) (piece_app (conv (p3 w os)) (piece_app (conv (p4 w os)) (piece_app (conv (p5 w os)) (piece_app (conv (p6 w os)) (piece_app (conv (p7 w os)) (piece_app (conv (p8 w os)) (piece_app (conv (p9 w os)) (piece_app (conv (p10 w os)) (piece_app (conv (p11 w os)) (piece_app (conv (p12 w os)) (piece_app (conv (p13 w os)) (piece_app (conv (p14 w os)) (piece_app (conv (p15 w os)) (piece_app (conv (p16 w os)) (piece_app (conv (p17 w os)) (piece_app (conv (p18 w os)) (fin w os)))))))))))))))))))
end
end Hd
end
section
open PySem PySem.W
namespace Hd
section
noncomputable def qv:Program:={ pq with main:={ pq.main with body:=[st 83] } }
noncomputable def Yf (s:Shared):List (Option Obj):=ks.map s.heap.get?
noncomputable def Ya (w:World):List (Option Obj):=(K w.params).map fun p=>some p.2
theorem opens:∀ w:World,(fencedOpening treeTable pq w 12014).map (fun s=>(s.heap,s.gens,s.drawn,s.toks)) = some (boot_heap w.params,Array.mk [],boot_drawn,boot_toks) :=
 boot_open (by kernel_rfl) (by decide) (fun s=>by kernel_rfl)
theorem sized (w:World):((boot_heap w.params).isNs mainGlobals && (Array.mk ([]:List GenState)).size == 0,(boot_heap w.params).objs.size,(boot_heap w.params).nsMap mainGlobals "__annotations__") = (true,11,ann):=by kernel_rfl
theorem look1 (w:World) (os:OsState):(staticsOk (importedModules pq.main.body) (boot_heap w.params) (H1 w.params) && namesBound pq (H1 w.params) && gensDone ⟨H1 w.params,⟨[]⟩,boot_drawn,1454,os⟩ && laidKept (boot_heap w.params) (H1 w.params)) = true:=by kernel_rfl
theorem look3 (w:World) (os:OsState):Yf ⟨H1 w.params,⟨[]⟩,boot_drawn,1454,os⟩ = Ya w:=by kernel_rfl
theorem look2 (w:World) (os:OsState):openSeen qv loose (importedModules pq.main.body) (fun _=>true) true ⟨H1 w.params,⟨[]⟩,boot_drawn,1454,os⟩ = openGood qv loose:=by
 rw [show @openSeen = @PySem.W.Fast.tw4187177175401517315 from PySem.W.Fast.te4187177175401517315]
 kernel_rfl
theorem left:LeftO pq qv loose (fun _=>true) Yf Ya 12014:=by
 refine LeftO.of_pieces opens sized runs (by decide +kernel) fun w=>?_
 funext os
 rw [look1,look2,look3]
end
end Hd
end
section
open PySem PySem.W
namespace Hd
section
abbrev row:OpenRow:=PySem.Challenge.rw_nn0069_01.row
noncomputable def dl:DefRec:=⟨lawN,fA (st 83),fB (st 83),fS (st 83),(st 83).pos⟩
theorem hdef:defOf qv row.name = some (dl,[]):=by kernel_rfl
theorem hp:row.prog.theDef row.name = some (dl.params,dl.body,dl.scope):=by kernel_rfl
theorem hk:kwWritten? dl.params.kwonlyargs dl.params.kw_defaults = some []:=by kernel_rfl
theorem ok:(chainsOk qv && opensWell row.prog && (frees row.toRowW && row.toRowW.within.isEmpty)) = true:=by kernel_rfl
theorem hb:row.prog.bare:=by
 refine ⟨by kernel_rfl,by kernel_rfl,by kernel_rfl,by kernel_rfl,by kernel_rfl,by kernel_rfl⟩
theorem hw:row.toRowW.promised:=by w_witness2
theorem holds (walk:WalkO qv loose (fun _ _=>True) (InK K) row.toRowW dl [] (fun f vs=>PySem.call f vs)):PySem.Challenge.rw_nn0069_01.Holds :=
 holds_law said fun _=>PySem.W.holds_open (r:=row) (q:=qv) (loose:=loose) (Xt:=fun _=>true) (XP:=fun _ _=>True) (Yf:=Yf) (Ya:=Ya) (YP:=InK K) (N:=12014) left
  (fun w s e=>InK.of (as:=ks) (fun P=>by kernel_rfl) w s e) InK.keeps (fun _ _=>trivial) (fun _ _ _ _ _=>trivial) hdef hp hk (fun _ _=>recFacts_nil rfl) rfl (row_said said) ok hb hw walk
end
end Hd
end
section
open PySem PySem.W PyProof.Rows
namespace Mine
inductive B where
 | int | len | sum | abs | max | list | dict | bytes | sorted | tuple | range | enum
noncomputable def B.val:B→Value
 | .int=>.type "int" | .len=>.builtin "len" | .sum=>.builtin "sum" | .abs=>.builtin "abs" | .max=>.builtin "max"
 | .list=>.type "list" | .dict=>.type "dict" | .bytes=>.type "bytes" | .sorted=>.builtin "sorted" | .tuple=>.type "tuple"
 | .range=>.type "range" | .enum=>.type "enumerate"
inductive V where
 | none | bool (b:Bool) | int (i:Int) | str (s:Str) | byt (b:Array UInt8)
 | bf (b:B) | ref (l:Nat) | glob (a:Addr) | tup (vs:List V)
inductive O where
 | list (vs:List V)
 | di (es:List (Int × V))
 | ds (es:List (Str × V))
 | inst (C:Addr) (fs:List (Nat × V))
structure AH where
 get:Nat→Option O
 next:Nat
 mt:Nat
noncomputable def AH.set (H:AH) (l:Nat) (o:O):AH:=⟨fun x=>if x = l then some o else H.get x,H.next,H.mt + 1⟩
noncomputable def AH.alloc (H:AH) (o:O):AH:=⟨fun x=>if x = H.next then some o else H.get x,H.next + 1,H.mt⟩
inductive X where
 | lit (v:V)
 | var (i:Nat)
 | bin (op:Operator) (a b:X)
 | un (op:UnaryOp) (a:X)
 | and (a b:X) | or (a b:X)
 | ite (t a b:X)
 | cmp (op:CmpOp) (a b:X)
 | chain (o₁ o₂:CmpOp) (a b c:X)
 | attr (a:X) (n:Nat)
 | item (a i:X)
 | upto (a hi:X)
 | call (f:V) (args:List X)
 | meth (a:X) (n:Nat) (args:List X)
 | list (es:List X) | tup (es:List X)
 | dict (ks:List Str) (vs:List X)
 | comp (elt:X) (t:Nat) (k:Nat) (src:X) (cnd:X) (caps:List (Option Nat))
 | bad
inductive Tg where
 | var (i:Nat) | attr (a:X) (n:Nat) | item (a i:X) | bad
inductive St where
 | asg (t:Tg) (e:X)
 | unp (ts:List Tg) (e:X)
 | ex (e:X)
 | iff (t:X) (a b:List St)
 | whil (t:X) (b:List St)
 | for1 (i:Nat) (k:Nat) (src:X) (b:List St)
 | for2 (i j:Nat) (k:Nat) (src:X) (b:List St)
 | ret (e:X)
 | retN | pass | bad
noncomputable abbrev Loc:=List (Option V)
noncomputable abbrev KV:=V→AH→Prop
noncomputable abbrev KB:=Bool→AH→Prop
noncomputable abbrev Spec:=Addr→List V→AH→KV→Prop
structure Nw (Q:KV) (H:AH) (o:O):Prop where
 h:Q (.ref H.next) (H.alloc o)
noncomputable def branch (c:Bool) (P R:Prop):Prop:=match c with
 | true=>P
 | false=>R
noncomputable def IsO {α:Type} (o:Option α) (k:α→Prop):Prop:=match o with
 | some v=>k v
 | none=>False
theorem IsO.inv {α:Type} {o:Option α} {k:α→Prop} (h:IsO o k):∃ v,o = some v∧k v:=by
 cases o with
 | none=>exact h.elim
 | some v=>exact ⟨v,rfl,h⟩
noncomputable def GetV (o:Option (Option V)) (k:V→Prop):Prop:=IsO o fun p=>IsO p k
theorem GetV.inv {o:Option (Option V)} {k:V→Prop} (h:GetV o k):∃ v,o = some (some v)∧k v:=by
 obtain ⟨p,e,q⟩:=IsO.inv h
 obtain ⟨v,e',q⟩:=IsO.inv q
 exact ⟨v,e.trans (congrArg some e'),q⟩
noncomputable def TupAt (vs:List V) (i:Int) (k:V→Prop):Prop:=branch (Nat.ble i.toNat 1000) (branch (decide (0≤i)) (IsO vs[i.toNat]? k) False) False
theorem TupAt.inv {vs:List V} {i:Int} {k:V→Prop} (h:TupAt vs i k):0≤i∧i < 2 ^ 62∧∃ v,vs[i.toNat]? = some v∧k v:=by
 unfold TupAt at h
 cases e:Nat.ble i.toNat 1000 with
 | false=>rw [e] at h; exact h.elim
 | true =>
  cases e':decide (0≤i) with
  | false=>rw [e,e'] at h; exact h.elim
  | true =>
   rw [e,e'] at h
   have:=Nat.le_of_ble_eq_true e
   have h0:=of_decide_eq_true e'
   exact ⟨h0,Int.lt_of_le_of_lt (Int.toNat_le.mp this) (by decide),IsO.inv h⟩
noncomputable def voidV (v:V) (P:Prop):Prop:=match v with
 | .none=>P
 | _=>False
theorem voidV.inv {v:V} {P:Prop} (h:voidV v P):v = .none∧P:=by cases v <;> first | exact h.elim | exact ⟨rfl,h⟩
noncomputable def lbeq (x y:List Nat):Bool:=@List.beq Nat ⟨Nat.beq⟩ x y
noncomputable def sbeq (a b:Str):Bool:=lbeq a.cps.toList b.cps.toList
theorem lbeq_eq:∀ {x y:List Nat},lbeq x y = decide (x = y):=fun {x y}=>by
 have:@LawfulBEq Nat ⟨Nat.beq⟩:=@LawfulBEq.mk Nat ⟨Nat.beq⟩ (@ReflBEq.mk Nat ⟨Nat.beq⟩ (Nat.beq_refl _)) (Nat.eq_of_beq_eq_true)
 exact Bool.eq_iff_iff.mpr ((@beq_iff_eq (List Nat) (@List.instBEq Nat ⟨Nat.beq⟩) (@List.instLawfulBEq Nat ⟨Nat.beq⟩ this) x y).trans decide_eq_true_iff.symm)
theorem sbeq_eq (a b:Str):sbeq a b = decide (a = b):=by
 rw [sbeq,lbeq_eq]
 cases a; cases b
 simp [Array.toList_inj]
structure Tab where
 split:Str→Option (List Str)
 meth:Addr→Nat→Option Addr
 init:Addr→Option Addr
 plain:Addr→Nat→Bool
 scr:Addr→Option (List V)
 srt:List (Int × Int)→List (Int × Int)
noncomputable def int1 (x:V) (k:Int→Prop):Prop:=match x with
 | .int i=>k i
 | _=>False
theorem int1_inv {x:V} {k:Int→Prop} (h:int1 x k):∃ i,x = .int i∧k i:=by
 cases x <;> first | exact h.elim | exact ⟨_,rfl,h⟩
noncomputable def int2 (x y:V) (k:Int→Int→Prop):Prop:=int1 x fun a=>int1 y (k a)
theorem int2_inv {x y:V} {k:Int→Int→Prop} (h:int2 x y k):∃ a b,x = .int a∧y = .int b∧k a b:=by
 obtain ⟨a,e,h⟩:=int1_inv h
 obtain ⟨b,e',h⟩:=int1_inv h
 exact ⟨a,b,e,e',h⟩
noncomputable def ref1 (x:V) (k:Nat→Prop):Prop:=match x with
 | .ref i=>k i
 | _=>False
theorem ref1_inv {x:V} {k:Nat→Prop} (h:ref1 x k):∃ i,x = .ref i∧k i:=by
 cases x <;> first | exact h.elim | exact ⟨_,rfl,h⟩
noncomputable def ref2 (x y:V) (k:Nat→Nat→Prop):Prop:=ref1 x fun a=>ref1 y (k a)
theorem ref2_inv {x y:V} {k:Nat→Nat→Prop} (h:ref2 x y k):∃ a b,x = .ref a∧y = .ref b∧k a b:=by
 obtain ⟨a,e,h⟩:=ref1_inv h
 obtain ⟨b,e',h⟩:=ref1_inv h
 exact ⟨a,b,e,e',h⟩
noncomputable def str1 (x:V) (k:Str→Prop):Prop:=match x with
 | .str i=>k i
 | _=>False
theorem str1_inv {x:V} {k:Str→Prop} (h:str1 x k):∃ i,x = .str i∧k i:=by
 cases x <;> first | exact h.elim | exact ⟨_,rfl,h⟩
noncomputable def str2 (x y:V) (k:Str→Str→Prop):Prop:=str1 x fun a=>str1 y (k a)
theorem str2_inv {x y:V} {k:Str→Str→Prop} (h:str2 x y k):∃ a b,x = .str a∧y = .str b∧k a b:=by
 obtain ⟨a,e,h⟩:=str1_inv h
 obtain ⟨b,e',h⟩:=str1_inv h
 exact ⟨a,b,e,e',h⟩
noncomputable def tup1 (x:V) (k:List V→Prop):Prop:=match x with
 | .tup i=>k i
 | _=>False
theorem tup1_inv {x:V} {k:List V→Prop} (h:tup1 x k):∃ i,x = .tup i∧k i:=by
 cases x <;> first | exact h.elim | exact ⟨_,rfl,h⟩
noncomputable def tup2 (x y:V) (k:List V→List V→Prop):Prop:=tup1 x fun a=>tup1 y (k a)
theorem tup2_inv {x y:V} {k:List V→List V→Prop} (h:tup2 x y k):∃ a b,x = .tup a∧y = .tup b∧k a b:=by
 obtain ⟨a,e,h⟩:=tup1_inv h
 obtain ⟨b,e',h⟩:=tup1_inv h
 exact ⟨a,b,e,e',h⟩
noncomputable def bool1 (x:V) (k:Bool→Prop):Prop:=match x with
 | .bool i=>k i
 | _=>False
theorem bool1_inv {x:V} {k:Bool→Prop} (h:bool1 x k):∃ i,x = .bool i∧k i:=by
 cases x <;> first | exact h.elim | exact ⟨_,rfl,h⟩
noncomputable def isRef:V→Bool
 | .ref _=>true
 | _=>false
noncomputable def isTup:V→Bool
 | .tup _=>true
 | _=>false
noncomputable def isStrV:V→Bool
 | .str _=>true
 | _=>false
noncomputable def addL (x y:V) (H:AH) (Q:KV):Prop:=ref2 x y fun a b=>∃ xs ys,H.get a = some (.list xs)∧H.get b = some (.list ys)∧xs.length + ys.length≤1000∧Nw Q H (.list (xs++ys))
noncomputable def mulL (x y:V) (H:AH) (Q:KV):Prop:=ref1 x fun a=>int1 y fun n=>∃ xs,H.get a = some (.list xs)∧0≤n∧n≤1000∧xs.length≤1000∧Nw Q H (.list (List.replicate n.toNat xs).flatten)
noncomputable def opBin (op:Operator) (x y:V) (H:AH) (Q:KV):Prop :=
 match op with
 | .Add=>if isRef x then addL x y H Q else int2 x y fun a b=>Q (.int (a + b)) H
 | .Sub=>int2 x y fun a b=>Q (.int (a - b)) H
 | .Mult=>if isRef x then mulL x y H Q else int2 x y fun a b=>IntMulOk a b∧Q (.int (a * b)) H
 | .FloorDiv=>int2 x y fun a b=>b≠0∧Builtin.divisionGoesByPylong a b = false∧Q (.int (a.fdiv b)) H
 | .Mod=>int2 x y fun a b=>b≠0∧Q (.int (a.fmod b)) H
 | .Pow=>int2 x y fun a n=>0≤n∧(Builtin.Int.intBits a:Int) * n≤2 ^ 27∧Q (.int (a ^ n.toNat)) H
 | .LShift=>int2 x y fun a n=>0≤n∧(Builtin.Int.intBits a:Int) + n≤2 ^ 27∧Q (.int (a * 2 ^ n.toNat)) H
 | .RShift=>int2 x y fun a n=>0≤n∧Q (.int (a.fdiv (2 ^ n.toNat))) H
 | .BitAnd=>int2 x y fun a b=>Q (.int (Builtin.bitAnd a b)) H
 | .BitOr=>int2 x y fun a b=>Q (.int (Builtin.bitOr a b)) H
 | .BitXor=>int2 x y fun a b=>Q (.int (Builtin.bitXor a b)) H
 | _=>False
noncomputable def truthyV (x:V) (H:AH) (Q:KB):Prop:=bool1 x fun b=>Q b H
noncomputable def negV (x:V) (H:AH) (Q:KV):Prop:=int1 x fun a=>Q (.int (-a)) H
noncomputable def opUn (op:UnaryOp) (x:V) (H:AH) (Q:KV):Prop :=
 match op with
 | .USub=>negV x H Q
 | .Not=>truthyV x H fun b H=>Q (.bool (!b)) H
 | _=>False
mutual
noncomputable def toD:V→Option PyData
 | .int a=>some (.int a)
 | .tup a=>(toDs a).map .tuple
 | _=>none
noncomputable def toDs:List V→Option (List PyData)
 | []=>some []
 | a::x=>match toD a,toDs x with
  | some d,some ds=>some (d::ds)
  | _,_=>none
end
noncomputable def isNoneV:V→Option Bool
 | .none=>some true
 | .ref _=>some false
 | _=>none
noncomputable def getI:V→Option Int
 | .int a=>some a
 | _=>none
noncomputable def getS:V→Option Str
 | .str a=>some a
 | _=>none
noncomputable def getT:V→Option (List V)
 | .tup vs=>some vs
 | _=>none
theorem getI_inv {v:V} {a:Int} (h:getI v = some a):v = .int a:=by cases v <;> cases h; rfl
theorem getS_inv {v:V} {a:Str} (h:getS v = some a):v = .str a:=by cases v <;> cases h; rfl
theorem getT_inv {v:V} {vs:List V} (h:getT v = some vs):v = .tup vs:=by cases v <;> cases h; rfl
noncomputable def anyEq (s:Str):List V→Option Bool
 | []=>some false
 | v::r=>(getS v).bind fun t=>if PyData.strOk t then (anyEq s r).map (sbeq t s || ·) else none
noncomputable def eqT (neg:Bool) (x y:V) (H:AH) (Q:KV):Prop:=tup2 x y fun a b =>
 ∃ ds es,toDs a = some ds∧toDs b = some es∧SeqAt.shaped (.tuple ds) = true∧SeqAt.shaped (.tuple es) = true∧Q (.bool (neg ^^ PyData.eqvAll ds es)) H
noncomputable def eqL (neg:Bool) (x y:V) (H:AH) (Q:KV):Prop:=ref2 x y fun a b=>∃ xs ys,H.get a = some (.list xs)∧H.get b = some (.list ys) ∧
   ((xs.length≠ys.length∧Q (.bool neg) H)∨∃ ds es,toDs xs = some ds∧toDs ys = some es∧SeqAt.shaped (.list ds) = true∧SeqAt.shaped (.list es) = true∧Q (.bool (neg ^^ PyData.eqvAll ds es)) H)
noncomputable def eqV (neg:Bool) (x y:V) (H:AH) (Q:KV):Prop :=
 if isStrV x then str2 x y fun a b=>Q (.bool (neg ^^ sbeq a b)) H
 else if isTup x then eqT neg x y H Q
 else if isRef x then eqL neg x y H Q
 else int2 x y fun a b=>Q (.bool (neg ^^ decide (a = b))) H
noncomputable def isV (neg:Bool) (x y:V) (H:AH) (Q:KV):Prop:=voidV y (IsO (isNoneV x) fun b=>Q (.bool (neg ^^ b)) H)
noncomputable def inV (x y:V) (H:AH) (Q:KV):Prop:=str1 x fun a=>tup1 y fun vs=>∃ b,PyData.strOk a = true∧anyEq a vs = some b∧Q (.bool b) H
noncomputable def opCmp (op:CmpOp) (x y:V) (H:AH) (Q:KV):Prop :=
 match op with
 | .Eq=>eqV false x y H Q
 | .NotEq=>eqV true x y H Q
 | .Lt=>int2 x y fun a b=>Q (.bool (decide (a < b))) H
 | .LtE=>int2 x y fun a b=>Q (.bool (decide (a≤b))) H
 | .Gt=>int2 x y fun a b=>Q (.bool (decide (b < a))) H
 | .GtE=>int2 x y fun a b=>Q (.bool (decide (b≤a))) H
 | .Is=>isV false x y H Q
 | .IsNot=>isV true x y H Q
 | .In=>inV x y H Q
 | _=>False
noncomputable def iget (k:Int):List (Int × V)→Option V
 | []=>none
 | (a,v)::r=>if a = k then some v else iget k r
noncomputable def iput (k:Int) (v:V):List (Int × V)→List (Int × V)
 | []=>[(k,v)]
 | (a,w)::r=>if a = k then (a,v)::r else (a,w)::iput k v r
noncomputable def sget (k:Str):List (Str × V)→Option V
 | []=>none
 | (a,v)::r=>if sbeq a k then some v else sget k r
noncomputable def sput (k:Str) (v:V):List (Str × V)→List (Str × V)
 | []=>[(k,v)]
 | (a,w)::r=>if sbeq a k then (a,v)::r else (a,w)::sput k v r
noncomputable def flook (n:Nat):List (Nat × V)→Option V
 | []=>none
 | (a,v)::r=>if Nat.beq a n then some v else flook n r
noncomputable def fput (n:Nat) (v:V):List (Nat × V)→List (Nat × V)
 | []=>[(n,v)]
 | (a,w)::r=>if Nat.beq a n then (a,v)::r else (a,w)::fput n v r
inductive OpItem (H:AH) (Q:KV):V→V→Prop
 | list {l:Nat} {k:Int} {vs:List V} {v:V} (h:H.get l = some (.list vs)) (h0:0≤k) (h2:k < 2 ^ 62) (e:vs[k.toNat]? = some v) (q:Q v H):OpItem H Q (.ref l) (.int k)
 | di {l:Nat} {k:Int} {es:List (Int × V)} {v:V} (h:H.get l = some (.di es)) (e:iget k es = some v) (q:Q v H):OpItem H Q (.ref l) (.int k)
 | ds {l:Nat} {k:Str} {es:List (Str × V)} {v:V} (h:H.get l = some (.ds es)) (e:sget k es = some v) (q:Q v H):OpItem H Q (.ref l) (.str k)
noncomputable def opItem (x i:V) (H:AH) (Q:KV):Prop:=match x with
 | .tup vs=>(match i with
  | .int k=>TupAt vs k fun v=>Q v H
  | _=>False)
 | x=>OpItem H Q x i
inductive OpSetItem (v:V) (H:AH) (Q:AH→Prop):V→V→Prop
 | list {l:Nat} {k:Int} {vs:List V} (h:H.get l = some (.list vs)) (h0:0≤k) (h2:k < 2 ^ 62) (e:k.toNat < vs.length) (q:Q (H.set l (.list (vs.set k.toNat v)))):OpSetItem v H Q (.ref l) (.int k)
 | di {l:Nat} {k:Int} {es:List (Int × V)} (h:H.get l = some (.di es)) (e:es.length≤1000) (q:Q (H.set l (.di (iput k v es)))):OpSetItem v H Q (.ref l) (.int k)
 | ds {l:Nat} {k:Str} {es:List (Str × V)} (h:H.get l = some (.ds es)) (e:es.length≤1000) (q:Q (H.set l (.ds (sput k v es)))):OpSetItem v H Q (.ref l) (.str k)
noncomputable abbrev opSetItem (x i v:V) (H:AH) (Q:AH→Prop):Prop:=OpSetItem v H Q x i
inductive OpAttr (T:Tab) (n:Nat) (H:AH) (Q:KV):V→Prop
 | mk {l:Nat} {C:Addr} {fs:List (Nat × V)} {v:V} (h:H.get l = some (.inst C fs)) (p:T.plain C n = true) (f:flook n fs = some v) (q:Q v H):OpAttr T n H Q (.ref l)
noncomputable abbrev opAttr (T:Tab) (x:V) (n:Nat) (H:AH) (Q:KV):Prop:=OpAttr T n H Q x
inductive OpSetAttr (T:Tab) (n:Nat) (v:V) (H:AH) (Q:AH→Prop):V→Prop
 | mk {l:Nat} {C:Addr} {fs:List (Nat × V)} (h:H.get l = some (.inst C fs)) (p:T.plain C n = true) (f:fs.length≤50) (q:Q (H.set l (.inst C (fput n v fs)))):OpSetAttr T n v H Q (.ref l)
noncomputable abbrev opSetAttr (T:Tab) (x:V) (n:Nat) (v:V) (H:AH) (Q:AH→Prop):Prop:=OpSetAttr T n v H Q x
inductive OpUpto (T:Tab) (H:AH) (Q:KV) (k:Int):V→Prop
 | list {l:Nat} {vs:List V} (h:H.get l = some (.list vs)) (h0:0≤k) (e:vs.length≤2 ^ 20) (q:Nw Q H (.list (vs.take k.toNat))):OpUpto T H Q k (.ref l)
 | scr {a:Addr} {vs:List V} (h:T.scr a = some vs) (h0:0≤k) (e:vs.length≤2 ^ 20) (q:Nw Q H (.list (vs.take k.toNat))):OpUpto T H Q k (.glob a)
noncomputable def opUpto (T:Tab) (x hi:V) (H:AH) (Q:KV):Prop:=match hi with
 | .int k=>OpUpto T H Q k x
 | _=>False
noncomputable def allInts:List V→Option (List Int)
 | []=>some []
 | v::r=>(getI v).bind fun i=>(allInts r).map (i::·)
noncomputable def pairO:List V→Option (Int × Int)
 | []=>none
 | a::r=>match r with
  | []=>none
  | b::q=>match q with
   | []=>(getI a).bind fun a=>(getI b).map fun b=>(a,b)
   | _::_=>none
noncomputable def intPairs:List V→Option (List (Int × Int))
 | []=>some []
 | v::r=>((getT v).bind pairO).bind fun p=>(intPairs r).map (p::·)
noncomputable def octetOf (i:Int):UInt8:=UInt8.ofNat i.toNat
noncomputable def one (args:List V) (k:V→Prop):Prop:=match args with
 | []=>False
 | a::r=>(match r with | []=>k a | _::_=>False)
theorem one_inv {args:List V} {k:V→Prop} (h:one args k):∃ v,args = [v]∧k v:=by
 cases args with
 | nil=>exact h.elim
 | cons a r=>cases r with
  | nil=>exact ⟨a,rfl,h⟩
  | cons _ _=>exact h.elim
noncomputable def two (args:List V) (k:V→V→Prop):Prop:=match args with
 | []=>False
 | a::r=>one r (k a)
theorem two_inv {args:List V} {k:V→V→Prop} (h:two args k):∃ u v,args = [u,v]∧k u v:=by
 cases args with
 | nil=>exact h.elim
 | cons a r=>obtain ⟨v,rfl,q⟩:=one_inv h; exact ⟨a,v,rfl,q⟩
noncomputable def onL (x:V) (H:AH) (k:List V→Prop):Prop:=ref1 x fun l=>∃ vs,H.get l = some (.list vs)∧vs.length≤1000∧k vs
theorem onL_inv {x:V} {H:AH} {k:List V→Prop} (h:onL x H k):∃ l vs,x = .ref l∧H.get l = some (.list vs)∧vs.length≤1000∧k vs:=by
 obtain ⟨l,e,vs,h⟩:=ref1_inv h
 exact ⟨l,vs,e,h⟩
noncomputable def toInt (x:V) (k:Int→Prop):Prop:=match x with
 | .int i=>k i
 | .bool c=>k (if c then 1 else 0)
 | _=>False
noncomputable def listT (x:V) (H:AH) (Q:KV):Prop:=match x with
 | .tup vs=>vs.length≤1000∧Nw Q H (.list vs)
 | _=>False
noncomputable def opBlt (T:Tab) (b:B) (args:List V) (H:AH) (Q:KV):Prop :=
 match b with
 | .int=>one args fun x=>toInt x fun i=>Q (.int i) H
 | .abs=>one args fun x=>int1 x fun i=>Q (.int (if i < 0 then -i else i)) H
 | .max=>two args fun x y=>int2 x y fun a c=>Q (.int (if c > a then c else a)) H
 | .len=>one args fun x=>onL x H fun vs=>Q (.int vs.length) H
 | .sum=>one args fun x=>onL x H fun vs=>∃ ns,allInts vs = some ns∧Q (.int ns.sum) H
 | .list=>one args fun x=>if isTup x then listT x H Q else onL x H fun vs=>Nw Q H (.list vs)
 | .tuple=>one args fun x=>onL x H fun vs=>Q (.tup vs) H
 | .dict=>one args fun x=>onL x H fun vs=>∃ ps,intPairs vs = some ps∧Nw Q H (.di (ps.foldl (fun es p=>iput p.1 (.int p.2) es) []))
 | .bytes=>one args fun x=>onL x H fun vs=>∃ ns,allInts vs = some ns∧(∀ n∈ns,0≤n∧n < 256)∧Q (.byt (ns.map octetOf).toArray) H
 | .sorted=>one args fun x=>onL x H fun vs=>∃ ps,intPairs vs = some ps∧(ps.map (·.1)).Nodup∧ps.length≤100 ∧
   Nw Q H (.list ((T.srt ps).map fun p=>.tup [.int p.1,.int p.2]))
 | _=>False
noncomputable def opCall (T:Tab) (S:Spec) (f:V) (args:List V) (H:AH) (Q:KV):Prop :=
 match f with
 | .bf b=>opBlt T b args H Q
 | .glob a=>match T.init a with
  | some i=>S i (.ref H.next::args) (H.alloc (.inst a [])) fun v H'=>voidV v (Q (.ref H.next) H')
  | none=>S a args H Q
 | _=>False
noncomputable def mGet:Nat:=0
noncomputable def mSplit:Nat:=1
inductive OpLook (T:Tab) (n:Nat) (H:AH):V→Prop
 | inst {l:Nat} {C:Addr} {fs:List (Nat × V)} {a:Addr} (h:H.get l = some (.inst C fs)) (f:flook n fs = none) (m:T.meth C n = some a):OpLook T n H (.ref l)
 | di {l:Nat} {es:List (Int × V)} (h:H.get l = some (.di es)) (e:n = mGet):OpLook T n H (.ref l)
 | ds {l:Nat} {es:List (Str × V)} (h:H.get l = some (.ds es)) (e:n = mGet):OpLook T n H (.ref l)
 | str {s:Str} (e:n = mSplit) (h:(T.split s).isSome = true):OpLook T n H (.str s)
noncomputable abbrev opLook (T:Tab) (x:V) (n:Nat) (H:AH):Prop:=OpLook T n H x
inductive OpMeth (T:Tab) (S:Spec) (n:Nat) (H₀ H:AH) (Q:KV):V→List V→Prop
 | inst {l:Nat} {C:Addr} {fs:List (Nat × V)} {a:Addr} {args:List V} (h:H₀.get l = some (.inst C fs)) (m:T.meth C n = some a) (q:S a (.ref l::args) H Q):OpMeth T S n H₀ H Q (.ref l) args
 | di {l:Nat} {k:Int} {d:V} {es es₀:List (Int × V)} (e:n = mGet) (h₀:H₀.get l = some (.di es₀)) (h:H.get l = some (.di es)) (q:Q ((iget k es).getD d) H):OpMeth T S n H₀ H Q (.ref l) [.int k,d]
 | ds {l:Nat} {k:Str} {d:V} {es es₀:List (Str × V)} (e:n = mGet) (h₀:H₀.get l = some (.ds es₀)) (h:H.get l = some (.ds es)) (q:Q ((sget k es).getD d) H):OpMeth T S n H₀ H Q (.ref l) [.str k,d]
 | str {s:Str} {ws:List Str} (h:T.split s = some ws) (q:Nw Q H (.list (ws.map .str))):OpMeth T S n H₀ H Q (.str s) []
noncomputable abbrev opMeth (T:Tab) (S:Spec) (x:V) (n:Nat) (H₀:AH) (args:List V) (H:AH) (Q:KV):Prop:=OpMeth T S n H₀ H Q x args
noncomputable def forL (step:V→Loc→AH→(Loc→AH→Prop)→Prop):List V→Loc→AH→(Loc→AH→Prop)→Prop
 | [],loc,H,K=>K loc H
 | v::r,loc,H,K=>step v loc H fun loc' H'=>forL step r loc' H' K
noncomputable def rngV (n:Nat):List V:=(List.range n).map fun (i:Nat)=>V.int (i:Int)
noncomputable def enumV (b:Array UInt8):List V:=b.toList.zipIdx.map fun p=>V.tup [V.int (p.2:Int),V.int (p.1.toNat:Int)]
noncomputable def srcOf (x:V) (H:AH) (K:List V→(AH→Prop)→Prop):Prop :=
 match x with
 | .tup vs=>vs.length≤1000∧K vs fun _=>True
 | .ref l=>(∃ vs,H.get l = some (.list vs)∧vs.length≤1000∧K vs fun H'=>H'.get l = some (.list vs)) ∨
   (∃ es,H.get l = some (.di es)∧es.length≤1000∧K (es.map fun p=>.int p.1) fun H'=>H'.get l = some (.di es)∧H'.mt = H.mt)
 | _=>False
noncomputable def srcV (k:Nat) (x:V) (H:AH) (Q:List V→(AH→Prop)→AH→Prop):Prop:=match k with
 | 0=>srcOf x H fun vs still=>Q vs still H
 | 1=>int1 x fun n=>0≤n∧n≤1000∧Q (rngV n.toNat) (fun _=>True) H
 | _=>(match x with | .byt b=>b.size≤1000∧Q (enumV b) (fun _=>True) H | _=>False)
noncomputable def compL (cnd:V→AH→KB→Prop) (elt:V→AH→KV→Prop) (still:AH→Prop):List V→List V→AH→(List V→AH→Prop)→Prop
 | [],acc,H,K=>still H∧K acc H
 | v::r,acc,H,K=>still H∧cnd v H fun c H=>branch c (elt v H fun y H'=>compL cnd elt still r (acc++[y]) H' K) (compL cnd elt still r acc H K)
noncomputable def unpV (x:V) (H:AH) (n:Nat) (k:List V→Prop):Prop:=match x with
 | .tup vs=>branch (Nat.beq vs.length n) (k vs) False
 | .ref l=>∃ vs,H.get l = some (.list vs)∧vs.length = n∧k vs
 | _=>False
set_option tactic.hygienic true in
theorem unpV.inv {x:V} {H:AH} {n:Nat} {k:List V→Prop} (h:unpV x H n k):∃ vs,(x = .tup vs∨∃ l,x = .ref l∧H.get l = some (.list vs))∧vs.length = n∧k vs:=by
 cases x <;> first | exact h.elim | skip
 ·obtain ⟨vs,a,b,c⟩:=h; exact ⟨vs,.inr ⟨_,rfl,a⟩,b,c⟩
 ·rename_i vs
  cases e:Nat.beq vs.length n with
  | false=>exact (show branch (Nat.beq vs.length n) (k vs) False from h) |> fun h=>by rw [e] at h; exact h.elim
  | true =>
   have h:branch (Nat.beq vs.length n) (k vs) False:=h
   rw [e] at h
   exact ⟨vs,.inl rfl,Nat.eq_of_beq_eq_true e,h⟩
noncomputable def pairV (x:V) (k:V→V→Prop):Prop:=tup1 x fun vs=>two vs k
theorem pairV.inv {x:V} {k:V→V→Prop} (h:pairV x k):∃ a b,x = .tup [a,b]∧k a b:=by
 obtain ⟨vs,rfl,h⟩:=tup1_inv h
 obtain ⟨a,b,rfl,q⟩:=two_inv h
 exact ⟨a,b,rfl,q⟩
noncomputable def whileN (test:Loc→AH→KB→Prop) (body:Loc→AH→(Loc→AH→Prop)→Prop) (K:Loc→AH→Prop):Nat→Loc→AH→Prop
 | 0,_,_=>False
 | n + 1,loc,H=>test loc H fun c H'=>branch c (body loc H' fun loc' H''=>whileN test body K n loc' H'') (K loc H')
noncomputable def capLoc (caps:List (Option Nat)) (loc:Loc):Loc:=caps.map fun c=>match c with
 | some i=>(loc[i]?).join
 | none=>none
noncomputable def setLoc (loc:Loc) (i:Nat) (v:V):Loc:=loc.set i (some v)
section
variable (T:Tab) (S:Spec)
mutual
noncomputable def vE:X→Loc→AH→KV→Prop
 | .lit v,_,H,Q=>Q v H
 | .var i,loc,H,Q=>GetV loc[i]? fun v=>Q v H
 | .bin op a b,loc,H,Q=>vE a loc H fun x H=>vE b loc H fun y H=>opBin op x y H Q
 | .un op a,loc,H,Q=>vE a loc H fun x H=>opUn op x H Q
 | .and a b,loc,H,Q=>vE a loc H fun x H=>truthyV x H fun c H=>branch c (vE b loc H Q) (Q x H)
 | .or a b,loc,H,Q=>vE a loc H fun x H=>truthyV x H fun c H=>branch c (Q x H) (vE b loc H Q)
 | .ite t a b,loc,H,Q=>vT t loc H fun c H=>branch c (vE a loc H Q) (vE b loc H Q)
 | .cmp op a b,loc,H,Q=>vE a loc H fun x H=>vE b loc H fun y H=>opCmp op x y H Q
 | .chain ..,_,_,_=>False
 | .attr a n,loc,H,Q=>vE a loc H fun x H=>opAttr T x n H Q
 | .item a i,loc,H,Q=>vE a loc H fun x H=>vE i loc H fun y H=>opItem x y H Q
 | .upto a i,loc,H,Q=>vE a loc H fun x H=>vE i loc H fun y H=>opUpto T x y H Q
 | .call f as,loc,H,Q=>vEs as loc H fun vs H=>opCall T S f vs H Q
 | .meth a n as,loc,H,Q=>vE a loc H fun x H₀=>opLook T x n H₀∧vEs as loc H₀ fun vs H=>opMeth T S x n H₀ vs H Q
 | .list es,loc,H,Q=>vEs es loc H fun vs H=>Nw Q H (.list vs)
 | .tup es,loc,H,Q=>vEs es loc H fun vs H=>Q (.tup vs) H
 | .dict ks es,loc,H,Q=>vEs es loc H fun vs H=>match ks with
  | []=>Nw Q H (.di [])
  | _::_=>Nw Q H (.ds (ks.zip vs))
 | .comp elt t k src cnd caps,loc,H,Q=>vE src loc H fun x H=>srcV k x H fun vs still H =>
   compL (fun v H K=>vT cnd (setLoc (capLoc caps loc) t v) H K) (fun v H K=>vE elt (setLoc (capLoc caps loc) t v) H K) still vs [] H fun ys H=>Nw Q H (.list ys)
 | .bad,_,_,_=>False
noncomputable def vT:X→Loc→AH→KB→Prop
 | .un .Not a,loc,H,Q=>vT a loc H fun c H=>Q (!c) H
 | .and a b,loc,H,Q=>vT a loc H fun c H=>branch c (vT b loc H Q) (Q false H)
 | .or a b,loc,H,Q=>vT a loc H fun c H=>branch c (Q true H) (vT b loc H Q)
 | .ite t a b,loc,H,Q=>vT t loc H fun c H=>branch c (vT a loc H Q) (vT b loc H Q)
 | .cmp op a b,loc,H,Q=>vE a loc H fun x H=>vE b loc H fun y H=>opCmp op x y H fun z H=>truthyV z H Q
 | .chain o₁ o₂ a b c,loc,H,Q=>vE a loc H fun x H=>vE b loc H fun y H=>opCmp o₁ x y H fun z H=>truthyV z H fun t H =>
   branch t (vE c loc H fun u H=>opCmp o₂ y u H fun z H=>truthyV z H Q) (Q false H)
 | .lit v,_,H,Q=>truthyV v H Q
 | .var i,loc,H,Q=>GetV loc[i]? fun v=>truthyV v H Q
 | .call f as,loc,H,Q=>vEs as loc H fun vs H=>opCall T S f vs H fun v H=>truthyV v H Q
 | _,_,_,_=>False
noncomputable def vEs:List X→Loc→AH→(List V→AH→Prop)→Prop
 | [],_,H,Q=>Q [] H
 | e::r,loc,H,Q=>vE e loc H fun v H=>vEs r loc H fun vs H=>Q (v::vs) H
end
noncomputable def vTg:Tg→V→Loc→AH→(Loc→AH→Prop)→Prop
 | .var i,v,loc,H,K=>K (setLoc loc i v) H
 | .attr a n,v,loc,H,K=>vE T S a loc H fun x H=>opSetAttr T x n v H fun H=>K loc H
 | .item a i,v,loc,H,K=>vE T S a loc H fun x H=>vE T S i loc H fun y H=>opSetItem x y v H fun H=>K loc H
 | .bad,_,_,_,_=>False
noncomputable def vTgs:List Tg→List V→Loc→AH→(Loc→AH→Prop)→Prop
 | [],[],loc,H,K=>K loc H
 | t::ts,v::vs,loc,H,K=>vTg T S t v loc H fun loc H=>vTgs ts vs loc H K
 | _,_,_,_,_=>False
mutual
noncomputable def vS:St→Loc→AH→(Loc→AH→Prop)→KV→Prop
 | .asg t e,loc,H,K,_=>vE T S e loc H fun v H=>vTg T S t v loc H K
 | .unp ts e,loc,H,K,_=>vE T S e loc H fun x H=>unpV x H ts.length fun vs=>vTgs T S ts vs loc H K
 | .ex e,loc,H,K,_=>vE T S e loc H fun _ H=>K loc H
 | .iff t a b,loc,H,K,R=>vT T S t loc H fun c H=>branch c (vSs a loc H K R) (vSs b loc H K R)
 | .whil t b,loc,H,K,R=>∃ n,whileN (vT T S t) (fun loc H K=>vSs b loc H K R) K n loc H
 | .for1 i k src b,loc,H,K,R=>vE T S src loc H fun x H=>srcV k x H fun vs still H=>forL (fun v loc H K=>still H∧vSs b (setLoc loc i v) H K R) vs loc H fun loc H=>still H∧K loc H
 | .for2 i j k src b,loc,H,K,R=>vE T S src loc H fun x H=>srcV k x H fun vs still H=>forL (fun v loc H K=>still H∧pairV v fun x y=>vSs b (setLoc (setLoc loc i x) j y) H K R) vs loc H fun loc H=>still H∧K loc H
 | .ret e,loc,H,_,R=>vE T S e loc H R
 | .retN,_,H,_,R=>R .none H
 | .pass,loc,H,K,_=>K loc H
 | .bad,_,_,_,_=>False
noncomputable def vSs:List St→Loc→AH→(Loc→AH→Prop)→KV→Prop
 | [],loc,H,K,_=>K loc H
 | s::r,loc,H,K,R=>vS s loc H (fun loc H=>vSs r loc H K R) R
end
noncomputable def vDef (n:Nat) (body:List St) (args:List V) (H:AH) (Q:KV):Prop :=
 vSs T S body (args.map some++List.replicate (n - args.length) none) H (fun _ H=>Q .none H) Q
end
end Mine
end
section
open PySem PySem.W PyProof.Rows
namespace Mine
structure Wd where
 σ:Nat→Addr
 δ:Nat→Addr
 n:Nat
 N:Addr→Option Obj
 T:Addr→Option Obj
 mt:Nat
noncomputable abbrev tupOf (ws:Array Value) (m:Nat):Obj:={ cls:=.type "tuple",data:=.seq ws m }
mutual
inductive VR (w:Wd):V→Value→Prop
 | none:VR w .none .none
 | bool (b:Bool):VR w (.bool b) (.bool b)
 | int (i:Int) (t:Tok):VR w (.int i) (.int i t)
 | str (s:Str) (t:Tok):VR w (.str s) (.str s t)
 | byt (b:Array UInt8) (t:Tok):VR w (.byt b) (.bytes b t)
 | bf (b:B):VR w (.bf b) b.val
 | ref (l:Nat) (h:l < w.n):VR w (.ref l) (.ref (w.σ l))
 | glob (a:Addr):VR w (.glob a) (.ref a)
 | tup (vs:List V) (ws:List Value) (a:Addr) (m:Nat) (h:w.T a = some (tupOf ws.toArray m)) (hs:VRs w vs ws):VR w (.tup vs) (.ref a)
inductive VRs (w:Wd):List V→List Value→Prop
 | nil:VRs w [] []
 | cons {v:V} {x:Value} {vs:List V} {xs:List Value} (h:VR w v x) (hs:VRs w vs xs):VRs w (v::vs) (x::xs)
end
structure Wd.le (w w':Wd):Prop where
 n:w.n≤w'.n
 σ:∀ l,l < w.n→w'.σ l = w.σ l
 T:∀ a o,w.T a = some o→w'.T a = some o
theorem Wd.le.refl (w:Wd):w.le w:=⟨Nat.le_refl _,fun _ _=>rfl,fun _ _ h=>h⟩
theorem Wd.le.trans {w w₁ w₂:Wd} (a:w.le w₁) (b:w₁.le w₂):w.le w₂ :=
 ⟨Nat.le_trans a.n b.n,fun l h=>(b.σ l (Nat.lt_of_lt_of_le h a.n)).trans (a.σ l h),fun x o h=>b.T x o (a.T x o h)⟩
noncomputable def VRI (w:Wd) (v:V) (x:Value):Prop:=match v with
 | .none=>x = .none
 | .bool b=>x = .bool b
 | .int i=>∃ t,x = .int i t
 | .str s=>∃ t,x = .str s t
 | .byt b=>∃ t,x = .bytes b t
 | .bf b=>x = b.val
 | .ref l=>x = .ref (w.σ l)
 | .glob a=>x = .ref a
 | .tup vs=>∃ ws a m,x = .ref a∧w.T a = some (tupOf ws.toArray m)∧VRs w vs ws
theorem VR.inv {w:Wd} {v:V} {x:Value} (h:VR w v x):VRI w v x:=by
 cases h with
 | none=>rfl
 | bool b=>rfl
 | int i t=>exact ⟨t,rfl⟩
 | str i t=>exact ⟨t,rfl⟩
 | byt i t=>exact ⟨t,rfl⟩
 | bf b=>rfl
 | ref l h=>rfl
 | glob a=>rfl
 | tup vs ws a m h hs=>exact ⟨ws,a,m,rfl,h,hs⟩
theorem VR.noneI {w:Wd} {a:Value} (h:VR w .none a):a = .none:=h.inv
theorem VR.intI {w:Wd} {i:Int} {a:Value} (h:VR w (.int i) a):∃ t,a = .int i t:=h.inv
theorem VR.strI {w:Wd} {i:Str} {a:Value} (h:VR w (.str i) a):∃ t,a = .str i t:=h.inv
theorem VR.refI {w:Wd} {l:Nat} {a:Value} (h:VR w (.ref l) a):a = .ref (w.σ l):=h.inv
theorem VR.boolI {w:Wd} {b:Bool} {a:Value} (h:VR w (.bool b) a):a = .bool b:=h.inv
theorem VR.bfI {w:Wd} {b:B} {a:Value} (h:VR w (.bf b) a):a = b.val:=h.inv
theorem VR.globI {w:Wd} {b:Addr} {a:Value} (h:VR w (.glob b) a):a = .ref b:=h.inv
theorem VR.tupI {w:Wd} {vs:List V} {x:Value} (h:VR w (.tup vs) x):∃ ws a m,x = .ref a∧w.T a = some (tupOf ws.toArray m)∧VRs w vs ws:=h.inv
noncomputable def VRsI (w:Wd) (vs:List V) (xs:List Value):Prop:=match vs with
 | []=>xs = []
 | v::vs=>∃ x r,xs = x::r∧VR w v x∧VRs w vs r
theorem VRs.inv {w:Wd} {vs:List V} {xs:List Value} (h:VRs w vs xs):VRsI w vs xs:=by
 cases h with
 | nil=>rfl
 | cons h hs=>exact ⟨_,_,rfl,h,hs⟩
theorem VRs.one {w:Wd} {v:V} {xs:List Value} (h:VRs w [v] xs):∃ x,xs = [x]∧VR w v x:=by
 obtain ⟨x,r,e,a,b⟩:=h.inv
 exact ⟨x,e.trans (congrArg (x::·) b.inv),a⟩
theorem VRs.two {w:Wd} {a b:V} {xs:List Value} (h:VRs w [a,b] xs):∃ x y,xs = [x,y]∧VR w a x∧VR w b y:=by
 obtain ⟨x,r,e,h1,h2⟩:=h.inv
 obtain ⟨y,rfl,h3⟩:=h2.one
 exact ⟨x,y,e,h1,h3⟩
theorem VRs.ind {w:Wd} {P:List V→List Value→Prop} (n:P [] []) (c:∀ {v:V} {x:Value} {vs:List V} {xs:List Value},VR w v x→VRs w vs xs→P vs xs→P (v::vs) (x::xs)) {vs:List V} {xs:List Value} (h:VRs w vs xs):P vs xs :=
 VRs.rec (motive_1:=fun _ _ _=>True) (motive_2:=fun vs xs _=>P vs xs) trivial (fun _=>trivial) (fun _ _=>trivial) (fun _ _=>trivial) (fun _ _=>trivial) (fun _=>trivial) (fun _ _=>trivial) (fun _=>trivial) (fun _ _ _ _ _ _ _=>trivial) n (fun h hs _ ih=>c h hs ih) h
theorem VR.mono {w w':Wd} (le:w.le w') {v:V} {x:Value} (h:VR w v x):VR w' v x :=
 VR.rec (motive_1:=fun v x _=>VR w' v x) (motive_2:=fun vs xs _=>VRs w' vs xs) .none .bool .int .str .byt .bf (fun l h=>by rw [← le.σ l h]; exact .ref l (Nat.lt_of_lt_of_le h le.n)) .glob (fun vs ws a m h _ ih=>.tup vs ws a m (le.T _ _ h) ih) .nil (fun _ _ a b=>.cons a b) h
theorem VRs.mono {w w':Wd} (le:w.le w') {vs:List V} {xs:List Value} (h:VRs w vs xs):VRs w' vs xs:=h.ind .nil fun a _ b=>.cons (a.mono le) b
theorem VRs.length {w:Wd} {vs:List V} {xs:List Value} (h:VRs w vs xs):vs.length = xs.length:=h.ind (P:=fun vs xs=>vs.length = xs.length) rfl fun _ _ e=>congrArg Nat.succ e
theorem VRs.get {w:Wd} {vs:List V} {xs:List Value} (h:VRs w vs xs):∀ {i:Nat} {v:V},vs[i]? = some v→∃ x,xs[i]? = some x∧VR w v x :=
 h.ind (P:=fun vs xs=>∀ {i:Nat} {v:V},vs[i]? = some v→∃ x,xs[i]? = some x∧VR w v x) (fun h=>by cases h) fun {_ x _ _} a _ ih {i v} e=>by
  cases i with
  | zero=>cases e; exact ⟨x,rfl,a⟩
  | succ i=>exact ih e
theorem VRs.append {w:Wd} {vs:List V} {xs:List Value} {us:List V} {ys:List Value} (h:VRs w vs xs) (b:VRs w us ys):VRs w (vs++us) (xs++ys):=h.ind (P:=fun vs xs=>VRs w (vs++us) (xs++ys)) b fun a _ ih=>.cons a ih
theorem VRs.set {w:Wd} {vs:List V} {xs:List Value} (h:VRs w vs xs):∀ (i:Nat) {v:V} {x:Value},VR w v x→VRs w (vs.set i v) (xs.set i x) :=
 h.ind (P:=fun vs xs=>∀ (i:Nat) {v:V} {x:Value},VR w v x→VRs w (vs.set i v) (xs.set i x)) (fun _ _ _ _=>.nil) fun a r ih i _ _ b=>by
  cases i with
  | zero=>exact .cons b r
  | succ i=>exact .cons a (ih i b)
theorem VRs.take {w:Wd} {vs:List V} {xs:List Value} (h:VRs w vs xs):∀ n,VRs w (vs.take n) (xs.take n) :=
 h.ind (P:=fun vs xs=>∀ n,VRs w (vs.take n) (xs.take n)) (fun n=>by cases n <;> exact .nil) fun a _ ih n=>by
  cases n with
  | zero=>exact .nil
  | succ n=>exact .cons a (ih n)
theorem VRs.rep {w:Wd} {vs:List V} {xs:List Value} (h:VRs w vs xs) (n:Nat):VRs w (List.replicate n vs).flatten (List.replicate n xs).flatten:=by
 induction n with
 | zero=>exact .nil
 | succ n ih=>exact VRs.append h ih
inductive KVs {K:Type} (w:Wd):List (K × V)→List (K × Value)→Prop
 | nil:KVs w [] []
 | cons {k:K} {v:V} {x:Value} {r:List (K × V)} {er:List (K × Value)} (b:VR w v x) (t:KVs w r er):KVs w ((k,v)::r) ((k,x)::er)
inductive FRs (P:Params) (names:List Str) (w:Wd):List (Nat × V)→List DictEntry→Prop
 | nil:FRs P names w [] []
 | cons {i:Nat} {s:Str} {t:Tok} {v:V} {vx:Value} {r:List (Nat × V)} {er:List DictEntry} (a:names[i]? = some s) (b:VR w v vx) (c:FRs P names w r er) :
   FRs P names w ((i,v)::r) (⟨PyData.keyHash P s,.str s t,vx⟩::er)
theorem KVs.mono {K:Type} {w w':Wd} (le:w.le w') {es:List (K × V)} {en:List (K × Value)} (h:KVs w es en):KVs w' es en:=by
 induction h with
 | nil=>exact .nil
 | cons b _ ih=>exact .cons (b.mono le) ih
theorem FRs.mono {P:Params} {names:List Str} {w w':Wd} (le:w.le w') {es:List (Nat × V)} {en:List DictEntry} (h:FRs P names w es en):FRs P names w' es en:=by
 induction h with
 | nil=>exact .nil
 | cons a b _ ih=>exact .cons a (b.mono le) ih
theorem KVs.length {K:Type} {w:Wd} {es:List (K × V)} {en:List (K × Value)} (h:KVs w es en):es.length = en.length:=by
 induction h with
 | nil=>rfl
 | cons _ _ ih=>exact congrArg Nat.succ ih
theorem KVs.keys {K:Type} {w:Wd} {es:List (K × V)} {en:List (K × Value)} (h:KVs w es en):es.map (·.1) = en.map (·.1):=by
 induction h with
 | nil=>rfl
 | @cons k _ _ _ _ _ _ ih=>exact congrArg (k::·) ih
theorem FRs.length {P:Params} {names:List Str} {w:Wd} {es:List (Nat × V)} {en:List DictEntry} (h:FRs P names w es en):es.length = en.length:=by
 induction h with
 | nil=>rfl
 | cons _ _ _ ih=>exact congrArg Nat.succ ih
structure Gd where
 prog:Program
 wd:World
 names:List Str
 B:Heap
noncomputable def OK (g:Gd) (w:Wd) (l:Nat):O→Prop
 | .list vs=>∃ ws m,w.N (w.σ l) = some (listOf ws m)∧VRs w vs ws.toList
 | .di es=>∃ o kvs,w.N (w.σ l) = some o∧o.IsDictOf (intKind g.prog g.wd) kvs∧KVs w es kvs
 | .ds es=>∃ o kvs,w.N (w.σ l) = some o∧o.IsDictOf (strKind g.prog g.wd) kvs∧KVs w es kvs
 | .inst C fs=>w.N (w.σ l) = some (instObj C (w.δ l))∧∃ en m,w.N (w.δ l) = some (dictOf en m)∧FRs g.wd.params g.names w fs en
structure Kn (g:Gd) (w:Wd) (H:AH) (s:Shared):Prop where
 top:∀ b o,g.B.get? b = some o→s.heap.get? b = some o
 nw:∀ a o,w.N a = some o→s.heap.get? a = some o∧g.B.get? a = none
 tw:∀ a o,w.T a = some o→s.heap.get? a = some o∧o.cls = .type "tuple"
 nn:w.n = H.next
 mu:w.mt = H.mt
 lt:∀ l o,H.get l = some o→l < H.next
 kn:∀ l o,H.get l = some o→OK g w l o
 i1:∀ l o l' o',H.get l = some o→H.get l' = some o'→w.σ l = w.σ l'→l = l'
 i2:∀ l o l' C fs,H.get l = some o→H.get l' = some (.inst C fs)→w.σ l≠w.δ l'
 i3:∀ l C fs l' C' fs',H.get l = some (.inst C fs)→H.get l' = some (.inst C' fs')→w.δ l = w.δ l'→l = l'
structure Ext (X:Addr→Prop) (w:Wd) (s:Shared) (w':Wd) (s':Shared):Prop where
 le:w.le w'
 kept:∀ b o,s.heap.get? b = some o→w.N b = none→¬ X b→s'.heap.get? b = some o
 there:∀ b,s.heap.get? b≠none→s'.heap.get? b≠none
 fresh:∀ a,w'.N a≠none→w.N a≠none∨s.heap.get? a = none
 freshT:∀ a,w'.T a≠none→w.T a≠none∨s.heap.get? a = none
 gens:s'.gens = s.gens
 drawn:s'.drawn = s.drawn
 os:s'.os = s.os
 mu:w.mt≤w'.mt
 stay:w'.mt = w.mt→∀ a o,w.N a = some o→w'.N a = some o
theorem Ext.refl (X:Addr→Prop) (w:Wd) (s:Shared):Ext X w s w s:=⟨Wd.le.refl w,fun _ _ h _ _=>h,fun _ h=>h,fun _ h=>.inl h,fun _ h=>.inl h,rfl,rfl,rfl,Nat.le_refl _,fun _ _ _ h=>h⟩
theorem Ext.out {X:Addr→Prop} {w w₁:Wd} {s s₁:Shared} (a:Ext X w s w₁ s₁) {b:Addr} (h:s.heap.get? b≠none) (hn:w.N b = none):w₁.N b = none:=by
 cases e:w₁.N b with
 | none=>rfl
 | some o =>
  rcases a.fresh b (by rw [e]; exact Option.some_ne_none _) with z | z
  ·exact absurd hn z
  ·exact absurd z h
theorem Ext.outT {X:Addr→Prop} {w w₁:Wd} {s s₁:Shared} (a:Ext X w s w₁ s₁) {b:Addr} (h:s.heap.get? b≠none) (hn:w.T b = none):w₁.T b = none:=by
 cases e:w₁.T b with
 | none=>rfl
 | some o =>
  rcases a.freshT b (by rw [e]; exact Option.some_ne_none _) with z | z
  ·exact absurd hn z
  ·exact absurd z h
theorem Ext.trans {X:Addr→Prop} {w w₁ w₂:Wd} {s s₁ s₂:Shared} (a:Ext X w s w₁ s₁) (b:Ext X w₁ s₁ w₂ s₂):Ext X w s w₂ s₂:=by
 refine ⟨a.le.trans b.le,fun x o h hn hx=>b.kept x o (a.kept x o h hn hx) (a.out (by rw [h]; exact Option.some_ne_none _) hn) hx,fun x h=>b.there x (a.there x h),fun x h=>?_,fun x h=>?_,
  b.gens.trans a.gens,b.drawn.trans a.drawn,b.os.trans a.os,Nat.le_trans a.mu b.mu,fun e x o h=>b.stay (by have:=a.mu; have:=b.mu; lia) x o (a.stay (by have:=a.mu; have:=b.mu; lia) x o h)⟩
 ·rcases b.fresh x h with z | z
  ·exact a.fresh x z
  ·cases e:s.heap.get? x with
   | none=>exact .inr rfl
   | some o=>exact absurd z (a.there x (by rw [e]; exact Option.some_ne_none _))
 ·rcases b.freshT x h with z | z
  ·exact a.freshT x z
  ·cases e:s.heap.get? x with
   | none=>exact .inr rfl
   | some o=>exact absurd z (a.there x (by rw [e]; exact Option.some_ne_none _))
theorem Ext.weak {X Y:Addr→Prop} {w w':Wd} {s s':Shared} (a:Ext X w s w' s') (h:∀ b,X b→Y b):Ext Y w s w' s' :=
 ⟨a.le,fun b o q hn hx=>a.kept b o q hn fun z=>hx (h b z),a.there,a.fresh,a.freshT,a.gens,a.drawn,a.os,a.mu,a.stay⟩
theorem Ext.less {X:Addr→Prop} {w w':Wd} {s s':Shared} (a:Ext X w s w' s') (h:∀ b,X b→s.heap.get? b = none):Ext (fun _=>False) w s w' s' :=
 ⟨a.le,fun b o q hn _=>a.kept b o q hn (fun z=>by exact absurd ((h b z).symm.trans q) (by simp)),a.there,a.fresh,a.freshT,a.gens,a.drawn,a.os,a.mu,a.stay⟩
noncomputable abbrev noX:Addr→Prop:=fun _=>False
theorem OK.mono {g:Gd} {w w':Wd} (le:w.le w') {l:Nat} (hl:l < w.n) (hN:∀ a o,w.N a = some o→w'.N a = some o) (hd:w'.δ l = w.δ l) {o:O} (h:OK g w l o):OK g w' l o:=by
 have e:=le.σ l hl
 cases o with
 | list _=>obtain ⟨ws,m,a,b⟩:=h; exact ⟨ws,m,e ▸ hN _ _ a,b.mono le⟩
 | di _=>obtain ⟨o,kvs,a,b,c⟩:=h; exact ⟨o,kvs,e ▸ hN _ _ a,b,c.mono le⟩
 | ds _=>obtain ⟨o,kvs,a,b,c⟩:=h; exact ⟨o,kvs,e ▸ hN _ _ a,b,c.mono le⟩
 | inst _ _=>obtain ⟨a,en,m,b,c⟩:=h; exact ⟨e ▸ hd ▸ hN _ _ a,en,m,hd ▸ hN _ _ b,c.mono le⟩
theorem Kn.keep {g:Gd} {w:Wd} {H:AH} {s s':Shared} {X:Addr→Prop} (K:Kn g w H s) (k:∀ b o,s.heap.get? b = some o→¬ X b→s'.heap.get? b = some o)
  (hB:∀ b,X b→g.B.get? b = none) (hN:∀ b,X b→w.N b = none) (hT:∀ b,X b→w.T b = none):Kn g w H s' where
 top b o h:=k b o (K.top b o h) fun x=>by rw [hB b x] at h; cases h
 nw a o h:=⟨k a o (K.nw a o h).1 (fun x=>by exact absurd ((hN a x).symm.trans h) (by simp)),(K.nw a o h).2⟩
 tw a o h:=⟨k a o (K.tw a o h).1 (fun x=>by exact absurd ((hT a x).symm.trans h) (by simp)),(K.tw a o h).2⟩
 nn:=K.nn
 mu:=K.mu
 lt:=K.lt
 kn:=K.kn
 i1:=K.i1
 i2:=K.i2
 i3:=K.i3
theorem Kn.all {g:Gd} {w:Wd} {H:AH} {s s':Shared} (K:Kn g w H s) (k:∀ b o,s.heap.get? b = some o→s'.heap.get? b = some o):Kn g w H s' :=
 K.keep (X:=noX) (fun b o h _=>k b o h) (fun _ x=>x.elim) (fun _ x=>x.elim) fun _ x=>x.elim
theorem Ext.all {w:Wd} {s s':Shared} (k:∀ b o,s.heap.get? b = some o→s'.heap.get? b = some o) (e1:s'.gens = s.gens:=by rfl) (e2:s'.drawn = s.drawn:=by rfl) (e3:s'.os = s.os:=by rfl):Ext noX w s w s' :=
 ⟨Wd.le.refl w,fun b o h _ _=>k b o h,(fun b h=>by
  cases e:s.heap.get? b with
  | none=>exact absurd e h
  | some o=>rw [k b o e]; exact Option.some_ne_none _),fun _ h=>.inl h,fun _ h=>.inl h,e1,e2,e3,Nat.le_refl _,fun _ _ _ h=>h⟩
theorem not_there (h:Heap):h.get? h.objs.size = none:=Heap.get?_none_of_le (Nat.le_refl _)
theorem push_there {h:Heap} {o:Obj} {b:Addr} (q:h.get? b≠none):(h.push o).get? b≠none:=by
 cases e:h.get? b with
 | none=>exact absurd e q
 | some x=>rw [Heap.get?_push_of_some o e]; exact Option.some_ne_none _
noncomputable def Wd.tup (w:Wd) (a:Addr) (o:Obj):Wd:={ w with T:=fun x=>if x = a then some o else w.T x }
structure Same (s s':Shared):Prop where
 gens:s'.gens = s.gens
 drawn:s'.drawn = s.drawn
 os:s'.os = s.os
theorem Same.refl (s:Shared):Same s s:=⟨rfl,rfl,rfl⟩
section
variable {g:Gd} {w:Wd} {H:AH} {s s':Shared} {a:Addr}
theorem T_free (K:Kn g w H s) (hf:s.heap.get? a = none):w.T a = none:=by
 cases e:w.T a with
 | none=>rfl
 | some o=>have:=(K.tw _ _ e).1; rw [hf] at this; cases this
theorem N_free (K:Kn g w H s) (hf:s.heap.get? a = none):w.N a = none:=by
 cases e:w.N a with
 | none=>rfl
 | some o=>have:=(K.nw _ _ e).1; rw [hf] at this; cases this
theorem B_free (K:Kn g w H s) (hf:s.heap.get? a = none):g.B.get? a = none:=by
 cases e:g.B.get? a with
 | none=>rfl
 | some o=>have:=K.top _ _ e; rw [hf] at this; cases this
theorem Wd.tup_le (K:Kn g w H s) (hf:s.heap.get? a = none) (o:Obj):w.le (w.tup a o) :=
 ⟨Nat.le_refl _,fun _ _=>rfl,fun b o' h=>by
  show (if b = a then some o else w.T b) = some o'
  rw [if_neg fun e=>by rw [e,T_free K hf] at h; cases h]; exact h⟩
theorem Kn.tup (K:Kn g w H s) (hf:s.heap.get? a = none) (k:∀ b o,s.heap.get? b = some o→s'.heap.get? b = some o) {ws:Array Value} {m:Nat} (ha:s'.heap.get? a = some (tupOf ws m)) :
  Kn g (w.tup a (tupOf ws m)) H s' where
 top b o h:=k _ _ (K.top b o h)
 nw a o h:=⟨k _ _ (K.nw a o h).1,(K.nw a o h).2⟩
 tw b o h:=by
  have h':(if b = a then some (tupOf ws m) else w.T b) = some o:=h
  by_cases e:b = a
  ·rw [if_pos e] at h'; cases h'; rw [e]; exact ⟨ha,rfl⟩
  ·rw [if_neg e] at h'; exact ⟨k _ _ (K.tw b o h').1,(K.tw b o h').2⟩
 nn:=K.nn
 mu:=K.mu
 lt:=K.lt
 kn l o h:=(K.kn l o h).mono (Wd.tup_le K hf _) (K.nn ▸ K.lt l o h) (fun _ _ q=>q) rfl
 i1:=K.i1
 i2:=K.i2
 i3:=K.i3
theorem there_of {s s':Shared} (k:∀ b o,s.heap.get? b = some o→s'.heap.get? b = some o) (b:Addr) (h:s.heap.get? b≠none):s'.heap.get? b≠none:=by
 cases e:s.heap.get? b with
 | none=>exact absurd e h
 | some o=>rw [k b o e]; exact Option.some_ne_none _
theorem Ext.tup (K:Kn g w H s) (hf:s.heap.get? a = none) (k:∀ b o,s.heap.get? b = some o→s'.heap.get? b = some o) (o:Obj) (sm:Same s s'):Ext noX w s (w.tup a o) s' :=
 ⟨Wd.tup_le K hf _,fun _ _ h _ _=>k _ _ h,there_of k,fun _ h=>.inl h,(fun b h=>by
  by_cases e:b = a
  ·exact .inr (e ▸ hf)
  ·have h':(if b = a then some o else w.T b)≠none:=h
   rw [if_neg e] at h'; exact .inl h'),sm.gens,sm.drawn,sm.os,Nat.le_refl _,fun _ _ _ h=>h⟩
theorem VR.newTup {vs:List V} {xs:List Value} {m:Nat} (K:Kn g w H s) (hf:s.heap.get? a = Option.none) (h:VRs w vs xs):VR (w.tup a (tupOf xs.toArray m)) (.tup vs) (.ref a) :=
 .tup vs xs _ m (if_pos rfl) (h.mono (Wd.tup_le K hf _))
noncomputable def Wd.one (w:Wd) (a:Addr) (o:Obj):Wd :=
 { w with σ:=fun l=>if l = w.n then a else w.σ l,n:=w.n + 1,N:=fun x=>if x = a then some o else w.N x }
theorem Wd.one_le (w:Wd) (a:Addr) (o:Obj):w.le (w.one a o) :=
 ⟨Nat.le_succ _,fun _ h=>if_neg (Nat.ne_of_lt h),fun _ _ h=>h⟩
theorem N_one (K:Kn g w H s) (hf:s.heap.get? a = none) (o:Obj):∀ b o',w.N b = some o'→(w.one a o).N b = some o':=fun b o' h=>by
 show (if b = a then some o else w.N b) = some o'
 rw [if_neg fun e=>by rw [e,N_free K hf] at h; cases h]; exact h
theorem σ_there (K:Kn g w H s) {l:Nat} {o:O} (h:H.get l = some o):∃ ob,w.N (w.σ l) = some ob∧s.heap.get? (w.σ l) = some ob:=by
 cases o with
 | list vs=>obtain ⟨ws,m,a,_⟩:=K.kn l _ h; exact ⟨_,a,(K.nw _ _ a).1⟩
 | di es=>obtain ⟨o,kvs,a,_⟩:=K.kn l _ h; exact ⟨_,a,(K.nw _ _ a).1⟩
 | ds es=>obtain ⟨o,kvs,a,_⟩:=K.kn l _ h; exact ⟨_,a,(K.nw _ _ a).1⟩
 | inst C fs=>obtain ⟨a,_⟩:=K.kn l _ h; exact ⟨_,a,(K.nw _ _ a).1⟩
theorem δ_there (K:Kn g w H s) {l:Nat} {C:Addr} {fs:List (Nat × V)} (h:H.get l = some (.inst C fs)):∃ ob,w.N (w.δ l) = some ob∧s.heap.get? (w.δ l) = some ob:=by
 obtain ⟨_,en,m,a,_⟩:=K.kn l _ h; exact ⟨_,a,(K.nw _ _ a).1⟩
theorem σ_lt (K:Kn g w H s) {l:Nat} {o:O} (h:H.get l = some o):w.σ l < s.heap.objs.size:=by obtain ⟨_,_,e⟩:=σ_there K h; exact Heap.lt_size e
theorem δ_lt (K:Kn g w H s) {l:Nat} {C:Addr} {fs:List (Nat × V)} (h:H.get l = some (.inst C fs)):w.δ l < s.heap.objs.size:=by obtain ⟨_,_,e⟩:=δ_there K h; exact Heap.lt_size e
theorem σ_ne (K:Kn g w H s) (hf:s.heap.get? a = none) {l:Nat} {o:O} (h:H.get l = some o):w.σ l≠a:=fun e=>by
 obtain ⟨_,_,q⟩:=σ_there K h
 rw [e,hf] at q; cases q
theorem δ_ne (K:Kn g w H s) (hf:s.heap.get? a = none) {l:Nat} {C:Addr} {fs:List (Nat × V)} (h:H.get l = some (.inst C fs)):w.δ l≠a:=fun e=>by
 obtain ⟨_,_,q⟩:=δ_there K h
 rw [e,hf] at q; cases q
noncomputable def isInst:O→Bool
 | .inst ..=>true
 | _=>false
theorem Kn.one (K:Kn g w H s) (hf:s.heap.get? a = none) (k:∀ b o,s.heap.get? b = some o→s'.heap.get? b = some o) (o:O) {ob:Obj} (ha:s'.heap.get? a = some ob) (hi:isInst o = false)
  (hok:OK g (w.one a ob) H.next o):Kn g (w.one a ob) (H.alloc o) s':=by
 have hσ:∀ l o',H.get l = some o'→(w.one a ob).σ l = w.σ l:=fun l o' h=>if_neg (Nat.ne_of_lt (K.nn ▸ K.lt l o' h))
 have hn:(w.one a ob).σ H.next = a:=if_pos K.nn.symm
 have split:∀ l o',(H.alloc o).get l = some o'→(l = H.next∧o = o')∨(l≠H.next∧H.get l = some o'):=fun l o' h=>by
  have h':(if l = H.next then some o else H.get l) = some o':=h
  by_cases e:l = H.next
  ·rw [if_pos e] at h'; cases h'; exact .inl ⟨e,rfl⟩
  ·rw [if_neg e] at h'; exact .inr ⟨e,h'⟩
 refine ⟨fun b o' h=>k _ _ (K.top b o' h),fun b o' h=>?_,fun a o' h=>⟨k _ _ (K.tw a o' h).1,(K.tw a o' h).2⟩,
  congrArg (· + 1) K.nn,K.mu,fun l o' h=>?_,fun l o' h=>?_,fun l o₁ l' o₂ h h' e=>?_,fun l o₁ l' C fs h h' e=>?_,fun l C fs l' C' fs' h h' e=>?_⟩
 ·have h':(if b = a then some ob else w.N b) = some o':=h
  by_cases e:b = a
  ·rw [if_pos e] at h'; cases h'; rw [e]; exact ⟨ha,B_free K hf⟩
  ·rw [if_neg e] at h'; exact ⟨k _ _ (K.nw b o' h').1,(K.nw b o' h').2⟩
 ·rcases split l o' h with ⟨rfl,rfl⟩ | ⟨_,h⟩
  ·exact Nat.lt_succ_self _
  ·exact Nat.lt_succ_of_lt (K.lt l o' h)
 ·rcases split l o' h with ⟨rfl,rfl⟩ | ⟨_,h⟩
  ·exact hok
  ·exact (K.kn l o' h).mono (Wd.one_le _ _ _) (K.nn ▸ K.lt l o' h) (N_one K hf _) rfl
 ·rcases split l o₁ h with ⟨rfl,_⟩ | ⟨_,h⟩ <;> rcases split l' o₂ h' with ⟨rfl,_⟩ | ⟨_,h'⟩
  ·rfl
  ·rw [hn,hσ _ _ h'] at e; exact absurd e.symm (σ_ne K hf h')
  ·rw [hn,hσ _ _ h] at e; exact absurd e (σ_ne K hf h)
  ·rw [hσ _ _ h,hσ _ _ h'] at e; exact K.i1 _ _ _ _ h h' e
 ·rcases split l' _ h' with ⟨rfl,q⟩ | ⟨_,h'⟩
  ·rw [q] at hi; cases hi
  ·rcases split l o₁ h with ⟨rfl,_⟩ | ⟨_,h⟩
   ·rw [hn] at e; exact absurd e.symm (δ_ne K hf h')
   ·rw [hσ _ _ h] at e; exact K.i2 _ _ _ _ _ h h' e
 ·rcases split l _ h with ⟨rfl,q⟩ | ⟨_,h⟩
  ·rw [q] at hi; cases hi
  ·rcases split l' _ h' with ⟨rfl,q⟩ | ⟨_,h'⟩
   ·rw [q] at hi; cases hi
   ·exact K.i3 _ _ _ _ _ _ h h' e
theorem Ext.one (K:Kn g w H s) (hf:s.heap.get? a = none) (k:∀ b o,s.heap.get? b = some o→s'.heap.get? b = some o) (ob:Obj) (sm:Same s s'):Ext noX w s (w.one a ob) s' :=
 ⟨Wd.one_le _ _ _,fun _ _ h _ _=>k _ _ h,there_of k,(fun b h=>by
  by_cases e:b = a
  ·exact .inr (e ▸ hf)
  ·have h':(if b = a then some ob else w.N b)≠none:=h
   rw [if_neg e] at h'; exact .inl h'),fun _ h=>.inl h,sm.gens,sm.drawn,sm.os,Nat.le_refl _,fun _=>N_one K hf ob⟩
theorem VR.newRef (K:Kn g w H s) (a:Addr) (ob:Obj):VR (w.one a ob) (.ref H.next) (.ref a):=by
 have hn:(w.one a ob).σ H.next = a:=if_pos K.nn.symm
 have r:=VR.ref (w:=w.one a ob) H.next (by show H.next < w.n + 1; rw [K.nn]; exact Nat.lt_succ_self _)
 rw [hn] at r
 exact r
theorem OK.newList {vs:List V} {xs:List Value} {m:Nat} (K:Kn g w H s) (a:Addr) (h:VRs w vs xs):OK g (w.one a (listOf xs.toArray m)) H.next (.list vs) :=
 ⟨xs.toArray,m,by
  have hn:(w.one a (listOf xs.toArray m)).σ H.next = a:=if_pos K.nn.symm
  rw [hn]; exact if_pos rfl,by simpa using h.mono (Wd.one_le _ _ _)⟩
theorem OK.newDi {es:List (Int × V)} {o:Obj} {kvs:List (Int × Value)} (K:Kn g w H s) (a:Addr) (hd:o.IsDictOf (intKind g.prog g.wd) kvs) (h:KVs w es kvs):OK g (w.one a o) H.next (.di es) :=
 ⟨o,kvs,by
  have hn:(w.one a o).σ H.next = a:=if_pos K.nn.symm
  rw [hn]; exact if_pos rfl,hd,h.mono (Wd.one_le _ _ _)⟩
theorem OK.newDs {es:List (Str × V)} {o:Obj} {kvs:List (Str × Value)} (K:Kn g w H s) (a:Addr) (hd:o.IsDictOf (strKind g.prog g.wd) kvs) (h:KVs w es kvs):OK g (w.one a o) H.next (.ds es) :=
 ⟨o,kvs,by
  have hn:(w.one a o).σ H.next = a:=if_pos K.nn.symm
  rw [hn]; exact if_pos rfl,hd,h.mono (Wd.one_le _ _ _)⟩
end
end Mine
end
section
open PySem PySem.W PyProof.Rows
namespace Mine
theorem aeq {a b:Addr} (h:a = b):@Eq Nat a b:=h
theorem alt {a b:Addr} (h:a < b):@LT.lt Nat _ a b:=h
theorem neA {a b:Nat} (h:¬ @Eq Nat a b):¬ (@Eq Addr a b):=h
theorem neS {a b:Addr} (h:a < b):¬ a = b + 1:=fun e=>by have:=aeq e; have:=alt h; lia
theorem neL {a b:Addr} (h:a < b):¬ a = b:=Nat.ne_of_lt h
theorem nSS {a:Addr}:¬ a = a + 1:=fun e=>by have:=aeq e; lia
theorem fls {a b:Addr} (h:a < b) (e:a = b):False:=absurd e (neL h)
theorem fls1 {a b:Addr} (h:a < b) (e:a = b + 1):False:=absurd e (neS h)
noncomputable def Wd.put (w:Wd) (a:Addr) (o:Obj):Wd:={ w with N:=fun x=>if x = a then some o else w.N x,mt:=w.mt + 1 }
theorem Wd.put_le (w:Wd) (a:Addr) (o:Obj):w.le (w.put a o):=⟨Nat.le_refl _,fun _ _=>rfl,fun _ _ h=>h⟩
theorem Wd.put_self (w:Wd) (a:Addr) (o:Obj):(w.put a o).N a = some o:=if_pos rfl
theorem Wd.put_ne {w:Wd} {a b:Addr} {o:Obj} (h:b≠a):(w.put a o).N b = w.N b:=if_neg h
theorem OK.put {g:Gd} {w:Wd} {a:Addr} {o':Obj} {l:Nat} {o:O} (k:OK g w l o) (h:w.σ l≠a) (h':isInst o = true→w.δ l≠a):OK g (w.put a o') l o:=by
 have le:=Wd.put_le w a o'
 have e:=Wd.put_ne (w:=w) (o:=o') h
 cases o with
 | list _=>obtain ⟨ws,m,p,q⟩:=k; exact ⟨ws,m,e.trans p,q.mono le⟩
 | di _=>obtain ⟨o,kvs,p,q,r⟩:=k; exact ⟨o,kvs,e.trans p,q,r.mono le⟩
 | ds _=>obtain ⟨o,kvs,p,q,r⟩:=k; exact ⟨o,kvs,e.trans p,q,r.mono le⟩
 | inst _ _=>obtain ⟨p,en,m,q,r⟩:=k; exact ⟨e.trans p,en,m,(Wd.put_ne (h' rfl)).trans q,r.mono le⟩
section
variable {g:Gd} {w:Wd} {H:AH} {s:Shared} {h':Heap} {a:Addr} {o o':Obj} {l:Nat} {x y:O}
theorem Kn.put (K:Kn g w H s) (hl:H.get l = some x) (ha:w.N a = some o) (hc:o.cls≠.type "tuple") (hs:Heap.SameBut a s.heap h') (ho':h'.get? a = some o') (tk:Nat)
  (oth:∀ l' z,l'≠l→H.get l' = some z→OK g (w.put a o') l' z) (me:OK g (w.put a o') l y) (hi:isInst x = isInst y):Kn g (w.put a o') (H.set l y) { s with heap:=h',toks:=tk }:=by
 have split:∀ l' z,(H.set l y).get l' = some z→(l' = l∧y = z)∨(l'≠l∧H.get l' = some z):=fun l' z h=>by
  have q:(if l' = l then some y else H.get l') = some z:=h
  by_cases e:l' = l
  ·rw [if_pos e] at q; cases q; exact .inl ⟨e,rfl⟩
  ·rw [if_neg e] at q; exact .inr ⟨e,q⟩
 have any:∀ l' z,(H.set l y).get l' = some z→∃ u,H.get l' = some u∧isInst u = isInst z:=fun l' z h=>by
  rcases split l' z h with ⟨rfl,rfl⟩ | ⟨_,h⟩
  ·exact ⟨x,hl,hi⟩
  ·exact ⟨z,h,rfl⟩
 have inst:∀ l' C fs,(H.set l y).get l' = some (.inst C fs)→∃ C' fs',H.get l' = some (.inst C' fs'):=fun l' C fs h=>by
  obtain ⟨u,hu,e⟩:=any l' _ h
  cases u with
  | inst C' fs'=>exact ⟨C',fs',hu⟩
  | list _=>cases e
  | di _=>cases e
  | ds _=>cases e
 have hB:g.B.get? a = none:=(K.nw a o ha).2
 refine ⟨fun b ob h=>(hs.2 b fun e=>by rw [e,hB] at h; cases h).trans (K.top b ob h),fun b ob h=>?_,fun b ob h=>?_,K.nn,congrArg (· + 1) K.mu,fun l' z h=>?_,fun l' z h=>?_,
  fun l₁ o₁ l₂ o₂ h₁ h₂ e=>?_,fun l₁ o₁ l₂ C fs h₁ h₂ e=>?_,fun l₁ C fs l₂ C' fs' h₁ h₂ e=>?_⟩
 ·have q:(if b = a then some o' else w.N b) = some ob:=h
  by_cases e:b = a
  ·rw [if_pos e] at q; cases q; subst e; exact ⟨ho',hB⟩
  ·rw [if_neg e] at q; exact ⟨(hs.2 b e).trans (K.nw b ob q).1,(K.nw b ob q).2⟩
 ·have q:=K.tw b ob h
  refine ⟨(hs.2 b fun e=>?_).trans q.1,q.2⟩
  subst e
  have:=(K.nw _ _ ha).1
  rw [q.1] at this; cases this
  exact hc q.2
 ·obtain ⟨u,hu,_⟩:=any l' z h
  exact K.lt l' u hu
 ·rcases split l' z h with ⟨rfl,rfl⟩ | ⟨e,h⟩
  ·exact me
  ·exact oth l' z e h
 ·obtain ⟨u,hu,_⟩:=any _ _ h₁
  obtain ⟨v,hv,_⟩:=any _ _ h₂
  exact K.i1 _ _ _ _ hu hv e
 ·obtain ⟨u,hu,_⟩:=any _ _ h₁
  obtain ⟨C',fs',hv⟩:=inst _ _ _ h₂
  exact K.i2 _ _ _ _ _ hu hv e
 ·obtain ⟨_,_,hu⟩:=inst _ _ _ h₁
  obtain ⟨_,_,hv⟩:=inst _ _ _ h₂
  exact K.i3 _ _ _ _ _ _ hu hv e
theorem Ext.put (ha:w.N a = some o) (hs:Heap.SameBut a s.heap h') (ho':h'.get? a = some o') (tk:Nat):Ext noX w s (w.put a o') { s with heap:=h',toks:=tk } :=
 ⟨Wd.put_le _ _ _,fun b ob h hn _=>(hs.2 b fun e=>by rw [e,ha] at hn; cases hn).trans h,(fun b h=>by
  by_cases e:b = a
  ·rw [e]; show h'.get? a≠none; rw [ho']; exact Option.some_ne_none _
  ·show h'.get? b≠none; rw [hs.2 b e]; exact h),(fun b h=>by
  have q:(if b = a then some o' else w.N b)≠none:=h
  by_cases e:b = a
  ·rw [e,ha]; exact .inl (Option.some_ne_none _)
  ·rw [if_neg e] at q; exact .inl q),fun _ h=>.inl h,rfl,rfl,rfl,Nat.le_succ _,fun e=>absurd e (Nat.succ_ne_self _)⟩
theorem Kn.turn (K:Kn g w H s) (hl:H.get l = some x) (hx:isInst x = false) (hy:isInst y = false) (ha:w.N (w.σ l) = some o) (hc:o.cls≠.type "tuple") (hs:Heap.SameBut (w.σ l) s.heap h')
  (ho':h'.get? (w.σ l) = some o') (tk:Nat) (me:OK g (w.put (w.σ l) o') l y):Kn g (w.put (w.σ l) o') (H.set l y) { s with heap:=h',toks:=tk }:=by
 refine K.put hl ha hc hs ho' tk (fun l' z hne h=>(K.kn l' z h).put (fun e=>hne (K.i1 _ _ _ _ h hl e)) fun hi e=>?_) me (hx.trans hy.symm)
 cases z with
 | inst C fs=>exact K.i2 _ _ _ _ _ hl h e.symm
 | list _=>cases hi
 | di _=>cases hi
 | ds _=>cases hi
theorem Kn.turnI {C:Addr} {fs fs':List (Nat × V)} (K:Kn g w H s) (hl:H.get l = some (.inst C fs)) (ha:w.N (w.δ l) = some o) (hc:o.cls≠.type "tuple") (hs:Heap.SameBut (w.δ l) s.heap h')
  (ho':h'.get? (w.δ l) = some o') (tk:Nat) (me:OK g (w.put (w.δ l) o') l (.inst C fs')):Kn g (w.put (w.δ l) o') (H.set l (.inst C fs')) { s with heap:=h',toks:=tk }:=by
 refine K.put hl ha hc hs ho' tk (fun l' z hne h=>(K.kn l' z h).put (fun e=>K.i2 _ _ _ _ _ h hl e) fun hi e=>?_) me rfl
 cases z with
 | inst C fs=>exact hne (K.i3 _ _ _ _ _ _ h hl e)
 | list _=>cases hi
 | di _=>cases hi
 | ds _=>cases hi
end
noncomputable def Wd.ins (w:Wd) (d:Addr) (C:Addr):Wd :=
 { w with σ:=fun l=>if l = w.n then d + 1 else w.σ l,δ:=fun l=>if l = w.n then d else w.δ l,n:=w.n + 1,N:=fun x=>if x = d + 1 then some (instObj C d) else if x = d then some (dictOf [] 0) else w.N x }
section
variable {g:Gd} {w:Wd} {H:AH} {s:Shared}
theorem Wd.ins_le (w:Wd) (d C:Addr):w.le (w.ins d C):=⟨Nat.le_succ _,fun l h=>if_neg (Nat.ne_of_lt h),fun _ _ h=>h⟩
theorem push2_size (h:Heap) (o:Obj):(h.push o).objs.size = h.objs.size + 1:=Heap.size_push ..
theorem N_ins (K:Kn g w H s) (C:Addr):∀ a o',w.N a = some o'→(w.ins s.heap.objs.size C).N a = some o':=fun a o' h=>by
 have lt:a < s.heap.objs.size:=Heap.lt_size (K.nw a o' h).1
 show (if a = s.heap.objs.size + 1 then _ else if a = s.heap.objs.size then _ else w.N a) = some o'
 rw [if_neg (neS lt),if_neg (neL lt)]; exact h
theorem Kn.ins (K:Kn g w H s) (C:Addr) (tk:Nat):Kn g (w.ins s.heap.objs.size C) (H.alloc (.inst C [])) { s with heap:=(s.heap.push (dictOf [] 0)).push (instObj C s.heap.objs.size),toks:=tk }:=by
 have k:∀ b ob,s.heap.get? b = some ob→((s.heap.push (dictOf [] 0)).push (instObj C s.heap.objs.size)).get? b = some ob:=fun b ob h=>Heap.get?_push_of_some _ (Heap.get?_push_of_some _ h)
 have hσ:∀ l o',H.get l = some o'→(w.ins s.heap.objs.size C).σ l = w.σ l:=fun l o' h=>if_neg (Nat.ne_of_lt (K.nn ▸ K.lt l o' h))
 have hδ:∀ l o',H.get l = some o'→(w.ins s.heap.objs.size C).δ l = w.δ l:=fun l o' h=>if_neg (Nat.ne_of_lt (K.nn ▸ K.lt l o' h))
 have hn:(w.ins s.heap.objs.size C).σ H.next = s.heap.objs.size + 1:=if_pos K.nn.symm
 have hd:(w.ins s.heap.objs.size C).δ H.next = s.heap.objs.size:=if_pos K.nn.symm
 have split:∀ l o',(H.alloc (.inst C [])).get l = some o'→(l = H.next∧O.inst C [] = o')∨(l≠H.next∧H.get l = some o'):=fun l o' h=>by
  have h':(if l = H.next then some (O.inst C []) else H.get l) = some o':=h
  by_cases e:l = H.next
  ·rw [if_pos e] at h'; cases h'; exact .inl ⟨e,rfl⟩
  ·rw [if_neg e] at h'; exact .inr ⟨e,h'⟩
 have N1:(w.ins s.heap.objs.size C).N (s.heap.objs.size + 1) = some (instObj C s.heap.objs.size):=if_pos rfl
 have N0:(w.ins s.heap.objs.size C).N s.heap.objs.size = some (dictOf [] 0):=(if_neg nSS).trans (if_pos rfl)
 have B1:g.B.get? (s.heap.objs.size + 1) = none:=by
  cases e:g.B.get? (s.heap.objs.size + 1) with
  | none=>rfl
  | some ob=>exact absurd (Heap.lt_size (K.top _ _ e)) (Nat.not_lt.mpr (Nat.le_succ _))
 have g1:((s.heap.push (dictOf [] 0)).push (instObj C s.heap.objs.size)).get? (s.heap.objs.size + 1) = some (instObj C s.heap.objs.size):=by
  have:=Heap.get?_push_size (s.heap.push (dictOf [] 0)) (o:=instObj C s.heap.objs.size) rfl
  rwa [push2_size] at this
 refine ⟨fun b o' h=>k _ _ (K.top b o' h),fun a o' h=>?_,fun a o' h=>⟨k _ _ (K.tw a o' h).1,(K.tw a o' h).2⟩,
  congrArg (· + 1) K.nn,K.mu,fun l o' h=>?_,fun l o' h=>?_,fun l o₁ l' o₂ h h' e=>?_,fun l o₁ l' C₁ fs h h' e=>?_,fun l C₁ fs l' C' fs' h h' e=>?_⟩
 ·have h':(if a = s.heap.objs.size + 1 then some (instObj C s.heap.objs.size) else if a = s.heap.objs.size then some (dictOf [] 0) else w.N a) = some o':=h
  by_cases e:a = s.heap.objs.size + 1
  ·rw [if_pos e] at h'; cases h'; rw [e]; exact ⟨g1,B1⟩
  ·rw [if_neg e] at h'
   by_cases e:a = s.heap.objs.size
   ·rw [if_pos e] at h'; cases h'; rw [e]; exact ⟨Heap.get?_push_of_some _ (Heap.get?_push_size _ rfl),B_free K (not_there _)⟩
   ·rw [if_neg e] at h'; exact ⟨k _ _ (K.nw a o' h').1,(K.nw a o' h').2⟩
 ·rcases split l o' h with ⟨rfl,rfl⟩ | ⟨_,h⟩
  ·exact Nat.lt_succ_self _
  ·exact Nat.lt_succ_of_lt (K.lt l o' h)
 ·rcases split l o' h with ⟨rfl,rfl⟩ | ⟨_,h⟩
  ·exact ⟨by rw [hn,hd]; exact N1,[],0,by rw [hd]; exact N0,.nil⟩
  ·exact (K.kn l o' h).mono (Wd.ins_le _ _ _) (K.nn ▸ K.lt l o' h) (N_ins K C) (hδ _ _ h)
 ·rcases split l o₁ h with ⟨rfl,_⟩ | ⟨_,h⟩ <;> rcases split l' o₂ h' with ⟨rfl,_⟩ | ⟨_,h'⟩
  ·rfl
  ·rw [hn,hσ _ _ h'] at e; exact (fls1 (σ_lt K h') e.symm).elim
  ·rw [hn,hσ _ _ h] at e; exact (fls1 (σ_lt K h) e).elim
  ·rw [hσ _ _ h,hσ _ _ h'] at e; exact K.i1 _ _ _ _ h h' e
 ·rcases split l' _ h' with ⟨rfl,q⟩ | ⟨_,h'⟩
  ·rw [hd] at e
   rcases split l o₁ h with ⟨rfl,_⟩ | ⟨_,h⟩
   ·rw [hn] at e; exact nSS e.symm
   ·rw [hσ _ _ h] at e; exact fls (σ_lt K h) e
  ·rw [hδ _ _ h'] at e
   rcases split l o₁ h with ⟨rfl,_⟩ | ⟨_,h⟩
   ·rw [hn] at e; exact fls1 (δ_lt K h') e.symm
   ·rw [hσ _ _ h] at e; exact K.i2 _ _ _ _ _ h h' e
 ·rcases split l _ h with ⟨rfl,q⟩ | ⟨_,h⟩ <;> rcases split l' _ h' with ⟨rfl,q⟩ | ⟨_,h'⟩
  ·rfl
  ·rw [hd,hδ _ _ h'] at e; exact (fls (δ_lt K h') e.symm).elim
  ·rw [hd,hδ _ _ h] at e; exact (fls (δ_lt K h) e).elim
  ·rw [hδ _ _ h,hδ _ _ h'] at e; exact K.i3 _ _ _ _ _ _ h h' e
theorem Ext.ins (K:Kn g w H s) (C:Addr) (tk:Nat):Ext noX w s (w.ins s.heap.objs.size C) { s with heap:=(s.heap.push (dictOf [] 0)).push (instObj C s.heap.objs.size),toks:=tk }:=by
 refine ⟨Wd.ins_le _ _ _,fun b ob h _ _=>Heap.get?_push_of_some _ (Heap.get?_push_of_some _ h),fun b h=>push_there (push_there h),fun a h=>?_,fun _ h=>.inl h,rfl,rfl,rfl,Nat.le_refl _,fun _=>N_ins K C⟩
 have h':(if a = s.heap.objs.size + 1 then some (instObj C s.heap.objs.size) else if a = s.heap.objs.size then some (dictOf [] 0) else w.N a)≠none:=h
 by_cases e:a = s.heap.objs.size + 1
 ·exact .inr (by rw [e]; exact Heap.get?_none_of_le (Nat.le_succ _))
 ·rw [if_neg e] at h'
  by_cases e:a = s.heap.objs.size
  ·exact .inr (by rw [e]; exact not_there _)
  ·rw [if_neg e] at h'; exact .inl h'
theorem VR.newIns (K:Kn g w H s) (C:Addr):VR (w.ins s.heap.objs.size C) (.ref H.next) (.ref (s.heap.objs.size + 1)):=by
 have hn:(w.ins s.heap.objs.size C).σ H.next = s.heap.objs.size + 1:=if_pos K.nn.symm
 have r:=VR.ref (w:=w.ins s.heap.objs.size C) H.next (by show H.next < w.n + 1; rw [K.nn]; exact Nat.lt_succ_self _)
 rw [hn] at r
 exact r
theorem Kn.less {H':AH} (K:Kn g w H s) (h:∀ l o,H'.get l = some o→H.get l = some o) (hn:H.next≤H'.next) (hm:H.mt = H'.mt):Kn g { w with n:=H'.next } H' s:=by
 have le:w.le { w with n:=H'.next }:=⟨by rw [K.nn]; exact hn,fun _ _=>rfl,fun _ _ q=>q⟩
 exact ⟨K.top,K.nw,K.tw,rfl,K.mu.trans hm,fun l o q=>Nat.lt_of_lt_of_le (K.lt l o (h l o q)) hn,fun l o q=>(K.kn l o (h l o q)).mono le (K.nn ▸ K.lt l o (h l o q)) (fun _ _ z=>z) rfl,
  fun l o l' o' a b=>K.i1 l o l' o' (h _ _ a) (h _ _ b),fun l o l' C fs a b=>K.i2 l o l' C fs (h _ _ a) (h _ _ b),fun l C fs l' C' fs' a b=>K.i3 l C fs l' C' fs' (h _ _ a) (h _ _ b)⟩
end
end Mine
end
section
open PySem PySem.W PyProof.Rows
namespace Mine
structure Room (A:Around) (d:Nat):Prop where
 hh:A.handled = none
 dep:A.depth + 2 * d≤600
 un:A.units + 12 * d≤6000
theorem Room.mono {A:Around} {d d':Nat} (r:Room A d) (h:d'≤d):Room A d':=⟨r.hh,by have:=r.dep; lia,by have:=r.un; lia⟩
theorem Room.in1 {A:Around} {d:Nat} (r:Room A (d + 1)):Room A.in1 d:=⟨r.hh,by have:=r.dep; show A.depth + _≤_; lia,by have:=r.un; show A.units + 1 + _≤_; lia⟩
noncomputable abbrev noE:Value→Shared→Prop:=fun _ _=>False
noncomputable def PE (g:Gd) (w:Wd) (s:Shared) (Q:KV) (x:Value) (s':Shared):Prop:=∃ v w' H',Ext noX w s w' s'∧Kn g w' H' s'∧VR w' v x∧Q v H'
noncomputable def PB (g:Gd) (w:Wd) (s:Shared) (Q:KB) (b:Bool) (s':Shared):Prop:=∃ w' H',Ext noX w s w' s'∧Kn g w' H' s'∧Q b H'
noncomputable def PU (g:Gd) (w:Wd) (s:Shared) (Q:AH→Prop) (_:Unit) (s':Shared):Prop:=∃ w' H',Ext noX w s w' s'∧Kn g w' H' s'∧Q H'
noncomputable def PL (g:Gd) (w:Wd) (s:Shared) (Q:List V→AH→Prop) (xs:List Value) (s':Shared):Prop:=∃ vs w' H',Ext noX w s w' s'∧Kn g w' H' s'∧VRs w' vs xs∧Q vs H'
theorem PE.after {g:Gd} {w w₁:Wd} {s s₁ s':Shared} {Q:KV} {x:Value} (e:Ext noX w s w₁ s₁) (h:PE g w₁ s₁ Q x s'):PE g w s Q x s' :=
 by obtain ⟨v,w',H',a,b,c,d⟩:=h; exact ⟨v,w',H',e.trans a,b,c,d⟩
theorem PB.after {g:Gd} {w w₁:Wd} {s s₁ s':Shared} {Q:KB} {x:Bool} (e:Ext noX w s w₁ s₁) (h:PB g w₁ s₁ Q x s'):PB g w s Q x s' :=
 by obtain ⟨w',H',a,b,c⟩:=h; exact ⟨w',H',e.trans a,b,c⟩
theorem PU.after {g:Gd} {w w₁:Wd} {s s₁ s':Shared} {Q:AH→Prop} {x:Unit} (e:Ext noX w s w₁ s₁) (h:PU g w₁ s₁ Q x s'):PU g w s Q x s' :=
 by obtain ⟨w',H',a,b,c⟩:=h; exact ⟨w',H',e.trans a,b,c⟩
theorem PL.after {g:Gd} {w w₁:Wd} {s s₁ s':Shared} {Q:List V→AH→Prop} {x:List Value} (e:Ext noX w s w₁ s₁) (h:PL g w₁ s₁ Q x s'):PL g w s Q x s' :=
 by obtain ⟨v,w',H',a,b,c,d⟩:=h; exact ⟨v,w',H',e.trans a,b,c,d⟩
section
variable {g:Gd} {w:Wd} {H:AH} {s:Shared} {A:Around}
theorem PE.now {Q:KV} {v:V} {x:Value} (K:Kn g w H s) (hv:VR w v x) (q:Q v H) (tk:Nat):PE g w s Q x { s with toks:=tk } :=
 ⟨v,w,H,Ext.all fun _ _ h=>h,K.all fun _ _ h=>h,hv,q⟩
theorem PE.now' {Q:KV} {v:V} {x:Value} (K:Kn g w H s) (hv:VR w v x) (q:Q v H):PE g w s Q x s :=
 ⟨v,w,H,Ext.refl _ _ _,K,hv,q⟩
theorem PB.now {Q:KB} {b:Bool} (K:Kn g w H s) (q:Q b H):PB g w s Q b s:=⟨w,H,Ext.refl _ _ _,K,q⟩
theorem PE.junk {Q:KV} {v:V} {x:Value} {s':Shared} (K:Kn g w H s) (k:∀ b o,s.heap.get? b = some o→s'.heap.get? b = some o) (sm:Same s s') (hv:VR w v x) (q:Q v H):PE g w s Q x s' :=
 ⟨v,w,H,Ext.all k sm.gens sm.drawn sm.os,K.all k,hv,q⟩
theorem PE.newL {Q:KV} {vs:List V} {xs:Array Value} {a:Addr} {m:Nat} {s':Shared} (K:Kn g w H s) (hf:s.heap.get? a = none) (k:∀ b o,s.heap.get? b = some o→s'.heap.get? b = some o)
  (ha:s'.heap.get? a = some (listOf xs m)) (sm:Same s s') (h:VRs w vs xs.toList) (q:Nw Q H (.list vs)):PE g w s Q (.ref a) s' :=
 ⟨.ref H.next,_,_,Ext.one K hf k _ sm,K.one hf k _ ha rfl (OK.newList (xs:=xs.toList) K a h),VR.newRef K a _,q.h⟩
theorem PE.newT {Q:KV} {vs:List V} {xs:List Value} {a:Addr} {m:Nat} {s':Shared} (K:Kn g w H s) (hf:s.heap.get? a = none) (k:∀ b o,s.heap.get? b = some o→s'.heap.get? b = some o)
  (ha:s'.heap.get? a = some (tupOf xs.toArray m)) (sm:Same s s') (h:VRs w vs xs) (q:Q (.tup vs) H):PE g w s Q (.ref a) s' :=
 ⟨.tup vs,_,_,Ext.tup K hf k _ sm,K.tup hf k ha,VR.newTup K hf h,q⟩
theorem isL (K:Kn g w H s) {l:Nat} {vs:List V} (h:H.get l = some (.list vs)):∃ ws m,IsL s.heap (w.σ l) ws m∧VRs w vs ws.toList∧w.N (w.σ l) = some (listOf ws m) :=
 by obtain ⟨ws,m,a,b⟩:=K.kn l _ h; exact ⟨ws,m,(K.nw _ _ a).1,b,a⟩
theorem IsL.list {h:Heap} {l:Addr} {items:Array Value} {n:Nat} (x:IsL h l items n):h.IsList l items:=⟨_,x,rfl,n,rfl⟩
theorem VRs.lenA {vs:List V} {ws:Array Value} (h:VRs w vs ws.toList):vs.length = ws.size:=by have:=h.length; rwa [Array.length_toList] at this
theorem rep_list (items:Array Value) (n:Nat):(List.foldl (fun x1 x2=>x1++x2) #[] (List.replicate (if items.isEmpty = true then 0 else n) items)).toList = (List.replicate n items.toList).flatten:=by
 have h:∀ (l:List (Array Value)) (acc:Array Value),(List.foldl (fun x1 x2=>x1++x2) acc l).toList = acc.toList++(l.map (·.toList)).flatten:=fun l=>by
  induction l with
  | nil=>intro acc; simp
  | cons a r ih=>intro acc; rw [List.foldl_cons,ih,Array.toList_append,List.map_cons,List.flatten_cons,List.append_assoc]
 rw [h,List.map_replicate]
 cases e:items.isEmpty with
 | true =>
  have:items = #[]:=by simpa using e
  subst this
  simp
 | false=>simp
theorem mulListL {prog:Program} {wd:World} {E:Value→Shared→Prop} {l:Addr} {items:Array Value} {k:Nat} {x:Int} {u:Tok} {Q:Value→Shared→Prop} (hl:IsL s.heap l items k) (h0:0≤x) (h1:x≤1000) (hz:items.size≤1000)
  (h:Q (.ref s.heap.objs.size) { s with heap:=s.heap.push { cls:=.type "list",data:=.seq (List.foldl (fun x1 x2=>x1++x2) #[] (List.replicate (if items.isEmpty = true then 0 else x.toNat) items)) } }) :
  wpAny (model prog wd) A (binaryOp .Mult (.ref l) (.int x u)) Q E s:=by
 have hsz:items.size * x.toNat≤1000 * 1000:=Nat.mul_le_mul hz (by lia)
 exact wpAny_binaryOp_repeat_ref (T:="list") (U:="int") (by decide) ⟨_,hl,rfl⟩ (fun s'=>typeIs_int s' x u) noFill_list_mul F.fills_int_mul F.slot_int_rmul repeat_list F.slot_int_index.lookup
  (call_meets F.slot_int_rmul (typeIs_int s x u) F.entry_int_rmul (F.args_int_rmul_2 _ _) (int___rmul___int_list x u l items k)
   ⟨hl,rfl,⟨_,hl,rfl⟩,call_meets F.slot_list_mul ⟨_,hl,rfl⟩ F.entry_list_mul (F.args_list_mul_2 _ _)
    (AutoListH.list___mul___list_int_3 l items k x u (by simp [Builtin.List.listFitsIndex]; lia) (by lia) (by simp [Builtin.List.listTooLong,sizeLine]; lia)) ⟨hl,h⟩⟩)
@[elab_as_elim] theorem int2_VR {x y:V} {k:Int→Int→Prop} {P:Value→Value→Prop} {a b:Value} (hx:VR w x a) (hy:VR w y b) (h:int2 x y k) (f:∀ i j t u,k i j→P (.int i t) (.int j u)):P a b:=by
 obtain ⟨i,j,rfl,rfl,h⟩:=int2_inv h
 obtain ⟨t,rfl⟩:=hx.intI
 obtain ⟨u,rfl⟩:=hy.intI
 exact f _ _ _ _ h
@[elab_as_elim] theorem str2_VR {x y:V} {k:Str→Str→Prop} {P:Value→Value→Prop} {a b:Value} (hx:VR w x a) (hy:VR w y b) (h:str2 x y k) (f:∀ i j t u,k i j→P (.str i t) (.str j u)):P a b:=by
 obtain ⟨i,j,rfl,rfl,h⟩:=str2_inv h
 obtain ⟨t,rfl⟩:=hx.strI
 obtain ⟨u,rfl⟩:=hy.strI
 exact f _ _ _ _ h
@[elab_as_elim] theorem ref2_VR {x y:V} {k:Nat→Nat→Prop} {P:Value→Value→Prop} {a b:Value} (hx:VR w x a) (hy:VR w y b) (h:ref2 x y k) (f:∀ i j,k i j→P (.ref (w.σ i)) (.ref (w.σ j))):P a b:=by
 obtain ⟨i,j,rfl,rfl,h⟩:=ref2_inv h
 obtain rfl:=hx.refI
 obtain rfl:=hy.refI
 exact f _ _ h
theorem addL_ok {x y:V} {a b:Value} {Q:KV} (K:Kn g w H s) (hx:VR w x a) (hy:VR w y b) (h:addL x y H Q):wpAny (model g.prog g.wd) A (binaryOp .Add a b) (PE g w s Q) noE s:=by
 refine ref2_VR hx hy h fun i j h=>?_
 obtain ⟨xs,ys,h1,h2,h3,h4⟩:=h
 obtain ⟨ws,m,l1,v1,_⟩:=isL K h1
 obtain ⟨us,m',l2,v2,_⟩:=isL K h2
 refine P.add_list l1 l2 ?_ (by rw [sizeLine_eq,← v1.lenA,← v2.lenA]; lia)
 refine PE.newL K (not_there _) (fun _ _ q=>Heap.get?_push_of_some _ q) (Heap.get?_push_size _ rfl) ⟨rfl,rfl,rfl⟩ ?_ h4
 rw [Array.toList_append]
 exact VRs.append v1 v2
theorem mulL_ok {x y:V} {a b:Value} {Q:KV} (K:Kn g w H s) (hx:VR w x a) (hy:VR w y b) (h:mulL x y H Q):wpAny (model g.prog g.wd) A (binaryOp .Mult a b) (PE g w s Q) noE s:=by
 obtain ⟨l,rfl,h⟩:=ref1_inv h
 obtain ⟨n,rfl,xs,h1,h2,h3,h4,h5⟩:=int1_inv h
 obtain rfl:=hx.refI
 obtain ⟨t,rfl⟩:=hy.intI
 obtain ⟨ws,m,l1,v1,_⟩:=isL K h1
 refine mulListL l1 h2 h3 (by rw [← v1.lenA]; exact h4) ?_
 refine PE.newL K (not_there _) (fun _ _ q=>Heap.get?_push_of_some _ q) (Heap.get?_push_size _ rfl) ⟨rfl,rfl,rfl⟩ ?_ h5
 rw [rep_list]
 exact VRs.rep v1 _
theorem opBin_ok {op:Operator} {x y:V} {a b:Value} {Q:KV} {d:Nat} (R:Room A d) (K:Kn g w H s) (hx:VR w x a) (hy:VR w y b) (h:opBin op x y H Q) :
  wpAny (model g.prog g.wd) A (binaryOp op a b) (PE g w s Q) noE s:=by
 cases op with
 | Add =>
  have h:if isRef x then addL x y H Q else int2 x y fun a b=>Q (.int (a + b)) H:=h
  cases e:isRef x with
  | true=>rw [e] at h; exact addL_ok K hx hy h
  | false=>rw [e] at h; exact int2_VR hx hy h fun _ _ _ _ h=>add_int (.now K (.int _ _) h _)
 | Sub=>exact int2_VR hx hy h fun _ _ _ _ h=>sub_int (.now K (.int _ _) h _)
 | Mult =>
  have h:if isRef x then mulL x y H Q else int2 x y fun a b=>IntMulOk a b∧Q (.int (a * b)) H:=h
  cases e:isRef x with
  | true=>rw [e] at h; exact mulL_ok K hx hy h
  | false=>rw [e] at h; exact int2_VR hx hy h fun _ _ _ _ h=>mul_int (.now K (.int _ _) h.2 _) h.1
 | FloorDiv=>exact int2_VR hx hy h fun _ _ _ _ h=>floordiv_int h.1 (.now K (.int _ _) h.2.2 _) (.inl h.2.1)
 | Mod=>exact int2_VR hx hy h fun _ _ _ _ h=>mod_int' h.1 (.now K (.int _ _) h.2 _)
 | Pow=>exact int2_VR hx hy h fun _ _ _ _ h=>pow_int h.1 h.2.1 (.now K (.int _ _) h.2.2 _)
 | LShift=>exact int2_VR hx hy h fun _ _ _ _ h=>lshift_int_or R.hh (fun q=>absurd h.1 (Int.not_le.mpr q)) (fun _=>h.2.1) fun _=>.now K (.int _ _) h.2.2 _
 | RShift=>exact int2_VR hx hy h fun _ _ _ _ h=>rshift_int h.1 (.now K (.int _ _) h.2 _)
 | BitAnd=>exact int2_VR hx hy h fun _ _ _ _ h=>and_int (.now K (.int _ _) h _)
 | BitOr=>exact int2_VR hx hy h fun _ _ _ _ h=>or_int (.now K (.int _ _) h _)
 | BitXor=>exact int2_VR hx hy h fun _ _ _ _ h=>xor_int (.now K (.int _ _) h _)
 | _=>exact (h:False).elim
end
end Mine
end
section
open PySem PySem.W PyProof.Rows
namespace Mine
section
variable {g:Gd} {w:Wd} {H:AH} {s:Shared} {A:Around}
theorem isT (K:Kn g w H s) {a:Addr} {ws:List Value} {m:Nat} (h:w.T a = some (tupOf ws.toArray m)):s.heap.get? a = some (tupOf ws.toArray m):=(K.tw _ _ h).1
theorem toDs_cons {a:V} {r:List V} {ds:List PyData} (h:toDs (a::r) = some ds):∃ d es,toD a = some d∧toDs r = some es∧ds = d::es:=by
 revert h
 show (match toD a,toDs r with | some d,some ds=>some (d::ds) | _,_=>none) = some ds→_
 cases toD a with
 | none=>exact fun h=>by cases h
 | some d=>cases toDs r with
  | none=>exact fun h=>by cases h
  | some es=>exact fun h=>by cases h; exact ⟨d,es,rfl,rfl,rfl⟩
theorem reads_no {v:V} {x:Value} (e:toD v = none):∀ {d:PyData},toD v = some d→∃ as,Reads s.heap x d as:=fun {d} h=>by cases e.symm.trans h
theorem reads2 (K:Kn g w H s):(∀ {v:V} {x:Value},VR w v x→∀ {d:PyData},toD v = some d→∃ as,Reads s.heap x d as)∧(∀ {vs:List V} {xs:List Value},VRs w vs xs→∀ {ds:List PyData},toDs vs = some ds→∃ as,ReadsAll s.heap xs ds as):=by
 have tup:∀ (vs:List V) (ws:List Value) (a:Addr) (m:Nat),w.T a = some (tupOf ws.toArray m)→(∀ {ds:List PyData},toDs vs = some ds→∃ as,ReadsAll s.heap ws ds as)→∀ {d:PyData},toD (.tup vs) = some d→∃ as,Reads s.heap (.ref a) d as:=fun vs ws a m ht ih d h=>by
  obtain ⟨ds,hd,rfl⟩:=Option.map_eq_some_iff.mp (show (toDs vs).map .tuple = some d from h)
  obtain ⟨as,ra⟩:=ih hd
  exact ⟨as,.tuple (isT K ht) rfl rfl ra⟩
 have nil:∀ {ds:List PyData},toDs [] = some ds→∃ as,ReadsAll s.heap [] ds as:=fun {ds} h=>by
  cases (show some [] = some ds from h)
  exact ⟨[],.nil⟩
 have cons:∀ {v:V} {x:Value} {vs:List V} {xs:List Value},(∀ {d:PyData},toD v = some d→∃ as,Reads s.heap x d as)→(∀ {ds:List PyData},toDs vs = some ds→∃ as,ReadsAll s.heap xs ds as) →
   ∀ {ds:List PyData},toDs (v::vs) = some ds→∃ as,ReadsAll s.heap (x::xs) ds as:=fun {v x vs xs} a b {ds} h=>by
  obtain ⟨d,es,h1,h2,rfl⟩:=toDs_cons h
  obtain ⟨as,ra⟩:=a h1
  obtain ⟨bs,rb⟩:=b h2
  exact ⟨as++bs,.cons ra rb⟩
 have int:∀ (i:Int) (t:Tok) {d:PyData},toD (.int i) = some d→∃ as,Reads s.heap (.int i t) d as:=fun i t {d} h=>by
  cases (show some (PyData.int i) = some d from h)
  exact ⟨[],.int i t⟩
 exact ⟨fun h=>VR.rec (motive_1:=fun v x _=>∀ {d:PyData},toD v = some d→∃ as,Reads s.heap x d as) (motive_2:=fun vs xs _=>∀ {ds:List PyData},toDs vs = some ds→∃ as,ReadsAll s.heap xs ds as)
   (reads_no rfl) (fun _=>reads_no rfl) int (fun _ _=>reads_no rfl) (fun _ _=>reads_no rfl) (fun _=>reads_no rfl) (fun _ _=>reads_no rfl) (fun _=>reads_no rfl) (fun vs ws a m ht _ ih=>tup vs ws a m ht ih) nil (fun _ _ a b=>cons a b) h,
  fun h=>VRs.rec (motive_1:=fun v x _=>∀ {d:PyData},toD v = some d→∃ as,Reads s.heap x d as) (motive_2:=fun vs xs _=>∀ {ds:List PyData},toDs vs = some ds→∃ as,ReadsAll s.heap xs ds as)
   (reads_no rfl) (fun _=>reads_no rfl) int (fun _ _=>reads_no rfl) (fun _ _=>reads_no rfl) (fun _=>reads_no rfl) (fun _ _=>reads_no rfl) (fun _=>reads_no rfl) (fun vs ws a m ht _ ih=>tup vs ws a m ht ih) nil (fun _ _ a b=>cons a b) h⟩
theorem readsL (K:Kn g w H s) {vs:List V} {xs:List Value} (h:VRs w vs xs) {ds:List PyData} (e:toDs vs = some ds):∃ as,ReadsAll s.heap xs ds as:=(reads2 K).2 h e
theorem readsT (K:Kn g w H s) {vs:List V} {x:Value} (h:VR w (.tup vs) x) {ds:List PyData} (hd:toDs vs = some ds):∃ as,Reads s.heap x (.tuple ds) as:=(reads2 K).1 h (congrArg (Option.map PyData.tuple) hd)
theorem readsR (K:Kn g w H s) {l:Nat} {vs:List V} (h:H.get l = some (.list vs)) {ds:List PyData} (hd:toDs vs = some ds):∃ as,Reads s.heap (.ref (w.σ l)) (.list ds) as:=by
 obtain ⟨ws,m,l1,v1,_⟩:=isL K h
 obtain ⟨as,ra⟩:=readsL K v1 hd
 exact ⟨_,.list l1 rfl rfl ra⟩
theorem anyEq_cons {str:Str} {v:V} {vs:List V} {b:Bool} (h:anyEq str (v::vs) = some b):∃ t c,v = .str t∧PyData.strOk t = true∧anyEq str vs = some c∧b = (sbeq t str || c):=by
 obtain ⟨t,h1,h⟩:=Option.bind_eq_some_iff.mp h
 cases e:PyData.strOk t with
 | false=>rw [e] at h; cases h
 | true =>
  rw [e] at h
  obtain ⟨c,hc,h⟩:=Option.map_eq_some_iff.mp h
  exact ⟨t,c,getS_inv h1,e,hc,h.symm⟩
theorem readsAny {h:Heap} {str:Str} {vs:List V} {ws:List Value} (r:VRs w vs ws):∀ {b:Bool},anyEq str vs = some b →
  ∃ ds as,ReadsAll h ws ds as∧PyData.canLayAll0 ds = true∧PyData.depthAll ds≤1∧(ds.any fun y=>PyData.eqv y (.str str)) = b :=
 r.ind (P:=fun vs ws=>∀ {b:Bool},anyEq str vs = some b→∃ ds as,ReadsAll h ws ds as∧PyData.canLayAll0 ds = true∧PyData.depthAll ds≤1∧(ds.any fun y=>PyData.eqv y (.str str)) = b)
  (fun {b} h=>by cases (show some false = some b from h); exact ⟨[],[],.nil,by simp [PyData.canLayAll0],by simp [PyData.depthAll],rfl⟩)
  fun {v x vs xs} a _ ih {b} h=>by
   obtain ⟨t,c,rfl,ok,hc,rfl⟩:=anyEq_cons h
   obtain ⟨tk,rfl⟩:=a.strI
   obtain ⟨ds,as,ra,h1,h2,h3⟩:=ih hc
   refine ⟨.str t::ds,[]++as,.cons (.str t tk) ra,?_,?_,?_⟩
   ·simp [PyData.canLayAll0,PyData.canLay0,h1,ok]
   ·simp only [PyData.depthAll,PyData.depth]; lia
   ·rw [List.any_cons,h3,sbeq_eq]
    congr 1
theorem beqI (a b:Int):(a == b) = decide (a = b):=rfl
theorem bneI (a b:Int):(a != b) = (true ^^ decide (a = b)):=(Bool.true_xor _).symm
theorem beqS (a b:Str):(a == b) = sbeq a b:=by rw [sbeq_eq]; by_cases e:a = b <;> simp [e]
theorem isNoneV_inv {v:V} {b:Bool} (h:isNoneV v = some b):(v = .none∧b = true)∨(∃ l,v = .ref l)∧b = false:=by
 cases v <;> first | (cases h; exact .inl ⟨rfl,rfl⟩) | (cases h; exact .inr ⟨⟨_,rfl⟩,rfl⟩) | cases h
theorem isNone_eq {v:V} {x:Value} {b:Bool} (h:VR w v x) (hb:isNoneV v = some b):(x == Value.none) = b:=by
 rcases isNoneV_inv hb with ⟨rfl,rfl⟩ | ⟨⟨l,rfl⟩,rfl⟩
 ·rw [h.noneI]; rfl
 ·rw [h.refI]; rfl
theorem qx {Q:KV} {b:Bool} (h:Q (.bool (false ^^ b)) H):Q (.bool b) H:=by rw [Bool.false_xor] at h; exact h
theorem qn {Q:KV} {b:Bool} (h:Q (.bool (true ^^ b)) H):Q (.bool (!b)) H:=by rw [Bool.true_xor] at h; exact h
theorem reads_both {neg:Bool} {a b:Value} {p q:PyData} {as bs:List Addr} {Q:KV} {d:Nat} (R:Room A d) (K:Kn g w H s) (ra:Reads s.heap a p as) (rb:Reads s.heap b q bs) (h1:SeqAt.shaped p = true) (h2:SeqAt.shaped q = true) (h:Q (.bool (neg ^^ PyData.eqv p q)) H) :
  wpAny (model g.prog g.wd) A (compareOp (if neg then .NotEq else .Eq) a b) (PE g w s Q) noE s:=by
 have hu:A.units≤6000:=by have:=R.un; lia
 have u9:cLine = 9900:=rfl
 cases neg with
 | false=>exact SeqAt.compareEq_reads ra rb (SeqAt.canLay_of_shaped h1) (SeqAt.canLay_of_shaped h2) (SeqAt.room_of_shaped h1 (by lia)) (.now' K (.bool _) (qx h))
 | true=>exact SeqAt.compareNe_reads ra rb (SeqAt.canLay_of_shaped h1) (SeqAt.canLay_of_shaped h2) (SeqAt.room_of_shaped h1 (by lia)) (.now' K (.bool _) (qn h))
theorem eqV_ok {neg:Bool} {x y:V} {a b:Value} {Q:KV} {d:Nat} (R:Room A d) (K:Kn g w H s) (hx:VR w x a) (hy:VR w y b) (h:eqV neg x y H Q) :
  wpAny (model g.prog g.wd) A (compareOp (if neg then .NotEq else .Eq) a b) (PE g w s Q) noE s:=by
 cases x with
 | str x =>
  replace h:str2 (.str x) y fun a b=>Q (.bool (neg ^^ sbeq a b)) H:=h
  refine str2_VR (P:=fun a b=>wpAny (model g.prog g.wd) A (compareOp (if neg then .NotEq else .Eq) a b) (PE g w s Q) noE s) hx hy h fun i j t u h=>?_
  rw [← beqS] at h
  cases neg with
  | false=>exact PyProof.Rows.eq_str (.now' K (.bool _) (qx h))
  | true=>exact PyProof.Rows.ne_str (.now' K (.bool _) (qn h))
 | tup vs =>
  cases y <;> first | exact (h:False).elim | skip
  obtain ⟨ds,es,h1,h2,h3,h4,h5⟩:=h
  obtain ⟨as,ra⟩:=readsT K hx h1
  obtain ⟨bs,rb⟩:=readsT K hy h2
  exact reads_both R K ra rb h3 h4 (by rw [PyData.eqv]; exact h5)
 | ref x =>
  replace h:eqL neg (.ref x) y H Q:=h
  refine ref2_VR (P:=fun a b=>wpAny (model g.prog g.wd) A (compareOp (if neg then .NotEq else .Eq) a b) (PE g w s Q) noE s) hx hy h fun i j h=>?_
  obtain ⟨xs,ys,l1,l2,h⟩:=h
  rcases h with ⟨hn,h⟩ | ⟨ds,es,h1,h2,h3,h4,h5⟩
  ·obtain ⟨ws,m,i1,v1,_⟩:=isL K l1
   obtain ⟨us,m',i2,v2,_⟩:=isL K l2
   have hu:A.units + 1≤cLine:=by have:=R.un; have u9:cLine = 9900:=rfl; lia
   rw [v1.lenA,v2.lenA] at hn
   cases neg with
   | false=>exact SeqAt.RcAt.lists_lengths (IsL.list i1) (IsL.list i2) (bne_iff_ne.mpr hn) hu _ _ _ _ (.now' K (.bool _) h)
   | true=>exact SeqAt.RcNeAt.lists_lengths (IsL.list i1) (IsL.list i2) (bne_iff_ne.mpr hn) hu _ _ _ _ (.now' K (.bool _) h)
  ·obtain ⟨as,ra⟩:=readsR K l1 h1
   obtain ⟨bs,rb⟩:=readsR K l2 h2
   exact reads_both R K ra rb h3 h4 (by rw [PyData.eqv]; exact h5)
 | int x =>
  replace h:int2 (.int x) y fun a b=>Q (.bool (neg ^^ decide (a = b))) H:=h
  refine int2_VR (P:=fun a b=>wpAny (model g.prog g.wd) A (compareOp (if neg then .NotEq else .Eq) a b) (PE g w s Q) noE s) hx hy h fun i j t u h=>?_
  cases neg with
  | false=>exact eq_int (.now' K (.bool _) (qx h))
  | true=>exact ne_int (.now' K (.bool _) (by rw [bneI]; exact h))
 | _=>exact (h:False).elim
theorem inV_ok {x y:V} {a b:Value} {Q:KV} {d:Nat} (R:Room A d) (K:Kn g w H s) (hx:VR w x a) (hy:VR w y b) (h:inV x y H Q):wpAny (model g.prog g.wd) A (compareOp .In a b) (PE g w s Q) noE s:=by
 obtain ⟨st,rfl,h⟩:=str1_inv h
 obtain ⟨vs,rfl,c,h1,h2,h3⟩:=tup1_inv h
 obtain ⟨tk,rfl⟩:=hx.strI
 obtain ⟨ws,a,m,rfl,hT,hs⟩:=hy.tupI
 obtain ⟨ds,as,ra,c1,c2,c3⟩:=readsAny (h:=s.heap) hs h2
 refine SeqAt.in_tuple_reads (Reads.tuple (isT K hT) rfl rfl ra) (Reads.str _ _) c1 (by simpa [PyData.canLay0] using h1) ?_ (by rw [c3]; exact .now' K (.bool _) h3)
 simp only [PyData.depth]
 have:=R.un
 have:cLine = 9900:=rfl
 lia
theorem opCmp_ok {op:CmpOp} {x y:V} {a b:Value} {Q:KV} {d:Nat} (R:Room A d) (K:Kn g w H s) (hx:VR w x a) (hy:VR w y b) (h:opCmp op x y H Q) :
  wpAny (model g.prog g.wd) A (compareOp op a b) (PE g w s Q) noE s:=by
 cases op with
 | Eq=>exact eqV_ok (neg:=false) R K hx hy h
 | NotEq=>exact eqV_ok (neg:=true) R K hx hy h
 | Lt=>exact int2_VR hx hy h fun _ _ _ _ h=>lt_int (.now' K (.bool _) h)
 | LtE=>exact int2_VR hx hy h fun _ _ _ _ h=>le_int (.now' K (.bool _) h)
 | Gt=>exact int2_VR hx hy h fun _ _ _ _ h=>gt_int (.now' K (.bool _) h)
 | GtE=>exact int2_VR hx hy h fun _ _ _ _ h=>ge_int (.now' K (.bool _) h)
 | Is =>
  obtain ⟨rfl,h⟩:=voidV.inv (show voidV y _ from h)
  obtain rfl:=hy.noneI
  obtain ⟨c,h1,h2⟩:=IsO.inv h
  exact is_none_gen (by rw [isNone_eq hx h1]; exact .now' K (.bool _) (qx h2))
 | IsNot =>
  obtain ⟨rfl,h⟩:=voidV.inv (show voidV y _ from h)
  obtain rfl:=hy.noneI
  obtain ⟨c,h1,h2⟩:=IsO.inv h
  have e:=isNone_eq hx h1
  refine wpAny_isNot_plain ?_ (by rw [e]; exact .now' K (.bool _) (qn h2))
  rcases isNoneV_inv h1 with ⟨rfl,_⟩ | ⟨⟨l,rfl⟩,_⟩
  ·rw [hx.noneI]; rfl
  ·rw [hx.refI]; rfl
 | In=>exact inV_ok R K hx hy h
 | _=>exact (h:False).elim
end
end Mine
end
section
open PySem PySem.W PyProof.Rows
namespace Mine
section
variable {K:Type} [DecidableEq K]
theorem stored_same {k:K} {x y:Value} {r:List (K × Value)} (h:(((k,x)::r).map (·.1)).Nodup):stored ((k,x)::r) k y = (k,y)::r:=by
 rw [List.map_cons,List.nodup_cons] at h
 have e:r.map (fun kv=>if kv.1 = k then (kv.1,y) else kv) = r:=by
  have:∀ p∈r,(fun kv:K × Value=>if kv.1 = k then (kv.1,y) else kv) p = id p:=fun p hp=>by
   have:p.1≠k:=fun q=>h.1 (by
    show k∈r.map (·.1)
    rw [← q]; exact List.mem_map_of_mem hp)
   simp [this]
  rw [List.map_congr_left this,List.map_id]
 simp [stored,e]
theorem stored_other {a k:K} {x y:Value} {r:List (K × Value)} (h:a≠k):stored ((a,x)::r) k y = (a,x)::stored r k y:=by
 by_cases e:r.any (fun kv=>decide (kv.1 = k)) = true
 ·simp only [stored,List.any_cons,h,decide_false,Bool.false_or,e,if_true,List.map_cons,if_false]
 ·simp only [stored,List.any_cons,h,decide_false,Bool.false_or,e,if_false,List.cons_append,Bool.false_eq_true]
theorem valueAt_cons (a k:K) (x:Value) (r:List (K × Value)):valueAt ((a,x)::r) k = if a = k then some x else valueAt r k:=by
 by_cases e:a = k <;> simp [valueAt,e]
end
theorem KVs.iput {w:Wd} {k:Int} {v:V} {x:Value} (hv:VR w v x) {es:List (Int × V)} {en:List (Int × Value)} (h:KVs w es en) (hn:(en.map (·.1)).Nodup):KVs w (Mine.iput k v es) (stored en k x):=by
 induction h with
 | nil=>exact .cons hv .nil
 | @cons a u y r er b t ih =>
  have e:Mine.iput k v ((a,u)::r) = if a = k then (a,v)::r else (a,u)::Mine.iput k v r:=rfl
  rw [e]
  by_cases q:a = k
  ·subst q; rw [stored_same hn,if_pos rfl]; exact .cons hv t
  ·rw [stored_other q,if_neg q]; exact .cons b (ih (List.nodup_cons.mp hn).2)
theorem KVs.sput {w:Wd} {k:Str} {v:V} {x:Value} (hv:VR w v x) {es:List (Str × V)} {en:List (Str × Value)} (h:KVs w es en) (hn:(en.map (·.1)).Nodup):KVs w (Mine.sput k v es) (stored en k x):=by
 induction h with
 | nil=>exact .cons hv .nil
 | @cons a u y r er b t ih =>
  have e:Mine.sput k v ((a,u)::r) = if sbeq a k then (a,v)::r else (a,u)::Mine.sput k v r:=rfl
  rw [e,sbeq_eq]
  by_cases q:a = k
  ·subst q; rw [stored_same hn,if_pos (decide_eq_true rfl)]; exact .cons hv t
  ·rw [stored_other q,if_neg (fun z=>q (of_decide_eq_true z))]; exact .cons b (ih (List.nodup_cons.mp hn).2)
theorem KVs.iget {w:Wd} {k:Int} {es:List (Int × V)} {en:List (Int × Value)} (h:KVs w es en) :
  (Mine.iget k es = none→valueAt en k = none)∧∀ v,Mine.iget k es = some v→∃ x,valueAt en k = some x∧VR w v x:=by
 induction h with
 | nil=>exact ⟨fun _=>rfl,fun _ h=>by cases h⟩
 | @cons a u y r er b t ih =>
  have e:Mine.iget k ((a,u)::r) = if a = k then some u else Mine.iget k r:=rfl
  rw [valueAt_cons,e]
  by_cases e:a = k
  ·rw [if_pos e,if_pos e]
   exact ⟨(fun h=>by cases h),(fun v h=>by cases h; exact ⟨_,rfl,b⟩)⟩
  ·rw [if_neg e,if_neg e]; exact ih
theorem KVs.sget {w:Wd} {k:Str} {es:List (Str × V)} {en:List (Str × Value)} (h:KVs w es en) :
  (Mine.sget k es = none→valueAt en k = none)∧∀ v,Mine.sget k es = some v→∃ x,valueAt en k = some x∧VR w v x:=by
 induction h with
 | nil=>exact ⟨fun _=>rfl,fun _ h=>by cases h⟩
 | @cons a u y r er b t ih =>
  have e:Mine.sget k ((a,u)::r) = if sbeq a k then some u else Mine.sget k r:=rfl
  rw [valueAt_cons,e,sbeq_eq]
  by_cases e:a = k
  ·rw [if_pos e,if_pos (decide_eq_true e)]
   exact ⟨(fun h=>by cases h),(fun v h=>by cases h; exact ⟨_,rfl,b⟩)⟩
  ·rw [if_neg e,if_neg (fun q=>e (of_decide_eq_true q))]; exact ih
section
variable {g:Gd} {w:Wd} {H:AH} {s:Shared} {A:Around}
theorem OK.mkL {l:Nat} {vs:List V} {ws:Array Value} {m:Nat} (a:w.N (w.σ l) = some (listOf ws m)) (b:VRs w vs ws.toList):OK g w l (.list vs):=⟨ws,m,a,b⟩
theorem OK.mkDi {l:Nat} {es:List (Int × V)} {o:Obj} {en:List (Int × Value)} (a:w.N (w.σ l) = some o) (b:o.IsDictOf (intKind g.prog g.wd) en) (c:KVs w es en):OK g w l (.di es):=⟨o,en,a,b,c⟩
theorem OK.mkDs {l:Nat} {es:List (Str × V)} {o:Obj} {en:List (Str × Value)} (a:w.N (w.σ l) = some o) (b:o.IsDictOf (PySem.strKind g.prog g.wd) en) (c:KVs w es en):OK g w l (.ds es):=⟨o,en,a,b,c⟩
theorem isDi (K:Kn g w H s) {l:Nat} {es:List (Int × V)} (h:H.get l = some (.di es)):∃ o en,s.heap.get? (w.σ l) = some o∧o.IsDictOf (intKind g.prog g.wd) en∧KVs w es en∧w.N (w.σ l) = some o :=
 by obtain ⟨o,en,a,b,c⟩:=K.kn l _ h; exact ⟨o,en,(K.nw _ _ a).1,b,c,a⟩
theorem isDs (K:Kn g w H s) {l:Nat} {es:List (Str × V)} (h:H.get l = some (.ds es)):∃ o en,s.heap.get? (w.σ l) = some o∧o.IsDictOf (PySem.strKind g.prog g.wd) en∧KVs w es en∧w.N (w.σ l) = some o :=
 by obtain ⟨o,en,a,b,c⟩:=K.kn l _ h; exact ⟨o,en,(K.nw _ _ a).1,b,c,a⟩
theorem tupItem_ok {vs:List V} {k:Int} {a b:Value} {Q:KV} (K:Kn g w H s) (hx:VR w (.tup vs) a) (hy:VR w (.int k) b) (h:TupAt vs k fun v=>Q v H) :
  wpAny (model g.prog g.wd) A (getItem a b) (PE g w s Q) noE s:=by
 obtain ⟨ws,ad,m,rfl,hT,hs⟩:=hx.tupI
 obtain ⟨t,rfl⟩:=hy.intI
 obtain ⟨h0,h1,v,h2,h3⟩:=TupAt.inv h
 obtain ⟨x,e,hv⟩:=hs.get h2
 have lt:k.toNat < ws.length:=(List.getElem?_eq_some_iff.mp e).1
 refine PyProof.Rows.getItem_tuple (items:=ws.toArray) (j:=k.toNat) ⟨_,isT K hT,rfl,m,rfl⟩ (by lia) (by lia) ?_ (by rw [List.getElem?_toArray]; exact e) (.now' K hv h3)
 have nn:¬ k < 0:=by lia
 have kl:k < (ws.length:Int):=by lia
 simp [seqIndex?,nn,kl,h0]
theorem refItem_ok {x i:V} {a b:Value} {Q:KV} (K:Kn g w H s) (hx:VR w x a) (hy:VR w i b) (h:OpItem H Q x i) :
  wpAny (model g.prog g.wd) A (getItem a b) (PE g w s Q) noE s:=by
 cases h with
 | list h1 h2 h3 h4 h5 =>
  obtain rfl:=hx.refI
  obtain ⟨t,rfl⟩:=hy.intI
  obtain ⟨ws,m,i1,v1,_⟩:=isL K h1
  obtain ⟨x,e,hv⟩:=v1.get h4
  exact wpAny_getItem_list (IsL.list i1) h2 (by lia) (by rw [← Array.getElem?_toList]; exact e) (.now' K hv h5)
 | di h1 h2 h3 =>
  obtain rfl:=hx.refI
  obtain ⟨t,rfl⟩:=hy.intI
  obtain ⟨o,en,ho,hd,hk,_⟩:=isDi K h1
  obtain ⟨x,e,hv⟩:=hk.iget.2 _ h2
  exact wpAny_getItem_of (intKind_is _ _ _ _) (Heap.DictOf.mapOf (Heap.dictOf_iff.mpr ⟨o,ho,hd⟩)) e (.now K hv h3 _)
 | ds h1 h2 h3 =>
  obtain rfl:=hx.refI
  obtain ⟨t,rfl⟩:=hy.strI
  obtain ⟨o,en,ho,hd,hk,_⟩:=isDs K h1
  obtain ⟨x,e,hv⟩:=hk.sget.2 _ h2
  exact wpAny_getItem_of (strKind_is _ _ _ _) (Heap.DictOf.mapOf (Heap.dictOf_iff.mpr ⟨o,ho,hd⟩)) e (.now K hv h3 _)
theorem setL {prog:Program} {wd:World} {E:Value→Shared→Prop} {l:Addr} {items:Array Value} {n:Nat} {k:Int} {t:Tok} {v:Value} {Q:Unit→Shared→Prop} (hl:IsL s.heap l items n) (h0:0≤k) (hf:k < 2 ^ 62)
  (hn:k.toNat < items.size) (h:Q () { s with heap:=s.heap.update l (Obj.mapSeq (·.setIfInBounds k.toNat v)) }) :
  wpAny (model prog wd) A (setItem (.ref l) (.int k t) v) Q E s:=by
 unfold setItem
 try with_reducible refine wpAny_holding ?_
 refine wpAny_bind (wpAny_sequenceKey (IsL.list hl).typeIs (by decide) ?_)
 refine wpAny_bind (wpAny_callSpecial?_slot (name:=Str.ofString "__setitem__") (IsL.list hl).typeIs slot_list_setitem (wpAny_call_entry slot_list_setitem (IsL.list hl).typeIs entry_list_setitem ?_ (args_list_setitem _ _ _)))
 show wpAny _ _ (Builtin.List.listSubscript? (.int k t) >>= _) _ _ s
 refine wpAny_bind (wpAny_listSubscript_int (fitsIndex_of h0 (by lia)) ?_)
 obtain ⟨j,rfl⟩:=Int.eq_ofNat_of_zero_le h0
 have hj:j < items.size:=hn
 show wpAny _ _ ((seqItemAt l j >>= fun r=>pure (r.map (j,·))) >>= _) _ _ s
 refine wpAny_bind (wpAny_bind (wpAny_seqItemAt hl rfl (wpAny_pure ?_)))
 rw [Array.getElem?_eq_getElem hj]
 show wpAny _ _ (setSeqItemAt l j v >>= _) _ _ s
 exact wpAny_bind (wpAny_setSeqItemAt hl rfl (wpAny_pure ⟨.none,rfl,wpAny_pure h⟩))
theorem listC {ws:Array Value} {m:Nat}:(listOf ws m).cls≠.type "tuple":=fun h=>by
 have:(Value.type "list") = Value.type "tuple":=h
 injection this with e
 exact absurd e (by decide)
theorem dictC {K:Type} [DecidableEq K] {prog:Program} {wd:World} {knd:PySem.KeyKind prog wd K} {o:Obj} {en:List (K × Value)} (h:o.IsDictOf knd en):o.cls≠.type "tuple":=fun e=>by
 obtain ⟨es,ep,x,_⟩:=h
 have c:o.cls = .type "dict":=x.1
 rw [e] at c
 injection c with q
 exact absurd q (by decide)
theorem dictN {K:Type} [DecidableEq K] {prog:Program} {wd:World} {knd:PySem.KeyKind prog wd K} {o:Obj} {en:List (K × Value)} (h:o.IsDictOf knd en):(en.map (·.1)).Nodup:=by
 obtain ⟨es,ep,_,_,_,_,q⟩:=h; exact q
theorem opSetItem_ok {x i v:V} {a b c:Value} {Q:AH→Prop} (K:Kn g w H s) (hx:VR w x a) (hy:VR w i b) (hv:VR w v c) (h:opSetItem x i v H Q) :
  wpAny (model g.prog g.wd) A (setItem a b c) (PU g w s Q) noE s:=by
 cases h with
 | @list l k vs h1 h2 h3 h4 h5 =>
  obtain rfl:=hx.refI
  obtain ⟨t,rfl⟩:=hy.intI
  obtain ⟨ws,m,i1,v1,hN⟩:=isL K h1
  refine setL i1 h2 h3 (by rw [← v1.lenA]; exact h4) ?_
  have i2:=IsL.update i1 (·.setIfInBounds k.toNat c)
  have sb:Heap.SameBut (w.σ l) s.heap (s.heap.update (w.σ l) (Obj.mapSeq (·.setIfInBounds k.toNat c))):=Heap.SameBut.update ..
  refine ⟨_,_,Ext.put hN sb i2 s.toks,K.turn h1 rfl rfl hN listC sb i2 s.toks (.mkL (Wd.put_self _ _ _) ?_),h5⟩
  rw [Array.toList_setIfInBounds]
  exact (v1.mono (Wd.put_le _ _ _)).set _ (hv.mono (Wd.put_le _ _ _))
 | di h1 h2 h3 =>
  obtain rfl:=hx.refI
  obtain ⟨t,rfl⟩:=hy.intI
  obtain ⟨o,en,ho,hd,hk,hN⟩:=isDi K h1
  refine wpAny_setItem_pairs (intKind_is _ _ _ _) (Heap.dictOf_iff.mpr ⟨o,ho,hd⟩) (fun h' hd' sb=>?_) (by rw [← hk.length,sizeLine_eq]; lia)
  obtain ⟨o',ho',hd'⟩:=Heap.dictOf_iff.mp hd'
  exact ⟨_,_,Ext.put hN sb ho' _,K.turn h1 rfl rfl hN (dictC hd) sb ho' _ (.mkDi (Wd.put_self _ _ _) hd' ((hk.iput hv (dictN hd)).mono (Wd.put_le _ _ _))),h3⟩
 | ds h1 h2 h3 =>
  obtain rfl:=hx.refI
  obtain ⟨t,rfl⟩:=hy.strI
  obtain ⟨o,en,ho,hd,hk,hN⟩:=isDs K h1
  refine wpAny_setItem_pairs (strKind_is _ _ _ _) (Heap.dictOf_iff.mpr ⟨o,ho,hd⟩) (fun h' hd' sb=>?_) (by rw [← hk.length,sizeLine_eq]; lia)
  obtain ⟨o',ho',hd'⟩:=Heap.dictOf_iff.mp hd'
  exact ⟨_,_,Ext.put hN sb ho' _,K.turn h1 rfl rfl hN (dictC hd) sb ho' _ (.mkDs (Wd.put_self _ _ _) hd' ((hk.sput hv (dictN hd)).mono (Wd.put_le _ _ _))),h3⟩
theorem truthyV_ok {x:V} {a:Value} {Q:KB} (K:Kn g w H s) (hx:VR w x a) (h:truthyV x H Q) :
  wpAny (model g.prog g.wd) A (truthy a) (PB g w s Q) noE s:=by
 obtain ⟨b,rfl,h⟩:=bool1_inv h
 obtain rfl:=hx.boolI
 exact wpAny_truthy_bool (.now K h)
theorem opUn_ok {op:UnaryOp} {x:V} {a:Value} {Q:KV} (K:Kn g w H s) (hx:VR w x a) (h:opUn op x H Q) :
  wpAny (model g.prog g.wd) A (unaryOp op a) (PE g w s Q) noE s:=by
 cases op with
 | USub =>
  obtain ⟨i,rfl,h⟩:=int1_inv (show int1 x _ from h)
  obtain ⟨t,rfl⟩:=hx.intI
  exact neg_int (.now K (.int _ _) h _)
 | Not =>
  obtain ⟨b,rfl,h⟩:=bool1_inv (show bool1 x _ from h)
  obtain rfl:=hx.boolI
  show wpAny _ _ (do return Value.bool !(← truthy _)) _ _ _
  exact wpAny_bind (wpAny_truthy_bool (wpAny_pure (.now' K (.bool _) h)))
 | _=>exact (h:False).elim
end
end Mine
end
section
open PySem PySem.W PyProof.Rows
namespace Mine
section
variable {g:Gd} {w:Wd} {H:AH} {s:Shared} {A:Around}
theorem allInts_cons {v:V} {vs:List V} {ns:List Int} (h:allInts (v::vs) = some ns):∃ i c,v = .int i∧allInts vs = some c∧ns = i::c:=by
 obtain ⟨i,h1,h⟩:=Option.bind_eq_some_iff.mp h
 obtain ⟨c,hc,h⟩:=Option.map_eq_some_iff.mp h
 exact ⟨i,c,getI_inv h1,hc,h.symm⟩
theorem allInts_items {vs:List V} {ws:List Value} (r:VRs w vs ws):∀ {ns:List Int},allInts vs = some ns→∃ xs:List (Int × Tok),ws = xs.map (fun p=>Value.int p.1 p.2)∧ns = xs.map (·.1) :=
 r.ind (P:=fun vs ws=>∀ {ns:List Int},allInts vs = some ns→∃ xs:List (Int × Tok),ws = xs.map (fun p=>Value.int p.1 p.2)∧ns = xs.map (·.1))
  (fun {ns} h=>by cases (show some [] = some ns from h); exact ⟨[],rfl,rfl⟩) fun {v x vs ws} a _ ih {ns} h=>by
   obtain ⟨i,c,rfl,hc,rfl⟩:=allInts_cons h
   obtain ⟨t,rfl⟩:=a.intI
   obtain ⟨xs,rfl,rfl⟩:=ih hc
   exact ⟨(i,t)::xs,rfl,rfl⟩
theorem allInts_pairs {vs:List V} {ws:Array Value} {ns:List Int} (h:VRs w vs ws.toList) (hi:allInts vs = some ns):∃ xs:Array (Int × Tok),ws = intItems xs∧ns = xs.toList.map (·.1):=by
 obtain ⟨xs,e1,e2⟩:=allInts_items h hi
 refine ⟨xs.toArray,?_,by simpa using e2⟩
 apply Array.toList_inj.mp
 rw [e1]; simp [intItems]
theorem slicePick_upto (items:Array Value) (k:Int) (h0:0≤k):slicePick items none (some k) none = (items.toList.take k.toNat).toArray:=by
 obtain ⟨n,rfl⟩:=Int.eq_ofNat_of_zero_le h0
 exact slicePick_upto' items n
theorem subscripted_ops (slice:Expr) (o i:Value):∃ ops,subscripted slice false o i = operate ops (getItem o i):=by
 cases slice with
 | Slice _ _ c _=>cases c <;> exact ⟨_,rfl⟩
 | _=>exact ⟨_,rfl⟩
theorem subTail {prog:Program} {wd:World} {E:Value→Shared→Prop} {value slice:Expr} {o i:Value} {T id:String} {Q:Value→Shared→Prop} (hT:s.TypeIs o T)
  (hl:typeLookup (.type T) "__getitem__" = pure (some (.builtin id))) (h:wpAny (model prog wd) A (getItem o i) Q E s) :
  wpAny (model prog wd) A (subscriptTail value slice o i) Q E s:=by
 unfold subscriptTail
 refine wpAny_bind ?_
 rw [getitemInPython_of_ne hT.not_modules]
 refine wpAny_bind (wpAny_specialOf hT hl ?_)
 have fin:wpAny (model prog wd) A (subscripted slice false o i) (fun r s₃=>wpAny (model prog wd) A (letTemporaryGo value o r >>= fun _=>pure r) Q E s₃) E s:=by
  obtain ⟨ops,hs⟩:=subscripted_ops slice o i
  rw [hs]
  exact wpAny_operating (wpAny_mono h (fun r s₃ h₃=>wpAny_bind (wpAny_letTemporaryGo (wpAny_pure h₃))) fun _ _ x=>x)
 first
  | exact wpAny_pure (wpAny_bind fin)
  | exact wpAny_pure fin
@[elab_as_elim] theorem one_VR {args:List V} {k:V→Prop} {P:List Value→Prop} {vals:List Value} (hx:VRs w args vals) (h:one args k) (f:∀ v x,VR w v x→k v→P [x]):P vals:=by
 obtain ⟨v,rfl,h⟩:=one_inv h
 obtain ⟨x,rfl,a⟩:=hx.one
 exact f v x a h
@[elab_as_elim] theorem onL_VR {x:V} {k:List V→Prop} {P:Value→Prop} {a:Value} (K:Kn g w H s) (hx:VR w x a) (h:onL x H k)
  (f:∀ l vs ws m,IsL s.heap (w.σ l) ws m→VRs w vs ws.toList→vs.length = ws.size→vs.length≤1000→k vs→P (.ref (w.σ l))):P a:=by
 obtain ⟨l,vs,rfl,h1,h2,h3⟩:=onL_inv h
 obtain rfl:=hx.refI
 obtain ⟨ws,m,i1,v1,_⟩:=isL K h1
 exact f l vs ws m i1 v1 v1.lenA h2 h3
@[elab_as_elim] theorem oneL_VR {args:List V} {k:List V→Prop} {P:List Value→Prop} {vals:List Value} (K:Kn g w H s) (hx:VRs w args vals) (h:one args fun x=>onL x H k)
  (f:∀ l vs ws m,IsL s.heap (w.σ l) ws m→VRs w vs ws.toList→vs.length = ws.size→vs.length≤1000→k vs→P [.ref (w.σ l)]):P vals :=
 one_VR hx h fun _ _ a h=>onL_VR (P:=fun x=>P [x]) K a h f
theorem opBltA_ok {T:Tab} {b:B} {args:List V} {vals:List Value} {Q:KV} {d:Nat} (R:Room A d) (K:Kn g w H s) (hx:VRs w args vals) (h:opBlt T b args H Q)
  (hd:b≠.dict∧b≠.bytes∧b≠.sorted) :
  wpAny (model g.prog g.wd) A (call b.val vals) (PE g w s Q) noE s:=by
 cases b with
 | int =>
  refine one_VR hx h fun x y a h=>?_
  cases x <;> first | exact (h:False).elim | skip
  ·obtain rfl:=a.boolI; exact call_int_bool (.now K (.int _ _) h _)
  ·obtain ⟨t,rfl⟩:=a.intI; exact call_int_int (.now' K (.int _ _) h)
 | abs =>
  refine one_VR hx h fun x y a h=>?_
  obtain ⟨i,rfl,h⟩:=int1_inv h
  obtain ⟨t,rfl⟩:=a.intI; exact call_abs_int fun _ _=>.now K (.int _ _) h _
 | max =>
  obtain ⟨x,y,rfl,h⟩:=two_inv h
  obtain ⟨x',y',rfl,a,a'⟩:=hx.two
  refine int2_VR (P:=fun x y=>wpAny (model g.prog g.wd) A (call B.max.val [x,y]) (PE g w s Q) noE s) a a' h fun p q _ _ h=>?_
  refine max_two_ints R.hh fun h' tk k=>?_
  by_cases e:q > p
  ·rw [if_pos e] at h; rw [if_pos e]; exact .junk K k ⟨rfl,rfl,rfl⟩ (.int _ _) h
  ·rw [if_neg e] at h; rw [if_neg e]; exact .junk K k ⟨rfl,rfl,rfl⟩ (.int _ _) h
 | len =>
  refine oneL_VR K hx h fun l vs ws m i1 v1 e h2 h3=>?_
  refine PyProof.Rows.len_list (IsL.list i1) (by lia) ?_
  rw [← e]
  exact .now K (.int _ _) h3 _
 | sum =>
  refine oneL_VR K hx h fun l vs ws m i1 v1 e h2 h3=>?_
  obtain ⟨ns,h2,h3⟩:=h3
  obtain ⟨xs,rfl,e2⟩:=allInts_pairs v1 h2
  refine sum_intListG R.hh (IsL.list i1) fun h' tk t' k=>?_
  have e:preSum (numAt xs) xs.size = ns.sum:=by rw [preSum_eq,e2,List.take_of_length_le (by rw [List.length_map]; exact Nat.le_refl _)]
  rw [e]
  exact .junk K k ⟨rfl,rfl,rfl⟩ (.int _ _) h3
 | list =>
  refine one_VR hx h fun x y a h=>?_
  cases e:isTup x with
  | true =>
   rw [e] at h
   cases x <;> first | exact (h:False).elim | skip
   obtain ⟨ws,ad,m,rfl,hT,hs⟩:=a.tupI
   obtain ⟨h2,h3⟩:=h
   refine call_list_seq _ (.inr rfl) (isT K hT) rfl rfl (fun h' c' k ha=>?_) (by rw [List.size_toArray,← hs.length,sizeLine_eq]; lia)
   exact PE.newL K (not_there _) k ha ⟨rfl,rfl,rfl⟩ hs h3
  | false =>
   rw [e] at h
   refine onL_VR (P:=fun y=>wpAny (model g.prog g.wd) A (call B.list.val [y]) (PE g w s Q) noE s) K a h fun l vs ws m i1 v1 e h2 h3=>?_
   refine call_list_seq _ (.inl rfl) i1 rfl rfl (fun h' c' k ha=>?_) (by rw [← e,sizeLine_eq]; lia)
   exact PE.newL K (not_there _) k ha ⟨rfl,rfl,rfl⟩ v1 h3
 | tuple =>
  refine oneL_VR K hx h fun l vs ws m i1 v1 e h2 h3=>?_
  refine call_tuple_list (IsL.list i1) (fun h' k=>?_) (by rw [← e,sizeLine_eq]; lia)
  refine PE.newT (xs:=ws.toList) (m:=0) K ?_ (fun b o q=>Heap.get?_push_of_some _ (k b o q)) ?_ ⟨rfl,rfl,rfl⟩ v1 h3
  ·cases q:s.heap.get? h'.objs.size with
   | none=>rfl
   | some o=>exact absurd (Heap.lt_size (k _ _ q)) (Nat.lt_irrefl _)
  ·exact Heap.get?_push_size _ rfl
 | dict=>exact absurd rfl hd.1
 | bytes=>exact absurd rfl hd.2.1
 | sorted=>exact absurd rfl hd.2.2
 | _=>exact (h:False).elim
noncomputable def ScrF (g:Gd) (T:Tab):Prop:=∀ a vs,T.scr a = some vs→∃ ws,g.B.IsList a ws∧∀ w,VRs w vs ws.toList
set_option tactic.hygienic true in
theorem upto_ok {T:Tab} {value slice:Expr} {x i:V} {a b:Value} {Q:KV} (scr:ScrF g T) (K:Kn g w H s) (hx:VR w x a) (hy:VR w i b) (h:opUpto T x i H Q) :
  wpAny (model g.prog g.wd) A (subscriptTail value slice a (.ref s.heap.objs.size)) (PE g w s Q) noE { s with heap:=s.heap.push { cls:=.type "slice",data:=.fields #[.none,b,.none] } }:=by
 cases i <;> first | exact (h:False).elim | skip
 rename_i k
 obtain ⟨t,rfl⟩:=hy.intI
 have go:∀ (l:Addr) (vs:List V) (ws:Array Value),s.heap.IsList l ws→VRs w vs ws.toList→0≤k→vs.length≤2 ^ 20→Nw Q H (.list (vs.take k.toNat)) →
   wpAny (model g.prog g.wd) A (subscriptTail value slice (.ref l) (.ref s.heap.objs.size)) (PE g w s Q) noE { s with heap:=s.heap.push { cls:=.type "slice",data:=.fields #[.none,.int k t,.none] } }:=fun l vs ws hl v1 h2 h4 h5=>by
  refine subTail (Heap.IsList.typeIs (s:={ s with heap:=s.heap.push { cls:=.type "slice",data:=.fields #[.none,.int k t,.none] } }) (hl.push _)) slot_list_getitem.lookup
   (wpAny_getItem_list_slice (hl.push _) (Heap.IsSliceOf.new ..) .none (.int _ _) .none (by simp) ?_ (by rw [← v1.lenA,sizeLine_eq]; lia))
  rw [slicePick_upto _ _ h2]
  refine PE.newL K ?_ (fun _ _ q=>Heap.get?_push_of_some _ (Heap.get?_push_of_some _ q)) (Heap.get?_push_size _ rfl) ⟨rfl,rfl,rfl⟩ ?_ h5
  ·exact Heap.get?_none_of_le (by rw [Heap.size_push]; exact Nat.le_succ _)
  ·simpa using v1.take _
 cases (show OpUpto T H Q k x from h) with
 | list h1 h2 h4 h5 =>
  obtain rfl:=hx.refI
  obtain ⟨ws,m,i1,v1,_⟩:=isL K h1
  exact go _ _ ws (IsL.list i1) v1 h2 h4 h5
 | scr h1 h2 h4 h5 =>
  obtain rfl:=hx.globI
  obtain ⟨ws,⟨o,hB,hc⟩,hv⟩:=scr _ _ h1
  exact go _ _ ws ⟨o,K.top _ _ hB,hc⟩ (hv w) h2 h4 h5
end
end Mine
end
section
open PySem PySem.W PyProof.Rows
namespace Mine
noncomputable def lookS {α:Type} (x:Str):List (Str × α)→Option α
 | []=>none
 | (y,v)::r=>if sbeq x y then some v else lookS x r
noncomputable def idxS (x:Str):List Str→Option Nat
 | []=>none
 | y::r=>if sbeq x y then some 0 else (idxS x r).map (· + 1)
theorem beqStr (a b:Str):(a == b) = decide (a = b):=by by_cases e:a = b <;> simp [e]
theorem lookS_eq {α:Type} (x:Str):∀ l:List (Str × α),lookS x l = l.lookup x
 | []=>rfl
 | (y,v)::r=>by
  rw [lookS,List.lookup_cons,sbeq_eq,beqStr,lookS_eq x r]
  by_cases e:x = y <;> simp [e]
theorem idxS_get {x:Str}:∀ {l:List Str} {i:Nat},idxS x l = some i→l[i]? = some x
 | [],_,h=>by cases h
 | y::r,i,h=>by
  rw [idxS,sbeq_eq] at h
  by_cases e:x = y
  ·rw [if_pos (by simpa using e)] at h; cases h; simp [e]
  ·rw [if_neg (by simpa using e),Option.map_eq_some_iff] at h
   obtain ⟨j,hj,rfl⟩:=h
   simpa using idxS_get hj
structure Cx where
 names:List (Str × NameKind)
 vars:List Str
structure Un where
 gl:List (Str × V)
 ats:List Str
 cls:List (Addr × List (Nat × Addr))
noncomputable def lookA {α:Type} (a:Nat):List (Nat × α)→Option α
 | []=>none
 | (b,v)::r=>if Nat.beq a b then some v else lookA a r
noncomputable def sDebug:Str:=⟨#[95,95,100,101,98,117,103,95,95]⟩
noncomputable def sClassdict:Str:=⟨#[95,95,99,108,97,115,115,100,105,99,116,95,95]⟩
noncomputable def kindS (cx:Cx) (x:Str):Option NameKind:=lookS x cx.names
noncomputable def isVarK:Option NameKind→Bool
 | some .local | some .cell | some .free=>true
 | _=>false
noncomputable def cName (u:Un) (cx:Cx) (x:Str):X :=
 if sbeq x sDebug || sbeq x sClassdict then .bad else
 match idxS x cx.vars with
 | some i=>if isVarK (kindS cx x) then .var i else .bad
 | none=>match kindS cx x with
  | some .globalImplicit=>(match lookS x u.gl with | some v=>.lit v | none=>.bad)
  | _=>.bad
noncomputable def cConst:Const→X
 | .none=>.lit .none
 | .bool b=>.lit (.bool b)
 | .int i=>.lit (.int i)
 | .str s=>.lit (.str s)
 | _=>.bad
noncomputable def cB (f:X→X→X) (c:Expr→X):List Expr→X
 | []=>.bad
 | [a]=>c a
 | a::r=>f (c a) (cB f c r)
noncomputable def cCmp (c:Expr→X) (l:Expr):List CmpOp→List Expr→X
 | [op],[r]=>if behindInMarks op r then .bad else .cmp op (c l) (c r)
 | [o,p],[r,q]=>if lastMarks [o,p] [r,q] then .bad else .chain o p (c l) (c r) (c q)
 | _,_=>.bad
noncomputable def cSub (c:Expr→X) (a:Expr):Expr→X
 | .Slice none (some hi) none _=>.upto (c a) (c hi)
 | .Slice ..=>.bad
 | i=>.item (c a) (c i)
noncomputable def isCall:Expr→Bool
 | .Call ..=>true
 | _=>false
noncomputable def cAttr (u:Un) (c:Expr→X) (a:Expr) (x:Str):X :=
 if isCall a then .bad else
 match idxS x u.ats with
 | some i=>.attr (c a) i
 | none=>.bad
noncomputable def cMethA (u:Un) (c:Expr→X) (a:Expr) (x:Str) (args:List Expr):X :=
 if isCall a || !Nat.ble args.length 20 then .bad else
 match idxS x u.ats with
 | some i=>(match c a with
  | .lit (.glob C)=>(match lookA C u.cls with
   | some l=>(match lookA i l with | some f=>.call (.glob f) (args.map c) | none=>.bad)
   | none=>.bad)
  | y=>.meth y i (args.map c))
 | none=>.bad
set_option backward.match.sparseCases true in
noncomputable def isStar:Expr→Bool
 | .Starred ..=>true
 | _=>false
noncomputable def cCall (u:Un) (c:Expr→X) (f:Expr) (args:List Expr) (pos:Pos):X :=
 if args.any isStar then .bad else
 match f with
 | .Attribute a x apos=>if Nat.beq apos.endLine pos.line then cMethA u c a x args else .bad
 | f=>(match c f with | .lit v=>.call v (args.map c) | _=>.bad)
noncomputable def memS (x:Str):List Str→Bool
 | []=>false
 | y::r=>sbeq x y || memS x r
noncomputable def nodupS:List Str→Bool
 | []=>true
 | x::r=>!memS x r && nodupS r
noncomputable def keyStrs:List (Option Expr)→Option (List Str)
 | []=>some []
 | some (.Constant (.str s) _ _)::r=>(keyStrs r).map (s::·)
 | _=>none
noncomputable def cDict (c:Expr→X) (ks:List (Option Expr)) (vs:List Expr):X :=
 match keyStrs ks with
 | some l=>if Nat.ble l.length 15 && Nat.beq l.length vs.length && nodupS l then .dict l (vs.map c) else .bad
 | none=>.bad
noncomputable def nkB:NameKind→Nat
 | .local=>0 | .cell=>1 | .free=>2 | .globalExplicit=>3 | .globalImplicit=>4
noncomputable def isFree (k:NameKind):Bool:=Nat.beq (nkB k) 2
noncomputable def isCell (k:NameKind):Bool:=Nat.beq (nkB k) 1
noncomputable def isLocal (k:NameKind):Bool:=Nat.beq (nkB k) 0
noncomputable def relS (cx:Cx):List (Str × NameKind)→List (Str × NameKind)
 | []=>[]
 | (n,k)::r=>(n,if isFree k then (match kindS cx n with | some .cell=>.cell | _=>k) else k)::relS cx r
noncomputable def capsOf:List (Str × NameKind)→List Str
 | []=>[]
 | (n,k)::r=>if isFree k then n::capsOf r else capsOf r
noncomputable def isLocO:Option NameKind→Bool
 | some .local=>true
 | _=>false
noncomputable def sDot0:Str:=⟨#[46,48]⟩
noncomputable def compNames (cx:Cx) (t:Str) (all:List (Str × NameKind)):List (Str × NameKind)→Bool
 | []=>true
 | (n,k)::r=>(match k with
  | .local=>(sbeq n t || sbeq n sDot0) && isLocO (lookS n all)
  | .cell=>false
  | .free=>(match kindS cx n with | some .cell | some .free=>true | _=>false)
  | _=>true) && compNames cx t all r
noncomputable def isFun:ScopeKind→Bool
 | .function=>true
 | _=>false
noncomputable def cCnd (c:Expr→X):List Expr→X
 | []=>.lit (.bool true)
 | [e]=>c e
 | _=>.bad
noncomputable def isSet:Expr→Bool
 | .Set ..=>true
 | _=>false
noncomputable def cSrc (c:Expr→X) (e:Expr):Nat × X :=
 if isSet e then (0,.bad) else
 match e with
 | .Call (.Name x p) [a] [] pos=>if isStar a then (0,.bad) else (match c (.Name x p) with
  | .lit (.bf .range)=>(1,c a)
  | .lit (.bf .enum)=>(2,c a)
  | _=>(0,c (.Call (.Name x p) [a] [] pos)))
 | e=>(0,c e)
noncomputable def compOK (cx:Cx) (t:Str) (scope:Scope):Bool:=isFun scope.kind && nodupS (t::capsOf scope.names) && compNames cx t scope.names scope.names && isLocO (lookS t scope.names) && !memS sDot0 (capsOf scope.names)
noncomputable def cComp (cx:Cx) (c:Cx→Expr→X) (elt:Expr) (gens:List Comprehension) (scope:Scope):X :=
 match gens with
 | [⟨.Name t _,src,ifs,0⟩] =>
  if compOK cx t scope then
   .comp (c ⟨relS cx scope.names,t::capsOf scope.names⟩ elt) 0 (cSrc (c cx) src).1 (cSrc (c cx) src).2 (cCnd (c ⟨relS cx scope.names,t::capsOf scope.names⟩) ifs) (none::(capsOf scope.names).map fun y=>idxS y cx.vars)
  else .bad
 | _=>.bad
noncomputable def cE (u:Un):Nat→Cx→Expr→X
 | 0,_,_=>.bad
 | n + 1,cx,e=>match e with
  | .Constant c _ _=>cConst c
  | .Name x _=>cName u cx x
  | .BinOp l op r _=>.bin op (cE u n cx l) (cE u n cx r)
  | .UnaryOp op x _=>.un op (cE u n cx x)
  | .BoolOp .And vs _=>cB .and (cE u n cx) vs
  | .BoolOp .Or vs _=>cB .or (cE u n cx) vs
  | .IfExp t a b _=>.ite (cE u n cx t) (cE u n cx a) (cE u n cx b)
  | .Compare l ops rs _=>cCmp (cE u n cx) l ops rs
  | .Attribute a x _=>cAttr u (cE u n cx) a x
  | .Subscript a i _=>cSub (cE u n cx) a i
  | .Call f args [] pos=>cCall u (cE u n cx) f args pos
  | .List es _=>if Nat.ble es.length 1000 then .list (es.map (cE u n cx)) else .bad
  | .Tuple es _ _=>if Nat.ble es.length 1000 then .tup (es.map (cE u n cx)) else .bad
  | .Dict ks vs _=>cDict (cE u n cx) ks vs
  | .ListComp elt gens scope _=>cComp cx (cE u n) elt gens scope
  | _=>.bad
noncomputable def isComp:Expr→Bool
 | .ListComp ..=>true | .SetComp ..=>true | .DictComp ..=>true
 | _=>false
noncomputable def cTg (u:Un) (cx:Cx) (c:Expr→X):Expr→Tg
 | .Name x _=>(match idxS x cx.vars with
  | some i=>(match kindS cx x with | some .local | some .cell=>.var i | _=>.bad)
  | none=>.bad)
 | .Attribute a x _=>(match idxS x u.ats with | some i=>.attr (c a) i | none=>.bad)
 | .Subscript _ (.Slice ..) _=>.bad
 | .Subscript a i _=>.item (c a) (c i)
 | _=>.bad
noncomputable def tgN (cx:Cx) (line:Nat):Expr→Option Str
 | .Name x p=>if kindS cx x == some .local && p.line == line then some x else none
 | _=>none
noncomputable def tgNames (cx:Cx) (line:Nat) (ts:List Expr):List Str:=ts.filterMap (tgN cx line)
noncomputable def headLine:List Expr→Nat
 | []=>0
 | t::_=>t.pos.line
noncomputable def swapQ (cx:Cx) (ts:List Expr):Expr→Nat
 | .Tuple vs _ _ =>
  if !(Nat.beq ts.length 2 || Nat.beq ts.length 3) || !Nat.beq vs.length ts.length then 0 else
  if vs.any isStar then 2 else
  let names:=tgNames cx (headLine ts) ts
  if !Nat.beq names.length ts.length then 0 else
  if !nodupS names then 2 else
  if vs.all (foldedForSure 8) then 0 else
  if vs.all (constantsAlone 8) then 2 else 1
 | _=>0
noncomputable def cAsg1 (value:X):Tg→St
 | .bad=>.bad
 | t=>.asg t value
noncomputable def cAsg (u:Un) (cx:Cx) (c:Expr→X) (value:Expr):Expr→St
 | .Tuple ts _ _=>if ts.any isStar || !Nat.ble ts.length 100 then .bad else match swapQ cx ts value with
  | 0=>.unp (ts.map (cTg u cx c)) (c value)
  | 1=>.unp (ts.map (cTg u cx c)) (c value)
  | _=>.bad
 | .Name x p=>cAsg1 (c value) (cTg u cx c (.Name x p))
 | .Attribute a x p=>cAsg1 (c value) (cTg u cx c (.Attribute a x p))
 | .Subscript a i p=>cAsg1 (c value) (cTg u cx c (.Subscript a i p))
 | _=>.bad
noncomputable def cFor (u:Un) (cx:Cx) (c:Expr→X) (t src:Expr) (b:List St):St :=
 match t with
 | .Name x _=>(match cTg u cx c (.Name x default) with | .var i=>.for1 i (cSrc c src).1 (cSrc c src).2 b | _=>.bad)
 | .Tuple [.Name x _,.Name y _] _ _=>(match cTg u cx c (.Name x default),cTg u cx c (.Name y default) with | .var i,.var j=>.for2 i j (cSrc c src).1 (cSrc c src).2 b | _,_=>.bad)
 | _=>.bad
noncomputable def cS (u:Un) (cx:Cx) (f:Nat):Nat→Stmt→St
 | 0,_=>.bad
 | n + 1,st=>match st with
  | .Expr e _=>if isComp e then .bad else .ex (cE u f cx e)
  | .Pass _=>.pass
  | .Return (some e) _=>.ret (cE u f cx e)
  | .Return none _=>.retN
  | .Assign [t] value _=>cAsg u cx (cE u f cx) value t
  | .If t a b _=>.iff (cE u f cx t) (a.map (cS u cx f n)) (b.map (cS u cx f n))
  | .While t b [] _=>.whil (cE u f cx t) (b.map (cS u cx f n))
  | .For t src b [] _=>cFor u cx (cE u f cx) t src (b.map (cS u cx f n))
  | _=>.bad
end Mine
end
section
open PySem PySem.W PyProof.Rows
namespace Mine
structure Fm (g:Gd) (w:Wd) (env:Env) (cx:Cx) (loc:Loc) (s:Shared):Prop where
 kind:env.scope.kind = .function
 names:env.scope.names = cx.names
 glb:env.globals = mainGlobals
 bi:env.builtins = builtinsNs
 out:w.N env.locals = none∧w.T env.locals = none∧g.B.get? env.locals = none
 cw:∀ x c,env.cells.lookup x = some c→(w.N c = none∧w.T c = none∧g.B.get? c = none)∧c≠env.locals∧s.heap.get? c≠none
 cd:∀ x y c,env.cells.lookup x = some c→env.cells.lookup y = some c→x = y
 cv:∀ x,(kindS cx x = some .cell∨kindS cx x = some .free)→∃ c v₀,env.cells.lookup x = some c∧s.heap.IsCell c v₀∧∀ (i:Nat) (v:V),cx.vars[i]? = some x→loc[i]? = some (some v)→∃ val,v₀ = some val∧VR w v val
 lv:∃ m,s.heap.Ns env.locals m∧∀ (i:Nat) (x:Str) (v:V),cx.vars[i]? = some x→kindS cx x = some .local→loc[i]? = some (some v)→∃ val,m x = some val∧VR w v val
 vn:cx.vars.Nodup
noncomputable def Own (env:Env) (a:Addr):Prop:=a = env.locals∨∃ x,env.cells.lookup x = some a
noncomputable def StoreAt (cx:Cx) (env:Env) (x:Str) (a:Addr):Prop:=(kindS cx x = some .local∧a = env.locals)∨(kindS cx x = some .cell∧env.cells.lookup x = some a)
theorem StoreAt.own {cx:Cx} {env:Env} {x:Str} {a:Addr} (h:StoreAt cx env x a):Own env a:=by
 rcases h with ⟨_,h⟩ | ⟨_,h⟩
 ·exact .inl h
 ·exact .inr ⟨x,h⟩
theorem Ns.there {h:Heap} {L:Addr} {m:Str→Option Value} (n:h.Ns L m):h.get? L≠none:=by
 obtain ⟨o,_,_,e,_⟩:=n; rw [e]; exact Option.some_ne_none _
theorem Cell.there {h:Heap} {c:Addr} {v:Option Value} (n:h.IsCell c v):h.get? c≠none:=by
 obtain ⟨o,e,_⟩:=n; rw [e]; exact Option.some_ne_none _
section
variable {g:Gd} {w w':Wd} {H:AH} {s s':Shared} {A:Around} {env:Env} {cx:Cx} {loc:Loc} {X:Addr→Prop}
theorem Fm.thereL (F:Fm g w env cx loc s):s.heap.get? env.locals≠none:=by obtain ⟨_,n,_⟩:=F.lv; exact Ns.there n
theorem Fm.ext (F:Fm g w env cx loc s) (e:Ext X w s w' s') (hL:¬ X env.locals) (hC:∀ x c,env.cells.lookup x = some c→¬ X c):Fm g w' env cx loc s' where
 kind:=F.kind
 names:=F.names
 glb:=F.glb
 bi:=F.bi
 out:=⟨e.out F.thereL F.out.1,e.outT F.thereL F.out.2.1,F.out.2.2⟩
 cw:=fun x c h=>by obtain ⟨⟨a,b,d⟩,f,t⟩:=F.cw x c h; exact ⟨⟨e.out t a,e.outT t b,d⟩,f,e.there _ t⟩
 cd:=F.cd
 cv:=fun x h=>by
  obtain ⟨c,v₀,hc,⟨o,ho,hd⟩,k⟩:=F.cv x h
  exact ⟨c,v₀,hc,⟨o,e.kept c o ho (F.cw x c hc).1.1 (hC x c hc),hd⟩,fun i v a b=>by obtain ⟨val,p,q⟩:=k i v a b; exact ⟨val,p,q.mono e.le⟩⟩
 lv:=by
  obtain ⟨m,⟨o,es,ep,ho,hr⟩,k⟩:=F.lv
  exact ⟨m,⟨o,es,ep,e.kept _ o ho F.out.1 hL,hr⟩,fun i x v a b c=>by obtain ⟨val,p,q⟩:=k i x v a b c; exact ⟨val,p,q.mono e.le⟩⟩
 vn:=F.vn
theorem Fm.ext0 (F:Fm g w env cx loc s) (e:Ext noX w s w' s'):Fm g w' env cx loc s':=F.ext e (fun h=>h) fun _ _ _ h=>h
theorem setLoc_get {i j:Nat} {v u:V} (h:(setLoc loc i v)[j]? = some (some u)):(j = i∧u = v)∨(j≠i∧loc[j]? = some (some u)):=by
 unfold setLoc at h
 rw [List.getElem?_set] at h
 by_cases e:i = j
 ·rw [if_pos e] at h
  split at h
  ·cases h; exact .inl ⟨e.symm,rfl⟩
  ·cases h
 ·rw [if_neg e] at h; exact .inr ⟨fun q=>e q.symm,h⟩
theorem nodup_idx {l:List Str} (h:l.Nodup) {i j:Nat} {x:Str} (a:l[i]? = some x) (b:l[j]? = some x):i = j:=by
 have hi:i < l.length:=by
  rcases Nat.lt_or_ge i l.length with q | q
  ·exact q
  ·rw [List.getElem?_eq_none q] at a; cases a
 exact (List.getElem?_inj hi h).mp (a.trans b.symm)
theorem storeVar {prog:Program} {wd:World} {x:Str} {i:Nat} {v:V} {val:Value} {Q:Unit→Shared→Prop} (K:Kn g w H s) (F:Fm g w env cx loc s) (hi:cx.vars[i]? = some x)
  (hk:kindS cx x = some .local∨kindS cx x = some .cell) (hv:VR w v val)
  (h:∀ s',Ext (StoreAt cx env x) w s w s'→Kn g w H s'→Fm g w env cx (setLoc loc i v) s'→Q () s'):wpAny (model prog wd) A (storeName env x val) Q noE s:=by
 have hkind:∀ y,env.kindOf y = kindS cx y:=fun y=>by unfold Env.kindOf kindS; rw [lookS_eq,F.names]
 rcases hk with hk | hk
 ·obtain ⟨m,hn,hm⟩:=F.lv
  refine wpAny_storeName_local ((hkind x).trans hk) hn (fun h' hn' hs=>?_) (by rw [F.kind]; rfl)
  have ex:Ext (StoreAt cx env x) w s w { s with heap:=h',toks:=s.toks + 1 } :=
   ⟨Wd.le.refl w,fun b o q _ hx=>(hs.2 b fun e=>hx (.inl ⟨hk,e⟩)).trans q,fun b hb=>by
    by_cases e:b = env.locals
    ·rw [e]; exact Ns.there hn'
    ·show h'.get? b≠none; rw [hs.2 b e]; exact hb,fun _ h=>.inl h,fun _ h=>.inl h,rfl,rfl,rfl,Nat.le_refl _,fun _ _ _ h=>h⟩
  refine h _ ex ?_ ?_
  ·exact K.keep (X:=fun b=>b = env.locals) (fun b o q hx=>(hs.2 b hx).trans q) (fun b e=>e ▸ F.out.2.2) (fun b e=>e ▸ F.out.1) fun b e=>e ▸ F.out.2.1
  ·refine ⟨F.kind,F.names,F.glb,F.bi,F.out,fun y c q=>?_,F.cd,fun y hy=>?_,?_,F.vn⟩
   ·obtain ⟨a,b,t⟩:=F.cw y c q
    exact ⟨a,b,by show h'.get? c≠none; rw [hs.2 c b]; exact t⟩
   ·obtain ⟨c,v₀,hc,⟨o,ho,hd⟩,k⟩:=F.cv y hy
    refine ⟨c,v₀,hc,⟨o,(hs.2 c (F.cw y c hc).2.1).trans ho,hd⟩,fun j u a b=>?_⟩
    rcases setLoc_get b with ⟨rfl,rfl⟩ | ⟨ne,b⟩
    ·rw [hi] at a; cases a
     rw [hk] at hy; rcases hy with q | q <;> cases q
    ·exact k j u a b
   ·refine ⟨_,hn',fun j y u a b c=>?_⟩
    rcases setLoc_get c with ⟨rfl,rfl⟩ | ⟨ne,c⟩
    ·rw [hi] at a; cases a
     exact ⟨val,if_pos rfl,hv⟩
    ·have:y≠x:=fun e=>ne (nodup_idx F.vn a (e ▸ hi))
     obtain ⟨val',p,q⟩:=hm j y u a b c
     exact ⟨val',(if_neg this).trans p,q⟩
 ·obtain ⟨c,v₀,hc,hcell,k⟩:=F.cv x (.inl hk)
  refine wpAny_storeName_cell F.kind ((hkind x).trans hk) hc hcell fun h' hn' hs=>?_
  have out:=F.cw x c hc
  have ex:Ext (StoreAt cx env x) w s w { s with heap:=h' } :=
   ⟨Wd.le.refl w,fun b o q _ hx=>(hs.2 b fun e=>hx (.inr ⟨hk,e ▸ hc⟩)).trans q,fun b hb=>by
    by_cases e:b = c
    ·rw [e]; exact Cell.there hn'
    ·show h'.get? b≠none; rw [hs.2 b e]; exact hb,fun _ h=>.inl h,fun _ h=>.inl h,rfl,rfl,rfl,Nat.le_refl _,fun _ _ _ h=>h⟩
  refine h _ ex ?_ ?_
  ·exact K.keep (X:=fun b=>b = c) (fun b o q hx=>(hs.2 b hx).trans q) (fun b e=>e ▸ out.1.2.2) (fun b e=>e ▸ out.1.1) fun b e=>e ▸ out.1.2.1
  ·refine ⟨F.kind,F.names,F.glb,F.bi,F.out,fun y d q=>?_,F.cd,fun y hy=>?_,?_,F.vn⟩
   ·obtain ⟨a,b,t⟩:=F.cw y d q
    refine ⟨a,b,?_⟩
    by_cases e:d = c
    ·rw [e]; exact Cell.there hn'
    ·show h'.get? d≠none; rw [hs.2 d e]; exact t
   ·obtain ⟨d,w₀,hd,⟨o,ho,hdat⟩,k'⟩:=F.cv y hy
    by_cases e:y = x
    ·subst e
     rw [hc] at hd; cases hd
     refine ⟨c,some val,hc,hn',fun j u a b=>?_⟩
     rcases setLoc_get b with ⟨rfl,rfl⟩ | ⟨ne,b⟩
     ·exact ⟨val,rfl,hv⟩
     ·exact absurd (nodup_idx F.vn a hi) ne
    ·have hdc:d≠c:=fun q=>e (F.cd y x c (q ▸ hd) hc)
     refine ⟨d,w₀,hd,⟨o,(hs.2 d hdc).trans ho,hdat⟩,fun j u a b=>?_⟩
     rcases setLoc_get b with ⟨rfl,rfl⟩ | ⟨ne,b⟩
     ·rw [hi] at a; cases a; exact absurd rfl e
     ·exact k' j u a b
   ·obtain ⟨m,⟨o,es,ep,ho,hr⟩,hm⟩:=F.lv
    refine ⟨m,⟨o,es,ep,(hs.2 _ fun e=>out.2.1 e.symm).trans ho,hr⟩,fun j y u a b d=>?_⟩
    rcases setLoc_get d with ⟨rfl,rfl⟩ | ⟨ne,d⟩
    ·rw [hi] at a; cases a; rw [hk] at b; cases b
    ·exact hm j y u a b d
structure GlobF (g:Gd) (u:Un):Prop where
 ex:∃ mg mb,g.B.Ns mainGlobals mg∧g.B.Ns builtinsNs mb∧∀ x v,lookS x u.gl = some v→∃ val,(∀ w,VR w v val)∧(mg x = some val∨(mg x = none∧mb x = some val))
theorem Ns.top {m:Str→Option Value} {a:Addr} (K:Kn g w H s) (n:g.B.Ns a m):s.heap.Ns a m :=
 by obtain ⟨o,es,ep,ho,hr⟩:=n; exact ⟨o,es,ep,K.top _ _ ho,hr⟩
theorem name_debug {x:Str} (h:(sbeq x sDebug || sbeq x sClassdict) = false):(x == ("__debug__" : Str)) = false∧(x == Str.ofString "__classdict__") = false:=by
 rw [Bool.or_eq_false_iff,sbeq_eq,sbeq_eq] at h
 have a:sDebug = ("__debug__" : Str):=by decide +kernel
 have b:sClassdict = Str.ofString "__classdict__":=by decide +kernel
 rw [a,b] at h
 exact ⟨by rw [beqStr]; exact h.1,by rw [beqStr]; exact h.2⟩
theorem cName_cases {P:Mine.X→Prop} {u:Un} {x:Str} (b:P .bad) (v:∀ i,(sbeq x sDebug || sbeq x sClassdict) = false→idxS x cx.vars = some i→isVarK (kindS cx x) = true→P (.var i))
  (l:∀ v,(sbeq x sDebug || sbeq x sClassdict) = false→kindS cx x = some .globalImplicit→lookS x u.gl = some v→P (.lit v)):P (cName u cx x):=by
 rw [cName]
 cases hd:sbeq x sDebug || sbeq x sClassdict with
 | true=>exact b
 | false =>
  cases hi:idxS x cx.vars with
  | some i=>cases hk:isVarK (kindS cx x) with
   | true=>exact v i hd hi hk
   | false=>exact b
  | none=>cases ek:kindS cx x with
   | none=>exact b
   | some k=>cases k with
    | globalImplicit=>cases hl:lookS x u.gl with
     | none=>exact b
     | some w=>exact l w hd ek hl
    | _=>exact b
theorem name_ok {u:Un} {T:Tab} {S:Spec} {x:Str} {pos:Pos} {Q:KV} (G:GlobF g u) (K:Kn g w H s) (F:Fm g w env cx loc s):vE T S (cName u cx x) loc H Q →
  wpAny (model g.prog g.wd) A (eval (.Name x pos) env) (PE g w s Q) noE s:=by
 have hkind:∀ y,env.kindOf y = kindS cx y:=fun y=>by unfold Env.kindOf kindS; rw [lookS_eq,F.names]
 refine cName_cases (P:=fun X=>vE T S X loc H Q→wpAny (model g.prog g.wd) A (eval (.Name x pos) env) (PE g w s Q) noE s) (fun h=>h.elim) (fun i hd hi hk h=>?_) fun v hd ek hl h=>?_
 ·obtain ⟨v,hv,hq⟩:=GetV.inv h
  have d1:=(name_debug hd).1
  have hi':=idxS_get hi
  cases ek:kindS cx x with
  | none=>rw [ek] at hk; cases hk
  | some k =>
   cases k with
   | «local» =>
    obtain ⟨m,hn,hm⟩:=F.lv
    obtain ⟨val,p,q⟩:=hm i x v hi' ek hv
    exact wpAny_Name (wpAny_loadName_local F.kind ((hkind x).trans ek) hn p (.now' K q hq)) d1
   | cell =>
    obtain ⟨c,v₀,hc,hcell,k⟩:=F.cv x (.inl ek)
    obtain ⟨val,rfl,q⟩:=k i v hi' hv
    exact wpAny_Name (wpAny_loadName_cell F.kind ((hkind x).trans ek) hc hcell (.now' K q hq)) d1
   | free =>
    obtain ⟨c,v₀,hc,hcell,k⟩:=F.cv x (.inr ek)
    obtain ⟨val,rfl,q⟩:=k i v hi' hv
    exact wpAny_Name (wpAny_loadName_free F.kind ((hkind x).trans ek) hc hcell (.now' K q hq) (name_debug hd).2) d1
   | globalExplicit=>rw [ek] at hk; cases hk
   | globalImplicit=>rw [ek] at hk; cases hk
 ·obtain ⟨mg,mb,ng,nb,hx⟩:=G.ex
  obtain ⟨val,hv,hw⟩:=hx x v hl
  have q:PE g w s Q val s:=.now' K (hv w) h
  have d1:=(name_debug hd).1
  have ng':s.heap.Ns env.globals mg:=F.glb ▸ Ns.top K ng
  rcases hw with e | ⟨e1,e2⟩
  ·exact Calls.Name_function_global F.kind ((hkind x).trans ek) (Calls.loadGlobal_global ng' e q) d1
  ·exact Calls.Name_function_global F.kind ((hkind x).trans ek) (Calls.loadGlobal_builtin ng' e1 (F.bi ▸ Ns.top K nb) e2 q) d1
end
end Mine
end
section
open PySem PySem.W PyProof.Rows
namespace Mine
section
variable {g:Gd} {w:Wd} {H:AH} {s s':Shared} {a:Addr}
theorem Kn.adopt (K:Kn g w H s) (hN:w.N a = none) (hT:w.T a = none) (hB:g.B.get? a = none) (k:∀ b o,b≠a→s.heap.get? b = some o→s'.heap.get? b = some o) (o:O) {ob:Obj}
  (ha:s'.heap.get? a = some ob) (hi:isInst o = false) (hok:OK g (w.one a ob) H.next o):Kn g (w.one a ob) (H.alloc o) s':=by
 have hσ:∀ l o',H.get l = some o'→(w.one a ob).σ l = w.σ l:=fun l o' h=>if_neg (Nat.ne_of_lt (K.nn ▸ K.lt l o' h))
 have hn:(w.one a ob).σ H.next = a:=if_pos K.nn.symm
 have σne:∀ l o',H.get l = some o'→w.σ l≠a:=fun l o' h e=>by
  obtain ⟨ob',q,_⟩:=σ_there K h
  rw [e,hN] at q; cases q
 have δne:∀ l C fs,H.get l = some (.inst C fs)→w.δ l≠a:=fun l C fs h e=>by
  obtain ⟨ob',q,_⟩:=δ_there K h
  rw [e,hN] at q; cases q
 have N1:∀ b o',w.N b = some o'→(w.one a ob).N b = some o':=fun b o' h=>by
  show (if b = a then some ob else w.N b) = some o'
  rw [if_neg fun e=>by rw [e,hN] at h; cases h]; exact h
 have split:∀ l o',(H.alloc o).get l = some o'→(l = H.next∧o = o')∨(l≠H.next∧H.get l = some o'):=fun l o' h=>by
  have h':(if l = H.next then some o else H.get l) = some o':=h
  by_cases e:l = H.next
  ·rw [if_pos e] at h'; cases h'; exact .inl ⟨e,rfl⟩
  ·rw [if_neg e] at h'; exact .inr ⟨e,h'⟩
 refine ⟨fun b o' h=>k _ _ (fun e=>by rw [e,hB] at h; cases h) (K.top b o' h),fun b o' h=>?_,fun b o' h=>⟨k _ _ (fun e=>by rw [e] at h; exact absurd (hT.symm.trans h) (by simp)) (K.tw b o' h).1,(K.tw b o' h).2⟩,
  congrArg (· + 1) K.nn,K.mu,fun l o' h=>?_,fun l o' h=>?_,fun l o₁ l' o₂ h h' e=>?_,fun l o₁ l' C fs h h' e=>?_,fun l C fs l' C' fs' h h' e=>?_⟩
 ·have h':(if b = a then some ob else w.N b) = some o':=h
  by_cases e:b = a
  ·rw [if_pos e] at h'; cases h'; rw [e]; exact ⟨ha,hB⟩
  ·rw [if_neg e] at h'; exact ⟨k _ _ e (K.nw b o' h').1,(K.nw b o' h').2⟩
 ·rcases split l o' h with ⟨rfl,rfl⟩ | ⟨_,h⟩
  ·exact Nat.lt_succ_self _
  ·exact Nat.lt_succ_of_lt (K.lt l o' h)
 ·rcases split l o' h with ⟨rfl,rfl⟩ | ⟨_,h⟩
  ·exact hok
  ·exact (K.kn l o' h).mono (Wd.one_le _ _ _) (K.nn ▸ K.lt l o' h) N1 rfl
 ·rcases split l o₁ h with ⟨rfl,_⟩ | ⟨_,h⟩ <;> rcases split l' o₂ h' with ⟨rfl,_⟩ | ⟨_,h'⟩
  ·rfl
  ·rw [hn,hσ _ _ h'] at e; exact absurd e.symm (σne _ _ h')
  ·rw [hn,hσ _ _ h] at e; exact absurd e (σne _ _ h)
  ·rw [hσ _ _ h,hσ _ _ h'] at e; exact K.i1 _ _ _ _ h h' e
 ·rcases split l' _ h' with ⟨rfl,q⟩ | ⟨_,h'⟩
  ·rw [q] at hi; cases hi
  ·rcases split l o₁ h with ⟨rfl,_⟩ | ⟨_,h⟩
   ·rw [hn] at e; exact absurd e.symm (δne _ _ _ h')
   ·rw [hσ _ _ h] at e; exact K.i2 _ _ _ _ _ h h' e
 ·rcases split l _ h with ⟨rfl,q⟩ | ⟨_,h⟩
  ·rw [q] at hi; cases hi
  ·rcases split l' _ h' with ⟨rfl,q⟩ | ⟨_,h'⟩
   ·rw [q] at hi; cases hi
   ·exact K.i3 _ _ _ _ _ _ h h' e
theorem Ext.adopt {w₀:Wd} {s₀:Shared} (hN₀:w₀.N a = none) (hf:s₀.heap.get? a = none) (e:Ext (fun b=>b = a) w₀ s₀ w s) (k:∀ b o,b≠a→s.heap.get? b = some o→s'.heap.get? b = some o) (ob:Obj) (ha:s'.heap.get? a = some ob) (sm:Same s s') :
  Ext noX w₀ s₀ (w.one a ob) s':=by
 refine Ext.less (X:=fun b=>b = a) ⟨e.le.trans (Wd.one_le _ _ _),fun b o q hn hx=>k _ _ hx (e.kept b o q hn hx),fun b q=>?_,fun b q=>?_,e.freshT,sm.gens.trans e.gens,sm.drawn.trans e.drawn,sm.os.trans e.os,e.mu,fun q b o h=>?_⟩ fun b q=>q ▸ hf
 ·by_cases h:b = a
  ·rw [h,ha]; exact Option.some_ne_none _
  ·cases z:s.heap.get? b with
   | none=>exact absurd z (e.there b q)
   | some o=>rw [k b o h z]; exact Option.some_ne_none _
 ·by_cases h:b = a
  ·exact .inr (h ▸ hf)
  ·have q':(if b = a then some ob else w.N b)≠none:=q
   rw [if_neg h] at q'
   exact e.fresh b q'
 ·show (if b = a then some ob else w.N b) = some o
  rw [if_neg fun z=>by rw [z] at h; rw [hN₀] at h; cases h]
  exact e.stay q b o h
theorem VR.adopted (K:Kn g w H s) (a:Addr) (ob:Obj):VR (w.one a ob) (.ref H.next) (.ref a):=VR.newRef K a ob
theorem junk_out {w₀:Wd} {s₀:Shared} (hN:w₀.N a = none) (hT:w₀.T a = none) (ht:s₀.heap.get? a≠none) {X:Addr→Prop} (e:Ext X w₀ s₀ w s):w.N a = none∧w.T a = none :=
 ⟨e.out ht hN,e.outT ht hT⟩
end
end Mine
end
section
open PySem PySem.W PyProof.Rows
namespace Mine
section
variable {g:Gd} {w:Wd} {s:Shared} {A:Around} {M:Model}
theorem seqE {t:Sem Value} {Q:KV} {P:Value→Shared→Prop} (h:wpAny M A t (PE g w s Q) noE s)
  (k:∀ v x w₁ H₁ s₁,Ext noX w s w₁ s₁→Kn g w₁ H₁ s₁→VR w₁ v x→Q v H₁→P x s₁):wpAny M A t P noE s :=
 wpAny_mono h (fun x s₁ z=>by obtain ⟨v,w₁,H₁,e,K,r,q⟩:=z; exact k v x w₁ H₁ s₁ e K r q) fun _ _ x=>x
theorem seqB {t:Sem Bool} {Q:KB} {P:Bool→Shared→Prop} (h:wpAny M A t (PB g w s Q) noE s)
  (k:∀ b w₁ H₁ s₁,Ext noX w s w₁ s₁→Kn g w₁ H₁ s₁→Q b H₁→P b s₁):wpAny M A t P noE s :=
 wpAny_mono h (fun b s₁ z=>by obtain ⟨w₁,H₁,e,K,q⟩:=z; exact k b w₁ H₁ s₁ e K q) fun _ _ x=>x
theorem seqU {t:Sem Unit} {Q:AH→Prop} {P:Unit→Shared→Prop} (h:wpAny M A t (PU g w s Q) noE s)
  (k:∀ w₁ H₁ s₁,Ext noX w s w₁ s₁→Kn g w₁ H₁ s₁→Q H₁→P () s₁):wpAny M A t P noE s :=
 wpAny_mono h (fun _ s₁ z=>by obtain ⟨w₁,H₁,e,K,q⟩:=z; exact k w₁ H₁ s₁ e K q) fun _ _ x=>x
theorem seqL {t:Sem (List Value)} {Q:List V→AH→Prop} {P:List Value→Shared→Prop} (h:wpAny M A t (PL g w s Q) noE s)
  (k:∀ vs xs w₁ H₁ s₁,Ext noX w s w₁ s₁→Kn g w₁ H₁ s₁→VRs w₁ vs xs→Q vs H₁→P xs s₁):wpAny M A t P noE s :=
 wpAny_mono h (fun xs s₁ z=>by obtain ⟨vs,w₁,H₁,e,K,r,q⟩:=z; exact k vs xs w₁ H₁ s₁ e K r q) fun _ _ x=>x
theorem afterE {w₁:Wd} {s₁:Shared} {t:Sem Value} {Q:KV} (e:Ext noX w s w₁ s₁) (h:wpAny M A t (PE g w₁ s₁ Q) noE s₁):wpAny M A t (PE g w s Q) noE s₁ :=
 wpAny_mono h (fun _ _ z=>z.after e) fun _ _ x=>x
theorem afterE' {w₁:Wd} {s₁ s₂:Shared} {t:Sem Value} {Q:KV} (e:Ext noX w s w₁ s₁) (h:wpAny M A t (PE g w₁ s₁ Q) noE s₂):wpAny M A t (PE g w s Q) noE s₂ :=
 wpAny_mono h (fun _ _ z=>z.after e) fun _ _ x=>x
theorem afterB {w₁:Wd} {s₁:Shared} {t:Sem Bool} {Q:KB} (e:Ext noX w s w₁ s₁) (h:wpAny M A t (PB g w₁ s₁ Q) noE s₁):wpAny M A t (PB g w s Q) noE s₁ :=
 wpAny_mono h (fun _ _ z=>z.after e) fun _ _ x=>x
theorem afterU {w₁:Wd} {s₁:Shared} {t:Sem Unit} {Q:AH→Prop} (e:Ext noX w s w₁ s₁) (h:wpAny M A t (PU g w₁ s₁ Q) noE s₁):wpAny M A t (PU g w s Q) noE s₁ :=
 wpAny_mono h (fun _ _ z=>z.after e) fun _ _ x=>x
theorem afterL {w₁:Wd} {s₁:Shared} {t:Sem (List Value)} {Q:List V→AH→Prop} (e:Ext noX w s w₁ s₁) (h:wpAny M A t (PL g w₁ s₁ Q) noE s₁):wpAny M A t (PL g w s Q) noE s₁ :=
 wpAny_mono h (fun _ _ z=>z.after e) fun _ _ x=>x
end
noncomputable def GoodE (g:Gd) (T:Tab) (S:Spec) (d:Nat) (cx:Cx) (c:X) (e:Expr):Prop :=
 ∀ env loc w H s A Q,Room A d→Kn g w H s→Fm g w env cx loc s→vE T S c loc H Q→wpAny (model g.prog g.wd) A (eval e env) (PE g w s Q) noE s
noncomputable def GoodT (g:Gd) (T:Tab) (S:Spec) (d:Nat) (cx:Cx) (c:X) (e:Expr):Prop :=
 ∀ env loc w H s A Q,Room A d→Kn g w H s→Fm g w env cx loc s→vT T S c loc H Q→wpAny (model g.prog g.wd) A (isTrue e env (eval e env)) (PB g w s Q) noE s
structure Good (g:Gd) (T:Tab) (S:Spec) (d:Nat) (c:Cx→Expr→X):Prop where
 e:∀ cx e,GoodE g T S d cx (c cx e) e
 t:∀ cx e,GoodT g T S d cx (c cx e) e
 star:∀ cx e p,c cx (.Starred e p) = .bad
section
variable {g:Gd} {T:Tab} {S:Spec} {d:Nat} {cx:Cx} {c:Cx→Expr→X}
theorem bad_E {e:Expr}:GoodE g T S d cx .bad e:=fun env loc w H s A Q _ _ _ h=>h.elim
theorem bad_T {e:Expr}:GoodT g T S d cx .bad e:=fun env loc w H s A Q _ _ _ h=>h.elim
theorem const_E {k:Const} {n:Nat} {pos:Pos}:GoodE g T S d cx (cConst k) (.Constant k n pos):=fun env loc w H s A Q _ K F h=>by
 cases k with
 | none=>exact wpAny_pure (PE.now' K .none h)
 | bool _=>exact wpAny_pure (PE.now' K (.bool _) h)
 | int _=>exact wpAny_Constant_int (.now K (.int _ _) h _)
 | str _=>exact Calls.Constant_str (.now K (.str _ _) h _)
 | _=>exact (h:False).elim
theorem bin_E (G:Good g T S d c) {l r:Expr} {op:Operator} {pos:Pos}:GoodE g T S d cx (.bin op (c cx l) (c cx r)) (.BinOp l op r pos):=fun env loc w H s A Q R K F h=>by
 refine wpAny_BinOp (seqE (G.e cx l env loc w H s A _ R K F h) fun v x w₁ H₁ s₁ e₁ K₁ r₁ q₁=>?_)
 refine seqE (G.e cx r env loc w₁ H₁ s₁ A _ R K₁ (F.ext0 e₁) q₁) fun u y w₂ H₂ s₂ e₂ K₂ r₂ q₂=>?_
 exact afterE (e₁.trans e₂) (opBin_ok R K₂ (r₁.mono e₂.le) r₂ q₂)
theorem un_E (G:Good g T S d c) {l:Expr} {op:UnaryOp} {pos:Pos}:GoodE g T S d cx (.un op (c cx l)) (.UnaryOp op l pos):=fun env loc w H s A Q R K F h=>by
 refine PyProof.Rows.UnaryOp_ (seqE (G.e cx l env loc w H s A _ R K F h) fun v x w₁ H₁ s₁ e₁ K₁ r₁ q₁=>?_)
 exact afterE e₁ (opUn_ok K₁ r₁ q₁)
theorem and_E (G:Good g T S d c) {pos:Pos}:∀ vs:List Expr,GoodE g T S d cx (cB .and (c cx) vs) (.BoolOp .And vs pos)
 | []=>bad_E
 | [a]=>fun env loc w H s A Q R K F h=>BoolOp_one (G.e cx a env loc w H s A _ R K F h)
 | a::b::r=>fun env loc w H s A Q R K F h=>by
  refine BoolOp_and (seqE (G.e cx a env loc w H s A _ R K F h) fun v x w₁ H₁ s₁ e₁ K₁ r₁ q₁=>?_)
  refine seqB (truthyV_ok K₁ r₁ q₁) fun t w₂ H₂ s₂ e₂ K₂ q₂=>?_
  cases t with
  | true=>exact afterE (e₁.trans e₂) (and_E G (b::r) env loc w₂ H₂ s₂ A _ R K₂ ((F.ext0 e₁).ext0 e₂) q₂)
  | false=>exact ⟨v,w₂,H₂,e₁.trans e₂,K₂,r₁.mono e₂.le,q₂⟩
theorem or_E (G:Good g T S d c) {pos:Pos}:∀ vs:List Expr,GoodE g T S d cx (cB .or (c cx) vs) (.BoolOp .Or vs pos)
 | []=>bad_E
 | [a]=>fun env loc w H s A Q R K F h=>BoolOp_one (G.e cx a env loc w H s A _ R K F h)
 | a::b::r=>fun env loc w H s A Q R K F h=>by
  refine BoolOp_or (seqE (G.e cx a env loc w H s A _ R K F h) fun v x w₁ H₁ s₁ e₁ K₁ r₁ q₁=>?_)
  refine seqB (truthyV_ok K₁ r₁ q₁) fun t w₂ H₂ s₂ e₂ K₂ q₂=>?_
  cases t with
  | false=>exact afterE (e₁.trans e₂) (or_E G (b::r) env loc w₂ H₂ s₂ A _ R K₂ ((F.ext0 e₁).ext0 e₂) q₂)
  | true=>exact ⟨v,w₂,H₂,e₁.trans e₂,K₂,r₁.mono e₂.le,q₂⟩
theorem ite_E (G:Good g T S d c) {t a b:Expr} {pos:Pos}:GoodE g T S d cx (.ite (c cx t) (c cx a) (c cx b)) (.IfExp t a b pos):=fun env loc w H s A Q R K F h=>by
 refine PyProof.Rows.IfExp_ (seqB (G.t cx t env loc w H s A _ R K F h) fun q w₁ H₁ s₁ e₁ K₁ q₁=>?_)
 cases q with
 | true=>exact afterE e₁ (G.e cx a env loc w₁ H₁ s₁ A _ R K₁ (F.ext0 e₁) q₁)
 | false=>exact afterE e₁ (G.e cx b env loc w₁ H₁ s₁ A _ R K₁ (F.ext0 e₁) q₁)
theorem cmp1_E (G:Good g T S d c) {l r:Expr} {pos:Pos} {op:CmpOp}:GoodE g T S d cx (if behindInMarks op r then .bad else .cmp op (c cx l) (c cx r)) (.Compare l [op] [r] pos):=by
 cases hm:behindInMarks op r with
 | true=>exact bad_E
 | false =>
  intro env loc w H s A Q R K F h
  refine wpAny_Compare1 (seqE (G.e cx l env loc w H s A _ R K F h) fun v x w₁ H₁ s₁ e₁ K₁ r₁ q₁=>?_) hm
  refine seqE (G.e cx r env loc w₁ H₁ s₁ A _ R K₁ (F.ext0 e₁) q₁) fun u y w₂ H₂ s₂ e₂ K₂ r₂ q₂=>?_
  exact afterE (e₁.trans e₂) (opCmp_ok R K₂ (r₁.mono e₂.le) r₂ q₂)
theorem cCmp_cases {P:List CmpOp→List Expr→X→Prop} {c:Expr→X} {l:Expr} (b:∀ ops rs,P ops rs .bad) (one:∀ op r,P [op] [r] (if behindInMarks op r then .bad else .cmp op (c l) (c r)))
  (two:∀ o p r q,P [o,p] [r,q] (if lastMarks [o,p] [r,q] then .bad else .chain o p (c l) (c r) (c q))):∀ ops rs,P ops rs (cCmp c l ops rs):=fun ops rs=>by
 cases ops with
 | nil=>exact b _ _
 | cons o ops=>cases ops with
  | nil=>cases rs with
   | nil=>exact b _ _
   | cons r rs=>cases rs with
    | nil=>exact one o r
    | cons _ _=>exact b _ _
  | cons p ops=>cases ops with
   | cons _ _=>exact b _ _
   | nil=>cases rs with
    | nil=>exact b _ _
    | cons r rs=>cases rs with
     | nil=>exact b _ _
     | cons q rs=>cases rs with
      | nil=>exact two o p r q
      | cons _ _=>exact b _ _
theorem cmp_E (G:Good g T S d c) {l:Expr} {pos:Pos} {ops:List CmpOp} {rs:List Expr}:GoodE g T S d cx (cCmp (c cx) l ops rs) (.Compare l ops rs pos) :=
 cCmp_cases (P:=fun ops rs X=>GoodE g T S d cx X (.Compare l ops rs pos)) (fun _ _=>bad_E) (fun _ _=>cmp1_E G)
  (fun o p r q=>by
   cases lastMarks [o,p] [r,q] with
   | true=>exact bad_E
   | false=>exact fun env loc w H s A Q R K F h=>h.elim) ops rs
theorem starEach_cons {e:Expr} {rest:List Expr} {env:Env} (h:isStar e = false):starEach (e::rest) env = (false,eval e env)::starEach rest env:=by
 cases e <;> first | rfl | cases h
theorem isStar_ex {e:Expr} (h:isStar e = true):∃ x p,e = .Starred x p:=by cases e <;> first | exact ⟨_,_,rfl⟩ | cases h
theorem es_ok (G:Good g T S d c) {pos:Pos}:∀ es:List Expr,∀ env loc w H s A Q,Room A d→Kn g w H s→Fm g w env cx loc s→vEs T S (es.map (c cx)) loc H Q →
  wpAny (model g.prog g.wd) A (spliced (backTo pos (starEach es env))) (PL g w s fun vs H=>vs.length = es.length∧Q vs H) noE s
 | [],env,loc,w,H,s,A,Q,_,K,F,h=>by
  exact spliced_none ⟨[],w,H,Ext.refl _ _ _,K,.nil,rfl,h⟩
 | e::r,env,loc,w,H,s,A,Q,R,K,F,h=>by
  replace h:vE T S (c cx e) loc H fun v H=>vEs T S (r.map (c cx)) loc H fun vs H=>Q (v::vs) H:=h
  cases hs:isStar e with
  | true=>obtain ⟨x,p,rfl⟩:=isStar_ex hs; rw [G.star] at h; exact h.elim
  | false =>
   refine spliced_more (seqE (G.e cx e env loc w H s A _ R K F h) fun v x w₁ H₁ s₁ e₁ K₁ r₁ q₁=>?_) (starEach_cons hs)
   refine seqL (es_ok G r env loc w₁ H₁ s₁ A _ R K₁ (F.ext0 e₁) q₁) fun vs xs w₂ H₂ s₂ e₂ K₂ r₂ q₂=>?_
   exact ⟨v::vs,w₂,H₂,e₁.trans e₂,K₂,.cons (r₁.mono e₂.le) r₂,by rw [List.length_cons,List.length_cons,q₂.1],q₂.2⟩
theorem size_ok {n:Nat} {vs:List V} {xs:List Value} {w:Wd} (h:Nat.ble n 1000 = true) (e:vs.length = n) (r:VRs w vs xs):xs.toArray.size≤sizeLine:=by
 have:=Nat.le_of_ble_eq_true h
 rw [List.size_toArray,← r.length,sizeLine_eq]; lia
theorem list_E (G:Good g T S d c) {es:List Expr} {pos:Pos}:GoodE g T S d cx (if Nat.ble es.length 1000 then .list (es.map (c cx)) else .bad) (.List es pos):=by
 split
 ·rename_i hz
  intro env loc w H s A Q R K F h
  refine PyProof.Rows.List_ (seqL (es_ok G es env loc w H s A _ R K F h) fun vs xs w₁ H₁ s₁ e₁ K₁ r₁ q₁=>?_)
  refine wpAny_newObj_type ?_ (size_ok hz q₁.1 r₁)
  refine PE.after e₁ ?_
  exact PE.newL K₁ (not_there _) (fun _ _ q=>Heap.get?_push_of_some _ q) (Heap.get?_push_size _ rfl) ⟨rfl,rfl,rfl⟩ (by simpa using r₁) q₁.2
 ·exact bad_E
theorem tup_E (G:Good g T S d c) {es:List Expr} {pos:Pos} {k:Nat}:GoodE g T S d cx (if Nat.ble es.length 1000 then .tup (es.map (c cx)) else .bad) (.Tuple es k pos):=by
 split
 ·rename_i hz
  intro env loc w H s A Q R K F h
  refine PyProof.Rows.Tuple_ (seqL (es_ok G es env loc w H s A _ R K F h) fun vs xs w₁ H₁ s₁ e₁ K₁ r₁ q₁=>?_)
  refine wpAny_newObj_type ?_ (size_ok hz q₁.1 r₁)
  refine PE.after e₁ ?_
  exact PE.newT K₁ (not_there _) (fun _ _ q=>Heap.get?_push_of_some _ q) (Heap.get?_push_size _ rfl) ⟨rfl,rfl,rfl⟩ r₁ q₁.2
 ·exact bad_E
theorem itemTail_ok {w:Wd} {H:AH} {s:Shared} {A:Around} {value slice:Expr} {x i:V} {a b:Value} {Q:KV} (K:Kn g w H s) (hx:VR w x a) (hy:VR w i b) (h:opItem x i H Q) :
  wpAny (model g.prog g.wd) A (subscriptTail value slice a b) (PE g w s Q) noE s:=by
 have ref:OpItem H Q x i→wpAny (model g.prog g.wd) A (subscriptTail value slice a b) (PE g w s Q) noE s:=fun h=>by
  have h₀:=h
  cases h with
  | list h1 =>
   obtain rfl:=hx.refI
   obtain ⟨ws,m,i1,_⟩:=isL K h1
   exact subTail (T:="list") ⟨_,i1,rfl⟩ slot_list_getitem.lookup (refItem_ok K hx hy h₀)
  | di h1 =>
   obtain rfl:=hx.refI
   obtain ⟨o,en,ho,⟨_,_,q,_⟩,_⟩:=isDi K h1
   exact subTail (T:="dict") ⟨_,ho,q.1⟩ PySem.slot_dict_getitem.lookup (refItem_ok K hx hy h₀)
  | ds h1 =>
   obtain rfl:=hx.refI
   obtain ⟨o,en,ho,⟨_,_,q,_⟩,_⟩:=isDs K h1
   exact subTail (T:="dict") ⟨_,ho,q.1⟩ PySem.slot_dict_getitem.lookup (refItem_ok K hx hy h₀)
 cases x with
 | tup vs =>
  cases i <;> first | exact (h:False).elim | skip
  obtain ⟨ws,ad,m,rfl,hT,hs⟩:=hx.tupI
  exact subTail (T:="tuple") ⟨_,isT K hT,rfl⟩ slot_tuple_getitem.lookup (tupItem_ok K hx hy h)
 | _=>exact ref h
theorem sub_E (SF:ScrF g T) (G:Good g T S d c) {a i:Expr} {pos:Pos}:GoodE g T S d cx (cSub (c cx) a i) (.Subscript a i pos):=by
 have plain:GoodE g T S d cx (.item (c cx a) (c cx i)) (.Subscript a i pos):=by
  intro env loc w H s A Q R K F h
  refine PyProof.Rows.Subscript_ (seqE (G.e cx a env loc w H s A _ R K F h) fun v x w₁ H₁ s₁ e₁ K₁ r₁ q₁=>?_)
  refine seqE (G.e cx i env loc w₁ H₁ s₁ A _ R K₁ (F.ext0 e₁) q₁) fun u y w₂ H₂ s₂ e₂ K₂ r₂ q₂=>?_
  exact afterE (e₁.trans e₂) (itemTail_ok K₂ (r₁.mono e₂.le) r₂ q₂)
 have upto:∀ hi p,GoodE g T S d cx (.upto (c cx a) (c cx hi)) (.Subscript a (.Slice none (some hi) none p) pos):=by
  intro hi p env loc w H s A Q R K F h
  refine PyProof.Rows.Subscript_ (seqE (G.e cx a env loc w H s A _ R K F h) fun v x w₁ H₁ s₁ e₁ K₁ r₁ q₁=>?_)
  refine wpAny_Slice ?_
  rw [evalPart_none,evalPart_some]
  refine wpAny_pure (seqE (G.e cx hi env loc w₁ H₁ s₁ A _ R K₁ (F.ext0 e₁) q₁) fun u y w₂ H₂ s₂ e₂ K₂ r₂ q₂=>?_)
  exact wpAny_pure (afterE' (e₁.trans e₂) (upto_ok SF K₂ (r₁.mono e₂.le) r₂ q₂))
 cases i with
 | Slice lo hi st p=>cases lo <;> cases hi <;> cases st <;> first | exact upto _ _ | exact bad_E
 | _=>exact plain
theorem name_T {u:Un} {x:Str} {pos:Pos} (GF:GlobF g u):GoodT g T S d cx (cName u cx x) (.Name x pos):=fun env loc w H s A Q R K F h=>by
 have h':vE T S (cName u cx x) loc H fun v H=>truthyV v H Q :=
  cName_cases (P:=fun X=>vT T S X loc H Q→vE T S X loc H fun v H=>truthyV v H Q) (fun h=>h.elim) (fun _ _ _ _ h=>h) (fun _ _ _ _ h=>h) h
 refine isTrue_plain (seqE (name_ok GF K F h') fun v x w₁ H₁ s₁ e₁ K₁ r₁ q₁=>?_)
 exact afterB e₁ (truthyV_ok K₁ r₁ q₁)
end
end Mine
end
section
open PySem PySem.W PyProof.Rows
namespace Mine
section
variable {g:Gd} {T:Tab} {S:Spec} {d:Nat} {cx:Cx} {c:Cx→Expr→X}
theorem no_T {x:X} {e:Expr} (h:∀ loc H Q,¬ vT T S x loc H Q):GoodT g T S d cx x e:=fun _ loc _ H _ _ Q _ _ _ q=>absurd q (h loc H Q)
theorem const_T {k:Const} {n:Nat} {pos:Pos}:GoodT g T S d cx (cConst k) (.Constant k n pos):=fun env loc w H s A Q R K F h=>by
 have h':vE T S (cConst k) loc H fun v H=>truthyV v H Q:=by
  cases k <;> first | exact (h:False).elim | exact h
 refine isTrue_plain (seqE (const_E env loc w H s A _ R K F h') fun v x w₁ H₁ s₁ e₁ K₁ r₁ q₁=>?_)
 exact afterB e₁ (truthyV_ok K₁ r₁ q₁)
theorem un_T (G:Good g T S d c) {op:UnaryOp} {l:Expr} {pos:Pos}:GoodT g T S d cx (.un op (c cx l)) (.UnaryOp op l pos):=by
 cases op with
 | Not =>
  intro env loc w H s A Q R K F h
  refine isTrue_not (seqB (G.t cx l env loc w H s A _ R K F h) fun b w₁ H₁ s₁ e₁ K₁ q₁=>?_)
  exact ⟨w₁,H₁,e₁,K₁,q₁⟩
 | _=>exact no_T fun loc H Q h=>h
theorem and_T (G:Good g T S d c) {pos:Pos}:∀ vs:List Expr,∀ env loc w H s A Q,Room A d→Kn g w H s→Fm g w env cx loc s→vT T S (cB .and (c cx) vs) loc H Q→∀ whole,
  wpAny (model g.prog g.wd) A (isTrue (.BoolOp .And vs pos) env whole) (PB g w s Q) noE s
 | [],env,loc,w,H,s,A,Q,R,K,F,h,_=>h.elim
 | [a],env,loc,w,H,s,A,Q,R,K,F,h,whole=>by
  refine isTrue_and (seqB (G.t cx a env loc w H s A _ R K F h) fun b w₁ H₁ s₁ e₁ K₁ q₁=>?_)
  cases b with
  | true=>exact isTrue_and_nil ⟨w₁,H₁,e₁,K₁,q₁⟩
  | false=>exact ⟨w₁,H₁,e₁,K₁,q₁⟩
 | a::b::r,env,loc,w,H,s,A,Q,R,K,F,h,whole=>by
  refine isTrue_and (seqB (G.t cx a env loc w H s A _ R K F h) fun b w₁ H₁ s₁ e₁ K₁ q₁=>?_)
  cases b with
  | true=>exact afterB e₁ (and_T G (b::r) env loc w₁ H₁ s₁ A _ R K₁ (F.ext0 e₁) q₁ whole)
  | false=>exact ⟨w₁,H₁,e₁,K₁,q₁⟩
theorem or_T (G:Good g T S d c) {pos:Pos}:∀ vs:List Expr,∀ env loc w H s A Q,Room A d→Kn g w H s→Fm g w env cx loc s→vT T S (cB .or (c cx) vs) loc H Q→∀ whole,
  wpAny (model g.prog g.wd) A (isTrue (.BoolOp .Or vs pos) env whole) (PB g w s Q) noE s
 | [],env,loc,w,H,s,A,Q,R,K,F,h,_=>h.elim
 | [a],env,loc,w,H,s,A,Q,R,K,F,h,whole=>by
  refine isTrue_or (seqB (G.t cx a env loc w H s A _ R K F h) fun b w₁ H₁ s₁ e₁ K₁ q₁=>?_)
  cases b with
  | false=>exact isTrue_or_nil ⟨w₁,H₁,e₁,K₁,q₁⟩
  | true=>exact ⟨w₁,H₁,e₁,K₁,q₁⟩
 | a::b::r,env,loc,w,H,s,A,Q,R,K,F,h,whole=>by
  refine isTrue_or (seqB (G.t cx a env loc w H s A _ R K F h) fun b w₁ H₁ s₁ e₁ K₁ q₁=>?_)
  cases b with
  | false=>exact afterB e₁ (or_T G (b::r) env loc w₁ H₁ s₁ A _ R K₁ (F.ext0 e₁) q₁ whole)
  | true=>exact ⟨w₁,H₁,e₁,K₁,q₁⟩
theorem ite_T (G:Good g T S d c) {t a b:Expr} {pos:Pos}:GoodT g T S d cx (.ite (c cx t) (c cx a) (c cx b)) (.IfExp t a b pos):=fun env loc w H s A Q R K F h=>by
 refine isTrue_IfExp (seqB (G.t cx t env loc w H s A _ R K F h) fun q w₁ H₁ s₁ e₁ K₁ q₁=>?_)
 cases q with
 | true=>exact afterB e₁ (G.t cx a env loc w₁ H₁ s₁ A _ R K₁ (F.ext0 e₁) q₁)
 | false=>exact afterB e₁ (G.t cx b env loc w₁ H₁ s₁ A _ R K₁ (F.ext0 e₁) q₁)
theorem testChain_link {M:Model} {A:Around} {E:Value→Shared→Prop} {s:Shared} {pos:Pos} {a:Value} {op op':CmpOp} {ops:List CmpOp} {r r':Sem Value} {rs:List (Sem Value)} {Q:Bool→Shared→Prop}
  (h:wpAny M A r (fun b s₁=>wpAny M A (compareOp op a b) (fun c s₂=>wpAny M A (truthy c)
   (fun t s₃=>if t then wpAny M A (testChain pos b (op'::ops) (r'::rs)) Q E s₃ else Q false s₃) E s₂) E s₁) E s) :
  wpAny M A (testChain pos a (op::op'::ops) (r::r'::rs)) Q E s:=by
 show wpAny M A (do
  let rv ← holding [a] r
  standAt pos
  let c ← holding [a,rv] (compareOp op a rv)
  release [a,rv] [c]
  if ← holding [c,rv] (truthy c) then testChain pos rv (op'::ops) (r'::rs) else pure false) Q E s
 refine wpAny_bind (wpAny_holding (wpAny_mono h (fun b s₁ h₁=>wpAny_bind (wpAny_standAt (wpAny_bind (wpAny_holding (wpAny_mono h₁ (fun c s₂ h₂ =>
  wpAny_bind (wpAny_release' (wpAny_bind (wpAny_holding (wpAny_mono h₂ (fun t s₃ h₃=>?_) fun _ _ x=>x))))) fun _ _ x=>x))))) fun _ _ x=>x))
 cases t with
 | false=>exact wpAny_pure h₃
 | true=>exact h₃
theorem testChain_last {M:Model} {A:Around} {E:Value→Shared→Prop} {s:Shared} {pos:Pos} {a:Value} {op:CmpOp} {r:Sem Value} {Q:Bool→Shared→Prop}
  (h:wpAny M A r (fun b s₁=>wpAny M A (compareOp op a b) (fun c s₂=>wpAny M A (truthy c) Q E s₂) E s₁) E s):wpAny M A (testChain pos a [op] [r]) Q E s:=by
 show wpAny M A (do
  let rv ← holding [a] r
  standAt pos
  let c ← operate [a,rv] (compareOp op a rv)
  holding [c] (truthy c)) Q E s
 exact wpAny_bind (wpAny_holding (wpAny_mono h (fun b s₁ h₁=>wpAny_bind (wpAny_standAt (wpAny_bind (wpAny_operate' (wpAny_mono h₁ (fun c s₂ h₂=>wpAny_holding h₂) fun _ _ x=>x))))) fun _ _ x=>x))
theorem cmp_T (G:Good g T S d c) {l:Expr} {pos:Pos} {ops:List CmpOp} {rs:List Expr}:GoodT g T S d cx (cCmp (c cx) l ops rs) (.Compare l ops rs pos):=by
 refine cCmp_cases (P:=fun ops rs X=>GoodT g T S d cx X (.Compare l ops rs pos)) (fun _ _=>bad_T) (fun op r=>?_) (fun o p r q=>?_) ops rs
 ·cases hm:behindInMarks op r with
  | true=>exact bad_T
  | false =>
   intro env loc w H s A Q R K F h
   refine wpAny_isTrue_Compare1 (seqE (G.e cx l env loc w H s A _ R K F h) fun v x w₁ H₁ s₁ e₁ K₁ r₁ q₁=>?_) hm
   refine seqE (G.e cx r env loc w₁ H₁ s₁ A _ R K₁ (F.ext0 e₁) q₁) fun u y w₂ H₂ s₂ e₂ K₂ r₂ q₂=>?_
   refine seqE (opCmp_ok R K₂ (r₁.mono e₂.le) r₂ q₂) fun z c w₃ H₃ s₃ e₃ K₃ r₃ q₃=>?_
   exact afterB ((e₁.trans e₂).trans e₃) (truthyV_ok K₃ r₃ q₃)
 ·cases hm:lastMarks [o,p] [r,q] with
  | true=>exact bad_T
  | false =>
   intro env loc w H s A Q R K F h
   refine isTrue_chain (seqE (G.e cx l env loc w H s A _ R K F h) fun v x w₁ H₁ s₁ e₁ K₁ r₁ q₁=>?_) hm
   refine testChain_link (seqE (G.e cx r env loc w₁ H₁ s₁ A _ R K₁ (F.ext0 e₁) q₁) fun u y w₂ H₂ s₂ e₂ K₂ r₂ q₂=>?_)
   refine seqE (opCmp_ok R K₂ (r₁.mono e₂.le) r₂ q₂) fun z c w₃ H₃ s₃ e₃ K₃ r₃ q₃=>?_
   refine seqB (truthyV_ok K₃ r₃ q₃) fun t w₄ H₄ s₄ e₄ K₄ q₄=>?_
   have e34:=((e₁.trans e₂).trans e₃).trans e₄
   cases t with
   | false=>exact ⟨w₄,H₄,e34,K₄,q₄⟩
   | true =>
    refine testChain_last (seqE (G.e cx q env loc w₄ H₄ s₄ A _ R K₄ (F.ext0 e34) q₄) fun u' y' w₅ H₅ s₅ e₅ K₅ r₅ q₅=>?_)
    refine seqE (opCmp_ok R K₅ (((r₂.mono e₃.le).mono e₄.le).mono e₅.le) r₅ q₅) fun z c w₆ H₆ s₆ e₆ K₆ r₆ q₆=>?_
    exact afterB ((e34.trans e₅).trans e₆) (truthyV_ok K₆ r₆ q₆)
end
end Mine
end
section
open PySem PySem.W PyProof.Rows
namespace Mine
structure CF (K:Frag) (C:Addr):Prop where
 ga:findIn K (.ref C) "__getattribute__" = some (some (.builtin "object.__getattribute__"))
 gt:findIn K (.ref C) "__getattr__" = some none
 sa:findIn K (.ref C) "__setattr__" = some (some (.builtin "object.__setattr__"))
 po:plainOver K C = true
 hd:hasDictIn K C = true
structure PF (g:Gd) (u:Un) (T:Tab) (K:Frag):Prop where
 gl:GlobF g u
 kin:K.In g.B
 mods:g.B.get? sysModules≠none
 names:g.names = u.ats
 nodup:u.ats.Nodup
 plain:∀ C n,T.plain C n = true→CF K C∧∃ x,u.ats[n]? = some x∧findIn K (.ref C) x = some none∧takerIn K C x = some none
 meth:∀ C n f,T.meth C n = some f→CF K C∧keepIn K (.ref f) = true∧∃ x,u.ats[n]? = some x∧findIn K (.ref C) x = some (some (.ref f))∧typeIn K (.ref f) = some (.type "function")
 init:∀ C f,T.init C = some f→makesIn K C = true∧keepIn K (.ref C) = true∧findIn K (.ref C) "__init__" = some (some (.ref f))∧typeIn K (.ref f) = some (.type "function")
 clsa:∀ C l i f,lookA C u.cls = some l→lookA i l = some f→∃ x mc,u.ats[i]? = some x∧keepIn K (.ref f) = true∧specialIn K (.ref C) "__getattribute__" = some (some (.builtin "type.__getattribute__"))∧readsIn K C mc = true∧findCls K (.ref C) mc x = some (.val (.ref f))
 get:u.ats[mGet]? = some ("get" : Str)
 spl:u.ats[mSplit]? = some ("split" : Str)
 scr:ScrF g T
 words:∀ s ws,T.split s = some ws→Txt.words s = ws∧s.length≤sizeLine∧(Builtin.Str.spaceWords s (s.length + 1)).length≤sizeLine
set_option tactic.hygienic true in
theorem handed {w:Wd} {v:V} {x:Value} (h:VR w v x):handedIn x = true:=by
 cases h <;> try rfl
 rename_i b
 cases b <;> decide +kernel
theorem isStr_eq (s:Str) (t:Tok) (x:Str):(Value.str s t).isStr x = decide (s = x):=by
 show (s == x) = _
 rw [beqStr]
theorem natbeq (a b:Nat):Nat.beq a b = decide (a = b):=by
 by_cases e:a = b
 ·rw [decide_eq_true e,e]; exact Nat.beq_refl b
 ·rw [decide_eq_false e]; exact Bool.eq_false_iff.mpr fun q=>e (Nat.eq_of_beq_eq_true q)
theorem names_inj {l:List Str} (h:l.Nodup) {i j:Nat} {x y:Str} (a:l[i]? = some x) (b:l[j]? = some y):(x = y) ↔ (i = j) :=
 ⟨fun e=>by subst e; exact nodup_idx h a b,fun e=>by subst e; rw [a] at b; cases b; rfl⟩
theorem getL_skip {x:Str} {e:DictEntry} {r:List DictEntry} (h:¬ e.key.isStr x = true) (hr:e.refKey = false):getL x (e::r) = getL x r:=by
 unfold getL
 have e1:List.find? (fun y:DictEntry=>y.key.isStr x) (e::r) = List.find? (fun y:DictEntry=>y.key.isStr x) r:=List.find?_cons_of_neg h
 rw [e1,List.any_cons,hr,Bool.false_or]
theorem key_at {names:List Str} (nd:names.Nodup) {i n:Nat} {s x:Str} (hx:names[n]? = some x) (a:names[i]? = some s) (t:Tok):(Value.str s t).isStr x = decide (i = n) :=
 (isStr_eq s t x).trans (decide_eq_decide.mpr (names_inj nd a hx))
theorem FRs.look {P:Params} {names:List Str} {w:Wd} (nd:names.Nodup) {n:Nat} {x:Str} (hx:names[n]? = some x) {fs:List (Nat × V)} {en:List DictEntry} (h:FRs P names w fs en) :
  (∀ v,flook n fs = some v→∃ val,getL x en = some (some val)∧VR w v val)∧(flook n fs = none→getL x en = some none):=by
 induction h with
 | nil=>exact ⟨(fun _ h=>by cases h),fun _=>rfl⟩
 | @cons i s t u vx r er a b c ih =>
  have key:=key_at nd hx a t
  have fl:flook n ((i,u)::r) = if Nat.beq i n then some u else flook n r:=rfl
  rw [fl,natbeq]
  by_cases e:i = n
  ·rw [decide_eq_true e] at key ⊢
   refine ⟨fun v h=>?_,fun h=>by cases h⟩
   cases h
   refine ⟨vx,?_,b⟩
   unfold getL
   rw [List.find?_cons_of_pos (p:=fun y:DictEntry=>y.key.isStr x) key]
  ·rw [decide_eq_false e] at key ⊢
   have sk:=getL_skip (e:=⟨PyData.keyHash P s,.str s t,vx⟩) (r:=er) (ne_true_of_eq_false key) rfl
   rw [sk]
   exact ih
theorem FRs.put {P:Params} {names:List Str} {w:Wd} (nd:names.Nodup) {n:Nat} {x:Str} (hx:names[n]? = some x) {v:V} {val:Value} (hv:VR w v val) (t':Tok) {fs:List (Nat × V)} {en:List DictEntry} (h:FRs P names w fs en) :
  FRs P names w (fput n v fs) (putL x (PyData.keyHash P x) (.str x t') val en):=by
 induction h with
 | nil=>exact .cons hx hv .nil
 | @cons i s t u vx r er a b c ih =>
  have key:=key_at nd hx a t
  have fl:fput n v ((i,u)::r) = if Nat.beq i n then (i,v)::r else (i,u)::fput n v r:=rfl
  rw [fl,natbeq,putL]
  by_cases e:i = n
  ·rw [decide_eq_true e] at key ⊢
   rw [if_pos key]
   exact .cons a hv c
  ·rw [decide_eq_false e] at key ⊢
   rw [if_neg (ne_true_of_eq_false key)]
   exact .cons a b ih
theorem FRs.norefs {P:Params} {names:List Str} {w:Wd} {fs:List (Nat × V)} {en:List DictEntry} (h:FRs P names w fs en):en.any (·.refKey) = false:=by
 induction h with
 | nil=>rfl
 | cons _ _ _ ih=>rw [List.any_cons,ih]; rfl
section
variable {g:Gd} {w:Wd} {H:AH} {s:Shared} {A:Around} {u:Un} {T:Tab} {K:Frag}
theorem KIn (P:PF g u T K) (Kn:Kn g w H s):K.In s.heap:=fun a o h=>Kn.top a o (P.kin a o h)
theorem instAt (Kn:Kn g w H s) {l:Nat} {C:Addr} {fs:List (Nat × V)} (h:H.get l = some (.inst C fs)) :
  ∃ en m,InstAt s.heap (w.σ l) (instObj C (w.δ l)) C (some (dictOf en m))∧FRs g.wd.params g.names w fs en∧w.N (w.δ l) = some (dictOf en m)∧w.N (w.σ l) = some (instObj C (w.δ l)):=by
 obtain ⟨a,en,m,b,c⟩:=Kn.kn l _ h
 exact ⟨en,m,⟨(Kn.nw _ _ a).1,rfl,rfl,(Kn.nw _ _ b).1⟩,c,b,a⟩
theorem attr_ok {x:V} {n:Nat} {nm:Str} {a:Value} {e:Bool} {Q:KV} (P:PF g u T K) (Kn:Kn g w H s) (hx:VR w x a) (hn:u.ats[n]? = some nm) (h:opAttr T x n H Q) :
  wpAny (model g.prog g.wd) A (getAttr a nm e) (PE g w s Q) noE s:=by
 cases h with
 | mk h1 h2 h3 h4 =>
  obtain rfl:=hx.refI
  obtain ⟨cf,nm',hn',f1,f2⟩:=P.plain _ n h2
  cases hn.symm.trans hn'
  obtain ⟨en,m,I,fr,_,_⟩:=instAt Kn h1
  obtain ⟨val,p,q⟩:=(FRs.look (P.names ▸ P.nodup) (P.names ▸ hn) fr).1 _ h3
  exact get_value (KIn P Kn) I cf.ga (findObj_own cf.hd f1 rfl p) (handed q) (.now Kn q h4 _)
theorem setAttr_ok {x:V} {n:Nat} {nm:Str} {a val:Value} {v:V} {Q:AH→Prop} (P:PF g u T K) (Kn:Kn g w H s) (hx:VR w x a) (hv:VR w v val) (hn:u.ats[n]? = some nm) (h:opSetAttr T x n v H Q) :
  wpAny (model g.prog g.wd) A (setAttr a nm val) (PU g w s Q) noE s:=by
 cases h with
 | @mk l C fs h1 h2 h3 h4 =>
  obtain rfl:=hx.refI
  obtain ⟨cf,nm',hn',f1,f2⟩:=P.plain C n h2
  cases hn.symm.trans hn'
  obtain ⟨en,m,I,fr,hN,hS⟩:=instAt Kn h1
  have X:=KIn P Kn
  refine set_plain X I cf.sa ?_
  refine osa_open X I cf.po f2 fun b=>?_
  obtain ⟨cd,hc,hd'⟩:=any_some cf.hd
  have hxx:=I.at_
  have D:=(Kn.nw _ _ hN).1
  refine wpAny_bind (wpAny_pure (wpAny_bind (wpAny_bind (wpAny_loadPart hxx (wpAny_bind (Looks.here (s:={ s with toks:=s.toks + 1 }) (looks_clsIn X hc) ?_))))))
  rw [hd']
  refine wpAny_pure (a:=some (w.δ l)) (wpAny_bind (wpAny_pure (wpAny_bind ?_)))
  unfold nsSet
  refine wpAny_bind (wpAny_bind (wpAny_askSetting (wpAny_pure (wpAny_bind (wpAny_mkText (wpAny_bind (wpAny_loadPart D ?_)))))))
  have c:(!en.toArray.any (·.key.isStr nm) && en.toArray.any (·.refKey)) = false:=by
   rw [← Array.any_toList,← Array.any_toList,List.toList_toArray,fr.norefs,Bool.and_false]
  dsimp only
  rw [aRefKeyMayBeTheName_at,c]
  have fr':=FRs.put (P.names ▸ P.nodup) (P.names ▸ hn) hv (s.toks + 1) fr
  have D':=Heap.get?_update_self (Obj.putName nm (PyData.keyHash g.wd.params nm) (.str nm (s.toks + 1)) val) D (by rw [putName_dict]; rfl)
  rw [putName_dict] at D'
  have sb:Heap.SameBut (w.δ l) s.heap (s.heap.update (w.δ l) (Obj.putName nm (PyData.keyHash g.wd.params nm) (.str nm (s.toks + 1)) val)):=Heap.SameBut.update ..
  have lenput:∀ (es:List DictEntry),(putL nm (PyData.keyHash g.wd.params nm) (.str nm (s.toks + 1)) val es).length≤es.length + 1:=fun es=>by
   induction es with
   | nil=>exact Nat.le_refl _
   | cons e r ih=>rw [putL]; split <;> simp only [List.length_cons] <;> lia
  refine wpAny_updatePart D ?_
  refine wpAny_bind (wpAny_lookBehind D' (pastItsLine_dict (by
   have:=lenput en; have:=fr.length
   rw [List.size_toArray,sizeLine_eq]; lia)) ?_)
  refine wpAny_pure ?_
  refine ⟨_,_,Ext.put hN sb D' _,Kn.turnI h1 hN (fun q=>?_) sb D' _ ⟨?_,_,_,Wd.put_self _ _ _,fr'.mono (Wd.put_le _ _ _)⟩,h4⟩
  ·have q':Value.type "dict" = Value.type "tuple":=q
   injection q' with q''; exact absurd q'' (by decide)
  ·exact (Wd.put_ne (Kn.i2 _ _ _ _ _ h1 h1)).trans hS
end
end Mine
end
section
open PySem PySem.W PyProof.Rows
namespace Mine
theorem memS_eq (x:Str) (l:List Str):memS x l = decide (x∈l):=by
 induction l with
 | nil=>exact (decide_eq_false List.not_mem_nil).symm
 | cons y r ih =>
  show (sbeq x y || memS x r) = _
  rw [sbeq_eq,ih,← Bool.decide_or]
  exact decide_eq_decide.mpr List.mem_cons.symm
theorem nodupS_nodup {l:List Str} (h:nodupS l = true):l.Nodup:=by
 induction l with
 | nil=>exact List.nodup_nil
 | cons x r ih =>
  have h:(!memS x r && nodupS r) = true:=h
  rw [memS_eq,Bool.and_eq_true] at h
  exact List.nodup_cons.mpr ⟨of_decide_eq_false (Bool.not_eq_true' _ ▸ h.1),ih h.2⟩
theorem stored_new {K:Type} [DecidableEq K] {acc:List (K × Value)} {k:K} {v:Value} (h:k ∉ acc.map (·.1)):stored acc k v = acc++[(k,v)]:=by
 have e:(acc.any fun kv=>decide (kv.1 = k)) = false:=by
  rw [List.any_eq_false]
  intro p hp q
  exact h (List.mem_map.mpr ⟨p,hp,by simpa using q⟩)
 simp only [stored,e]
 rfl
theorem merged_new {K:Type} [DecidableEq K] (kvs:List (K × Value)):∀ acc:List (K × Value),((acc++kvs).map (·.1)).Nodup→merged acc kvs = acc++kvs:=by
 induction kvs with
 | nil=>exact fun acc _=>(List.append_nil _).symm
 | cons p r ih =>
  intro acc h
  have nin:p.1 ∉ acc.map (·.1):=fun q=>by
   rw [List.map_append,List.nodup_append] at h
   exact h.2.2 _ q p.1 List.mem_cons_self rfl
  have e:merged acc (p::r) = merged (stored acc p.1 p.2) r:=rfl
  rw [e,stored_new nin,ih _ (by rw [List.append_assoc]; exact h),List.append_assoc]; rfl
theorem keyStrs_cons {k:Option Expr} {ks:List (Option Expr)} {l:List Str} (h:keyStrs (k::ks) = some l):∃ s n p l',k = some (.Constant (.str s) n p)∧keyStrs ks = some l'∧l = s::l':=by
 have no:(none:Option (List Str)) = some l→∃ s n p l',k = some (.Constant (.str s) n p)∧keyStrs ks = some l'∧l = s::l':=fun h=>by cases h
 cases k with
 | none=>exact no h
 | some e=>cases e with
  | Constant c n p=>cases c with
   | str s =>
    obtain ⟨l',a,b⟩:=Option.map_eq_some_iff.mp h
    exact ⟨s,n,p,l',rfl,a,b.symm⟩
   | _=>exact no h
  | _=>exact no h
section
variable {g:Gd} {T:Tab} {S:Spec} {d:Nat} {cx:Cx} {c:Cx→Expr→X}
theorem pairs_ok (G:Good g T S d c) {pos:Pos}:∀ (ks:List (Option Expr)) (vs:List Expr) (l:List Str),keyStrs ks = some l→l.length = vs.length→∀ env loc w H s A Q,Room A d→Kn g w H s→Fm g w env cx loc s →
  vEs T S (vs.map (c cx)) loc H Q→wpAny (model g.prog g.wd) A (evalPairs (pairTrees ks vs env pos))
   (fun ps s'=>∃ us kvs w' H',Ext noX w s w' s'∧Kn g w' H' s'∧Carries (PySem.strKind g.prog g.wd) ps kvs∧KVs w' (l.zip us) kvs∧kvs.map (·.1) = l∧us.length = l.length∧Q us H') noE s:=fun ks=>by
 induction ks with
 | nil =>
  intro vs l hl hz env loc w H s A Q R K F h
  cases hl
  cases vs with
  | cons _ _=>cases hz
  | nil=>exact wpAny_pure ⟨[],[],w,H,Ext.refl _ _ _,K,trivial,.nil,rfl,rfl,h⟩
 | cons k ks ih =>
  intro vs l hl hz env loc w H s A Q R K F h
  obtain ⟨sx,n,p,l',rfl,hl',rfl⟩:=keyStrs_cons hl
  cases vs with
  | nil=>cases hz
  | cons v vs =>
   replace h:vE T S (c cx v) loc H fun v H=>vEs T S (vs.map (c cx)) loc H fun vs H=>Q (v::vs) H:=h
   show wpAny _ A (do
    let kv ← eval (.Constant (.str sx) n p) env
    let vv ← holding [kv] (do let x ← eval v env; standAt pos; pure x)
    return (kv,vv)::(← holding [kv,vv] (evalPairs (pairTrees ks vs env pos)))) _ _ s
   refine wpAny_bind (Calls.Constant_str ?_)
   have K₀:Kn g w H { s with toks:=s.toks + 1 }:=K.all fun _ _ h=>h
   have e₀:Ext noX w s w { s with toks:=s.toks + 1 }:=Ext.all fun _ _ h=>h
   refine wpAny_bind (wpAny_holding (wpAny_bind (seqE (G.e cx v env loc w H _ A _ R K₀ (F.ext0 e₀) h) fun u x w₁ H₁ s₁ e₁ K₁ r₁ q₁=>wpAny_bind (wpAny_standAt (wpAny_pure ?_)))))
   refine wpAny_bind (wpAny_holding (wpAny_mono (ih vs l' hl' (Nat.succ.inj hz) env loc w₁ H₁ s₁ A _ R K₁ ((F.ext0 e₀).ext0 e₁) q₁) (fun ps s₂ z=>?_) fun _ _ x=>x))
   obtain ⟨us,kvs,w₂,H₂,e₂,K₂,cr,kv,km,ul,q₂⟩:=z
   exact wpAny_pure ⟨u::us,(sx,x)::kvs,w₂,H₂,(e₀.trans e₁).trans e₂,K₂,⟨strKind_is _ _ _ _,rfl,cr⟩,.cons (r₁.mono e₂.le) kv,congrArg (sx::·) km,congrArg Nat.succ ul,q₂⟩
theorem keyStrs_some {ks:List (Option Expr)}:∀ {l:List Str},keyStrs ks = some l→ks.all (·.isSome) = true∧ks.length = l.length:=by
 induction ks with
 | nil=>intro l h; cases h; exact ⟨rfl,rfl⟩
 | cons k ks ih =>
  intro l h
  obtain ⟨sx,n,p,l',rfl,hl',rfl⟩:=keyStrs_cons h
  exact ⟨(ih hl').1,congrArg Nat.succ (ih hl').2⟩
theorem dict_E (G:Good g T S d c) {ks:List (Option Expr)} {vs:List Expr} {pos:Pos}:GoodE g T S d cx (cDict (c cx) ks vs) (.Dict ks vs pos):=by
 rw [cDict]
 cases hl:keyStrs ks with
 | none=>exact bad_E
 | some l =>
  show GoodE g T S d cx (if Nat.ble l.length 15 && Nat.beq l.length vs.length && nodupS l then .dict l (vs.map (c cx)) else .bad) _
  cases hc:Nat.ble l.length 15 && Nat.beq l.length vs.length && nodupS l with
  | false=>exact bad_E
  | true =>
   rw [Bool.and_eq_true,Bool.and_eq_true] at hc
   obtain ⟨⟨h15,hlen⟩,hnd⟩:=hc
   have hlen:=Nat.eq_of_beq_eq_true hlen
   have h15:=Nat.le_of_ble_eq_true h15
   have hnd:=nodupS_nodup hnd
   obtain ⟨k1,k2⟩:=keyStrs_some hl
   intro env loc w H s A Q R K F h
   cases l with
   | nil =>
    have hk:ks = []:=List.length_eq_zero_iff.mp (by rw [k2]; rfl)
    have hv:vs = []:=List.length_eq_zero_iff.mp (by rw [← hlen]; rfl)
    subst hk hv
    rw [eval_Dict_empty]
    refine wpAny_bind (wpAny_standAt ?_)
    refine wpAny_newObj_type ?_
    refine ⟨.ref H.next,_,_,Ext.one K (not_there _) (fun _ _ q=>Heap.get?_push_of_some _ q) _ ⟨rfl,rfl,rfl⟩,K.one (not_there _) (fun _ _ q=>Heap.get?_push_of_some _ q) _ (Heap.get?_push_size _ rfl) rfl (OK.newDi K _ ?_ .nil),VR.newRef K _ _,h.h⟩
    exact ⟨#[],0,⟨rfl,rfl,rfl⟩,rfl,fun e he=>absurd he (Array.not_mem_empty e),.nil,List.nodup_nil⟩
   | cons k l =>
    have hne:pairTrees ks vs env pos≠[]:=by
     intro e
     have:=pairTrees_length ks vs env pos k1 (k2.trans hlen)
     rw [e,k2] at this; simp at this
    have hf:=not_there s.heap
    have K₀:Kn g w H { s with heap:=s.heap.push { cls:=.type "dict",data:=.dict #[] } }:=K.all fun _ _ q=>Heap.get?_push_of_some _ q
    have e₀:Ext noX w s w { s with heap:=s.heap.push { cls:=.type "dict",data:=.dict #[] } }:=Ext.all fun _ _ q=>Heap.get?_push_of_some _ q
    have gp:(s.heap.push { cls:=.type "dict",data:=.dict #[] }).get? s.heap.objs.size = some { cls:=.type "dict",data:=.dict #[] }:=Heap.get?_push_size _ rfl
    refine wpAny_Dict_pairs (knd:=PySem.strKind g.prog g.wd) (zip_pairTrees ks vs env pos k1 (k2.trans hlen)) hne (by rw [pairTrees_length ks vs env pos k1 (k2.trans hlen),k2]; exact h15) ?_
    refine wpAny_mono (pairs_ok G ks vs (k::l) hl hlen env loc w H _ A _ R K₀ (F.ext0 e₀) h) (fun ps s₁ z=>?_) fun _ _ x=>x
    obtain ⟨us,kvs,w₁,H₁,e₁,K₁,cr,kv,km,ul,q₁⟩:=z
    have th:({ s with heap:=s.heap.push { cls:=.type "dict",data:=.dict #[] } }:Shared).heap.get? s.heap.objs.size≠none:=by
     show (s.heap.push _).get? _≠none; rw [gp]; exact Option.some_ne_none _
    obtain ⟨jN,jT⟩:=junk_out (N_free K hf) (T_free K hf) th e₁
    refine ⟨kvs,cr,Heap.dictOf_iff.mpr ⟨_,e₁.kept _ _ gp (N_free K hf) (fun x=>x),⟨#[],0,⟨rfl,rfl,rfl⟩,rfl,fun e he=>absurd he (Array.not_mem_empty e),.nil,List.nodup_nil⟩⟩,fun h' hd hs=>?_⟩
    rw [merged_new kvs [] (by rw [List.nil_append,km]; exact hnd),List.nil_append] at hd
    obtain ⟨o,ho,hdo⟩:=Heap.dictOf_iff.mp hd
    refine ⟨.ref H₁.next,_,_,Ext.adopt (s:=s₁) (N_free K hf) hf ((e₀.trans e₁).weak fun _ x=>x.elim) (fun b ob hb q=>(hs.2 b hb).trans q) o ho ⟨rfl,rfl,rfl⟩,
     K₁.adopt jN jT (B_free K hf) (fun b ob hb q=>(hs.2 b hb).trans q) _ ho rfl (OK.newDs K₁ _ hdo kv),VR.newRef K₁ _ _,(show Nw Q H₁ (.ds ((k::l).zip us)) from q₁).h⟩
end
end Mine
end
section
open PySem PySem.W PyProof.Rows
namespace Mine
inductive CallP (g:Gd) (w:Wd) (s:Shared) (Q:KV):Result→Shared→Prop
 | mk {x:Value} {s':Shared} (h:PE g w s Q x s'):CallP g w s Q (.ok (.ret x)) s'
noncomputable def SpecOK (g:Gd) (K:Frag) (S:Spec) (d:Nat):Prop:=∀ a args vals H Q w s A,Room A d→Kn g w H s→VRs w args vals→S a args H Q →
 keepIn K (.ref a) = true∧codeAny (model g.prog g.wd) A (.call (.ref a) ⟨vals,[]⟩) (CallP g w s Q) s
noncomputable def BltOK (g:Gd) (T:Tab) (d:Nat):Prop:=∀ b args vals H Q w s A,Room A d→Kn g w H s→VRs w args vals→opBlt T b args H Q→wpAny (model g.prog g.wd) A (call b.val vals) (PE g w s Q) noE s
theorem any_fst_false {es:List Expr} {env:Env} {pos:Pos}:es.any isStar = false→(backTo pos (starEach es env)).any (·.1) = false:=by
 induction es with
 | nil=>intro _; rfl
 | cons e r ih =>
  intro h
  rw [List.any_cons,Bool.or_eq_false_iff] at h
  rw [starEach_cons h.1]
  show (false || (backTo pos (starEach r env)).any (·.1)) = false
  rw [ih h.2]; rfl
theorem evalArgs_any {M:Model} {A:Around} {E:Value→Shared→Prop} {s:Shared} {f:Value} {es:List Expr} {env:Env} {pos:Pos} {Q:Args→Shared→Prop} (hs:es.any isStar = false)
  (h:wpAny M A (spliced (backTo pos (starEach es env))) (fun vs s₁=>Q ⟨vs,[]⟩ s₁) E s):wpAny M A (evalArgs f true (backTo pos (starEach es env)) []) Q E s:=by
 cases es with
 | nil =>
  unfold evalArgs
  show wpAny M A (spliced [] >>= _) Q E s
  refine wpAny_bind (wpAny_mono h (fun vs s₁ h₁=>wpAny_bind (wpAny_pure (wpAny_holding ?_))) fun _ _ x=>x)
  exact wpAny_bind (wpAny_pure (wpAny_bind (wpAny_pure (wpAny_pure h₁))))
 | cons e r =>
  rw [List.any_cons,Bool.or_eq_false_iff] at hs
  rw [starEach_cons hs.1] at h ⊢
  exact Calls.evalArgs_plain h
section
variable {g:Gd} {T:Tab} {S:Spec} {d:Nat} {cx:Cx} {c:Cx→Expr→X} {u:Un} {K:Frag}
theorem callWith_ok {s:Shared} {A:Around} {P:Value→Shared→Prop} {f:Value} {first:List Value} {es:List Expr} {env:Env} {pos:Pos} (hs:es.any isStar = false)
  (h:wpAny (model g.prog g.wd) A (spliced (backTo pos (starEach es env))) (fun vs s₁=>((∃ i,f = .builtin i)∨(∃ i,f = .type i)∨(K.In s₁.heap∧keepIn K f = true))∧wpAny (model g.prog g.wd) A (call f (first++vs)) P noE s₁) noE s) :
  wpAny (model g.prog g.wd) A (callWith pos f first (backTo pos (starEach es env)) []) P noE s:=by
 have hp:=any_fst_false (env:=env) (pos:=pos) hs
 cases f with
 | builtin i=>exact Calls.callWith_builtin hp (wpAny_mono (evalArgs_any (f:=.builtin i) hs (Q:=fun a s₁=>wpAny (model g.prog g.wd) A (call (.builtin i) (first++a.pos) a.kw) P noE s₁) (wpAny_mono h (fun _ _ z=>z.2) fun _ _ x=>x)) (fun _ _ z=>z) fun _ _ x=>x)
 | type i=>exact PySem.callWith_type hp (wpAny_mono (evalArgs_any (f:=.type i) hs (Q:=fun a s₁=>wpAny (model g.prog g.wd) A (call (.type i) (first++a.pos) a.kw) P noE s₁) (wpAny_mono h (fun _ _ z=>z.2) fun _ _ x=>x)) (fun _ _ z=>z) fun _ _ x=>x)
 | ref a =>
  refine callWith_of (P:=fun h=>K.In h∧keepIn K (.ref a) = true) (by rw [hp]; rfl) (fun h q=>keeps_K q.2 h q.1)
   (evalArgs_any (Q:=fun a' s₁=>(K.In s₁.heap∧keepIn K (.ref a) = true)∧wpAny (model g.prog g.wd) A (call (.ref a) (first++a'.pos) a'.kw) P noE s₁) hs (wpAny_mono h (fun _ _ z=>⟨?_,z.2⟩) fun _ _ x=>x))
  rcases z.1 with ⟨i,e⟩ | ⟨i,e⟩ | e
  ·cases e
  ·cases e
  ·exact e
 | _ =>
  refine callWith_of (P:=fun _=>False) (by rw [hp]; rfl) (fun h q=>q.elim)
   (evalArgs_any (Q:=fun a' s₁=>False∧_) hs (wpAny_mono h (fun _ _ z=>⟨?_,z.2⟩) fun _ _ x=>x))
  rcases z.1 with ⟨i,e⟩ | ⟨i,e⟩ | e
  ·cases e
  ·cases e
  ·exact absurd e.2 (by simp [keepIn])
theorem tc_units (a:Addr) (r:List Value):(Code.builtin "type.__call__" ⟨.ref a::r,[]⟩).cUnits≤12:=by
 show 1 + 3 * Code.frames _≤12
 have:Code.frames (Code.builtin "type.__call__" ⟨.ref a::r,[]⟩)≤1:=by
  have:(Code.builtin "type.__call__" ⟨.ref a::r,[]⟩).frames = 0∨(Code.builtin "type.__call__" ⟨.ref a::r,[]⟩).frames = 1:=by
   first | exact .inl rfl | exact .inr rfl
  lia
 lia
theorem Room.tc {A:Around} (R:Room A (d + 1)) (a:Addr) (r:List Value):Room (A.under (.builtin "type.__call__" ⟨.ref a::r,[]⟩)) d :=
 ⟨R.hh,by have:=R.dep; show A.depth + 1 + 2 * d≤600; lia,by have:=R.un; have:=tc_units a r; show A.units + _ + _≤_; lia⟩
set_option tactic.hygienic true in
theorem call_ok {w:Wd} {H:AH} {s:Shared} {A:Around} {v:V} {f:Value} {args:List V} {vals:List Value} {Q:KV} (P:PF g u T K) (SO:SpecOK g K S d) (BO:BltOK g T d) (R:Room A (d + 1)) (Kn:Kn g w H s) (hf:VR w v f) (hx:VRs w args vals)
  (h:opCall T S v args H Q):((∃ i,f = .builtin i)∨(∃ i,f = .type i)∨(K.In s.heap∧keepIn K f = true))∧wpAny (model g.prog g.wd) A (call f vals) (PE g w s Q) noE s:=by
 cases v <;> first | exact (h:False).elim | skip
 ·rename_i b
  obtain rfl:=hf.bfI
  refine ⟨?_,BO b args vals H Q w s A (R.mono (Nat.le_succ _)) Kn hx h⟩
  cases b <;> first | exact .inl ⟨_,rfl⟩ | exact .inr (.inl ⟨_,rfl⟩)
 ·rename_i a
  obtain rfl:=hf.globI
  replace h:(match T.init a with | some i=>S i (.ref H.next::args) (H.alloc (.inst a [])) fun v H'=>voidV v (Q (.ref H.next) H') | none=>S a args H Q):=h
  cases hi:T.init a with
  | some i =>
   rw [hi] at h
   obtain ⟨m1,m2,m3,m4⟩:=P.init a i hi
   have X:=KIn P Kn
   refine ⟨.inr (.inr ⟨X,m2⟩),wpAny_call ?_⟩
   obtain ⟨hp,gg,dd,tk,os⟩:=s
   refine make_core (makes_of X m1) (looks_findIn X m3) (fun self=>bind_fn X self m4) (.inl rfl) ?_
   have K₁:Mine.Kn g (w.ins hp.objs.size a) (H.alloc (.inst a [])) ⟨(hp.push emptyDict).push (instObj a hp.objs.size),gg,dd,tk,os⟩:=Kn.ins a tk
   have e₁:Ext noX w ⟨hp,gg,dd,tk,os⟩ (w.ins hp.objs.size a) ⟨(hp.push emptyDict).push (instObj a hp.objs.size),gg,dd,tk,os⟩:=Ext.ins Kn a tk
   refine codeAny_mono (SO i _ _ _ _ _ _ _ (R.tc _ _) K₁ (.cons (VR.newIns Kn a) (hx.mono e₁.le)) h).2 fun r s' z=>?_
   cases z with
   | mk z =>
    obtain ⟨v',w',H',e',K',r',q⟩:=z
    obtain ⟨rfl,q2⟩:=voidV.inv q
    obtain rfl:=r'.noneI
    exact ⟨rfl,.ref H.next,w',H',e₁.trans e',K',(VR.newIns Kn a).mono e'.le,q2⟩
  | none =>
   rw [hi] at h
   obtain ⟨k,z⟩:=SO a args vals H Q w s A (R.mono (Nat.le_succ _)) Kn hx h
   refine ⟨.inr (.inr ⟨KIn P Kn,k⟩),wpAny_call (codeAny_mono z fun r s' z=>?_)⟩
   cases z with
   | mk z=>exact z
end
end Mine
end
section
open PySem PySem.W PyProof.Rows
namespace Mine
theorem attrBase {o:Expr} (h:isCall o = false) (attr:Str) (env:Env) (whole:Sem Value):attributeBase o attr env whole = whole:=by
 cases o <;> first | rfl | cases h
theorem eval_Attr {o:Expr} (h:isCall o = false) (attr:Str) (pos:Pos) (env:Env):eval (.Attribute o attr pos) env = (do
  let o' ← eval o env
  standAt pos.atName
  let r ← holding [o'] (getAttr o' attr true)
  letTemporaryGo o o' r
  pure r):=by
 have e:eval (.Attribute o attr pos) env = (do
  let o' ← attributeBase o attr env (eval o env)
  standAt pos.atName
  let r ← holding [o'] (getAttr o' attr true)
  letTemporaryGo o o' r
  pure r):=rfl
 rw [e,attrBase h]
theorem Method_ {M:Model} {A:Around} {E:Value→Shared→Prop} {s:Shared} {o:Expr} {name:Str} {apos pos:Pos} {args:List Expr} {env:Env} {Q:Value→Shared→Prop} (h:isCall o = false) (hs:args.any isStar = false) (hl:args.length < 30)
  (hp:apos.endLine = pos.line)
  (k:wpAny M A (eval o env) (fun ov s₁=>∀ pl,wpAny M A (getMethod ov name pl) (fun fx s₂=>wpAny M A (callWith pos fx.1 fx.2 (backTo pos (starEach args env)) []) Q E s₂) E s₁) E s) :
  wpAny M A (eval (.Call (.Attribute o name apos) args [] pos) env) Q E s:=by
 have e:eval (.Call (.Attribute o name apos) args [] pos) env = (do
  let ov ← attributeBase o name env (eval o env)
  standAt apos.atName
  methodCall o name apos pos env ov (args.length + 0) (backTo pos (starEach args env)) []):=rfl
 rw [e,attrBase h]
 refine wpAny_bind (wpAny_mono k (fun ov s₁ h₁=>wpAny_bind (wpAny_standAt ?_)) fun _ _ x=>x)
 unfold methodCall
 have few:methodCallForm (args.length + 0) (backTo pos (starEach args env)) [] = true:=by
  unfold methodCallForm
  have a:=any_fst_false (env:=env) (pos:=pos) hs
  have b:(backTo pos (starEach args env)).all (fun x=>!x.1) = true:=by
   rw [List.all_eq_true]
   intro x hx
   have:=List.any_eq_false.mp a x hx
   simpa using this
  rw [b]
  simp; omega
 rw [few]
 have mp:methodCallPos true o env apos pos = pure pos:=by
  unfold methodCallPos
  rw [if_pos (by simp [hp])]
 unfold calleeOf
 rw [if_pos rfl,mp]
 refine wpAny_bind (wpAny_holding (wpAny_mono (h₁ _) (fun fx s₂ h₂=>?_) fun _ _ x=>x))
 exact wpAny_bind (wpAny_pure h₂)
section
variable {g:Gd} {T:Tab} {S:Spec} {d:Nat} {cx:Cx} {c:Cx→Expr→X} {u:Un} {K:Frag}
theorem attr_E (P:PF g u T K) (G:Good g T S d c) {a:Expr} {x:Str} {pos:Pos}:GoodE g T S d cx (cAttr u (c cx) a x) (.Attribute a x pos):=by
 rw [cAttr]
 cases hc:isCall a with
 | true=>exact bad_E
 | false =>
  cases hi:idxS x u.ats with
  | none=>exact bad_E
  | some i =>
   intro env loc w H s A Q R Kn F h
   rw [eval_Attr hc]
   refine wpAny_bind (seqE (G.e cx a env loc w H s A _ R Kn F h) fun v y w₁ H₁ s₁ e₁ K₁ r₁ q₁=>wpAny_bind (wpAny_standAt (wpAny_bind (wpAny_holding ?_))))
   refine seqE (attr_ok P K₁ r₁ (idxS_get hi) q₁) fun v' y' w₂ H₂ s₂ e₂ K₂ r₂ q₂=>?_
   exact wpAny_bind (wpAny_letTemporaryGo (wpAny_pure ⟨v',w₂,H₂,e₁.trans e₂,K₂,r₂,q₂⟩))
theorem nameCall_E (P:PF g u T K) (SO:SpecOK g K S d) (BO:BltOK g T d) (G:Good g T S (d + 1) c) {f:Expr} {v:V} {args:List Expr} {pos:Pos} (hc:c cx f = .lit v) (hs:args.any isStar = false) (ha:∀ a x p,f≠.Attribute a x p) :
  GoodE g T S (d + 1) cx (.call v (args.map (c cx))) (.Call f args [] pos):=fun env loc w H s A Q R Kn F h=>by
 have hf:=G.e cx f env loc w H s A (fun v' H'=>v' = v∧H' = H) R Kn F (by rw [hc]; exact ⟨rfl,rfl⟩)
 refine PyProof.Rows.Call_ (seqE hf fun v' y w₁ H₁ s₁ e₁ K₁ r₁ q₁=>?_) (by
  cases f <;> first | rfl | exact absurd rfl (ha _ _ _))
 obtain ⟨rfl,rfl⟩:=q₁
 refine callWith_ok (K:=K) hs (seqL (es_ok G args env loc w₁ H₁ s₁ A _ R K₁ (F.ext0 e₁) h) fun vs xs w₂ H₂ s₂ e₂ K₂ r₂ q₂=>?_)
 have z:=call_ok P SO BO R K₂ (r₁.mono e₂.le) r₂ q₂.2
 exact ⟨z.1,afterE (e₁.trans e₂) z.2⟩
theorem clsCall_E (P:PF g u T K) (SO:SpecOK g K S d) (BO:BltOK g T d) (G:Good g T S (d + 1) c) {a:Expr} {C f:Addr} {l:List (Nat × Addr)} {i:Nat} {x:Str} {args:List Expr} {apos pos:Pos} (hc:c cx a = .lit (.glob C)) (hs:args.any isStar = false)
  (hcall:isCall a = false) (hl:args.length < 30) (hp:apos.endLine = pos.line) (hi:u.ats[i]? = some x) (h1:lookA C u.cls = some l) (h2:lookA i l = some f) :
  GoodE g T S (d + 1) cx (.call (.glob f) (args.map (c cx))) (.Call (.Attribute a x apos) args [] pos):=fun env loc w H s A Q R Kn F h=>by
 have hf:=G.e cx a env loc w H s A (fun v' H'=>v' = .glob C∧H' = H) R Kn F (by rw [hc]; exact ⟨rfl,rfl⟩)
 refine Method_ hcall hs hl hp (seqE hf fun v' y w₁ H₁ s₁ e₁ K₁ r₁ q₁=>fun pl=>?_)
 obtain ⟨rfl,rfl⟩:=q₁
 obtain rfl:=r₁.globI
 obtain ⟨x',mc,hx',kf,g1,g2,g3⟩:=P.clsa C l i f h1 h2
 obtain rfl:x = x':=by rw [hi] at hx'; cases hx'; rfl
 have X:=KIn P K₁
 refine method_cls X g1 (cls_value X g2 g3 rfl ?_)
 have e₁':Ext noX w₁ s₁ w₁ { s₁ with toks:=s₁.toks + 1 }:=Ext.all fun _ _ h=>h
 have K₁':Mine.Kn g w₁ H₁ { s₁ with toks:=s₁.toks + 1 }:=K₁.all fun _ _ h=>h
 refine callWith_ok (K:=K) hs (seqL (es_ok G args env loc w₁ H₁ _ A _ R K₁' ((F.ext0 e₁).ext0 e₁') h) fun vs xs w₂ H₂ s₂ e₂ K₂ r₂ q₂=>?_)
 have z:=call_ok P SO BO R K₂ (VR.glob f) r₂ q₂.2
 exact ⟨z.1,afterE ((e₁.trans e₁').trans e₂) z.2⟩
theorem numbered_VRs {w:Wd}:∀ {l:List (Str × Tok)} {ws:List Str},l.map (·.1) = ws→VRs w (ws.map .str) (strValues l)
 | [],_,h=>by subst h; exact .nil
 | (x,t)::r,_,h=>by subst h; exact .cons (.str x t) (numbered_VRs rfl)
end
end Mine
end
section
open PySem PySem.W PyProof.Rows
namespace Mine
section
variable {g:Gd} {T:Tab} {S:Spec} {d:Nat} {cx:Cx} {c:Cx→Expr→X} {u:Un} {K:Frag}
theorem shadow_none {w:Wd} {n:Nat} {x:Str} {fs:List (Nat × V)} {en:List DictEntry} {m:Nat} (P:PF g u T K) (fr:FRs g.wd.params g.names w fs en) (hx:u.ats[n]? = some x) (h:flook n fs = none):shadowIn (some (dictOf en m)) x = some false:=by
 have p:=(FRs.look (P.names ▸ P.nodup) (P.names ▸ hx) fr).2 h
 show (getL x en).map (·.isSome) = some false
 rw [p]; rfl
theorem mods_ne {w:Wd} {H:AH} {s:Shared} (P:PF g u T K) (Kn:Kn g w H s) {a:Addr} {o:Obj} (h:w.N a = some o):(a == sysModules) = false:=by
 rw [beq_eq_false_iff_ne]
 intro e
 exact P.mods (e ▸ (Kn.nw a o h).2)
theorem getArgs (P:PF g u T K) {w:Wd} {H₀ H:AH} {s:Shared} {A:Around} {l:Nat} {args:List V} {xs:List Value} {Q:KV} (Kn:Kn g w H s) (r:VRs w args xs)
  (hi:∀ C fs,H₀.get l≠some (.inst C fs)) (h:opMeth T S (.ref l) mGet H₀ args H Q):wpAny (model g.prog g.wd) A (call (.builtin "dict.get") (.ref (w.σ l)::xs)) (PE g w s Q) noE s:=by
 cases h with
 | inst h=>exact absurd h (hi _ _)
 | di _ _ g2 g3 =>
  obtain ⟨y1,y2,rfl,a1,a2⟩:=r.two
  obtain ⟨_,rfl⟩:=a1.intI
  obtain ⟨o',en,ho',hdd,kv,hN⟩:=isDi Kn g2
  have dO:=Heap.dictOf_iff.mpr ⟨o',ho',hdd⟩
  refine call_meetsIn PySem.F.slot_dict_get dO.typeIs PySem.F.entry_dict_get (PySem.F.args_dict_get_3 _ _ _) (meets_dict_get_default (PySem.intKind g.prog g.wd) _ (intKind_is _ _ _ _) (mods_ne P Kn hN) _) ⟨_,dO.mapOf,?_⟩
  cases hg:iget _ _ with
  | none =>
   rw [hg] at g3
   rw [kv.iget.1 hg]
   exact .now Kn a2 g3 _
  | some v =>
   rw [hg] at g3
   obtain ⟨x,e,hv⟩:=kv.iget.2 v hg
   rw [e]
   exact .now Kn hv g3 _
 | ds _ _ g2 g3 =>
  obtain ⟨y1,y2,rfl,a1,a2⟩:=r.two
  obtain ⟨_,rfl⟩:=a1.strI
  obtain ⟨o',en,ho',hdd,kv,hN⟩:=isDs Kn g2
  have dO:=Heap.dictOf_iff.mpr ⟨o',ho',hdd⟩
  refine call_meetsIn PySem.F.slot_dict_get dO.typeIs PySem.F.entry_dict_get (PySem.F.args_dict_get_3 _ _ _) (meets_dict_get_default (PySem.strKind g.prog g.wd) _ (strKind_is _ _ _ _) (mods_ne P Kn hN) _) ⟨_,dO.mapOf,?_⟩
  cases hg:sget _ _ with
  | none =>
   rw [hg] at g3
   rw [kv.sget.1 hg]
   exact .now Kn a2 g3 _
  | some v =>
   rw [hg] at g3
   obtain ⟨x,e,hv⟩:=kv.sget.2 v hg
   rw [e]
   exact .now Kn hv g3 _
theorem meth_E (P:PF g u T K) (SO:SpecOK g K S d) (G:Good g T S (d + 1) c) {a:Expr} {i:Nat} {x:Str} {args:List Expr} {apos pos:Pos} (hs:args.any isStar = false)
  (hcall:isCall a = false) (hl:args.length < 30) (hp:apos.endLine = pos.line) (hi:u.ats[i]? = some x) :
  GoodE g T S (d + 1) cx (.meth (c cx a) i (args.map (c cx))) (.Call (.Attribute a x apos) args [] pos):=fun env loc w H s A Q R Kn F h=>by
 refine Method_ hcall hs hl hp (seqE (G.e cx a env loc w H s A _ R Kn F h) fun v y w₁ H₁ s₁ e₁ K₁ r₁ q₁=>fun pl=>?_)
 obtain ⟨ql,q⟩:=q₁
 have X:=KIn P K₁
 have goArgs:=es_ok G (pos:=pos) args env loc w₁ H₁ s₁ A _ R K₁ (F.ext0 e₁) q
 have get:∀ (l:Nat) (o':O),v = .ref l→H₁.get l = some o'→(∀ C fs,o'≠.inst C fs)→i = mGet→(∃ o,s₁.heap.get? (w₁.σ l) = some o∧o.cls = .type "dict"∧o.dict = none) →
   wpAny (model g.prog g.wd) A (getMethod y x pl) (fun fx s₂=>wpAny (model g.prog g.wd) A (callWith pos fx.1 fx.2 (backTo pos (starEach args env)) []) (PE g w s Q) noE s₂) noE s₁:=fun l o' hv hd hi' hn look=>by
  subst hv hn
  obtain rfl:=r₁.refI
  obtain rfl:x = ("get" : Str):=Option.some.inj (hi.symm.trans P.get)
  obtain ⟨o,ho,oc,od⟩:=look
  refine getMethod_builtin (T:="dict") ⟨o,ho,oc⟩ PySem.F.plainAttrs_dict PySem.F.slot_dict_get PySem.F.type_dict_get (fun b e=>by cases e; exact ⟨o,ho,od⟩) ?_
  refine callWith_ok (K:=K) hs (seqL goArgs fun vs xs w₂ H₂ s₂ e₂ K₂ r₂ q₂=>⟨.inl ⟨_,rfl⟩,afterE (e₁.trans e₂) ?_⟩)
  rw [show w₁.σ l = w₂.σ l from (e₂.le.σ l (K₁.nn ▸ K₁.lt _ _ hd)).symm]
  exact getArgs P K₂ r₂ (fun C fs h=>hi' C fs (Option.some.inj (hd.symm.trans h))) q₂.2
 cases ql with
 | @inst l C fs f h1 h2 h3 =>
  obtain rfl:=r₁.refI
  obtain ⟨cf,kf,x',hx',f1,f2⟩:=P.meth C i f h3
  cases hi.symm.trans hx'
  obtain ⟨en,m,I,fr,_,_⟩:=instAt K₁ h1
  refine method_fn X I cf.ga cf.gt f1 f2 (shadow_none P fr hi h2) ?_
  refine callWith_ok (K:=K) hs (seqL goArgs fun vs xs w₂ H₂ s₂ e₂ K₂ r₂ q₂=>?_)
  have g3:S f (.ref l::vs) H₂ Q:=by
   cases q₂.2 with
   | inst g1 g2 g3=>cases h1.symm.trans g1; cases h3.symm.trans g2; exact g3
   | di _ g1=>cases h1.symm.trans g1
   | ds _ g1=>cases h1.symm.trans g1
  obtain ⟨kk,z⟩:=SO f (.ref l::vs) (.ref (w₁.σ l)::xs) H₂ Q w₂ s₂ A (R.mono (Nat.le_succ _)) K₂ (.cons (r₁.mono e₂.le) r₂) g3
  refine ⟨.inr (.inr ⟨KIn P K₂,kk⟩),afterE (e₁.trans e₂) (wpAny_call (codeAny_mono z fun r s' z=>?_))⟩
  cases z with
  | mk z=>exact z
 | @di l es hd hn =>
  obtain ⟨o,en,ho,⟨_,_,q,_⟩,_⟩:=isDi K₁ hd
  exact get l _ rfl hd (fun _ _ e=>by cases e) hn ⟨o,ho,q.1,q.2.1⟩
 | @ds l es hd hn =>
  obtain ⟨o,en,ho,⟨_,_,q,_⟩,_⟩:=isDs K₁ hd
  exact get l _ rfl hd (fun _ _ e=>by cases e) hn ⟨o,ho,q.1,q.2.1⟩
 | @str sx hn _ =>
  obtain ⟨t,rfl⟩:=r₁.strI
  subst hn
  obtain rfl:x = ("split" : Str):=Option.some.inj (hi.symm.trans P.spl)
  refine GM.split ?_
  refine callWith_ok (K:=K) hs (seqL goArgs fun vs xs w₂ H₂ s₂ e₂ K₂ r₂ q₂=>⟨.inl ⟨_,rfl⟩,?_⟩)
  refine afterE (e₁.trans e₂) ?_
  cases q₂.2 with
  | @str _ ws hw q₃ =>
  cases r₂
  obtain ⟨w1,w2,w3⟩:=P.words sx ws hw
  show wpAny _ _ (call (.builtin "str.split") [.str sx t]) _ _ _
  refine call_meets PySem.F.slot_str_split (typeIs_str _ _ _) PySem.F.entry_str_split (PySem.F.args_str_split_1 _) (meets_str_split_space sx t w2 w3) ?_
  cases hb:Builtin.Str.spaceWords sx (sx.length + 1) == [(0,sx.length)] with
  | false =>
   rw [if_neg Bool.false_ne_true,strsFrom_eq]
   have ht:(numbered s₂.toks (PySem.wordsOf sx)).map (·.1) = ws:=((numbered_texts _ _).trans (if_neg (ne_true_of_eq_false hb)).symm).trans w1
   exact PE.newL K₂ (not_there _) (fun _ _ q=>Heap.get?_push_of_some _ q) (Heap.get?_push_size _ rfl) ⟨rfl,rfl,rfl⟩ (numbered_VRs ht) q₃
  | true =>
   rw [if_pos rfl]
   have ht:[(sx,t)].map (·.1) = ws:=(if_pos hb).symm.trans w1
   exact PE.newL K₂ (not_there _) (fun _ _ q=>Heap.get?_push_of_some _ q) (Heap.get?_push_size _ rfl) ⟨rfl,rfl,rfl⟩ (numbered_VRs (w:=w₂) ht) q₃
end
end Mine
end
section
open PySem PySem.W PyProof.Rows
namespace Mine
structure Nx (g:Gd) (I:Addr) (F:Addr→Prop) (vs:List V) (still:AH→Prop) (St:Wd→Nat→Shared→Prop):Prop where
 frame:∀ {w w':Wd} {s s':Shared} {i:Nat} {X:Addr→Prop},St w i s→Ext X w s w' s'→(∀ b,F b→¬ X b)→St w' i s'
 out:∀ {w:Wd} {i:Nat} {s:Shared} {b:Addr},St w i s→F b→w.N b = none∧w.T b = none∧g.B.get? b = none∧s.heap.get? b≠none
 item:∀ {w:Wd} {H:AH} {s:Shared} {i d:Nat} {A:Around} {v:V},Room A d→Kn g w H s→still H→St w i s→vs[i]? = some v →
  wpAny (model g.prog g.wd) A (pyNext (.ref I)) (fun r s'=>∃ x w',r = some x∧Ext F w s w' s'∧Kn g w' H s'∧VR w' v x∧St w' (i + 1) s') noE s
 done:∀ {w:Wd} {H:AH} {s:Shared} {d:Nat} {A:Around},Room A d→Kn g w H s→still H→St w vs.length s →
  wpAny (model g.prog g.wd) A (pyNext (.ref I)) (fun r s'=>r = none∧(∀ b o,¬ F b→s.heap.get? b = some o→s'.heap.get? b = some o)∧Same s s') noE s
 own:∀ {w:Wd} {H:AH} {s:Shared} {i:Nat} {A:Around} {target:Expr} {v:V} {x:Value} {Q:Unit→Shared→Prop},Kn g w H s→St w (i + 1) s→VR w v x →
  (∀ s',Ext F w s w s'→Kn g w H s'→St w (i + 1) s'→Q () s')→wpAny (model g.prog g.wd) A (letOwnedTupleGo target (.ref I) x) Q noE s
 self:∀ {w:Wd} {i:Nat} {s:Shared} {A:Around} {Q:Value→Shared→Prop} {E:Value→Shared→Prop},St w i s→Q (.ref I) s→wpAny (model g.prog g.wd) A (pyIter (.ref I)) Q E s
section
variable {g:Gd} {w:Wd} {H:AH} {s:Shared} {A:Around}
theorem own_plain {prog:Program} {wd:World} {I:Addr} {o:Obj} {T:String} {target:Expr} {x:Value} {Q:Unit→Shared→Prop} (ho:s.heap.get? I = some o) (hc:o.cls = .type T)
  (hn:["enumerate", "zip", "dict_itemiterator", "dict_reverseitemiterator", "odict_iterator", "itertools.zip_longest", "itertools.pairwise"].contains T = false) (h:Q () s) :
  wpAny (model prog wd) A (letOwnedTupleGo target (.ref I) x) Q noE s:=by
 have body:wpAny (model prog wd) A (letOwnedTupleGo (.List [] default) (.ref I) x) Q noE s:=by
  cases x <;> try exact wpAny_pure h
  refine wpAny_bind (wpAny_load ho ?_)
  rw [hc]
  cases o.data <;> try exact wpAny_pure h
  dsimp only
  rw [hn]
  exact wpAny_pure h
 cases target with
 | Tuple _ _ _=>exact body
 | List _ _=>exact body
 | _=>exact wpAny_pure h
theorem Ext.at {I:Addr} {h':Heap} {tk:Nat} (hs:Heap.SameBut I s.heap h') (hi:h'.get? I≠none):Ext (fun b=>b = I) w s w { s with heap:=h',toks:=tk } :=
 ⟨Wd.le.refl w,fun b o q _ hx=>(hs.2 b hx).trans q,(fun b q=>by
  by_cases e:b = I
  ·rw [e]; exact hi
  ·show h'.get? b≠none; rw [hs.2 b e]; exact q),fun _ q=>.inl q,fun _ q=>.inl q,rfl,rfl,rfl,Nat.le_refl _,fun _ _ _ q=>q⟩
theorem Kn.at {I:Addr} {h':Heap} {tk:Nat} (K:Kn g w H s) (hs:Heap.SameBut I s.heap h') (hN:w.N I = none) (hT:w.T I = none) (hB:g.B.get? I = none):Kn g w H { s with heap:=h',toks:=tk } :=
 K.keep (X:=fun b=>b = I) (fun b o q hx=>(hs.2 b hx).trans q) (fun _ e=>e ▸ hB) (fun _ e=>e ▸ hN) fun _ e=>e ▸ hT
structure Jk (g:Gd) (w:Wd) (I:Addr) (s:Shared):Prop where
 N:w.N I = none
 T:w.T I = none
 B:g.B.get? I = none
 th:s.heap.get? I≠none
theorem Jk.ext {I:Addr} {w':Wd} {s':Shared} {X:Addr→Prop} (j:Jk g w I s) (e:Ext X w s w' s'):Jk g w' I s':=⟨e.out j.th j.N,e.outT j.th j.T,j.B,e.there _ j.th⟩
noncomputable def OneF (I:Addr) (b:Addr):Prop:=b = I
theorem Nx.list (I:Addr) (l:Nat) (vs:List V) (a:Addr):Nx g I (OneF I) vs (fun H=>H.get l = some (.list vs)) (fun w i s=>Jk g w I s∧s.heap.IsListIter I a i∧l < w.n∧w.σ l = a) where
 frame:=fun {w w' s s' i X} h e hx=>by
  obtain ⟨j,⟨o,ho,hr⟩,hl,hs⟩:=h
  exact ⟨j.ext e,⟨o,e.kept _ o ho j.N (hx I rfl),hr⟩,Nat.lt_of_lt_of_le hl e.le.n,(e.le.σ l hl).trans hs⟩
 out:=fun h q=>by cases q; exact ⟨h.1.N,h.1.T,h.1.B,h.1.th⟩
 item:=fun {w H s i d A v} R K st h hv=>by
  obtain ⟨j,hit,hl,rfl⟩:=h
  obtain ⟨ws,m,i1,v1,_⟩:=isL K st
  obtain ⟨x,e,hx⟩:=v1.get hv
  refine wpAny_pyNext_list_item hit (IsL.list i1) (by rw [← Array.getElem?_toList]; exact e) fun h' hit' hs=>?_
  have th:h'.get? I≠none:=by obtain ⟨o,ho,_⟩:=hit'; rw [ho]; exact Option.some_ne_none _
  exact ⟨x,w,rfl,Ext.at (tk:=s.toks) hs th,Kn.at (tk:=s.toks) K hs j.N j.T j.B,hx,⟨j.N,j.T,j.B,th⟩,hit',hl,rfl⟩
 done:=fun {w H s d A} R K st h=>by
  obtain ⟨j,hit,hl,rfl⟩:=h
  obtain ⟨ws,m,i1,v1,_⟩:=isL K st
  refine wpAny_pyNext_list_end R.hh hit (IsL.list i1) (by rw [Array.getElem?_eq_none]; rw [v1.lenA]; exact Nat.le_refl _) fun h' hs=>?_
  exact ⟨rfl,fun b o hb q=>hs b o hb q,rfl,rfl,rfl⟩
 own:=fun {w H s i A target v x Q} K h _ q=>by
  have h0:=h
  obtain ⟨j,⟨o,ho,hc,hd⟩,hl,hs⟩:=h
  exact own_plain ho hc (by decide +kernel) (q s (Ext.refl _ _ _) K h0)
 self:=fun h q=>wpAny_pyIter_listiter h.2.1 q
theorem Nx.tuple (I:Addr) (vs:List V) (a:Addr) (ws:List Value) (m:Nat):Nx g I (OneF I) vs (fun _=>True) (fun w i s=>Jk g w I s∧s.heap.IsTupleIter I a i∧w.T a = some (tupOf ws.toArray m)∧VRs w vs ws) where
 frame:=fun {w w' s s' i X} h e hx=>by
  obtain ⟨j,⟨o,ho,hr⟩,hl,hs⟩:=h
  exact ⟨j.ext e,⟨o,e.kept _ o ho j.N (hx I rfl),hr⟩,e.le.T _ _ hl,hs.mono e.le⟩
 out:=fun h q=>by cases q; exact ⟨h.1.N,h.1.T,h.1.B,h.1.th⟩
 item:=fun {w H s i d A v} R K st h hv=>by
  obtain ⟨j,hit,hT,v1⟩:=h
  obtain ⟨x,e,hx⟩:=v1.get hv
  refine wpAny_pyNext_tuple_item hit (items:=ws.toArray) ⟨_,isT K hT,rfl,m,rfl⟩ (by simpa using e) fun h' hit' hs=>?_
  have th:h'.get? I≠none:=by obtain ⟨o,ho,_⟩:=hit'; rw [ho]; exact Option.some_ne_none _
  exact ⟨x,w,rfl,Ext.at (tk:=s.toks) hs th,Kn.at (tk:=s.toks) K hs j.N j.T j.B,hx,⟨j.N,j.T,j.B,th⟩,hit',hT,v1⟩
 done:=fun {w H s d A} R K st h=>by
  obtain ⟨j,hit,hT,v1⟩:=h
  refine wpAny_pyNext_tuple_end R.hh hit (items:=ws.toArray) ⟨_,isT K hT,rfl,m,rfl⟩ (by rw [Array.getElem?_eq_none]; rw [List.size_toArray,v1.length]; exact Nat.le_refl _) fun h' hs=>?_
  exact ⟨rfl,fun b o hb q=>hs b o hb q,rfl,rfl,rfl⟩
 own:=fun {w H s i A target v x Q} K h _ q=>by
  have h0:=h
  obtain ⟨j,⟨o,ho,hc,hd⟩,hl,hs⟩:=h
  exact own_plain ho hc (by decide +kernel) (q s (Ext.refl _ _ _) K h0)
 self:=fun h q=>wpAny_pyIter_tupleiter h.2.1 q
theorem Nx.range (I:Addr) (n:Nat):Nx g I (OneF I) (rngV n) (fun _=>True) (fun w i s=>Jk g w I s∧IsRangeIter s.heap I (i:Int) ((n:Int) - (i:Int)) 1) where
 frame:=fun {w w' s s' i X} h e hx=>by
  obtain ⟨j,ho⟩:=h
  exact ⟨j.ext e,e.kept _ _ ho j.N (hx I rfl)⟩
 out:=fun h q=>by cases q; exact ⟨h.1.N,h.1.T,h.1.B,h.1.th⟩
 item:=fun {w H s i d A v} R K st h hv=>by
  obtain ⟨j,hit⟩:=h
  have hi:i < n:=by
   rcases Nat.lt_or_ge i n with q | q
   ·exact q
   ·rw [List.getElem?_eq_none (by simpa [rngV] using q)] at hv; cases hv
  have e:v = .int (i:Int):=by
   unfold rngV at hv
   rw [List.getElem?_map,List.getElem?_range hi] at hv
   simpa using hv.symm
  subst e
  refine wpAny_pyNext_range_item hit (by lia) fun h' hit' hs=>?_
  have th:h'.get? I≠none:=by rw [hit']; exact Option.some_ne_none _
  refine ⟨_,w,rfl,Ext.at (tk:=s.toks + 1) hs th,Kn.at (tk:=s.toks + 1) K hs j.N j.T j.B,VR.int _ _,⟨j.N,j.T,j.B,th⟩,?_⟩
  have e:((i + 1:Nat):Int) = (i:Int) + 1:=by lia
  rw [e,show (n:Int) - ((i:Int) + 1) = (n:Int) - (i:Int) - 1 by lia]
  exact hit'
 done:=fun {w H s d A} R K st h=>by
  obtain ⟨j,hit⟩:=h
  refine wpAny_pyNext_range_end R.hh hit (by simp [rngV]) fun h' hs=>?_
  exact ⟨rfl,fun b o hb q=>hs b o hb q,rfl,rfl,rfl⟩
 own:=fun {w H s i A target v x Q} K h _ q=>by
  have h0:=h
  obtain ⟨j,ho⟩:=h
  exact own_plain ho rfl (by decide +kernel) (q s (Ext.refl _ _ _) K h0)
 self:=fun h q=>wpAny_pyIter_rangeiter h.2 q
end
end Mine
end
section
open PySem PySem.W PyProof.Rows
namespace Mine
theorem intIs {prog:Program} {wd:World} {k:Int} {v:Value} (h:(PySem.intKind prog wd).is k v = true):∃ t,v = .int k t:=by
 cases v <;> simp_all [PySem.intKind,Value.isInt]
section
variable {g:Gd} {w:Wd} {H:AH} {s:Shared} {A:Around}
theorem Nx.dict (I d:Addr) (l:Nat) (es:List (Int × V)) (o:Obj) (kvs:List (Int × Value)) (en:Array DictEntry) (ep m:Nat) (ho:o.ExactDict) (hd:o.data = .dict en ep) (hk:KeysOf (PySem.intKind g.prog g.wd) en) (hp:Pairs (PySem.intKind g.prog g.wd) en.toList kvs)
  (hn:(kvs.map (·.1)).Nodup) (he:es.map (·.1) = kvs.map (·.1)) :
  Nx g I (OneF I) (es.map fun p=>.int p.1) (fun H=>H.get l = some (.di es)∧H.mt = m) (fun w i s=>Jk g w I s∧s.heap.IsKeyIter I d i kvs.length ep∧(w.mt = m→w.N d = some o)∧m≤w.mt) where
 frame:=fun {w w' s s' i X} h e hx=>by
  obtain ⟨j,⟨o',ho',hr⟩,hN,hm⟩:=h
  refine ⟨j.ext e,⟨o',e.kept _ o' ho' j.N (hx I rfl),hr⟩,fun q=>?_,Nat.le_trans hm e.mu⟩
  have q':w.mt = m:=by have:=e.mu; lia
  exact e.stay (q.trans q'.symm) _ _ (hN q')
 out:=fun h q=>by cases q; exact ⟨h.1.N,h.1.T,h.1.B,h.1.th⟩
 item:=fun {w H s i dd A v} R K st h hv=>by
  obtain ⟨j,hit,hN,hm⟩:=h
  have at':s.heap.DictAt (PySem.intKind g.prog g.wd) d kvs ep:=⟨o,en,(K.nw _ _ (hN (K.mu.trans st.2))).1,ho,hd,hk,hp,hn⟩
  have e:(es.map fun p=>V.int p.1) = kvs.map fun p=>V.int p.1:=by
   have:=congrArg (List.map V.int) he
   simpa [Function.comp_def] using this
  rw [e,List.getElem?_map] at hv
  obtain ⟨⟨k,x⟩,hx,rfl⟩:=Option.map_eq_some_iff.mp hv
  refine wpAny_pyNext_dict_item hit at' hx fun key h' hkey hit' hs=>?_
  obtain ⟨t,rfl⟩:=intIs hkey
  have th:h'.get? I≠none:=by obtain ⟨o,ho,_⟩:=hit'; rw [ho]; exact Option.some_ne_none _
  exact ⟨_,w,rfl,Ext.at (tk:=s.toks) hs th,Kn.at (tk:=s.toks) K hs j.N j.T j.B,VR.int _ _,⟨j.N,j.T,j.B,th⟩,hit',hN,hm⟩
 done:=fun {w H s dd A} R K st h=>by
  obtain ⟨j,hit,hN,hm⟩:=h
  have at':s.heap.DictAt (PySem.intKind g.prog g.wd) d kvs ep:=⟨o,en,(K.nw _ _ (hN (K.mu.trans st.2))).1,ho,hd,hk,hp,hn⟩
  have e:es.length = kvs.length:=by have:=congrArg List.length he; simpa using this
  refine wpAny_pyNext_dict_end R.hh hit at' (by rw [List.getElem?_eq_none]; rw [List.length_map,e]; exact Nat.le_refl _) fun h' hs=>?_
  exact ⟨rfl,fun b o hb q=>hs b o hb q,rfl,rfl,rfl⟩
 own:=fun {w H s i A target v x Q} K h _ q=>by
  have h0:=h
  obtain ⟨j,⟨o,ho,hc,hd⟩,hl,hs⟩:=h
  exact own_plain ho hc (by decide +kernel) (q s (Ext.refl _ _ _) K h0)
 self:=fun h q=>wpAny_pyIter_keyiter h.2.1 q
noncomputable def SrcP (g:Gd) (w:Wd) (s:Shared) (Q:List V→(AH→Prop)→AH→Prop) (it:Value) (s':Shared):Prop :=
 ∃ I F vs still St w' H',it = .ref I∧Ext noX w s w' s'∧Kn g w' H' s'∧Nx g I F vs still St∧St w' 0 s'∧(∀ b,F b→s.heap.get? b = none)∧vs.length≤1000∧Q vs still H'
theorem iter_new {o:Obj} (K:Kn g w H s) (hf:o.isFreed = false):Ext noX w s w { s with heap:=s.heap.push o }∧Kn g w H { s with heap:=s.heap.push o }∧Jk g w s.heap.objs.size { s with heap:=s.heap.push o }∧(s.heap.push o).get? s.heap.objs.size = some o:=by
 have gp:(s.heap.push o).get? s.heap.objs.size = some o:=Heap.get?_push_size _ hf
 exact ⟨Ext.all fun _ _ q=>Heap.get?_push_of_some _ q,K.all fun _ _ q=>Heap.get?_push_of_some _ q,⟨N_free K (not_there _),T_free K (not_there _),B_free K (not_there _),by show (s.heap.push o).get? _≠none; rw [gp]; exact Option.some_ne_none _⟩,gp⟩
theorem SrcP.after {w₁:Wd} {s₁ s':Shared} {Q:List V→(AH→Prop)→AH→Prop} {it:Value} (e:Ext noX w s w₁ s₁) (h:SrcP g w₁ s₁ Q it s'):SrcP g w s Q it s':=by
 obtain ⟨I,F,vs,still,St,w',H',a,b,c,d,f,i,j,k⟩:=h
 refine ⟨I,F,vs,still,St,w',H',a,e.trans b,c,d,f,fun x hx=>?_,j,k⟩
 cases q:s.heap.get? x with
 | none=>rfl
 | some o=>exact absurd (i x hx) (e.there x (by rw [q]; exact Option.some_ne_none _))
set_option tactic.hygienic true in
theorem srcOf_ok {x:V} {a:Value} {Q:List V→(AH→Prop)→AH→Prop} {u:Un} {T:Tab} {Kf:Frag} (P:PF g u T Kf) (K:Kn g w H s) (hx:VR w x a) (h:srcOf x H fun vs still=>Q vs still H) :
  wpAny (model g.prog g.wd) A (pyIter a) (SrcP g w s Q) noE s:=by
 cases x <;> first | exact (h:False).elim | skip
 rotate_left
 ·obtain ⟨ws,ad,m,rfl,hT,hs⟩:=hx.tupI
  refine wpAny_pyIter_tuple (items:=ws.toArray) ⟨_,isT K hT,rfl,m,rfl⟩ ?_
  obtain ⟨e₁,K₁,j,gp⟩:=iter_new (o:={ cls:=.type "tuple_iterator",data:=.fields #[.ref ad,.int 0 0] }) K rfl
  exact ⟨_,_,_,_,_,w,H,rfl,e₁,K₁,Nx.tuple _ _ ad ws m,⟨j,⟨_,gp,rfl,rfl⟩,hT,hs⟩,fun b q=>by cases q; exact not_there _,h.1,h.2⟩
 ·obtain rfl:=hx.refI
  rename_i l
  rcases h with ⟨vs,h1,h2,h3⟩ | ⟨es,h1,h2,h3⟩
  ·obtain ⟨ws,m,i1,v1,_⟩:=isL K h1
   refine wpAny_pyIter_list (IsL.list i1) ?_
   obtain ⟨e₁,K₁,j,gp⟩:=iter_new (o:={ cls:=.type "list_iterator",data:=.fields #[.ref (w.σ l),.int 0 0] }) K rfl
   exact ⟨_,_,_,_,_,w,H,rfl,e₁,K₁,Nx.list _ l vs (w.σ l),⟨j,⟨_,gp,rfl,rfl⟩,K.nn ▸ K.lt _ _ h1,rfl⟩,fun b q=>by cases q; exact not_there _,h2,h3⟩
  ·obtain ⟨o,kvs,ho,hd,hk,hN⟩:=isDi K h1
   obtain ⟨en,ep,d1,d2,d3,d4,d5⟩:=hd
   refine wpAny_pyIter_dict (mods_ne P K hN) (knd:=PySem.intKind g.prog g.wd) (kvs:=kvs) (ep:=ep) ⟨o,en,ho,d1,d2,d3,d4,d5⟩ ?_
   obtain ⟨e₁,K₁,j,gp⟩:=iter_new (o:={ cls:=.type "dict_keyiterator",data:=.fields #[.ref (w.σ l),.int 0 0,.int (kvs.length:Int) 0,.int (ep:Int) 0] }) K rfl
   exact ⟨_,_,_,_,_,w,H,rfl,e₁,K₁,Nx.dict _ (w.σ l) l es o kvs en ep H.mt d1 d2 d3 d4 d5 hk.keys,⟨j,⟨_,gp,rfl,rfl⟩,fun _=>hN,Nat.le_of_eq K.mu.symm⟩,fun b q=>by cases q; exact not_there _,by simpa using h2,h3⟩
end
end Mine
end
section
open PySem PySem.W PyProof.Rows
namespace Mine
noncomputable def EnumOK (g:Gd) (d:Nat):Prop:=∀ (w:Wd) (H:AH) (s:Shared) (A:Around) (b:Array UInt8) (t:Tok) (Q:List V→(AH→Prop)→AH→Prop),Room A d→Kn g w H s→b.size≤1000→Q (enumV b) (fun _=>True) H →
 wpAny (model g.prog g.wd) A (call (.type "enumerate") [.bytes b t]) (fun x s₁=>wpAny (model g.prog g.wd) A (pyIter x) (SrcP g w s Q) noE s₁) noE s
section
variable {g:Gd} {T:Tab} {S:Spec} {d:Nat} {cx:Cx} {c:Cx→Expr→X} {u:Un} {K:Frag}
theorem src_plain (P:PF g u T K) (G:Good g T S d c) {e:Expr}:∀ env loc w H s A Q,Room A d→Kn g w H s→Fm g w env cx loc s→vE T S (c cx e) loc H (fun x H=>srcV 0 x H Q) →
  wpAny (model g.prog g.wd) A (eval e env) (fun x s₁=>wpAny (model g.prog g.wd) A (pyIter x) (SrcP g w s Q) noE s₁) noE s:=fun env loc w H s A Q R Kn F h=>by
 refine seqE (G.e cx e env loc w H s A _ R Kn F h) fun v x w₁ H₁ s₁ e₁ K₁ r₁ q₁=>?_
 exact wpAny_mono (srcOf_ok P K₁ r₁ q₁) (fun _ _ z=>z.after e₁) fun _ _ x=>x
theorem call1 (G:Good g T S d c) {x:Str} {p pos:Pos} {a:Expr} {v:V} (hc:c cx (.Name x p) = .lit v) (hs:isStar a = false) (hv:∀ w f,VR w v f→(∃ i,f = .builtin i)∨∃ i,f = .type i) {Q:KV} {R':Value→Shared→Prop} :
  ∀ env loc w H s A,Room A d→Kn g w H s→Fm g w env cx loc s→vE T S (c cx a) loc H Q →
  (∀ f y v' w₂ H₂ s₂,Ext noX w s w₂ s₂→Kn g w₂ H₂ s₂→VR w₂ v f→VR w₂ v' y→Q v' H₂→wpAny (model g.prog g.wd) A (call f [y]) R' noE s₂) →
  wpAny (model g.prog g.wd) A (eval (.Call (.Name x p) [a] [] pos) env) R' noE s:=fun env loc w H s A R Kn F h k=>by
 have hf:=G.e cx (.Name x p) env loc w H s A (fun v' H'=>v' = v∧H' = H) R Kn F (by rw [hc]; exact ⟨rfl,rfl⟩)
 refine PyProof.Rows.Call_ (seqE hf fun v' y w₁ H₁ s₁ e₁ K₁ r₁ q₁=>?_)
 obtain ⟨rfl,rfl⟩:=q₁
 refine callWith_ok (K:=([]:Frag)) (by rw [List.any_cons,hs]; rfl) ?_
 refine spliced_more (seqE (G.e cx a env loc w₁ H₁ s₁ A _ R K₁ (F.ext0 e₁) h) fun v₂ x₂ w₂ H₂ s₂ e₂ K₂ r₂ q₂=>spliced_none ?_) (starEach_cons hs)
 refine ⟨?_,k y x₂ v₂ w₂ H₂ s₂ (e₁.trans e₂) K₂ (r₁.mono e₂.le) r₂ q₂⟩
 rcases hv _ _ r₁ with z | z
 ·exact .inl z
 ·exact .inr (.inl z)
theorem cSrc_cases {P:Expr→Nat × X→Prop} {c:Expr→X} (b:∀ e,P e (0,.bad)) (pl:∀ e,isSet e = false→P e (0,c e))
  (rg:∀ x p a pos,isStar a = false→c (.Name x p) = .lit (.bf .range)→P (.Call (.Name x p) [a] [] pos) (1,c a))
  (en:∀ x p a pos,isStar a = false→c (.Name x p) = .lit (.bf .enum)→P (.Call (.Name x p) [a] [] pos) (2,c a)) (e:Expr):P e (cSrc c e):=by
 delta cSrc
 cases hs:isSet e with
 | true=>exact b e
 | false =>
  have pl:=pl e hs
  cases e with
  | Call f as ks pos=>cases f with
   | Name x p=>cases as with
    | nil=>exact pl
    | cons a as=>cases as with
     | cons _ _=>exact pl
     | nil=>cases ks with
      | cons _ _=>exact pl
      | nil =>
       show P _ (if isStar a then (0,.bad) else (match c (.Name x p) with
        | .lit (.bf .range)=>(1,c a)
        | .lit (.bf .enum)=>(2,c a)
        | _=>(0,c (.Call (.Name x p) [a] [] pos))))
       cases ha:isStar a with
       | true=>exact b _
       | false =>
        cases hc:c (.Name x p) with
        | lit v=>cases v with
         | bf f=>cases f with
          | range=>exact rg x p a pos ha hc
          | enum=>exact en x p a pos ha hc
          | _=>exact pl
         | _=>exact pl
        | _=>exact pl
   | _=>exact pl
  | _=>exact pl
theorem src_ok (P:PF g u T K) (EO:EnumOK g d) (G:Good g T S d c) {e:Expr}:∀ env loc w H s A Q,Room A d→Kn g w H s→Fm g w env cx loc s→vE T S (cSrc (c cx) e).2 loc H (fun x H=>srcV (cSrc (c cx) e).1 x H Q) →
  wpAny (model g.prog g.wd) A (eval e env) (fun x s₁=>wpAny (model g.prog g.wd) A (pyIter x) (SrcP g w s Q) noE s₁) noE s:=fun env loc w H s A Q R Kn F=>by
 refine cSrc_cases (P:=fun e p=>vE T S p.2 loc H (fun x H=>srcV p.1 x H Q)→wpAny (model g.prog g.wd) A (eval e env) (fun x s₁=>wpAny (model g.prog g.wd) A (pyIter x) (SrcP g w s Q) noE s₁) noE s) (fun _ h=>h.elim)
  (fun e _ h=>src_plain P G env loc w H s A Q R Kn F h) (fun x p a pos hs hc h=>?_) (fun x p a pos hs hc h=>?_) e
 ·refine call1 G hc hs (fun w f r=>by cases r; exact .inr ⟨_,rfl⟩) env loc w H s A R Kn F h fun f y v' w₂ H₂ s₂ e₂ K₂ rf ry q=>?_
  cases rf
  obtain ⟨k,rfl,q⟩:=int1_inv q
  obtain ⟨t,rfl⟩:=ry.intI
  obtain ⟨k0,k1,q⟩:=q
  show wpAny _ _ (call (.type "range") [.int k t]) _ _ _
  refine call_range_1 ?_
  have K₃:Mine.Kn g w₂ H₂ { s₂ with heap:=s₂.heap.push { cls:=.type "range",data:=.fields #[.int 0 s₂.toks,.int k t,.int 1 (s₂.toks + 1)] },toks:=s₂.toks + 1 + 1 }:=K₂.all fun _ _ q=>Heap.get?_push_of_some _ q
  have e₃:Ext noX w₂ s₂ w₂ { s₂ with heap:=s₂.heap.push { cls:=.type "range",data:=.fields #[.int 0 s₂.toks,.int k t,.int 1 (s₂.toks + 1)] },toks:=s₂.toks + 1 + 1 }:=Ext.all fun _ _ q=>Heap.get?_push_of_some _ q
  refine wpAny_pyIter_range (a:=0) (b:=k) (c:=1) (t:=s₂.toks) (u:=t) (v:=s₂.toks + 1) (Heap.get?_push_size _ rfl) (small_one (by lia) (by lia) (by lia) (by lia)) ?_
  refine SrcP.after (e₂.trans e₃) ?_
  obtain ⟨e₄,K₄,j,gp⟩:=iter_new (o:={ cls:=.type "range_iterator",data:=.fields #[rawInt 0,rawInt (Builtin.Range.rangeSize 0 k 1),rawInt 1] }) K₃ rfl
  refine ⟨_,_,_,_,_,w₂,H₂,rfl,e₄,K₄,Nx.range _ k.toNat,⟨j,?_⟩,fun b q=>by cases q; exact not_there _,by rw [rngV,List.length_map,List.length_range]; lia,q⟩
  have ek:(k.toNat:Int) - ((0:Nat):Int) = Builtin.Range.rangeSize 0 k 1:=by rw [rangeSize_one]; split <;> lia
  rw [ek]
  exact gp
 ·refine call1 G hc hs (fun w f r=>by cases r; exact .inr ⟨_,rfl⟩) env loc w H s A R Kn F h fun f y v' w₂ H₂ s₂ e₂ K₂ rf ry q=>?_
  cases rf
  cases v' <;> first | exact (q:False).elim | skip
  cases ry
  exact wpAny_mono (EO w₂ H₂ s₂ A _ _ Q R K₂ q.1 q.2) (fun _ _ z=>wpAny_mono z (fun _ _ z=>z.after e₂) fun _ _ x=>x) fun _ _ x=>x
end
end Mine
end
section
open PySem PySem.W PyProof.Rows
namespace Mine
theorem isFree_eq (k:NameKind):isFree k = (k == NameKind.free):=by cases k <;> rfl
theorem isFree_iff {k:NameKind}:isFree k = true ↔ k = .free:=by cases k <;> simp [isFree,nkB]
noncomputable def clF (cells:List (Str × Addr)):List (Str × NameKind)→List (Str × Addr)→List (Str × Addr)
 | [],acc=>acc
 | (n,k)::r,acc=>if k == NameKind.free then (match cells.lookup n with | some a=>clF cells r ((n,a)::acc) | none=>clF cells r acc) else clF cells r acc
theorem closure_loop {env:Env}:∀ (names:List (Str × NameKind)) (acc:List (Str × Addr)),(∀ p∈names,p.2 = .free→env.cells.lookup p.1≠none) →
  (forIn names acc fun (x:Str × NameKind) (cs:List (Str × Addr))=>(match x with
   | (name,kind)=>if (kind == NameKind.free) = true then do
     let a ← cellOf env name
     pure (ForInStep.yield ((name,a)::cs))
    else pure (ForInStep.yield cs):Sem (ForInStep (List (Str × Addr))))) = pure (clF env.cells names acc)
 | [],acc,_=>by simp [clF]
 | (n,k)::r,acc,h=>by
  rw [List.forIn_cons]
  have ih:=fun acc'=>closure_loop (env:=env) r acc' fun p hp=>h p (List.mem_cons_of_mem _ hp)
  by_cases e:(k == NameKind.free) = true
  ·have hk:k = .free:=by simpa using e
   cases hc:env.cells.lookup n with
   | none=>exact absurd hc (h (n,k) (List.mem_cons_self ..) hk)
   | some a =>
    have co:cellOf env n = pure a:=by unfold cellOf; rw [hc]
    simp only [e,if_true,co,pure_bind,clF,hc]
    exact ih _
  ·simp only [e,if_false,pure_bind,clF,Bool.false_eq_true]
   exact ih _
theorem closure_ok {scope:Scope} {env:Env} (h:∀ p∈scope.names,p.2 = .free→env.cells.lookup p.1≠none):closureFor scope env = pure (clF env.cells scope.names []):=by
 unfold closureFor
 have:=closure_loop (env:=env) scope.names [] h
 simp only [bind_pure] at this ⊢
 exact this
set_option tactic.hygienic true in
theorem clF_sub {cells:List (Str × Addr)}:∀ {names:List (Str × NameKind)} {acc:List (Str × Addr)},(∀ x c,acc.lookup x = some c→cells.lookup x = some c)→∀ x c,(clF cells names acc).lookup x = some c→cells.lookup x = some c
 | [],_,h=>h
 | (n,k)::r,acc,h=>by
  unfold clF
  split
  ·split
   ·rename_i a ha
    refine clF_sub (acc:=(n,a)::acc) fun x c q=>?_
    rw [List.lookup_cons] at q
    split at q
    ·rename_i e; cases q; have:x = n:=by simpa using e
     rw [this]; exact ha
    ·exact h x c q
   ·exact clF_sub h
  ·exact clF_sub h
set_option tactic.hygienic true in
theorem clF_has {cells:List (Str × Addr)} {x:Str}:∀ {names:List (Str × NameKind)} {acc:List (Str × Addr)},(acc.lookup x≠none∨((x,NameKind.free)∈names∧cells.lookup x≠none))→(clF cells names acc).lookup x≠none
 | [],_,h=>by rcases h with h | h; exact h; simp at h
 | (n,k)::r,acc,h=>by
  unfold clF
  have keep:∀ a,acc.lookup x≠none→((n,a)::acc).lookup x≠none:=fun a q=>by
   rw [List.lookup_cons]; split
   ·exact Option.some_ne_none _
   ·exact q
  split
  ·rename_i hk
   split
   ·rename_i a ha
    refine clF_has ?_
    rcases h with h | ⟨h,hc⟩
    ·exact .inl (keep a h)
    ·rcases List.mem_cons.mp h with e | h
     ·cases e; exact .inl (by rw [List.lookup_cons]; simp)
     ·exact .inr ⟨h,hc⟩
   ·rename_i ha
    refine clF_has ?_
    rcases h with h | ⟨h,hc⟩
    ·exact .inl h
    ·rcases List.mem_cons.mp h with e | h
     ·cases e; exact absurd ha hc
     ·exact .inr ⟨h,hc⟩
  ·rename_i hk
   refine clF_has ?_
   rcases h with h | ⟨h,hc⟩
   ·exact .inl h
   ·rcases List.mem_cons.mp h with e | h
    ·cases e; exact absurd rfl hk
    ·exact .inr ⟨h,hc⟩
theorem relS_eq {cx:Cx} {env:Env} (hk:env.scope.kind = .function) (hn:env.scope.names = cx.names) (scope:Scope):(relabel scope env).names = relS cx scope.names:=by
 unfold relabel
 dsimp only
 generalize scope.names = names
 induction names with
 | nil=>rfl
 | cons p r ih =>
  obtain ⟨n,k⟩:=p
  rw [List.map_cons,ih,relS]
  congr 1
  have hkind:env.kindOf n = kindS cx n:=by unfold Env.kindOf kindS; rw [lookS_eq,hn]
  rw [hk,hkind,isFree_eq]
  cases k <;> simp <;> cases hq:kindS cx n with
  | none=>simp
  | some q=>cases q <;> simp
end Mine
end
section
open PySem PySem.W PyProof.Rows
namespace Mine
theorem memS_of {x:Str}:∀ {l:List Str},x∈l→memS x l = true
 | [],h=>by simp at h
 | y::r,h=>by
  rw [memS,Bool.or_eq_true,sbeq_eq,decide_eq_true_eq]
  rcases List.mem_cons.mp h with e | e
  ·exact .inl e
  ·exact .inr (memS_of e)
theorem compNames_mem {cx:Cx} {t:Str} {all:List (Str × NameKind)}:∀ {names:List (Str × NameKind)},compNames cx t all names = true→∀ p∈names,p.2≠.cell∧(p.2 = .local→(p.1 = t∨p.1 = sDot0)∧lookS p.1 all = some .local)∧(p.2 = .free→kindS cx p.1 = some .cell∨kindS cx p.1 = some .free)
 | [],_,p,hp=>by simp at hp
 | (n,k)::r,h,p,hp=>by
  unfold compNames at h
  rw [Bool.and_eq_true] at h
  rcases List.mem_cons.mp hp with rfl | hp
  ·have h1:=h.1
   cases k with
   | «local»=>exact ⟨(fun e=>by cases e),(fun _=>by
     rw [Bool.and_eq_true,Bool.or_eq_true,sbeq_eq,sbeq_eq,decide_eq_true_eq,decide_eq_true_eq] at h1
     refine ⟨h1.1,?_⟩
     have h2:=h1.2
     unfold isLocO at h2
     split at h2
     ·assumption
     ·cases h2),(fun e=>by cases e)⟩
   | cell=>cases h1
   | free =>
    refine ⟨(fun e=>by cases e),(fun e=>by cases e),fun _=>?_⟩
    dsimp only at h1 ⊢
    split at h1
    ·exact .inl ‹_›
    ·exact .inr ‹_›
    ·cases h1
   | globalExplicit=>exact ⟨(fun e=>by cases e),(fun e=>by cases e),(fun e=>by cases e)⟩
   | globalImplicit=>exact ⟨(fun e=>by cases e),(fun e=>by cases e),(fun e=>by cases e)⟩
  ·exact compNames_mem h.2 p hp
theorem relS_var {cx:Cx} {x:Str}:∀ {names:List (Str × NameKind)},(∀ p∈names,p.2≠.cell)→(lookS x (relS cx names) = some .cell∨lookS x (relS cx names) = some .free)→(x,NameKind.free)∈names
 | [],_,h=>by simp [relS,lookS] at h
 | (n,k)::r,hn,h=>by
  rw [relS,lookS,sbeq_eq] at h
  by_cases e:x = n
  ·subst e
   rw [if_pos (by simp)] at h
   by_cases hf:isFree k = true
   ·rw [isFree_iff.mp hf]; exact List.mem_cons_self ..
   ·rw [if_neg hf] at h
    rcases h with h | h
    ·cases h; exact absurd rfl (hn _ (List.mem_cons_self ..))
    ·cases h; exact absurd rfl hf
  ·rw [if_neg (by simpa using e)] at h
   exact List.mem_cons_of_mem _ (relS_var (fun p hp=>hn p (List.mem_cons_of_mem _ hp)) h)
theorem relS_loc {cx:Cx} {x:Str}:∀ {names:List (Str × NameKind)},lookS x (relS cx names) = some .local→(x,NameKind.local)∈names
 | [],h=>by simp [relS,lookS] at h
 | (n,k)::r,h=>by
  rw [relS,lookS,sbeq_eq] at h
  by_cases e:x = n
  ·subst e
   rw [if_pos (by simp)] at h
   by_cases hf:isFree k = true
   ·rw [if_pos hf] at h
    split at h
    ·cases h
    ·cases h; cases hf
   ·rw [if_neg hf] at h
    cases h; exact List.mem_cons_self ..
  ·rw [if_neg (by simpa using e)] at h
   exact List.mem_cons_of_mem _ (relS_loc h)
section
variable {g:Gd} {w:Wd} {H:AH} {s s':Shared} {env:Env} {cx:Cx} {loc:Loc}
theorem Fm.forget {loc':Loc} (F:Fm g w env cx loc s) (h:∀ (i:Nat) (v:V),loc'[i]? = some (some v)→loc[i]? = some (some v)):Fm g w env cx loc' s :=
 ⟨F.kind,F.names,F.glb,F.bi,F.out,F.cw,F.cd,fun x hx=>by obtain ⟨c,v₀,a,b,k⟩:=F.cv x hx; exact ⟨c,v₀,a,b,fun i v p q=>k i v p (h i v q)⟩,
  by obtain ⟨m,n,k⟩:=F.lv; exact ⟨m,n,fun i x v a b c=>k i x v a b (h i v c)⟩,F.vn⟩
set_option tactic.hygienic true in
theorem Fm.comp {scope:Scope} {t:Str} {C:Addr} (F:Fm g w env cx loc s) (hk:scope.kind = .function) (hc:compNames cx t scope.names scope.names = true) (hd:(t::capsOf scope.names).Nodup) (h0:sDot0 ∉ capsOf scope.names)
  (j:Jk g w C s) (hn:∃ m,s.heap.Ns C m) (hC:∀ x c,env.cells.lookup x = some c→c≠C) :
  Fm g w (compEnvC scope (clF env.cells scope.names []) C env) ⟨relS cx scope.names,t::capsOf scope.names⟩ (capLoc (none::(capsOf scope.names).map fun y=>idxS y cx.vars) loc) s:=by
 have mem:=compNames_mem hc
 have sub:∀ x c,(clF env.cells scope.names []).lookup x = some c→env.cells.lookup x = some c:=clF_sub fun x c q=>by simp at q
 have cap:∀ (i:Nat) (x:Str) (v:V),(t::capsOf scope.names)[i]? = some x→(capLoc (none::(capsOf scope.names).map fun y=>idxS y cx.vars) loc)[i]? = some (some v) →
   i≠0∧∃ k,cx.vars[k]? = some x∧loc[k]? = some (some v):=fun i x v a b=>by
  cases i with
  | zero=>simp [capLoc] at b
  | succ j =>
   refine ⟨Nat.succ_ne_zero _,?_⟩
   simp only [List.getElem?_cons_succ] at a
   simp only [capLoc,List.map_cons,List.getElem?_cons_succ,List.map_map,List.getElem?_map,a,Option.map_some,Function.comp,Option.some.injEq] at b
   split at b
   ·rename_i k hk
    refine ⟨k,idxS_get hk,?_⟩
    cases hl:loc[k]? with
    | none=>rw [hl] at b; cases b
    | some z=>rw [hl] at b; simp only [Option.join] at b; rw [show z = some v from b]
   ·cases b
 refine ⟨hk,relS_eq F.kind F.names scope,F.glb,F.bi,⟨j.N,j.T,j.B⟩,fun x c q=>?_,fun x y c p q=>F.cd x y c (sub _ _ p) (sub _ _ q),fun x hx=>?_,?_,hd⟩
 ·obtain ⟨a,b,t⟩:=F.cw x c (sub _ _ q)
  exact ⟨a,hC x c (sub _ _ q),t⟩
 ·have hm:=relS_var (fun p hp=>(mem p hp).1) hx
  have hk':=(mem _ hm).2.2 rfl
  obtain ⟨c,v₀,hc',hcell,k⟩:=F.cv x hk'
  have has:(clF env.cells scope.names []).lookup x≠none:=clF_has (.inr ⟨hm,by rw [hc']; exact Option.some_ne_none _⟩)
  refine ⟨c,v₀,?_,hcell,fun i v a b=>?_⟩
  ·cases q:(clF env.cells scope.names []).lookup x with
   | none=>exact absurd q has
   | some c'=>rw [show c' = c from Option.some.inj ((sub _ _ q).symm.trans hc')] at q; exact q
  ·obtain ⟨_,kk,p,q⟩:=cap i x v a b
   exact k kk v p q
 ·obtain ⟨m,hm⟩:=hn
  refine ⟨m,hm,fun i x v a b c=>?_⟩
  obtain ⟨i0,kk,p,q⟩:=cap i x v a c
  have hx:x = t:=by
   rcases ((mem _ (relS_loc b)).2.1 rfl).1 with e | e
   ·exact e
   ·cases i with
    | zero=>exact absurd rfl i0
    | succ j =>
     rw [List.getElem?_cons_succ] at a
     exact absurd (show sDot0∈capsOf scope.names from e ▸ List.mem_of_getElem? a) h0
  subst hx
  exact absurd (nodup_idx hd a (show (x::capsOf scope.names)[0]? = some x from rfl)) i0
theorem capLoc_zero {caps:List (Option Nat)}:∀ (i:Nat) (v u:V),(capLoc (none::caps) loc)[i]? = some (some u)→(setLoc (capLoc (none::caps) loc) 0 v)[i]? = some (some u):=fun i v u h=>by
 cases i with
 | zero=>simp [capLoc] at h
 | succ j=>simpa [setLoc,capLoc] using h
end
end Mine
end
section
open PySem PySem.W PyProof.Rows
namespace Mine
theorem relS_local {cx:Cx} {x:Str} {names:List (Str × NameKind)} (h:lookS x names = some .local):lookS x (relS cx names) = some .local:=by
 induction names with
 | nil=>cases h
 | cons p r ih =>
  have a:lookS x (p::r) = if sbeq x p.1 then some p.2 else lookS x r:=rfl
  have b:lookS x (relS cx (p::r)) = if sbeq x p.1 then some (if isFree p.2 then (match kindS cx p.1 with | some .cell=>.cell | _=>p.2) else p.2) else lookS x (relS cx r):=rfl
  rw [a] at h
  rw [b]
  cases e:sbeq x p.1 with
  | true=>rw [e] at h; have h:p.2 = .local:=Option.some.inj h; rw [h]; rfl
  | false=>rw [e] at h; exact ih h
theorem compL_nil {cnd:V→AH→KB→Prop} {elt:V→AH→KV→Prop} {still:AH→Prop} {acc:List V} {H:AH} {K:List V→AH→Prop} (h:compL cnd elt still [] acc H K):still H∧K acc H:=h
theorem compL_cons {cnd:V→AH→KB→Prop} {elt:V→AH→KV→Prop} {still:AH→Prop} {v:V} {r acc:List V} {H:AH} {K:List V→AH→Prop} (h:compL cnd elt still (v::r) acc H K) :
  still H∧cnd v H fun c H=>branch c (elt v H fun y H'=>compL cnd elt still r (acc++[y]) H' K) (compL cnd elt still r acc H K):=h
section
variable {g:Gd} {T:Tab} {S:Spec} {d:Nat} {cx cx':Cx} {c:Cx→Expr→X}
structure CI (g:Gd) (cx':Cx) (ce:Env) (loc':Loc) (F:Addr→Prop) (St:Wd→Nat→Shared→Prop) (D C:Addr) (w:Wd) (s:Shared) (cl:List V→AH→Prop) (i:Nat) (s':Shared):Prop where
 ex:∃ w' H' ws m ys,Ext (fun b=>b = D∨b = C∨F b) w s w' s'∧Kn g w' H' s'∧St w' i s'∧Fm g w' ce cx' loc' s'∧Jk g w' D s'∧s'.heap.get? D = some (listOf ws m)∧VRs w' ys ws.toList∧ys.length≤i∧cl ys H'
theorem noE_any {M:Model} {A:Around} {s:Shared} {α:Type} {t:Sem α} {Q:α→Shared→Prop} {E:Value→Shared→Prop} (h:wpAny M A t Q noE s):wpAny M A t Q E s:=wpAny_mono h (fun _ _ z=>z) fun _ _ z=>z.elim
theorem tests_ok {w:Wd} {H:AH} {s:Shared} {A:Around} {ce:Env} {loc:Loc} {ifs:List Expr} (G:Good g T S d c) (Rm:Room A d) (K:Kn g w H s) (F:Fm g w ce cx' loc s) {P:KB} (h:vT T S (cCnd (c cx') ifs) loc H P) :
  wpAny (model g.prog g.wd) A (forIn ifs true fun c r=>if r = true then do let ok ← isTrue c ce (eval c ce); pure (ForInStep.yield ok) else pure (ForInStep.yield r)) (PB g w s P) noE s:=by
 cases ifs with
 | nil=>exact wpAny_pure ⟨w,H,Ext.refl _ _ _,K,h⟩
 | cons e r=>cases r with
  | nil=>exact wpAny_tests_one (G.t cx' _ ce _ w H s A _ Rm K F h)
  | cons _ _=>exact (h:False).elim
theorem comp_loop {w:Wd} {s:Shared} {A:Around} {I D C:Addr} {F:Addr→Prop} {vs:List V} {still:AH→Prop} {St:Wd→Nat→Shared→Prop} {ce:Env} {caps:List (Option Nat)} {loc:Loc} {elt iter:Expr} {ifs:List Expr} {t:Str} {p pos:Pos} {scope:Scope}
  {K:List V→AH→Prop} {R:Result→Shared→Prop} (G:Good g T S d c) (Rm:Room A d) (N:Nx g I F vs still St) (hlen:vs.length≤1000) (hL:ce.locals = C) (hDC:D≠C) (hFD:¬ F D) (hFC:¬ F C) (hcells:∀ x a,ce.cells.lookup x = some a→a≠D∧¬ F a)
  (ht:cx'.vars[0]? = some t) (hk:kindS cx' t = some .local)
  (fin:∀ s' w' H' ws m ys (s₁:Shared),Ext (fun b=>b = D∨b = C∨F b) w s w' s₁→Kn g w' H' s₁→Fm g w' ce cx' (capLoc (none::caps) loc) s₁→Jk g w' D s₁→s₁.heap.get? D = some (listOf ws m)→VRs w' ys ws.toList→K ys H' →
   (∀ b,F b→w'.N b = none∧w'.T b = none∧g.B.get? b = none)→(∀ b o,¬ F b→s₁.heap.get? b = some o→s'.heap.get? b = some o)→Same s₁ s'→R (.ok .next) s') :
  ∀ n i s',i + n = vs.length→CI g cx' ce (capLoc (none::caps) loc) F St D C w s (fun ys H'=>compL (fun v H K=>vT T S (cCnd (c cx') ifs) (setLoc (capLoc (none::caps) loc) 0 v) H K) (fun v H K=>vE T S (c cx' elt) (setLoc (capLoc (none::caps) loc) 0 v) H K) still (vs.drop i) ys H' K) i s' →
   codeAny (model g.prog g.wd) A (.compLoop (.ListComp elt [⟨.Name t p,iter,ifs,0⟩] scope pos) 0 (.ref I) (.ref D) ce) R s':=by
 intro n i s' hin hci
 refine codeAny_compLoop_tests (I:=fun n s'=>∃ i,i + n = vs.length∧CI g cx' ce (capLoc (none::caps) loc) F St D C w s (fun ys H'=>compL (fun v H K=>vT T S (cCnd (c cx') ifs) (setLoc (capLoc (none::caps) loc) 0 v) H K) (fun v H K=>vE T S (c cx' elt) (setLoc (capLoc (none::caps) loc) 0 v) H K) still (vs.drop i) ys H' K) i s')
  (fun n s' hI=>?_) n ⟨i,hin,hci⟩
 obtain ⟨i,hin,w',H',ws,m,ys,ex,K',st,fm,jD,hD,rs,yl,cl⟩:=hI
 cases n with
 | zero =>
  have hi:i = vs.length:=by lia
  subst hi
  rw [List.drop_length] at cl
  obtain ⟨c1,c2⟩:=compL_nil cl
  refine noE_any (wpAny_mono (N.done Rm K' c1 st) (fun r s₁ z=>?_) fun _ _ z=>z)
  obtain ⟨rfl,z1,z2⟩:=z
  exact fin s₁ w' H' ws m ys s' ex K' fm jD hD rs c2 (fun b hb=>let o:=N.out st hb; ⟨o.1,o.2.1,o.2.2.1⟩) z1 z2
 | succ n =>
  have hi:i < vs.length:=by lia
  rw [List.drop_eq_getElem_cons hi] at cl
  obtain ⟨c1,c2⟩:=compL_cons cl
  refine noE_any (wpAny_mono (N.item Rm K' c1 st (List.getElem?_eq_getElem hi)) (fun r s₁ z=>?_) fun _ _ z=>z)
  obtain ⟨x,w₁,rfl,e₁,K₁,rx,st₁⟩:=z
  refine noE_any ?_
  have fm₁:Fm g w₁ ce cx' (capLoc (none::caps) loc) s₁:=fm.ext e₁ (hL ▸ hFC) fun y a q=>(hcells y a q).2
  have jD₁:=jD.ext e₁
  have hD₁:=e₁.kept _ _ hD jD.N hFD
  have at0:∀ b,StoreAt cx' ce t b→b = C:=fun b q=>by
   rcases q with ⟨_,q⟩ | ⟨q,_⟩
   ·exact q.trans hL
   ·rw [hk] at q; cases q
  refine assign_Name (storeVar K₁ fm₁ ht (.inl hk) rx fun s₂ e₂' K₂ fm₂=>?_)
  have e₂:Ext (fun b=>b = C) w₁ s₁ w₁ s₂:=e₂'.weak at0
  have st₂:=N.frame st₁ e₂ fun b hb q=>hFC (q ▸ hb)
  have jD₂:=jD₁.ext e₂
  have hD₂:=e₂.kept _ _ hD₁ jD₁.N hDC
  have X2:Ext (fun b=>b = D∨b = C∨F b) w s w₁ s₂:=(ex.trans (e₁.weak fun b h=>.inr (.inr h))).trans (e₂.weak fun b h=>.inr (.inl h))
  have tests:wpAny (model g.prog g.wd) A (forIn ifs true fun c r=>if r = true then do let ok ← isTrue c ce (eval c ce); pure (ForInStep.yield ok) else pure (ForInStep.yield r))
    (PB g w₁ s₂ fun c' H=>branch c' (vE T S (c cx' elt) (setLoc (capLoc (none::caps) loc) 0 vs[i]) H fun y H'=>compL (fun v H K=>vT T S (cCnd (c cx') ifs) (setLoc (capLoc (none::caps) loc) 0 v) H K) (fun v H K=>vE T S (c cx' elt) (setLoc (capLoc (none::caps) loc) 0 v) H K) still (vs.drop (i + 1)) (ys++[y]) H' K)
     (compL (fun v H K=>vT T S (cCnd (c cx') ifs) (setLoc (capLoc (none::caps) loc) 0 v) H K) (fun v H K=>vE T S (c cx' elt) (setLoc (capLoc (none::caps) loc) 0 v) H K) still (vs.drop (i + 1)) ys H K)) noE s₂:=by
   exact tests_ok G Rm K₂ fm₂ c2
  refine noE_any (seqB tests fun b w₃ H₃ s₃ e₃ K₃ q₃=>?_)
  have fm₃:=fm₂.ext0 e₃
  have st₃:=N.frame st₂ e₃ fun b _ q=>q
  have jD₃:=jD₂.ext e₃
  have hD₃:=e₃.kept _ _ hD₂ jD₂.N fun q=>q
  have X3:=X2.trans (e₃.weak (Y:=fun b=>b = D∨b = C∨F b) fun _ q=>q.elim)
  cases b with
  | false =>
   rw [if_neg (by decide)]
   exact ⟨n,Nat.lt_succ_self _,i + 1,by lia,w₃,H₃,ws,m,ys,X3,K₃,st₃,fm₃.forget (capLoc_zero · _ ·),jD₃,hD₃,((rs.mono e₁.le).mono e₂.le).mono e₃.le,by lia,q₃⟩
  | true =>
   rw [if_pos rfl]
   refine noE_any (seqE (G.e cx' elt ce _ w₃ H₃ s₃ A _ Rm K₃ fm₃ q₃) fun v y w₄ H₄ s₄ e₄ K₄ r₄ q₄=>?_)
   have fm₄:=fm₃.ext0 e₄
   have st₄:=N.frame st₃ e₄ fun b _ q=>q
   have jD₄:=jD₃.ext e₄
   have hD₄:=e₄.kept _ _ hD₃ jD₃.N fun q=>q
   have X4:=X3.trans (e₄.weak (Y:=fun b=>b = D∨b = C∨F b) fun _ q=>q.elim)
   have rs₄:VRs w₄ ys ws.toList:=(((rs.mono e₁.le).mono e₂.le).mono e₃.le).mono e₄.le
   refine wpAny_list_append_plain ⟨m,hD₄⟩ (fun h' hl' hs'=>?_) (by rw [← rs₄.lenA,sizeLine_eq]; lia)
   obtain ⟨m',hD₅⟩:=hl'
   have e₅:Ext (fun b=>b = D) w₄ s₄ w₄ { s₄ with heap:=h' }:=Ext.at (tk:=s₄.toks) hs' (by rw [hD₅]; exact Option.some_ne_none _)
   have K₅:Kn g w₄ H₄ { s₄ with heap:=h' }:=Kn.at (tk:=s₄.toks) K₄ hs' jD₄.N jD₄.T jD₄.B
   refine ⟨n,Nat.lt_succ_self _,i + 1,by lia,w₄,H₄,ws.push y,m',ys++[v],X4.trans (e₅.weak fun b q=>.inl q),K₅,N.frame st₄ e₅ (fun b hb q=>hFD (q ▸ hb)),
    (fm₄.ext e₅ (fun q=>hDC (q.symm.trans hL)) fun x a q z=>(hcells x a q).1 z).forget (capLoc_zero · _ ·),jD₄.ext e₅,hD₅,?_,by rw [List.length_append]; simp; lia,q₄⟩
   rw [Array.toList_push]
   exact rs₄.append (.cons r₄ .nil)
end
end Mine
end
section
open PySem PySem.W PyProof.Rows
namespace Mine
theorem Ext.lessTo {X Y:Addr→Prop} {w w':Wd} {s s':Shared} (a:Ext X w s w' s') (h:∀ b,X b→Y b∨s.heap.get? b = none):Ext Y w s w' s' :=
 ⟨a.le,(fun b o q hn hy=>a.kept b o q hn fun z=>(h b z).elim hy fun h=>by
  rw [h] at q; cases q),a.there,a.fresh,a.freshT,a.gens,a.drawn,a.os,a.mu,a.stay⟩
theorem Ext.drop {X F:Addr→Prop} {w w':Wd} {s s₁ s':Shared} (a:Ext (fun b=>X b∨F b) w s w' s₁) (hF:∀ b,F b→s.heap.get? b = none) (k:∀ b o,¬ F b→s₁.heap.get? b = some o→s'.heap.get? b = some o) (sm:Same s₁ s'):Ext X w s w' s':=by
 have nF:∀ b o,s.heap.get? b = some o→¬ F b:=fun b o q hb=>by rw [hF b hb] at q; cases q
 refine ⟨a.le,fun b o q hn hx=>k b o (nF b o q) (a.kept b o q hn fun z=>z.elim hx (nF b o q)),fun b q=>?_,a.fresh,a.freshT,sm.gens.trans a.gens,sm.drawn.trans a.drawn,sm.os.trans a.os,a.mu,a.stay⟩
 cases z:s.heap.get? b with
 | none=>exact absurd z q
 | some o =>
  cases y:s₁.heap.get? b with
  | none=>exact absurd y (a.there b q)
  | some o'=>rw [k b o' (nF b o z) y]; exact Option.some_ne_none _
section
variable {g:Gd} {T:Tab} {S:Spec} {d:Nat} {cx:Cx} {c:Cx→Expr→X} {u:Un} {K:Frag}
noncomputable def CompFin (g:Gd) (A:Around) (w:Wd) (s:Shared) (Q:KV) (use:Option (Value→Sem Unit)) (Qp:Value→Shared→Prop):Prop :=
 ∀ (D C:Addr) (w':Wd) (H':AH) (s':Shared) (ws:Array Value) (m:Nat) (ys:List V),s.heap.get? D = none→s.heap.get? C = none→D≠C→Ext (fun b=>b = D∨b = C) w s w' s'→Kn g w' H' s'→Jk g w' D s'→Jk g w' C s' →
  s'.heap.get? D = some (listOf ws m)→VRs w' ys ws.toList→(∃ mm,s'.heap.Ns C mm)→Nw Q H' (.list ys)→compPost (model g.prog g.wd) A noE use Qp (.ref D) C (.ok .next) s'
theorem isLocO_some {o:Option NameKind} (h:isLocO o = true):o = some .local:=by
 cases o with
 | none=>cases h
 | some k=>cases k <;> first | rfl | cases h
theorem cSrc_set {e:Expr} {loc:Loc} {H:AH} {Q:KV} (h:vE T S (cSrc (c cx) e).2 loc H Q):isSet e = false:=by
 revert h
 delta cSrc
 cases isSet e with
 | false=>exact fun _=>rfl
 | true=>exact fun h=>(h:False).elim
theorem cComp_cases {P:List Comprehension→X→Prop} {elt:Expr} {scope:Scope} (b:∀ gens,P gens .bad)
  (k:∀ t p src ifs,compOK cx t scope = true→P [⟨.Name t p,src,ifs,0⟩] (.comp (c ⟨relS cx scope.names,t::capsOf scope.names⟩ elt) 0 (cSrc (c cx) src).1 (cSrc (c cx) src).2
   (cCnd (c ⟨relS cx scope.names,t::capsOf scope.names⟩) ifs) (none::(capsOf scope.names).map fun y=>idxS y cx.vars))) (gens:List Comprehension):P gens (cComp cx c elt gens scope):=by
 cases gens with
 | nil=>exact b _
 | cons q r =>
  obtain ⟨tg,src,ifs,as⟩:=q
  cases tg with
  | Name t p=>cases as with
   | ofNat n=>cases n with
    | zero=>cases r with
     | nil =>
      have k:=k t p src ifs
      have b:=b [⟨.Name t p,src,ifs,0⟩]
      revert k
      show _→P _ (if compOK cx t scope then _ else .bad)
      cases compOK cx t scope with
      | true=>exact fun k=>k rfl
      | false=>exact fun _=>b
     | cons _ _=>exact b _
    | succ _=>exact b _
   | negSucc _=>exact b _
  | _=>exact b _
theorem comp_core (P:PF g u T K) (EO:EnumOK g d) (G:Good g T S d c) {elt:Expr} {gens:List Comprehension} {scope:Scope} {pos pos':Pos} {env:Env} {loc:Loc} {w:Wd} {H:AH} {s:Shared} {A:Around} {Q:KV} {use:Option (Value→Sem Unit)} {Qp:Value→Shared→Prop}
  (R:Room A d) (Kn₀:Kn g w H s) (F₀:Fm g w env cx loc s) (h:vE T S (cComp cx c elt gens scope) loc H Q) (fin:CompFin g A w s Q use Qp) :
  wpAny (model g.prog g.wd) A (comprehension (.ListComp elt gens scope pos) scope env pos' (newList []) (firstAsync gens) (firstIter gens env) use) Qp noE s:=by
 revert h
 refine cComp_cases (P:=fun gens X=>vE T S X loc H Q→wpAny (model g.prog g.wd) A (comprehension (.ListComp elt gens scope pos) scope env pos' (newList []) (firstAsync gens) (firstIter gens env) use) Qp noE s) (fun _ h=>h.elim) (fun t p src ifs hc h=>?_) gens
 ··simp only [compOK,Bool.and_eq_true] at hc
   obtain ⟨⟨⟨⟨h1,h2⟩,h3⟩,h4⟩,h5⟩:=hc
   have h0:sDot0 ∉ capsOf scope.names:=fun q=>by
    rw [memS_of q] at h5; cases h5
   have hkind:scope.kind = .function:=by cases hq:scope.kind <;> rw [hq] at h1 <;> first | rfl | cases h1
   have hnd:=nodupS_nodup h2
   have hmem:=compNames_mem h3
   have hloc:=isLocO_some h4
   replace h:vE T S (cSrc (c cx) src).2 loc H fun x H=>srcV (cSrc (c cx) src).1 x H fun vs still H =>
    compL (fun v H K=>vT T S (cCnd (c ⟨relS cx scope.names,t::capsOf scope.names⟩) ifs) (setLoc (capLoc (none::(capsOf scope.names).map fun y=>idxS y cx.vars) loc) 0 v) H K)
     (fun v H K=>vE T S (c ⟨relS cx scope.names,t::capsOf scope.names⟩ elt) (setLoc (capLoc (none::(capsOf scope.names).map fun y=>idxS y cx.vars) loc) 0 v) H K) still vs [] H fun ys H=>Nw Q H (.list ys):=h
   have hset:=cSrc_set h
   have hcl:=closure_ok (scope:=scope) (env:=env) fun p hp hf=>by
    obtain ⟨c,v₀,q,_⟩:=F₀.cv p.1 ((hmem p hp).2.2 hf)
    rw [q]; exact Option.some_ne_none _
   refine wpAny_comprehension_free (g:=⟨.Name t p,src,ifs,0⟩) (gs:=[]) rfl (fun x=>by cases src <;> first | rfl | cases hset) hcl hkind (fun x hx hl=>by rw [← lookS_eq]; exact ((hmem x hx).2.1 hl).2) ?_
   show wpAny _ A (eval src env) _ _ _
   refine wpAny_mono (src_ok P EO G env loc w H s A _ R Kn₀ F₀ h) (fun x s₀ z=>wpAny_mono z (fun it s₁ z=>?_) fun _ _ x=>x) fun _ _ x=>x
   obtain ⟨I,F,vs,still,St,w₁,H₁,rfl,e₁,K₁,N,st,hF,hlen,q₁⟩:=z
   refine wpAny_newObj_type ?_
   have K₂:Mine.Kn g w₁ H₁ { s₁ with heap:=s₁.heap.push { cls:=.type "list",data:=.seq ([]:List Value).toArray } }:=K₁.all fun _ _ q=>Heap.get?_push_of_some _ q
   have e₂:Ext noX w₁ s₁ w₁ { s₁ with heap:=s₁.heap.push { cls:=.type "list",data:=.seq ([]:List Value).toArray } }:=Ext.all fun _ _ q=>Heap.get?_push_of_some _ q
   have gD:(s₁.heap.push { cls:=.type "list",data:=.seq ([]:List Value).toArray }).get? s₁.heap.objs.size = some (listOf #[] 0):=Heap.get?_push_size _ rfl
   have fD:=not_there s₁.heap
   refine wpAny_newFunctionEnv (fun x hx=>(hmem x hx).1) (by intro y hy; simp at hy) (fun h₁ hns hsb=>?_) hkind
   dsimp only at hns hsb ⊢
   generalize hH2:s₁.heap.push { cls:=.type "list",dict:=none,data:=.seq ([]:List Value).toArray } = H2 at hns hsb gD K₂ e₂ ⊢
   have fC:=not_there H2
   have hDC:s₁.heap.objs.size≠H2.objs.size:=fun e=>by rw [e,fC] at gD; cases gD
   have keep:∀ b o,H2.get? b = some o→h₁.get? b = some o:=fun b o q=>by
    have hb:b≠H2.objs.size:=fun e=>by rw [e,fC] at q; cases q
    exact (hsb.2 b hb).trans (Heap.get?_push_of_some _ q)
   have K₃:Mine.Kn g w₁ H₁ { s₁ with heap:=h₁,toks:=s₁.toks + ([]:List (Str × Value)).length }:=K₂.all keep
   have e₃:Ext noX w₁ { s₁ with heap:=H2 } w₁ { s₁ with heap:=h₁,toks:=s₁.toks + ([]:List (Str × Value)).length }:=Ext.all keep
   have e03:=e₂.trans e₃
   have nC:=N_free K₂ fC
   have tC:=T_free K₂ fC
   have bC:=B_free K₂ fC
   have jC:Jk g w₁ H2.objs.size { s₁ with heap:=h₁,toks:=s₁.toks + ([]:List (Str × Value)).length }:=⟨nC,tC,bC,Ns.there hns⟩
   have gD₃:=keep _ _ gD
   have jD:Jk g w₁ s₁.heap.objs.size { s₁ with heap:=h₁,toks:=s₁.toks + ([]:List (Str × Value)).length }:=⟨N_free K₁ fD,T_free K₁ fD,B_free K₁ fD,by show h₁.get? _≠none; rw [gD₃]; exact Option.some_ne_none _⟩
   have nFD:¬ F s₁.heap.objs.size:=fun q=>(N.out st q).2.2.2 fD
   have nFC:¬ F H2.objs.size:=fun q=>by
    have:=(N.out st q).2.2.2
    cases z:s₁.heap.get? H2.objs.size with
    | none=>exact this z
    | some o=>rw [show H2.get? H2.objs.size = some o from e₂.kept _ _ z nC fun x=>x] at fC; cases fC
   have st₃:=N.frame st e03 fun _ _ x=>x
   have F₃:Fm g w₁ env cx loc { s₁ with heap:=h₁,toks:=s₁.toks + ([]:List (Str × Value)).length }:=(F₀.ext0 e₁).ext0 e03
   have F₁:=F₀.ext0 e₁
   have hC:∀ x a,env.cells.lookup x = some a→a≠H2.objs.size:=fun x a q e=>by
    have:=(F₁.ext0 e₂).cw x a q
    exact this.2.2 (e ▸ fC)
   have hD:∀ x a,env.cells.lookup x = some a→a≠s₁.heap.objs.size:=fun x a q e=>(F₁.cw x a q).2.2 (e ▸ fD)
   have sub:∀ x a,(clF env.cells scope.names []).lookup x = some a→env.cells.lookup x = some a:=clF_sub fun x c q=>by simp at q
   have loop:codeAny (model g.prog g.wd) A (.compLoop (.ListComp elt [⟨.Name t p,src,ifs,0⟩] scope pos) 0 (.ref I) (.ref s₁.heap.objs.size) (compEnvC scope (clF env.cells scope.names []) H2.objs.size env))
     (compPost (model g.prog g.wd) A noE use Qp (.ref s₁.heap.objs.size) H2.objs.size) { s₁ with heap:=h₁,toks:=s₁.toks + ([]:List (Str × Value)).length }:=by
    refine comp_loop (cx':=⟨relS cx scope.names,t::capsOf scope.names⟩) (C:=H2.objs.size) (caps:=(capsOf scope.names).map fun y=>idxS y cx.vars) (loc:=loc) (K:=fun ys H=>Nw Q H (.list ys)) (w:=w) (s:=s) G R N hlen rfl hDC nFD nFC (fun x a q=>⟨hD x a (sub x a q),fun z=>?_⟩) rfl (relS_local hloc) ?_ vs.length 0 _ (by lia) ?_
    ·have:=F₀.cw x a (sub x a q)
     exact this.2.2 (hF a z)
    ·intro s' w' H' ws m ys sL ex K' fm jD' gD' rs q jF k sm
     have ex':Ext (fun b=>b = s₁.heap.objs.size∨b = H2.objs.size) w s w' s':=Ext.drop (F:=F) (ex.weak fun b h=>by rcases h with h | h | h; exact .inl (.inl h); exact .inl (.inr h); exact .inr h) hF k sm
     have KK:Mine.Kn g w' H' s':=K'.keep (X:=F) (fun b o q hx=>k b o hx q) (fun b hb=>(jF b hb).2.2) (fun b hb=>(jF b hb).1) fun b hb=>(jF b hb).2.1
     obtain ⟨mm,⟨oC,es,ep,hoC,hrC⟩,_⟩:=fm.lv
     have fresh:∀ b,s₁.heap.get? b = none→s.heap.get? b = none:=fun b q=>by
      cases z:s.heap.get? b with
      | none=>rfl
      | some o=>exact absurd q (e₁.there b (by rw [z]; exact Option.some_ne_none _))
     have fC1:s₁.heap.get? H2.objs.size = none:=by
      cases z:s₁.heap.get? H2.objs.size with
      | none=>rfl
      | some o=>rw [show H2.get? H2.objs.size = some o from e₂.kept _ _ z nC fun x=>x] at fC; cases fC
     have gC':=k _ _ nFC hoC
     refine fin _ _ w' H' s' ws m ys (fresh _ fD) (fresh _ fC1) hDC ex' KK ⟨jD'.N,jD'.T,jD'.B,by rw [k _ _ nFD gD']; exact Option.some_ne_none _⟩ ⟨fm.out.1,fm.out.2.1,fm.out.2.2,by rw [gC']; exact Option.some_ne_none _⟩ (k _ _ nFD gD') rs ⟨mm,oC,es,ep,gC',hrC⟩ q
    ·exact ⟨w₁,H₁,#[],0,[],(e₁.trans e03).weak fun _ q=>q.elim,K₃,st₃,F₃.comp hkind h3 hnd h0 jC ⟨_,hns⟩ hC,jD,gD₃,.nil,Nat.le_refl _,by rw [List.drop_zero]; exact q₁⟩
   exact codeAny_compStart_list loop (N.self st₃ loop)
theorem Ext.adoptX {X:Addr→Prop} {a:Addr} {w₀ w:Wd} {s₀ s s':Shared} (hN₀:w₀.N a = none) (hf:s₀.heap.get? a = none) (e:Ext (fun b=>b = a∨X b) w₀ s₀ w s) (k:∀ b o,b≠a→s.heap.get? b = some o→s'.heap.get? b = some o) (ob:Obj) (ha:s'.heap.get? a = some ob) (sm:Same s s') :
  Ext X w₀ s₀ (w.one a ob) s':=by
 refine Ext.lessTo (X:=fun b=>b = a∨X b) ⟨e.le.trans (Wd.one_le _ _ _),fun b o q hn hx=>k _ _ (fun z=>hx (.inl z)) (e.kept b o q hn hx),fun b q=>?_,fun b q=>?_,e.freshT,sm.gens.trans e.gens,sm.drawn.trans e.drawn,sm.os.trans e.os,e.mu,fun q b o h=>?_⟩ fun b q=>q.elim (fun z=>.inr (z ▸ hf)) .inl
 ·by_cases h:b = a
  ·rw [h,ha]; exact Option.some_ne_none _
  ·cases z:s.heap.get? b with
   | none=>exact absurd z (e.there b q)
   | some o=>rw [k b o h z]; exact Option.some_ne_none _
 ·by_cases h:b = a
  ·exact .inr (h ▸ hf)
  ·have q':(if b = a then some ob else w.N b)≠none:=q
   rw [if_neg h] at q'
   exact e.fresh b q'
 ·show (if b = a then some ob else w.N b) = some o
  rw [if_neg fun z=>by rw [z] at h; rw [hN₀] at h; cases h]
  exact e.stay q b o h
theorem comp_fin {w:Wd} {H:AH} {s:Shared} {A:Around} {Q:KV} (K₀:Mine.Kn g w H s):CompFin g A w s Q none (PE g w s Q):=by
 intro D C w' H' s' ws m ys fD fC hDC ex K' jD jC gD rs hn q
 obtain ⟨mm,hn⟩:=hn
 refine ⟨mm,hn,fun h' hs=>?_⟩
 have K₂:Mine.Kn g w' H' { s' with heap:=h' }:=Kn.at (tk:=s'.toks) K' hs jC.N jC.T jC.B
 have e₂:Ext (fun b=>b = D) w s w' { s' with heap:=h' }:=Ext.drop (F:=fun b=>b = C) ex (fun b e=>e ▸ fC) (fun b o hb z=>(hs.2 b hb).trans z) ⟨rfl,rfl,rfl⟩
 have gD₂:h'.get? D = some (listOf ws m):=(hs.2 D hDC).trans gD
 exact ⟨.ref H'.next,_,_,Ext.adopt (s:={ s' with heap:=h' }) (N_free K₀ fD) fD e₂ (fun _ _ _ z=>z) _ gD₂ ⟨rfl,rfl,rfl⟩,K₂.adopt jD.N jD.T jD.B (fun _ _ _ z=>z) _ gD₂ rfl (OK.newList (xs:=ws.toList) K₂ D rs),VR.newRef K₂ D _,q.h⟩
theorem comp_E (P:PF g u T K) (EO:EnumOK g d) (G:Good g T S d c) {elt:Expr} {gens:List Comprehension} {scope:Scope} {pos:Pos}:GoodE g T S d cx (cComp cx c elt gens scope) (.ListComp elt gens scope pos) :=
 fun _ _ _ _ _ _ _ R Kn₀ F₀ h=>comp_core P EO G R Kn₀ F₀ h (comp_fin Kn₀)
noncomputable def PS (g:Gd) (w:Wd) (s:Shared) (env:Env) (cx:Cx) (K:Loc→AH→Prop) (R:KV) (f:Flow) (s':Shared):Prop :=
 match f with
 | .next=>∃ w' H' loc',Ext (Own env) w s w' s'∧Kn g w' H' s'∧Fm g w' env cx loc' s'∧K loc' H'
 | .ret x=>∃ w' H' v,Ext (Own env) w s w' s'∧Kn g w' H' s'∧VR w' v x∧R v H'
 | _=>False
theorem comp_fin_use {w:Wd} {H:AH} {s:Shared} {A:Around} {env:Env} {loc:Loc} {x:Str} {i:Nat} {p:Pos} {KK:Loc→AH→Prop} {R:KV} (K₀:Mine.Kn g w H s) (F₀:Fm g w env cx loc s) (hi:cx.vars[i]? = some x) (hk:kindS cx x = some .local∨kindS cx x = some .cell) :
  CompFin g A w s (fun v H=>KK (setLoc loc i v) H) (some (assign (.Name x p) env)) (fun _ s'=>PS g w s env cx KK R .next s'):=by
 intro D C w' H' s' ws m ys fD fC hDC ex K' jD jC gD rs hn q
 obtain ⟨mm,hn⟩:=hn
 have hL:env.locals≠D∧env.locals≠C:=⟨fun e=>F₀.thereL (e ▸ fD),fun e=>F₀.thereL (e ▸ fC)⟩
 have hc:∀ y a,env.cells.lookup y = some a→a≠D∧a≠C:=fun y a z=>⟨fun e=>(F₀.cw y a z).2.2 (e ▸ fD),fun e=>(F₀.cw y a z).2.2 (e ▸ fC)⟩
 have K₁:=K'.adopt jD.N jD.T jD.B (fun _ _ _ z=>z) _ gD rfl (OK.newList (xs:=ws.toList) (m:=m) K' D rs)
 have e₁:Ext (fun b=>b = C) w s (w'.one D (listOf ws.toList.toArray m)) s':=Ext.adoptX (N_free K₀ fD) fD ex (fun _ _ _ z=>z) _ gD ⟨rfl,rfl,rfl⟩
 have F₁:=F₀.ext e₁ hL.2 fun y a z=>(hc y a z).2
 have jC₁:Jk g (w'.one D (listOf ws.toList.toArray m)) C s':=⟨(if_neg fun e=>hDC e.symm).trans jC.N,jC.T,jC.B,jC.th⟩
 have notC:∀ b,Own env b→b≠C:=fun b hb=>by
  rcases hb with rfl | ⟨y,hb⟩
  ·exact hL.2
  ·exact (hc y b hb).2
 show wpAny _ A (assign (.Name x p) env (.ref D)) _ _ _
 refine assign_Name (storeVar K₁ F₁ hi hk (VR.newRef K' D _) fun s₂ e₂ K₂ F₂=>?_)
 have nsC:s₂.heap.Ns C mm:=by
  obtain ⟨o,es,ep,ho,hr⟩:=hn
  exact ⟨o,es,ep,e₂.kept _ _ ho jC₁.N fun z=>notC C z.own rfl,hr⟩
 refine ⟨mm,nsC,fun h' hs=>?_⟩
 have jC₂:=jC₁.ext e₂
 have K₃:Mine.Kn g _ _ { s₂ with heap:=h' }:=Kn.at (tk:=s₂.toks) K₂ hs jC₂.N jC₂.T jC₂.B
 have e₃:Ext (Own env) w s (w'.one D (listOf ws.toList.toArray m)) { s₂ with heap:=h' } :=
  Ext.drop (F:=fun b=>b = C) (s₁:=s₂) ((e₁.weak fun b h=>.inr h).trans (e₂.weak fun b h=>.inl h.own)) (fun b e=>e ▸ fC) (fun b o hb z=>(hs.2 b hb).trans z) ⟨rfl,rfl,rfl⟩
 refine ⟨_,_,_,e₃,K₃,?_,q.h⟩
 refine ⟨F₂.kind,F₂.names,F₂.glb,F₂.bi,F₂.out,fun y a z=>?_,F₂.cd,fun y hy=>?_,?_,F₂.vn⟩
 ·obtain ⟨b1,b2,b3⟩:=F₂.cw y a z
  exact ⟨b1,b2,by show h'.get? a≠none; rw [hs.2 a (hc y a z).2]; exact b3⟩
 ·obtain ⟨a,v₀,z,⟨o,ho,hd⟩,k⟩:=F₂.cv y hy
  exact ⟨a,v₀,z,⟨o,(hs.2 a (hc y a z).2).trans ho,hd⟩,k⟩
 ·obtain ⟨m',⟨o,es,ep,ho,hr⟩,k⟩:=F₂.lv
  exact ⟨m',⟨o,es,ep,(hs.2 _ hL.2).trans ho,hr⟩,k⟩
end
end Mine
end
section
open PySem PySem.W PyProof.Rows
namespace Mine
noncomputable def callish:X→Bool
 | .call ..=>true | .meth ..=>true | .bad=>true
 | _=>false
section
variable {g:Gd} {T:Tab} {S:Spec} {d:Nat} {cx:Cx} {c:Cx→Expr→X} {u:Un} {K:Frag}
theorem callish_T {x:X} (h:callish x = true) {loc:Loc} {H:AH} {Q:KB} (v:vT T S x loc H Q):vE T S x loc H fun v H=>truthyV v H Q:=by
 cases x <;> first | exact v | exact (v:False).elim | cases h
theorem cCall_cases {P:Expr→X→Prop} {c:Expr→X} {args:List Expr} {pos:Pos} (bad:∀ f,P f .bad) (nm:∀ f v,args.any isStar = false→c f = .lit v→(∀ a x p,f≠.Attribute a x p)→P f (.call v (args.map c)))
  (cls:∀ a x apos C l i f,args.any isStar = false→apos.endLine = pos.line→isCall a = false→args.length < 30→c a = .lit (.glob C)→idxS x u.ats = some i→lookA C u.cls = some l→lookA i l = some f→P (.Attribute a x apos) (.call (.glob f) (args.map c)))
  (mt:∀ a x apos i,args.any isStar = false→apos.endLine = pos.line→isCall a = false→args.length < 30→idxS x u.ats = some i→P (.Attribute a x apos) (.meth (c a) i (args.map c))) (f:Expr):P f (cCall u c f args pos):=by
 delta cCall
 cases hs:args.any isStar with
 | true=>exact bad f
 | false =>
  have plain:(∀ a x p,f≠.Attribute a x p)→P f (match c f with | .lit v=>.call v (args.map c) | _=>.bad):=fun ne=>by
   cases hc:c f with
   | lit v=>exact nm f v hs hc ne
   | _=>exact bad f
  cases f with
  | Attribute a x apos =>
   clear plain
   show P _ (if Nat.beq apos.endLine pos.line then cMethA u c a x args else .bad)
   cases hp:Nat.beq apos.endLine pos.line with
   | false=>exact bad _
   | true =>
    have hp:=Nat.eq_of_beq_eq_true hp
    show P _ (cMethA u c a x args)
    delta cMethA
    cases hc:isCall a with
    | true=>exact bad _
    | false=>cases hl:Nat.ble args.length 20 with
     | false=>exact bad _
     | true =>
      have hl:args.length < 30:=Nat.lt_of_le_of_lt (Nat.le_of_ble_eq_true hl) (by decide)
      cases hi:idxS x u.ats with
      | none=>exact bad _
      | some i =>
       have mt:=mt a x apos i hs hp hc hl hi
       show P _ (match c a with
        | .lit (.glob C)=>(match lookA C u.cls with
         | some l=>(match lookA i l with | some f=>.call (.glob f) (args.map c) | none=>.bad)
         | none=>.bad)
        | y=>.meth y i (args.map c))
       revert mt
       cases ha:c a with
       | lit v=>cases v with
        | glob C =>
         intro _
         show P _ (match lookA C u.cls with
          | some l=>(match lookA i l with | some f=>.call (.glob f) (args.map c) | none=>.bad)
          | none=>.bad)
         cases hC:lookA C u.cls with
         | none=>exact bad _
         | some l =>
          show P _ (match lookA i l with | some f=>.call (.glob f) (args.map c) | none=>.bad)
          cases hf:lookA i l with
          | none=>exact bad _
          | some f=>exact cls a x apos C l i f hs hp hc hl ha hi hC hf
        | _=>exact fun mt=>mt
       | _=>exact fun mt=>mt
  | _=>exact plain fun _ _ _ e=>by cases e
theorem cCall_callish (f:Expr) (args:List Expr) (pos:Pos) (c:Expr→X):callish (cCall u c f args pos) = true :=
 cCall_cases (P:=fun _ X=>callish X = true) (fun _=>rfl) (fun _ _ _ _ _=>rfl) (fun _ _ _ _ _ _ _ _ _ _ _ _ _ _ _=>rfl) (fun _ _ _ _ _ _ _ _ _=>rfl) f
theorem call_E (P:PF g u T K) (SO:SpecOK g K S d) (BO:BltOK g T d) (G:Good g T S (d + 1) c) {f:Expr} {args:List Expr} {pos:Pos}:GoodE g T S (d + 1) cx (cCall u (c cx) f args pos) (.Call f args [] pos) :=
 cCall_cases (P:=fun f X=>GoodE g T S (d + 1) cx X (.Call f args [] pos)) (fun _=>bad_E) (fun _ _ hs hv ne=>nameCall_E P SO BO G hv hs ne)
  (fun _ _ _ _ _ _ _ hs hp hc hl ha hi hC hf=>clsCall_E P SO BO G ha hs hc hl hp (idxS_get hi) hC hf) (fun _ _ _ _ hs hp hc hl hi=>meth_E P SO G hs hc hl hp (idxS_get hi)) f
theorem call_T (P:PF g u T K) (SO:SpecOK g K S d) (BO:BltOK g T d) (G:Good g T S (d + 1) c) {f:Expr} {args:List Expr} {pos:Pos}:GoodT g T S (d + 1) cx (cCall u (c cx) f args pos) (.Call f args [] pos) :=
 fun env loc w H s A Q R Kn F h=>by
  refine isTrue_plain (seqE (call_E P SO BO G env loc w H s A _ R Kn F (callish_T (cCall_callish f args pos (c cx)) h)) fun v x w₁ H₁ s₁ e₁ K₁ r₁ q₁=>?_)
  exact afterB e₁ (truthyV_ok K₁ r₁ q₁)
theorem ite_no {b:Bool} {x y:X} {loc:Loc} {H:AH} {Q:KB} (h:¬ vT T S x loc H Q) (k:¬ vT T S y loc H Q):¬ vT T S (if b then x else y) loc H Q:=by
 cases b with
 | true=>exact h
 | false=>exact k
theorem cAttr_T {c:Expr→X} {a:Expr} {x:Str} {loc:Loc} {H:AH} {Q:KB}:¬ vT T S (cAttr u c a x) loc H Q:=by
 delta cAttr
 refine ite_no (fun h=>h) ?_
 cases idxS x u.ats <;> exact fun h=>h
theorem cSub_T {c:Expr→X} {a i:Expr} {loc:Loc} {H:AH} {Q:KB}:¬ vT T S (cSub c a i) loc H Q:=by
 cases i with
 | Slice lo hi st p=>cases lo <;> cases hi <;> cases st <;> exact fun h=>h
 | _=>exact fun h=>h
theorem cDict_T {c:Expr→X} {ks:List (Option Expr)} {vs:List Expr} {loc:Loc} {H:AH} {Q:KB}:¬ vT T S (cDict c ks vs) loc H Q:=by
 delta cDict
 cases keyStrs ks with
 | none=>exact fun h=>h
 | some l=>exact ite_no (fun h=>h) fun h=>h
theorem good_cE (P:PF g u T K) (SO:SpecOK g K S d) (BO:BltOK g T d) (EO:EnumOK g (d + 1)):∀ n,Good g T S (d + 1) (cE u n)
 | 0=>⟨fun _ _=>bad_E,fun _ _=>bad_T,fun _ _ _=>rfl⟩
 | n + 1=>by
  have G:=good_cE P SO BO EO n
  refine ⟨fun cx e=>?_,fun cx e=>?_,fun _ _ _=>rfl⟩
  ·cases e with
   | Constant k m p=>exact const_E
   | Name x p=>exact fun env loc w H s A Q R Kn F h=>name_ok P.gl Kn F h
   | BinOp l op r p=>exact bin_E G
   | UnaryOp op x p=>exact un_E G
   | BoolOp op vs p=>cases op with
    | And=>exact and_E G vs
    | Or=>exact or_E G vs
   | IfExp t a b p=>exact ite_E G
   | Compare l ops rs p=>exact cmp_E G
   | Attribute a x p=>exact attr_E P G
   | Subscript a i p=>exact sub_E P.scr G
   | Call f args kws p=>cases kws with
    | nil=>exact call_E P SO BO G
    | cons=>exact bad_E
   | List es p=>exact list_E G
   | Tuple es k p=>exact tup_E G
   | Dict ks vs p=>exact dict_E G
   | ListComp elt gens scope p=>exact comp_E P EO G
   | _=>exact bad_E
  ·cases e with
   | Constant k m p=>exact const_T
   | Name x p=>exact name_T P.gl
   | BinOp l op r p=>exact no_T fun _ _ _ h=>h
   | UnaryOp op x p=>exact un_T G
   | BoolOp op vs p=>cases op with
    | And=>exact fun env loc w H s A Q R Kn F h=>and_T G vs env loc w H s A Q R Kn F h _
    | Or=>exact fun env loc w H s A Q R Kn F h=>or_T G vs env loc w H s A Q R Kn F h _
   | IfExp t a b p=>exact ite_T G
   | Compare l ops rs p=>exact cmp_T G
   | Attribute a x p=>exact no_T fun _ _ _=>cAttr_T
   | Subscript a i p=>exact no_T fun _ _ _=>cSub_T
   | Call f args kws p=>cases kws with
    | nil=>exact call_T P SO BO G
    | cons=>exact bad_T
   | List es p=>exact no_T fun _ _ _=>ite_no (fun h=>h) fun h=>h
   | Tuple es k p=>exact no_T fun _ _ _=>ite_no (fun h=>h) fun h=>h
   | Dict ks vs p=>exact no_T fun _ _ _=>cDict_T
   | ListComp elt gens scope p=>exact no_T fun _ _ _=>cComp_cases (P:=fun _ X=>¬ vT T S X _ _ _) (fun _ h=>h) (fun _ _ _ _ _ h=>h) gens
   | _=>exact bad_T
end
end Mine
end
section
open PySem PySem.W PyProof.Rows
namespace Mine
theorem assign_Sub_eq (a i:Expr) (p:Pos) (env:Env) (val:Value):∃ rl:Value→Value→List Value,assign (.Subscript a i p) env val = (do
  let ov ← holding [val] (eval a env)
  let iv ← holding [val,ov] (eval i env)
  standAt p
  holding [val,ov,iv] (setItem ov iv val)
  release (rl ov iv) []):=⟨_,rfl⟩
noncomputable def PA (g:Gd) (w:Wd) (s:Shared) (env:Env) (cx:Cx) (K:Loc→AH→Prop) (_:Unit) (s':Shared):Prop :=
 ∃ w' H' loc',Ext (Own env) w s w' s'∧Kn g w' H' s'∧Fm g w' env cx loc' s'∧K loc' H'
theorem Ext.own {w w':Wd} {s s':Shared} {env:Env} (e:Ext noX w s w' s'):Ext (Own env) w s w' s':=e.weak fun _ q=>q.elim
section
variable {g:Gd} {T:Tab} {S:Spec} {d:Nat} {cx:Cx} {c:Cx→Expr→X} {u:Un} {Kf:Frag}
variable {w:Wd} {H:AH} {s:Shared} {A:Around} {env:Env} {loc:Loc}
theorem PA.after {w₁:Wd} {s₁ s':Shared} {K:Loc→AH→Prop} {x:Unit} (e:Ext (Own env) w s w₁ s₁) (h:PA g w₁ s₁ env cx K x s'):PA g w s env cx K x s':=by
 obtain ⟨w',H',l,a,d⟩:=h
 exact ⟨w',H',l,e.trans a,d⟩
theorem PS.after {w₁:Wd} {s₁ s':Shared} {K:Loc→AH→Prop} {R:KV} {f:Flow} (e:Ext (Own env) w s w₁ s₁) (h:PS g w₁ s₁ env cx K R f s'):PS g w s env cx K R f s':=by
 cases f with
 | next=>obtain ⟨w',H',l,a,d⟩:=h; exact ⟨w',H',l,e.trans a,d⟩
 | ret x=>obtain ⟨w',H',l,a,d⟩:=h; exact ⟨w',H',l,e.trans a,d⟩
 | brk=>exact h.elim
 | cont=>exact h.elim
theorem cTg_cases {P:Expr→Tg→Prop} {c:Expr→X} (b:∀ t,P t .bad) (v:∀ x p i,idxS x cx.vars = some i→(kindS cx x = some .local∨kindS cx x = some .cell)→P (.Name x p) (.var i))
  (at':∀ a x p i,idxS x u.ats = some i→P (.Attribute a x p) (.attr (c a) i)) (it:∀ a i p,P (.Subscript a i p) (.item (c a) (c i))) (t:Expr):P t (cTg u cx c t):=by
 cases t with
 | Name x p =>
  show P _ (match idxS x cx.vars with | some i=>(match kindS cx x with | some .local | some .cell=>.var i | _=>.bad) | none=>.bad)
  cases hi:idxS x cx.vars with
  | none=>exact b _
  | some i =>
   show P _ (match kindS cx x with | some .local | some .cell=>.var i | _=>.bad)
   cases hk:kindS cx x with
   | none=>exact b _
   | some k=>cases k with
    | «local»=>exact v x p i hi (.inl hk)
    | cell=>exact v x p i hi (.inr hk)
    | _=>exact b _
 | Attribute a x p =>
  show P _ (match idxS x u.ats with | some i=>.attr (c a) i | none=>.bad)
  cases hi:idxS x u.ats with
  | none=>exact b _
  | some i=>exact at' a x p i hi
 | Subscript a i p=>cases i <;> first | exact it _ _ _ | exact b _
 | _=>exact b _
theorem tg_ok (P:PF g u T Kf) (G:Good g T S d c) {t:Expr} {v:V} {val:Value} {K:Loc→AH→Prop} (R:Room A d) (Kn₀:Kn g w H s) (F:Fm g w env cx loc s) (hv:VR w v val):vTg T S (cTg u cx (c cx) t) v loc H K →
  wpAny (model g.prog g.wd) A (assign t env val) (PA g w s env cx K) noE s:=by
 refine cTg_cases (P:=fun t X=>vTg T S X v loc H K→wpAny (model g.prog g.wd) A (assign t env val) (PA g w s env cx K) noE s) (fun _ h=>h.elim) (fun x p i hi hk h=>?_) (fun a x p i hi h=>?_) (fun a i p h=>?_) t
 ·exact assign_Name (storeVar Kn₀ F (idxS_get hi) hk hv fun s' e K' F'=>⟨w,H,_,e.weak fun _ q=>q.own,K',F',h⟩)
 ·show wpAny _ A (do let ov ← holding [val] (eval a env); standAt p.atName; holding [val,ov] (setAttr ov x val); release [val,ov] []) _ _ _
  refine wpAny_bind (wpAny_holding (seqE (G.e cx a env loc w H s A _ R Kn₀ F h) fun y o w₁ H₁ s₁ e₁ K₁ r₁ q₁=>wpAny_bind (wpAny_standAt (wpAny_bind (wpAny_holding ?_)))))
  refine seqU (setAttr_ok P K₁ r₁ (hv.mono e₁.le) (idxS_get hi) q₁) fun w₂ H₂ s₂ e₂ K₂ q₂=>?_
  exact wpAny_release' ⟨w₂,H₂,loc,(e₁.trans e₂).own,K₂,(F.ext0 e₁).ext0 e₂,q₂⟩
 ·obtain ⟨rl,e⟩:=assign_Sub_eq a i p env val
  rw [e]
  refine wpAny_bind (wpAny_holding (seqE (G.e cx a env loc w H s A _ R Kn₀ F h) fun y o w₁ H₁ s₁ e₁ K₁ r₁ q₁=>?_))
  refine wpAny_bind (wpAny_holding (seqE (G.e cx i env loc w₁ H₁ s₁ A _ R K₁ (F.ext0 e₁) q₁) fun z iv w₂ H₂ s₂ e₂ K₂ r₂ q₂=>wpAny_bind (wpAny_standAt (wpAny_bind (wpAny_holding ?_)))))
  refine seqU (opSetItem_ok K₂ (r₁.mono e₂.le) r₂ ((hv.mono e₁.le).mono e₂.le) q₂) fun w₃ H₃ s₃ e₃ K₃ q₃=>?_
  exact wpAny_release' ⟨w₃,H₃,loc,((e₁.trans e₂).trans e₃).own,K₃,((F.ext0 e₁).ext0 e₂).ext0 e₃,q₃⟩
theorem assignEach_cons {t:Expr} {r:List Expr} (h:isStar t = false):assignEach (t::r) env = (false,assign t env)::assignEach r env:=by cases t <;> first | rfl | cases h
theorem tgs_ok (P:PF g u T Kf) (G:Good g T S d c) (R:Room A d) (ts:List Expr):∀ (vs:List V) (vals:List Value) (w:Wd) (H:AH) (s:Shared) (loc:Loc) (K:Loc→AH→Prop),ts.any isStar = false→Kn g w H s→Fm g w env cx loc s→VRs w vs vals→vTgs T S (ts.map (cTg u cx (c cx))) vs loc H K →
  wpAny (model g.prog g.wd) A (assignInOrder ((assignEach ts env).map (·.2)) vals) (PA g w s env cx K) noE s:=by
 induction ts with
 | nil =>
  intro vs vals w H s loc K _ Kn₀ F hv h
  cases vs with
  | nil=>exact assignInOrder_nil ⟨w,H,loc,Ext.refl _ _ _,Kn₀,F,h⟩
  | cons _ _=>exact (h:False).elim
 | cons t ts ih =>
  intro vs vals w H s loc K hs Kn₀ F hv h
  cases hv with
  | nil=>exact (h:False).elim
  | @cons v _ vs _ hv hvs =>
   replace h:vTg T S (cTg u cx (c cx) t) v loc H fun loc H=>vTgs T S (ts.map (cTg u cx (c cx))) vs loc H K:=h
   rw [List.any_cons,Bool.or_eq_false_iff] at hs
   rw [assignEach_cons hs.1,List.map_cons]
   refine assignInOrder_cons (wpAny_mono (tg_ok P G R Kn₀ F hv h) (fun _ s₁ z=>?_) fun _ _ x=>x)
   obtain ⟨w₁,H₁,loc₁,e₁,K₁,F₁,q₁⟩:=z
   exact wpAny_mono (ih _ _ w₁ H₁ s₁ loc₁ K hs.2 K₁ F₁ (hvs.mono e₁.le) q₁) (fun _ _ z=>z.after e₁) fun _ _ x=>x
theorem draw_ok {I:Addr} {Fp:Addr→Prop} {vs:List V} {still:AH→Prop} {St:Wd→Nat→Shared→Prop} (N:Nx g I Fp vs still St) (R:Room A d) (hst:still H):∀ (n i:Nat) (w:Wd) (s:Shared),Kn g w H s→St w i s→i + n≤vs.length →
  wpAny (model g.prog g.wd) A (draw (.ref I) n) (fun xs s'=>∃ w',Ext Fp w s w' s'∧Kn g w' H s'∧VRs w' ((vs.drop i).take n) xs∧St w' (i + n) s') noE s
 | 0,i,w,s,K,st,_=>wpAny_pure ⟨w,Ext.refl _ _ _,K,by simpa using VRs.nil,st⟩
 | n + 1,i,w,s,K,st,hle=>by
  have hi:i < vs.length:=by lia
  show wpAny _ _ (pyNext (.ref I) >>= _) _ _ s
  refine wpAny_bind (wpAny_mono (N.item R K hst st (List.getElem?_eq_getElem hi)) (fun r s₁ z=>?_) fun _ _ x=>x)
  obtain ⟨x,w₁,rfl,e₁,K₁,rx,st₁⟩:=z
  refine wpAny_bind (wpAny_holding (wpAny_mono (draw_ok N R hst n (i + 1) w₁ s₁ K₁ st₁ (by lia)) (fun xs s₂ z=>?_) fun _ _ x=>x))
  obtain ⟨w₂,e₂,K₂,rs,st₂⟩:=z
  refine wpAny_pure ⟨w₂,e₁.trans e₂,K₂,?_,by rw [show i + (n + 1) = i + 1 + n by lia]; exact st₂⟩
  rw [List.drop_eq_getElem_cons hi,List.take_succ_cons]
  exact .cons (rx.mono e₂.le) rs
theorem unpackItems_ok (P:PF g u T Kf) {x:V} {a:Value} {vs:List V} (R:Room A d) (K:Kn g w H s) (hx:VR w x a) (h:x = .tup vs∨∃ l,x = .ref l∧H.get l = some (.list vs)) (hlen:vs.length≤1000) :
  wpAny (model g.prog g.wd) A (unpackItems a vs.length none) (PL g w s fun us H'=>us = vs∧H' = H) noE s:=by
 have look:∀ {Q:Bool→Shared→Prop},Q false s→wpAny (model g.prog g.wd) A (notIterableAtAll a) Q noE s:=fun {Q} q=>by
  rcases h with rfl | ⟨l,rfl,hl⟩
  ·obtain ⟨ws,ad,m,rfl,hT,hs⟩:=hx.tupI
   unfold notIterableAtAll
   exact wpAny_bind (wpAny_specialOf (T:="tuple") ⟨_,isT K hT,rfl⟩ F.slot_tuple_iter.lookup (wpAny_pure q))
  ·obtain rfl:=hx.refI
   obtain ⟨ws,m,i1,v1,_⟩:=isL K hl
   unfold notIterableAtAll
   exact wpAny_bind (wpAny_specialOf (T:="list") ⟨_,i1,rfl⟩ F.slot_list_iter.lookup (wpAny_pure q))
 have src:wpAny (model g.prog g.wd) A (pyIter a) (SrcP g w s fun us still H'=>us = vs∧H' = H∧still H) noE s:=by
  refine srcOf_ok P K hx ?_
  rcases h with rfl | ⟨l,rfl,hl⟩
  ·exact ⟨hlen,rfl,rfl,trivial⟩
  ·exact .inl ⟨vs,hl,hlen,rfl,rfl,hl⟩
 unfold unpackItems
 refine wpAny_bind (look ?_)
 rw [if_neg (by decide)]
 refine wpAny_bind (wpAny_holding (wpAny_mono src (fun it s₁ z=>?_) fun _ _ x=>x))
 obtain ⟨I,Fp,us,still,St,w₁,H₁,rfl,e₁,K₁,N,st,hF,_,rfl,rfl,hst⟩:=z
 refine wpAny_bind (wpAny_holding (wpAny_mono (draw_ok N R hst us.length 0 w₁ s₁ K₁ st (by lia)) (fun xs s₂ z=>?_) fun _ _ x=>x))
 obtain ⟨w₂,e₂,K₂,rs,st₂⟩:=z
 rw [List.drop_zero,List.take_length] at rs
 rw [if_neg (by rw [← rs.length]; lia)]
 refine wpAny_bind (wpAny_holding (wpAny_mono (N.done R K₂ hst (by simpa using st₂)) (fun r s₃ z=>?_) fun _ _ x=>x))
 obtain ⟨rfl,k,sm⟩:=z
 rw [if_neg (by decide)]
 refine wpAny_pure ⟨us,w₂,_,?_,?_,rs,rfl,rfl⟩
 ·exact Ext.drop (X:=noX) (F:=Fp) ((e₁.weak fun b q=>q.elim).trans (e₂.weak fun b q=>.inr q)) hF k sm
 ·exact K₂.keep (X:=Fp) (fun b o q hx=>k b o hx q) (fun b hb=>(N.out st₂ hb).2.2.1) (fun b hb=>(N.out st₂ hb).1) fun b hb=>(N.out st₂ hb).2.1
end
end Mine
end
section
open PySem PySem.W PyProof.Rows
namespace Mine
noncomputable def GoodS (g:Gd) (T:Tab) (S:Spec) (d:Nat) (cx:Cx) (st:St) (e:Stmt):Prop:=∀ env loc w H s A K R,Room A d→Kn g w H s→Fm g w env cx loc s→vS T S st loc H K R →
 wpAny (model g.prog g.wd) A (exec e env) (PS g w s env cx K R) noE s
noncomputable def GoodSs (g:Gd) (T:Tab) (S:Spec) (d:Nat) (cx:Cx) (st:List St) (e:List Stmt):Prop:=∀ env loc w H s A K R,Room A d→Kn g w H s→Fm g w env cx loc s→vSs T S st loc H K R →
 wpAny (model g.prog g.wd) A (execs e env) (PS g w s env cx K R) noE s
section
variable {g:Gd} {T:Tab} {S:Spec} {d:Nat} {cx:Cx} {c:Cx→Expr→X} {u:Un} {Kf:Frag}
theorem bad_S {e:Stmt}:GoodS g T S d cx .bad e:=fun env loc w H s A K R _ _ _ h=>h.elim
theorem afterS {w w₁:Wd} {s s₁:Shared} {A:Around} {env:Env} {K:Loc→AH→Prop} {R:KV} {t:Sem Flow} (e:Ext (Own env) w s w₁ s₁) (h:wpAny (model g.prog g.wd) A t (PS g w₁ s₁ env cx K R) noE s₁):wpAny (model g.prog g.wd) A t (PS g w s env cx K R) noE s₁ :=
 wpAny_mono h (fun _ _ z=>z.after e) fun _ _ x=>x
theorem expr_S (G:Good g T S d c) {e:Expr} {pos:Pos} (he:isComp e = false):GoodS g T S d cx (.ex (c cx e)) (.Expr e pos):=fun env loc w H s A K R Rm Kn₀ F h=>by
 refine wpAny_Expr_any (seqE (G.e cx e env loc w H s A _ Rm Kn₀ F h) fun v x w₁ H₁ s₁ e₁ K₁ r₁ q₁=>⟨w₁,H₁,loc,e₁.own,K₁,F.ext0 e₁,q₁⟩) ?_ ?_
 ·unfold interactive; rw [F.kind]; rfl
 ·cases e <;> first | rfl | cases he
theorem ret_S (G:Good g T S d c) {e:Expr} {pos:Pos}:GoodS g T S d cx (.ret (c cx e)) (.Return (some e) pos):=fun env loc w H s A K R Rm Kn₀ F h=>by
 exact wpAny_Return_some (seqE (G.e cx e env loc w H s A _ Rm Kn₀ F h) fun v x w₁ H₁ s₁ e₁ K₁ r₁ q₁=>⟨w₁,H₁,v,e₁.own,K₁,r₁,q₁⟩)
theorem retN_S {pos:Pos}:GoodS g T S d cx .retN (.Return none pos):=fun env loc w H s A K R Rm Kn₀ F h=>by
 exact wpAny_Return_none ⟨w,H,.none,Ext.refl _ _ _,Kn₀,.none,h⟩
theorem pass_S {pos:Pos}:GoodS g T S d cx .pass (.Pass pos):=fun env loc w H s A K R Rm Kn₀ F h=>by
 exact wpAny_Pass ⟨w,H,loc,Ext.refl _ _ _,Kn₀,F,h⟩
theorem if_S (G:Good g T S d c) {t:Expr} {a b:List Stmt} {sa sb:List St} {pos:Pos} (ha:GoodSs g T S d cx sa a) (hb:GoodSs g T S d cx sb b):GoodS g T S d cx (.iff (c cx t) sa sb) (.If t a b pos):=fun env loc w H s A K R Rm Kn₀ F h=>by
 refine wpAny_If (seqB (G.t cx t env loc w H s A _ Rm Kn₀ F h) fun q w₁ H₁ s₁ e₁ K₁ q₁=>?_)
 cases q with
 | true=>exact afterS e₁.own (ha env loc w₁ H₁ s₁ A K R Rm K₁ (F.ext0 e₁) q₁)
 | false=>exact afterS e₁.own (hb env loc w₁ H₁ s₁ A K R Rm K₁ (F.ext0 e₁) q₁)
theorem nil_Ss:GoodSs g T S d cx [] []:=fun env loc w H s A K R Rm Kn₀ F h=>by
 exact wpAny_pure ⟨w,H,loc,Ext.refl _ _ _,Kn₀,F,h⟩
theorem cons_Ss {st:St} {r:List St} {e:Stmt} {es:List Stmt} (h1:GoodS g T S d cx st e) (h2:GoodSs g T S d cx r es):GoodSs g T S d cx (st::r) (e::es):=fun env loc w H s A K R Rm Kn₀ F h=>by
 refine wpAny_execs_cons (wpAny_mono (h1 env loc w H s A _ R Rm Kn₀ F h) (fun f s₁ z=>?_) fun _ _ x=>x)
 cases f with
 | next =>
  obtain ⟨w₁,H₁,l₁,e₁,K₁,F₁,q⟩:=z
  exact afterS e₁ (h2 env l₁ w₁ H₁ s₁ A K R Rm K₁ F₁ q)
 | ret x=>exact z
 | brk=>exact z.elim
 | cont=>exact z.elim
theorem while_S (G:Good g T S d c) {t:Expr} {b:List Stmt} {sb:List St} {pos:Pos} (hb:GoodSs g T S d cx sb b):GoodS g T S d cx (.whil (c cx t) sb) (.While t b [] pos):=fun env loc w H s A K R Rm Kn₀ F h=>by
 obtain ⟨n,h⟩:=h
 refine wpAny_While (codeAny_whileLoop (I:=fun n s'=>∃ w' H' l',Ext (Own env) w s w' s'∧Kn g w' H' s'∧Fm g w' env cx l' s'∧whileN (vT T S (c cx t)) (fun loc H K=>vSs T S sb loc H K R) K n l' H') (fun n s' hI=>?_) n ⟨w,H,loc,Ext.refl _ _ _,Kn₀,F,h⟩)
 obtain ⟨w',H',l',e',K',F',q'⟩:=hI
 cases n with
 | zero=>exact q'.elim
 | succ n =>
  refine noE_any (seqB (G.t cx t env l' w' H' s' A _ Rm K' F' q') fun z w₁ H₁ s₁ e₁ K₁ q₁=>?_)
  cases z with
  | false =>
   rw [if_neg (by decide)]
   exact wpAny_pure ⟨w₁,H₁,l',e'.trans e₁.own,K₁,F'.ext0 e₁,q₁⟩
  | true =>
   rw [if_pos rfl]
   refine noE_any (wpAny_mono (hb env l' w₁ H₁ s₁ A _ R Rm K₁ (F'.ext0 e₁) q₁) (fun f s₂ z=>?_) fun _ _ x=>x)
   cases f with
   | next =>
    obtain ⟨w₂,H₂,l₂,e₂,K₂,F₂,q₂⟩:=z
    exact ⟨n,Nat.lt_succ_self _,w₂,H₂,l₂,(e'.trans e₁.own).trans e₂,K₂,F₂,q₂⟩
   | ret x=>exact PS.after (e'.trans e₁.own) z
   | brk=>exact z.elim
   | cont=>exact z.elim
theorem assignTuple_ok (P:PF g u T Kf) (G:Good g T S d c) {env:Env} {loc:Loc} {w:Wd} {H:AH} {s:Shared} {A:Around} {ts:List Expr} {k:Nat} {p:Pos} {x:V} {a:Value} {vs:List V} {K:Loc→AH→Prop} (R:Room A d) (Kn₀:Kn g w H s) (F:Fm g w env cx loc s) (hx:VR w x a)
  (hs:ts.any isStar = false) (hl:ts.length≤1000) (hv:x = .tup vs∨∃ l,x = .ref l∧H.get l = some (.list vs)) (hn:vs.length = ts.length) (h:vTgs T S (ts.map (cTg u cx (c cx))) vs loc H K) :
  wpAny (model g.prog g.wd) A (assign (.Tuple ts k p) env a) (PA g w s env cx K) noE s:=by
 show wpAny _ A (do standAt p; unpack a (assignEach ts env)) _ _ _
 refine wpAny_bind (wpAny_standAt ?_)
 have hlen:∀ ts:List Expr,(assignEach ts env).length = ts.length:=fun ts=>by
  induction ts with
  | nil=>rfl
  | cons t r ih=>cases t <;> exact congrArg Nat.succ ih
 have hstar:∀ ts:List Expr,ts.any isStar = false→(assignEach ts env).findIdx? (·.1) = none:=fun ts=>by
  induction ts with
  | nil=>intro _; rfl
  | cons t r ih =>
   intro h
   rw [List.any_cons,Bool.or_eq_false_iff] at h
   rw [assignEach_cons h.1,List.findIdx?_cons]
   simp [ih h.2]
 unfold unpack
 rw [hlen,hstar ts hs,← hn]
 refine wpAny_bind (wpAny_holding (seqL (unpackItems_ok P R Kn₀ hx hv (by lia)) fun us xs w₁ H₁ s₁ e₁ K₁ rs q=>?_))
 obtain ⟨rfl,rfl⟩:=q
 exact wpAny_mono (tgs_ok P G R ts us xs w₁ _ s₁ loc K hs K₁ (F.ext0 e₁) rs h) (fun _ _ z=>z.after e₁.own) fun _ _ x=>x
theorem for_loop {env:Env} {w:Wd} {s:Shared} {A:Around} {I:Addr} {F:Addr→Prop} {vs:List V} {still:AH→Prop} {St':Wd→Nat→Shared→Prop} {target:Expr} {b:List Stmt} {sb:List St} {K:Loc→AH→Prop} {R:KV}
  (stepA:V→Loc→AH→(Loc→AH→Prop)→Prop) (Rm:Room A d) (N:Nx g I F vs still St') (hF:∀ b,F b→s.heap.get? b = none) (hL:¬ F env.locals) (hC:∀ x a,env.cells.lookup x = some a→¬ F a)
  (hasg:∀ v x w H s loc K',Kn g w H s→Fm g w env cx loc s→VR w v x→stepA v loc H K'→wpAny (model g.prog g.wd) A (assign target env x) (PA g w s env cx K') noE s) (hb:GoodSs g T S d cx sb b) :
  ∀ n i s',i + n = vs.length→(∃ w' H' l',Ext (fun b=>Own env b∨F b) w s w' s'∧Kn g w' H' s'∧St' w' i s'∧Fm g w' env cx l' s'∧forL (fun v loc H K=>still H∧stepA v loc H fun loc H=>vSs T S sb loc H K R) (vs.drop i) l' H' fun loc H=>still H∧K loc H) →
   codeAny (model g.prog g.wd) A (.forLoop target (.ref I) b [] env) (fun r s'=>match r with | .ok f=>PS g w s env cx K R f s' | .error e=>cameBackBy (model g.prog g.wd) A env noE e s') s':=by
 intro n i s' hin hci
 refine codeAny_forLoop_any (I:=fun n s'=>∃ i,i + n = vs.length∧∃ w' H' l',Ext (fun b=>Own env b∨F b) w s w' s'∧Kn g w' H' s'∧St' w' i s'∧Fm g w' env cx l' s'∧forL (fun v loc H K=>still H∧stepA v loc H fun loc H=>vSs T S sb loc H K R) (vs.drop i) l' H' fun loc H=>still H∧K loc H)
  (fun n s' hI=>?_) n ⟨i,hin,hci⟩
 obtain ⟨i,hin,w',H',l',ex,K',st,fm,cl⟩:=hI
 cases n with
 | zero =>
  have hi:i = vs.length:=by lia
  subst hi
  rw [List.drop_length] at cl
  obtain ⟨c1,c2⟩:=cl
  refine noE_any (wpAny_mono (N.done Rm K' c1 st) (fun r s₁ z=>?_) fun _ _ z=>z)
  obtain ⟨rfl,z1,z2⟩:=z
  have e₁:Ext (Own env) w s w' s₁:=Ext.drop (F:=F) ex hF z1 z2
  have K₁:Kn g w' H' s₁:=K'.keep (X:=F) (fun b o q hx=>z1 b o hx q) (fun b hb=>(N.out st hb).2.2.1) (fun b hb=>(N.out st hb).1) fun b hb=>(N.out st hb).2.1
  have F₁:Fm g w' env cx l' s₁:=by
   refine ⟨fm.kind,fm.names,fm.glb,fm.bi,fm.out,fun y a z=>?_,fm.cd,fun y hy=>?_,?_,fm.vn⟩
   ·obtain ⟨b1,b2,b3⟩:=fm.cw y a z
    refine ⟨b1,b2,?_⟩
    cases q:s'.heap.get? a with
    | none=>exact absurd q b3
    | some o=>rw [z1 a o (hC y a z) q]; exact Option.some_ne_none _
   ·obtain ⟨a,v₀,z,⟨o,ho,hd⟩,k⟩:=fm.cv y hy
    exact ⟨a,v₀,z,⟨o,z1 a o (hC y a z) ho,hd⟩,k⟩
   ·obtain ⟨m',⟨o,es,ep,ho,hr⟩,k⟩:=fm.lv
    exact ⟨m',⟨o,es,ep,z1 _ o hL ho,hr⟩,k⟩
  exact wpAny_pure ⟨w',H',l',e₁,K₁,F₁,c2⟩
 | succ n =>
  have hi:i < vs.length:=by lia
  rw [List.drop_eq_getElem_cons hi] at cl
  obtain ⟨c1,c2⟩:=cl
  refine noE_any (wpAny_mono (N.item Rm K' c1 st (List.getElem?_eq_getElem hi)) (fun r s₁ z=>?_) fun _ _ z=>z)
  obtain ⟨x,w₁,rfl,e₁,K₁,rx,st₁⟩:=z
  refine noE_any (N.own K₁ st₁ rx fun s₂ e₂ K₂ st₂=>?_)
  have e12:=e₁.trans e₂
  have fm₂:Fm g w₁ env cx l' s₂:=fm.ext e12 hL hC
  refine noE_any (wpAny_mono (hasg _ x w₁ H' s₂ l' _ K₂ fm₂ (rx.mono e₂.le) c2) (fun _ s₃ z=>?_) fun _ _ x=>x)
  obtain ⟨w₃,H₃,l₃,e₃,K₃,F₃,q₃⟩:=z
  have X3:Ext (fun b=>Own env b∨F b) w s w₃ s₃:=(ex.trans (e12.weak fun b h=>.inr h)).trans (e₃.weak fun b h=>.inl h)
  have notF:∀ b,F b→¬ Own env b:=fun b hb q=>by
   rcases q with rfl | ⟨y,q⟩
   ·exact hL hb
   ·exact hC y b q hb
  have st₃:=N.frame st₂ e₃ notF
  refine noE_any (wpAny_mono (hb env l₃ w₃ H₃ s₃ A _ R Rm K₃ F₃ q₃) (fun f s₄ z=>?_) fun _ _ x=>x)
  cases f with
  | next =>
   obtain ⟨w₄,H₄,l₄,e₄,K₄,F₄,q₄⟩:=z
   exact ⟨n,Nat.lt_succ_self _,i + 1,by lia,w₄,H₄,l₄,X3.trans (e₄.weak fun b h=>.inl h),K₄,N.frame st₃ e₄ notF,F₄,q₄⟩
  | ret x =>
   obtain ⟨w₄,H₄,v,e₄,K₄,r₄,q₄⟩:=z
   exact ⟨w₄,H₄,v,(X3.trans (e₄.weak fun b h=>.inl h)).lessTo fun b h=>h.elim .inl fun h=>.inr (hF b h),K₄,r₄,q₄⟩
  | brk=>exact z.elim
  | cont=>exact z.elim
end
end Mine
end
section
open PySem PySem.W PyProof.Rows
namespace Mine
section
variable {g:Gd} {T:Tab} {S:Spec} {d:Nat} {cx:Cx} {c:Cx→Expr→X} {u:Un} {Kf:Frag}
theorem notset_fold {e:Expr} {env:Env} (h:isSet e = false) (x:Value):foldedSetIterable e env x = pure x:=by
 cases e <;> first | rfl | cases h
theorem for_gen (P:PF g u T Kf) (EO:EnumOK g d) (G:Good g T S d c) {target src:Expr} {b:List Stmt} {sb:List St} {pos:Pos} (stepA:V→Loc→AH→(Loc→AH→Prop)→Prop) {env:Env} {loc:Loc} {w:Wd} {H:AH} {s:Shared} {A:Around} {K:Loc→AH→Prop} {R:KV}
  (Rm:Room A d) (Kn₀:Kn g w H s) (F₀:Fm g w env cx loc s) (hasg:∀ v x w H s loc K',Kn g w H s→Fm g w env cx loc s→VR w v x→stepA v loc H K'→wpAny (model g.prog g.wd) A (assign target env x) (PA g w s env cx K') noE s) (hb:GoodSs g T S d cx sb b)
  (h:vE T S (cSrc (c cx) src).2 loc H fun x H=>srcV (cSrc (c cx) src).1 x H fun vs still H=>forL (fun v loc H K=>still H∧stepA v loc H fun loc H=>vSs T S sb loc H K R) vs loc H fun loc H=>still H∧K loc H) :
  wpAny (model g.prog g.wd) A (exec (.For target src b [] pos) env) (PS g w s env cx K R) noE s:=by
 refine wpAny_For (wpAny_mono (src_ok P EO G env loc w H s A _ Rm Kn₀ F₀ h) (fun x s₀ z=>wpAny_mono z (fun it s₁ z=>?_) fun _ _ x=>x) fun _ _ x=>x) (notset_fold (cSrc_set h))
 obtain ⟨I,F,vs,still,St',w₁,H₁,rfl,e₁,K₁,N,st,hF,hlen,q₁⟩:=z
 have F₁:=F₀.ext0 e₁
 exact for_loop stepA Rm N hF (fun q=>F₀.thereL (hF _ q)) (fun x a q z=>(F₀.cw x a q).2.2 (hF a z)) hasg hb vs.length 0 s₁ (by lia) ⟨w₁,H₁,loc,e₁.weak fun _ q=>q.elim,K₁,st,F₁,by rw [List.drop_zero]; exact q₁⟩
theorem cTg_Name {x:Str} {p:Pos}:cTg u cx (c cx) (.Name x p) = .bad∨∃ i,cTg u cx (c cx) (.Name x p) = .var i∧idxS x cx.vars = some i∧(kindS cx x = some .local∨kindS cx x = some .cell) :=
 cTg_cases (u:=u) (P:=fun t X=>∀ x p,t = .Name x p→X = .bad∨∃ i,X = .var i∧idxS x cx.vars = some i∧(kindS cx x = some .local∨kindS cx x = some .cell)) (fun _ _ _ _=>.inl rfl)
  (fun x p i hi hk x' p' e=>by cases e; exact .inr ⟨i,rfl,hi,hk⟩) (fun _ _ _ _ _ _ _ e=>by cases e) (fun _ _ _ _ _ e=>by cases e) (.Name x p) x p rfl
theorem cTg_name {x:Str} {p:Pos} {i:Nat} (h:cTg u cx (c cx) (.Name x p) = .var i):idxS x cx.vars = some i∧(kindS cx x = some .local∨kindS cx x = some .cell):=by
 rcases cTg_Name (u:=u) (cx:=cx) (c:=c) (x:=x) (p:=p) with e | ⟨j,e,q⟩
 ·cases e.symm.trans h
 ·cases e.symm.trans h; exact q
theorem for_S (P:PF g u T Kf) (EO:EnumOK g d) (G:Good g T S d c) {t src:Expr} {b:List Stmt} {sb:List St} {pos:Pos} (hb:GoodSs g T S d cx sb b):GoodS g T S d cx (cFor u cx (c cx) t src sb) (.For t src b [] pos):=by
 cases t with
 | Name x p =>
  show GoodS g T S d cx (match cTg u cx (c cx) (.Name x default) with | .var i=>.for1 i (cSrc (c cx) src).1 (cSrc (c cx) src).2 sb | _=>.bad) _
  cases hi:cTg u cx (c cx) (.Name x default) with
  | var i =>
   obtain ⟨h1,h2⟩:=cTg_name hi
   intro env loc w H s A K R Rm Kn₀ F₀ h
   exact for_gen P EO G (fun v loc H K=>K (setLoc loc i v) H) Rm Kn₀ F₀ (fun v x w H s loc K' Kn F hv q=>assign_Name (storeVar Kn F (idxS_get h1) h2 hv fun s' e K'' F'=>⟨w,H,_,e.weak fun _ q=>q.own,K'',F',q⟩)) hb h
  | _=>exact bad_S
 | Tuple ts k pp=>cases ts with
  | nil=>exact bad_S
  | cons a r=>cases a with
   | Name x p=>cases r with
    | nil=>exact bad_S
    | cons b' r=>cases b' with
     | Name y p'=>cases r with
      | cons _ _=>exact bad_S
      | nil =>
       show GoodS g T S d cx (match cTg u cx (c cx) (.Name x default),cTg u cx (c cx) (.Name y default) with | .var i,.var j=>.for2 i j (cSrc (c cx) src).1 (cSrc (c cx) src).2 sb | _,_=>.bad) _
       cases hi:cTg u cx (c cx) (.Name x default) with
       | var i=>cases hj:cTg u cx (c cx) (.Name y default) with
        | var j =>
         intro env loc w H s A K R Rm Kn₀ F₀ h
         refine for_gen P EO G (fun v loc H K=>pairV v fun x y=>K (setLoc (setLoc loc i x) j y) H) Rm Kn₀ F₀ (fun v z w H s loc K' Kn F hv q=>?_) hb h
         obtain ⟨a,b,rfl,q⟩:=pairV.inv q
         refine assignTuple_ok P G (vs:=[a,b]) Rm Kn F hv rfl (Nat.le_of_ble_eq_true rfl) (.inl rfl) rfl ?_
         have e1:cTg u cx (c cx) (.Name x p) = .var i:=hi
         have e2:cTg u cx (c cx) (.Name y p') = .var j:=hj
         rw [List.map_cons,List.map_cons,e1,e2]
         exact q
        | _=>exact bad_S
       | _=>exact bad_S
     | _=>exact bad_S
   | _=>exact bad_S
 | _=>exact bad_S
theorem exec_Assign1 {M:Model} {A:Around} {E:Value→Shared→Prop} {s:Shared} {env:Env} {t value:Expr} {pos:Pos} {Q:Flow→Shared→Prop} (hs:swapsWithSole [t] value pos.line env = pure false) (hw:swappedStores [t] value env = pure none)
  (h:wpAny M A (eval value env) (fun v s₁=>wpAny M A (assign t env v) (fun _=>Q .next) E s₁) E s) (ht:isStar t = false) :
  wpAny M A (exec (.Assign [t] value pos) env) Q E s:=by
 rw [exec_Assign]
 refine wpAny_bind (wpAny_standAt ?_)
 rw [hs]
 refine wpAny_bind (wpAny_pure ?_)
 rw [if_neg (by decide)]
 refine wpAny_bind (wpAny_mono h (fun v s₁ h₁=>?_) fun _ _ x=>x)
 rw [hw]
 refine wpAny_bind (wpAny_pure ?_)
 have e:(assignEach [t] env).map (·.2) = [assign t env]:=by cases t <;> first | rfl | cases ht
 rw [e]
 show wpAny M A (do assignAll v [assign t env]; pure .next) Q E s₁
 exact wpAny_bind (wpAny_mono h₁ (fun _ _ x=>wpAny_pure x) fun _ _ x=>x)
theorem swaps_bool (value:Expr) (x:Str) (p:Pos) (line:Nat) (env:Env):∃ b,swapsWith value (some (.Name x p)) line env = pure b:=by
 cases value <;> exact ⟨_,rfl⟩
theorem swaps_true {value:Expr} {x:Str} {p:Pos} {line:Nat} {env:Env} (h:swapsWith value (some (.Name x p)) line env = pure true) (hv:isComp value = false):(pure false:Sem Bool) = pure true:=by
 cases value <;> first | exact h | cases hv
theorem asg_S (P:PF g u T Kf) (EO:EnumOK g d) (G:Good g T S d c) {t value:Expr} {pos:Pos} (htup:swappedStores [t] value = fun _=>pure none) (hstar:isStar t = false) (hs:∀ env,(∃ x p,t = .Name x p)∨swapsWithSole [t] value pos.line env = pure false)
  (hc:∀ elt gens scope p,value = .ListComp elt gens scope p→∃ c',Good g T S d c'∧c cx value = cComp cx c' elt gens scope) (hn:∀ a b gens scope p,value≠.SetComp a gens scope p∧value≠.DictComp a b gens scope p) :
  GoodS g T S d cx (cAsg1 (c cx value) (cTg u cx (c cx) t)) (.Assign [t] value pos):=fun env loc w H s A K R Rm Kn₀ F₀ h=>by
 have h':vE T S (c cx value) loc H fun v H=>vTg T S (cTg u cx (c cx) t) v loc H K:=by
  revert h
  cases cTg u cx (c cx) t with
  | bad=>exact fun h=>(h:False).elim
  | _=>exact fun h=>h
 have plain:swapsWithSole [t] value pos.line env = pure false→wpAny (model g.prog g.wd) A (exec (.Assign [t] value pos) env) (PS g w s env cx K R) noE s:=fun hsw=>by
  refine exec_Assign1 hsw (congrFun htup env) (seqE (G.e cx value env loc w H s A _ Rm Kn₀ F₀ h') fun v x w₁ H₁ s₁ e₁ K₁ r₁ q₁=>?_) hstar
  exact wpAny_mono (tg_ok P G Rm K₁ (F₀.ext0 e₁) r₁ q₁) (fun _ _ z=>z.after e₁.own) fun _ _ x=>x
 rcases hs env with ⟨x,p,rfl⟩ | hsw
 ·obtain ⟨b,hb⟩:=swaps_bool value x p pos.line env
  cases b with
  | false=>exact plain hb
  | true =>
   cases value with
   | ListComp elt gens scope p' =>
    obtain ⟨c',G',hcc⟩:=hc elt gens scope p' rfl
    rw [hcc] at h'
    rw [exec_Assign_Name_used _ _ _ _ hb]
    refine wpAny_bind (wpAny_standAt ?_)
    have ev:evalThenUse (.ListComp elt gens scope p') env (assign (.Name x p) env) = (do
      let _ ← comprehension (.ListComp elt gens scope p') scope env (firstIterPos gens p') (newList []) (firstAsync gens) (firstIter gens env) (some (assign (.Name x p) env))
      pure ()):=rfl
    rw [ev]
    have core:∀ Q,vE T S (cComp cx c' elt gens scope) loc H Q→CompFin g A w s Q (some (assign (.Name x p) env)) (fun _ s'=>PS g w s env cx K R .next s') →
      wpAny (model g.prog g.wd) A (comprehension (.ListComp elt gens scope p') scope env (firstIterPos gens p') (newList []) (firstAsync gens) (firstIter gens env) (some (assign (.Name x p) env))) (fun _ s'=>PS g w s env cx K R .next s') noE s:=fun Q h fin=>comp_core P EO G' Rm Kn₀ F₀ h fin
    rcases cTg_Name (u:=u) (cx:=cx) (c:=c) (x:=x) (p:=p) with ht | ⟨i,ht,h1,h2⟩
    ·rw [ht] at h; exact (h:False).elim
    ·rw [ht] at h'
     exact wpAny_bind (wpAny_bind (wpAny_mono (core _ h' (comp_fin_use Kn₀ F₀ (idxS_get h1) h2)) (fun _ _ z=>wpAny_pure (wpAny_pure z)) fun _ _ x=>x))
   | SetComp a gens scope p'=>exact absurd rfl (hn a a gens scope p').1
   | DictComp a b gens scope p'=>exact absurd rfl (hn a b gens scope p').2
   | _ =>
    have e:(pure false:Sem Bool) = pure true:=hb
    exact plain (hb.trans e.symm)
 ·exact plain hsw
end
end Mine
end
section
open PySem PySem.W PyProof.Rows
set_option backward.match.sparseCases true
namespace Mine
theorem eraseDups_nodup:∀ {l:List Str},l.Nodup→l.eraseDups = l
 | [],_=>rfl
 | a::r,h=>by
  obtain ⟨h1,h2⟩:=List.nodup_cons.mp h
  rw [List.eraseDups_cons]
  have e:(r.filter fun b=>!b == a) = r:=by
   rw [List.filter_eq_self]
   intro b hb
   have:b≠a:=fun q=>h1 (q ▸ hb)
   simp [this]
  rw [e,eraseDups_nodup h2]
noncomputable def selN (env:Env) (line:Nat):Expr→Option Str
 | .Name id pos=>if env.kindOf id == some .local && pos.line == line then some id else none
 | _=>none
theorem tgNames_eq {cx:Cx} {env:Env} (hn:env.scope.names = cx.names) (line:Nat) (ts:List Expr):ts.filterMap (selN env line) = tgNames cx line ts:=by
 have e:selN env line = tgN cx line:=funext fun t=>by
  cases t with
  | Name x p =>
   have hkind:env.kindOf x = kindS cx x:=by unfold Env.kindOf kindS; rw [lookS_eq,hn]
   show (if env.kindOf x == some .local && p.line == line then some x else none) = _
   rw [hkind]; rfl
  | _=>rfl
 rw [e]; rfl
theorem swapped_unf (ts vs:List Expr) (k k':Nat) (p p':Pos) (env:Env):swappedStores [.Tuple ts k p] (.Tuple vs k' p') env =
  (if !(ts.length == 2 || ts.length == 3) || vs.length != ts.length || env.blockKind != .function then pure none
  else if vs.any isStar then pure none
  else if (ts.filterMap (selN env ((ts.head?.map (·.pos.line)).getD 0))).length != ts.length || (ts.filterMap (selN env ((ts.head?.map (·.pos.line)).getD 0))).eraseDups.length != (ts.filterMap (selN env ((ts.head?.map (·.pos.line)).getD 0))).length then pure none
  else if vs.all (foldedForSure 8) then pure none
  else if vs.all (constantsAlone 8) then (do let _:PUnit ← unsupported "assign.tuple-of-constant-expressions:order-of-the-stores"; pure (some (ts.filterMap (selN env ((ts.head?.map (·.pos.line)).getD 0)))))
  else pure (some (ts.filterMap (selN env ((ts.head?.map (·.pos.line)).getD 0))))):=by
 unfold swappedStores
 rfl
theorem headLine_eq (ts:List Expr):(ts.head?.map (·.pos.line)).getD 0 = headLine ts:=by cases ts <;> rfl
theorem swapped_form {env:Env} {cx:Cx} (hk:env.scope.kind = .function) (hn:env.scope.names = cx.names) (ts vs:List Expr) (k k':Nat) (p p':Pos) :
  (swapQ cx ts (.Tuple vs k' p') = 0→swappedStores [.Tuple ts k p] (.Tuple vs k' p') env = pure none) ∧
  (swapQ cx ts (.Tuple vs k' p') = 1→swappedStores [.Tuple ts k p] (.Tuple vs k' p') env = pure (some (tgNames cx (headLine ts) ts))∧(ts.length = 2∨ts.length = 3)∧(tgNames cx (headLine ts) ts).length = ts.length∧(tgNames cx (headLine ts) ts).Nodup):=by
 have bk:(env.blockKind != .function) = false:=by unfold Env.blockKind; rw [hk]; rfl
 unfold swapQ
 rw [swapped_unf]
 simp only [bk,Bool.or_false,natbeq,headLine_eq,tgNames_eq hn]
 by_cases h1:(!(decide (ts.length = 2) || decide (ts.length = 3)) || !decide (vs.length = ts.length)) = true
 ·rw [if_pos h1]
  have h1':(!(ts.length == 2 || ts.length == 3) || vs.length != ts.length) = true:=by
   simpa [bne,Nat.beq_eq_true_eq] using h1
  rw [if_pos h1']
  exact ⟨(fun _=>rfl),(fun h=>by cases h)⟩
 ·rw [if_neg h1]
  have h1':¬ (!(ts.length == 2 || ts.length == 3) || vs.length != ts.length) = true:=by
   simpa [bne,Nat.beq_eq_true_eq] using h1
  rw [if_neg h1']
  by_cases h2:vs.any isStar = true
  ·rw [if_pos h2,if_pos h2]; exact ⟨(fun h=>by cases h),(fun h=>by cases h)⟩
  ·rw [if_neg h2]
   rw [if_neg h2]
   by_cases h3:(tgNames cx (headLine ts) ts).length = ts.length
   ·have h3':¬ (!decide ((tgNames cx (headLine ts) ts).length = ts.length)) = true:=by simp [h3]
    rw [if_neg h3']
    by_cases h4:nodupS (tgNames cx (headLine ts) ts) = true
    ·have nd:=nodupS_nodup h4
     have h4':¬ (!nodupS (tgNames cx (headLine ts) ts)) = true:=by simp [h4]
     rw [if_neg h4']
     have h5:¬ ((tgNames cx (headLine ts) ts).length != ts.length || (tgNames cx (headLine ts) ts).eraseDups.length != (tgNames cx (headLine ts) ts).length) = true:=by
      rw [eraseDups_nodup nd,h3]; simp
     rw [if_neg h5]
     by_cases h6:vs.all (foldedForSure 8) = true
     ·rw [if_pos h6,if_pos h6]; exact ⟨(fun _=>rfl),(fun h=>by cases h)⟩
     ·rw [if_neg h6,if_neg h6]
      by_cases h7:vs.all (constantsAlone 8) = true
      ·rw [if_pos h7]; exact ⟨(fun h=>by cases h),(fun h=>by cases h)⟩
      ·rw [if_neg h7,if_neg h7]
       refine ⟨(fun h=>by cases h),fun _=>⟨rfl,?_,h3,nd⟩⟩
       simp only [Bool.or_eq_true,Bool.not_eq_true',not_or,Bool.not_eq_false] at h1
       simpa using h1.1
    ·have h4':(!nodupS (tgNames cx (headLine ts) ts)) = true:=by simp [h4]
     rw [if_pos h4']; exact ⟨(fun h=>by cases h),(fun h=>by cases h)⟩
   ·have h3':(!decide ((tgNames cx (headLine ts) ts).length = ts.length)) = true:=by simp [h3]
    rw [if_pos h3']
    have h5:((tgNames cx (headLine ts) ts).length != ts.length || (tgNames cx (headLine ts) ts).eraseDups.length != (tgNames cx (headLine ts) ts).length) = true:=by
     simp [bne,h3]
    rw [if_pos h5]
    exact ⟨(fun _=>rfl),(fun h=>by cases h)⟩
end Mine
end
section
open PySem PySem.W PyProof.Rows
namespace Mine
theorem tgN_some {cx:Cx} {line:Nat} {e:Expr} {x:Str} (h:tgN cx line e = some x):∃ p,e = .Name x p∧kindS cx x = some .local:=by
 cases e with
 | Name y p =>
  have h:(if kindS cx y == some .local && p.line == line then some y else none) = some x:=h
  by_cases q:(kindS cx y == some .local && p.line == line) = true
  ·rw [if_pos q] at h; cases h; exact ⟨p,rfl,beq_iff_eq.mp (Bool.and_eq_true_iff.mp q).1⟩
  ·rw [if_neg q] at h; cases h
 | _=>cases h
theorem tgLe {cx:Cx} {line:Nat} (ts:List Expr):(tgNames cx line ts).length≤ts.length:=List.length_filterMap_le _ _
theorem tgHead {cx:Cx} {line:Nat} {t:Expr} {r:List Expr} (h:(tgNames cx line (t::r)).length = r.length + 1) :
  ∃ x p,t = .Name x p∧kindS cx x = some .local∧tgNames cx line (t::r) = x::tgNames cx line r∧(tgNames cx line r).length = r.length:=by
 cases e:tgN cx line t with
 | none =>
  rw [tgNames,List.filterMap_cons_none e] at h
  exact absurd (h ▸ tgLe (cx:=cx) (line:=line) r) (Nat.not_succ_le_self _)
 | some x =>
  obtain ⟨p,rfl,hk⟩:=tgN_some e
  have e2:tgNames cx line (.Name x p::r) = x::tgNames cx line r:=List.filterMap_cons_some e
  exact ⟨x,p,rfl,hk,e2,Nat.succ.inj (by rw [e2] at h; exact h)⟩
section
variable {g:Gd} {T:Tab} {S:Spec} {d:Nat} {cx:Cx} {c:Cx→Expr→X} {u:Un} {Kf:Frag}
theorem setLoc_comm {loc:Loc} {i j:Nat} {a b:V} (h:i≠j):setLoc (setLoc loc i a) j b = setLoc (setLoc loc j b) i a:=List.set_comm _ _ h
theorem idx_ne {x y:Str} {i j:Nat} {l:List Str} (hx:idxS x l = some i) (hy:idxS y l = some j) (h:x≠y):i≠j:=fun e=>by
 have a:=idxS_get hx
 have b:=idxS_get hy
 rw [e,b] at a
 exact h (Option.some.inj a).symm
theorem swaps_tuple (value:Expr) (ts:List Expr) (k:Nat) (p:Pos) (line:Nat) (env:Env):swapsWithSole [.Tuple ts k p] value line env = pure false:=by
 cases value <;> rfl
theorem nontuple_form (value:Expr) (h:∀ vs k p,value≠.Tuple vs k p) (ts:List Expr) (k:Nat) (p:Pos) (env:Env):swappedStores [.Tuple ts k p] value env = pure none:=by
 cases value <;> first | rfl | exact absurd rfl (h _ _ _)
structure Pt where
 x:Str
 i:Nat
 v:V
 y:Value
structure Pt.At (cx:Cx) (w:Wd) (p:Pt):Prop where
 i:idxS p.x cx.vars = some p.i
 k:kindS cx p.x = some .local
 r:VR w p.v p.y
noncomputable def setPt (l:Loc) (p:Pt):Loc:=setLoc l p.i p.v
theorem tg_ps {w:Wd} {H:AH} {L:Nat} {K:Loc→AH→Prop} (ts:List Expr):∀ {us:List V} {xs:List Value} {loc:Loc},(tgNames cx L ts).length = ts.length→VRs w us xs→vTgs T S (ts.map (cTg u cx (c cx))) us loc H K →
  ∃ ps:List Pt,tgNames cx L ts = ps.map (·.x)∧xs = ps.map (·.y)∧(∀ p∈ps,p.At cx w)∧K (ps.foldl setPt loc) H:=by
 induction ts with
 | nil =>
  intro us xs loc _ r h
  cases r with
  | nil=>exact ⟨[],rfl,rfl,fun _ q=>(List.not_mem_nil q).elim,h⟩
  | cons _ _=>exact (h:False).elim
 | cons t ts ih =>
  intro us xs loc hl r h
  obtain ⟨x,p,rfl,hk,e,hl⟩:=tgHead hl
  cases r with
  | nil=>exact (h:False).elim
  | @cons v y us xs r rs =>
   replace h:vTg T S (cTg u cx (c cx) (.Name x p)) v loc H fun loc H=>vTgs T S (ts.map (cTg u cx (c cx))) us loc H K:=h
   rcases cTg_Name (u:=u) (cx:=cx) (c:=c) (x:=x) (p:=p) with ht | ⟨i,ht,hi,_⟩
   ·rw [ht] at h; exact (h:False).elim
   ·rw [ht] at h
    obtain ⟨ps,e1,e2,e3,e4⟩:=ih hl rs h
    exact ⟨⟨x,i,v,y⟩::ps,e.trans (congrArg (x::·) e1),congrArg (y::·) e2,List.forall_mem_cons.mpr ⟨⟨hi,hk,r⟩,e3⟩,e4⟩
theorem pt_inj {ps:List Pt} (h:(ps.map (·.x)).Nodup) {a b:Pt} (ha:a∈ps) (hb:b∈ps) (e:a.x = b.x):a = b:=by
 induction ps with
 | nil=>cases ha
 | cons p r ih =>
  obtain ⟨h1,h2⟩:=List.nodup_cons.mp (show (p.x::r.map (·.x)).Nodup from h)
  rcases List.mem_cons.mp ha with e1 | ha
  ·rcases List.mem_cons.mp hb with e2 | hb
   ·exact e1.trans e2.symm
   ·exact absurd (e1 ▸ e ▸ List.mem_map_of_mem hb) h1
  ·rcases List.mem_cons.mp hb with e2 | hb
   ·exact absurd (e2 ▸ e.symm ▸ List.mem_map_of_mem ha) h1
   ·exact ih h2 ha hb
theorem asg_ps {w:Wd} {H:AH} {A:Around} {env:Env} {K:Loc→AH→Prop} (ps:List Pt):∀ {s:Shared} {loc:Loc},Kn g w H s→Fm g w env cx loc s→(∀ p∈ps,p.At cx w)→K (ps.foldl setPt loc) H →
  wpAny (model g.prog g.wd) A (assignInOrder (ps.map fun p=>bindName env p.x) (ps.map (·.y))) (PA g w s env cx K) noE s:=by
 induction ps with
 | nil=>exact fun Kn F _ q=>assignInOrder_nil ⟨w,H,_,Ext.refl _ _ _,Kn,F,q⟩
 | cons p ps ih =>
  intro s loc Kn F h q
  obtain ⟨h,hs⟩:=List.forall_mem_cons.mp h
  exact assignInOrder_cons (bindName_ (storeVar Kn F (idxS_get h.i) (.inl h.k) h.r fun s₁ e₁ K₁ F₁=>wpAny_mono (ih K₁ F₁ hs q) (fun _ _ z=>z.after (e₁.weak fun _ q=>q.own)) fun _ _ x=>x))
theorem tupasg_S (P:PF g u T Kf) (G:Good g T S d c) {ts:List Expr} {k:Nat} {p pos:Pos} {value:Expr}:GoodS g T S d cx (cAsg u cx (c cx) value (.Tuple ts k p)) (.Assign [.Tuple ts k p] value pos):=by
 show GoodS g T S d cx (if ts.any isStar || !Nat.ble ts.length 100 then .bad else match swapQ cx ts value with | 0=>.unp (ts.map (cTg u cx (c cx))) (c cx value) | 1=>.unp (ts.map (cTg u cx (c cx))) (c cx value) | _=>.bad) _
 cases hs:ts.any isStar with
 | true=>exact bad_S
 | false=>cases hl:Nat.ble ts.length 100 with
  | false=>exact bad_S
  | true =>
   show GoodS g T S d cx (match swapQ cx ts value with | 0=>.unp (ts.map (cTg u cx (c cx))) (c cx value) | 1=>.unp (ts.map (cTg u cx (c cx))) (c cx value) | _=>.bad) _
   have hl:=Nat.le_of_ble_eq_true hl
   have inOrder:(∀ env:Env,env.scope.kind = .function→env.scope.names = cx.names→swappedStores [.Tuple ts k p] value env = pure none)→GoodS g T S d cx (.unp (ts.map (cTg u cx (c cx))) (c cx value)) (.Assign [.Tuple ts k p] value pos):=fun hw env loc w H s A K R Rm Kn₀ F₀ h=>by
    refine exec_Assign1 (swaps_tuple _ _ _ _ _ _) (hw env F₀.kind F₀.names) (seqE (G.e cx value env loc w H s A _ Rm Kn₀ F₀ h) fun v x w₁ H₁ s₁ e₁ K₁ r₁ q₁=>?_) rfl
    obtain ⟨vs,q1,q2,q3⟩:=unpV.inv q₁
    rw [List.length_map] at q2
    exact wpAny_mono (assignTuple_ok P G Rm K₁ (F₀.ext0 e₁) r₁ hs (by lia) q1 q2 q3) (fun _ _ z=>z.after e₁.own) fun _ _ x=>x
   by_cases hv:∃ vs k' p',value = .Tuple vs k' p'
   ·obtain ⟨vs₀,k',p',rfl⟩:=hv
    cases hq:swapQ cx ts (.Tuple vs₀ k' p') with
    | zero=>exact inOrder fun env hk hn=>(swapped_form hk hn ts vs₀ k k' p p').1 hq
    | succ n=>cases n with
     | succ _=>exact bad_S
     | zero =>
      intro env loc w H s A K R Rm Kn₀ F₀ h
      obtain ⟨e1,e2,e3,e4⟩:=(swapped_form F₀.kind F₀.names ts vs₀ k k' p p').2 hq
      refine Assign_Tuple_swapped (names:=tgNames cx (headLine ts) ts) (seqE (G.e cx _ env loc w H s A _ Rm Kn₀ F₀ h) fun v x w₁ H₁ s₁ e₁ K₁ r₁ q₁=>?_) (swaps_tuple _ _ _ _ _ _) e1
      obtain ⟨vs,q1,q2,q3⟩:=unpV.inv q₁
      rw [List.length_map] at q2
      rw [e3,← q2]
      refine seqL (unpackItems_ok P Rm K₁ r₁ q1 (by lia)) fun us xs w₂ H₂ s₂ e₂ K₂ rs q=>?_
      obtain ⟨rfl,rfl⟩:=q
      obtain ⟨ps,n1,rfl,h3,h4⟩:=tg_ps ts e3 rs q3
      have e12:=e₁.trans e₂
      rw [n1,← List.map_reverse,← List.map_reverse,List.map_map]
      rw [n1] at e4
      refine wpAny_mono (asg_ps ps.reverse K₂ (F₀.ext0 e12) (fun p hp=>h3 p (List.mem_reverse.mp hp)) ?_) (fun _ _ z=>z.after e12.own) fun _ _ x=>x
      rw [(List.reverse_perm ps).foldl_eq' fun a ha b hb z=>?_]
      ·exact h4
      ·have ha:=List.mem_reverse.mp ha
       have hb:=List.mem_reverse.mp hb
       by_cases e:a.x = b.x
       ·rw [pt_inj e4 ha hb e]
       ·exact setLoc_comm (idx_ne (h3 a ha).i (h3 b hb).i e)
   ·cases swapQ cx ts value with
    | zero=>exact inOrder fun env _ _=>nontuple_form value (fun vs k p e=>hv ⟨vs,k,p,e⟩) ts k p env
    | succ n=>cases n with
     | succ _=>exact bad_S
     | zero=>exact inOrder fun env _ _=>nontuple_form value (fun vs k p e=>hv ⟨vs,k,p,e⟩) ts k p env
end
end Mine
end
section
open PySem PySem.W PyProof.Rows
namespace Mine
section
variable {g:Gd} {T:Tab} {S:Spec} {d:Nat} {cx:Cx} {u:Un} {Kf:Frag}
theorem map_Ss {c:Stmt→St} (h:∀ s,GoodS g T S d cx (c s) s):∀ l:List Stmt,GoodSs g T S d cx (l.map c) l
 | []=>nil_Ss
 | s::r=>cons_Ss (h s) (map_Ss h r)
theorem comp_inv {elt:Expr} {gens:List Comprehension} {scope:Scope} {p:Pos} {n:Nat}:cE u (n + 1) cx (.ListComp elt gens scope p) = cComp cx (cE u n) elt gens scope:=rfl
theorem other_comp {n:Nat} (a b:Expr) (gens:List Comprehension) (scope:Scope) (p:Pos):cE u (n + 1) cx (.SetComp a gens scope p) = .bad∧cE u (n + 1) cx (.DictComp a b gens scope p) = .bad:=⟨rfl,rfl⟩
theorem asg_bad {value:X} {t:Tg} {st:Stmt} (h:value = .bad):GoodS g T S d cx (cAsg1 value t) st:=fun env loc w H s A K R _ _ _ q=>by
 subst h
 cases t <;> exact (q:False).elim
theorem asg1_S (P:PF g u T Kf) (SO:SpecOK g Kf S d) (BO:BltOK g T d) (EO:EnumOK g (d + 1)) {f:Nat} {t value:Expr} {pos:Pos} (htup:swappedStores [t] value = fun _=>pure none) (hstar:isStar t = false) (hs:∀ env,(∃ x p,t = .Name x p)∨swapsWithSole [t] value pos.line env = pure false) :
  GoodS g T S (d + 1) cx (cAsg1 (cE u (f + 1) cx value) (cTg u cx (cE u (f + 1) cx) t)) (.Assign [t] value pos):=by
 by_cases hv:(∃ a gens scope p,value = .SetComp a gens scope p)∨∃ a b gens scope p,value = .DictComp a b gens scope p
 ·rcases hv with ⟨a,gens,scope,p,rfl⟩ | ⟨a,b,gens,scope,p,rfl⟩
  ·exact asg_bad rfl
  ·exact asg_bad rfl
 ·refine asg_S P EO (good_cE P SO BO EO (f + 1)) htup hstar hs (fun elt gens scope p e=>⟨cE u f,good_cE P SO BO EO f,by rw [e]; rfl⟩) fun a b gens scope p=>⟨fun e=>hv (.inl ⟨_,_,_,_,e⟩),fun e=>hv (.inr ⟨_,_,_,_,_,e⟩)⟩
theorem good_cS (P:PF g u T Kf) (SO:SpecOK g Kf S d) (BO:BltOK g T d) (EO:EnumOK g (d + 1)) {f:Nat}:∀ (n:Nat) (st:Stmt),GoodS g T S (d + 1) cx (cS u cx (f + 1) n st) st
 | 0,st=>bad_S
 | n + 1,st=>by
  have G:=good_cE P SO BO EO (f + 1)
  have ih:=good_cS P SO BO EO (f:=f) n
  cases st with
  | Expr e p =>
   show GoodS g T S (d + 1) cx (if isComp e then .bad else .ex (cE u (f + 1) cx e)) _
   cases hh:isComp e with
   | true=>exact bad_S
   | false=>exact expr_S G hh
  | Pass p=>exact pass_S
  | Return v p=>cases v with
   | none=>exact retN_S
   | some e=>exact ret_S G
  | Assign ts value p=>cases ts with
   | nil=>exact bad_S
   | cons t r=>cases r with
    | cons _ _=>exact bad_S
    | nil =>
     cases t with
     | Tuple ts k p'=>exact tupasg_S P G
     | Name x p'=>exact asg1_S P SO BO EO (by funext env; rfl) rfl fun env=>.inl ⟨_,_,rfl⟩
     | Attribute a x p'=>exact asg1_S P SO BO EO (by funext env; rfl) rfl fun env=>.inr (by cases value <;> rfl)
     | Subscript a i p'=>exact asg1_S P SO BO EO (by funext env; rfl) rfl fun env=>.inr (by cases value <;> rfl)
     | _=>exact bad_S
  | If t a b p=>exact if_S G (map_Ss ih a) (map_Ss ih b)
  | While t b e p=>cases e with
   | nil=>exact while_S G (map_Ss ih b)
   | cons _ _=>exact bad_S
  | For t src b e p=>cases e with
   | nil=>exact for_S P EO G (map_Ss ih b)
   | cons _ _=>exact bad_S
  | _=>exact bad_S
end
end Mine
end
section
open PySem PySem.W PyProof.Rows
namespace Mine
theorem bindL_skip {kindOf:Str→Option NameKind} {x:Str}:∀ (binds:List (Str × Value)) (m:Str→Option Value),x ∉ binds.map (·.1)→bindL kindOf binds m x = m x
 | [],_,_=>rfl
 | (n,v)::r,m,h=>by
  rw [List.map_cons,List.mem_cons,not_or] at h
  rw [bindL,bindL_skip r _ h.2]
  split
  ·exact if_neg h.1
  ·rfl
theorem bindC_skip {kindOf:Str→Option NameKind} {x:Str}:∀ (binds:List (Str × Value)) (m:Str→Option Value),x ∉ binds.map (·.1)→bindC kindOf binds m x = m x
 | [],_,_=>rfl
 | (n,v)::r,m,h=>by
  rw [List.map_cons,List.mem_cons,not_or] at h
  rw [bindC,bindC_skip r _ h.2]
  split
  ·rfl
  ·exact if_neg h.1
theorem bindL_get {kindOf:Str→Option NameKind} {x:Str} {v:Value} (hk:kindOf x = some .local):∀ (binds:List (Str × Value)) (m:Str→Option Value),(binds.map (·.1)).Nodup→(x,v)∈binds→bindL kindOf binds m x = some v
 | [],_,_,h=>by simp at h
 | (n,v')::r,m,hn,h=>by
  rw [List.map_cons,List.nodup_cons] at hn
  rw [bindL]
  rcases List.mem_cons.mp h with e | h
  ·cases e
   rw [bindL_skip r _ hn.1,if_pos hk,if_pos rfl]
  ·exact bindL_get hk r _ hn.2 h
theorem bindC_get {kindOf:Str→Option NameKind} {x:Str} {v:Value} (hk:kindOf x = some .cell):∀ (binds:List (Str × Value)) (m:Str→Option Value),(binds.map (·.1)).Nodup→(x,v)∈binds→bindC kindOf binds m x = some v
 | [],_,_,h=>by simp at h
 | (n,v')::r,m,hn,h=>by
  rw [List.map_cons,List.nodup_cons] at hn
  rw [bindC]
  rcases List.mem_cons.mp h with e | h
  ·cases e
   rw [bindC_skip r _ hn.1,if_neg (by rw [hk]; exact fun e=>by cases e),if_pos rfl]
  ·exact bindC_get hk r _ hn.2 h
theorem lookup_mem {α:Type} {x:Str} {c:α}:∀ {l:List (Str × α)},l.lookup x = some c→(x,c)∈l
 | [],h=>by simp at h
 | (y,v)::r,h=>by
  rw [List.lookup_cons] at h
  split at h
  ·rename_i e; cases h
   have:x = y:=by simpa using e
   rw [this]; exact List.mem_cons_self ..
  ·exact List.mem_cons_of_mem _ (lookup_mem h)
theorem apart_inj {x y:Str} {c:Addr}:∀ {l:List (Str × Addr)},l.Pairwise (fun a b=>a.2≠b.2)→(x,c)∈l→(y,c)∈l→x = y
 | [],_,h,_=>by simp at h
 | p::r,hp,h1,h2=>by
  rw [List.pairwise_cons] at hp
  rcases List.mem_cons.mp h1 with e1 | m1 <;> rcases List.mem_cons.mp h2 with e2 | m2
  ·rw [← e1] at e2; cases e2; rfl
  ·exact absurd (by rw [← e1]) (hp.1 _ m2)
  ·exact absurd (by rw [← e2]) (hp.1 _ m1)
  ·exact apart_inj hp.2 m1 m2
theorem zip_mem {w:Wd} {ps:List Str} {args:List V} {vals:List Value} (h:VRs w args vals) {i:Nat} {x:Str} {v:V} (hp:ps[i]? = some x) (hv:args[i]? = some v):∃ val,(x,val)∈ps.zip vals∧VR w v val:=by
 obtain ⟨val,e,r⟩:=h.get hv
 refine ⟨val,?_,r⟩
 have:(ps.zip vals)[i]? = some (x,val):=by rw [List.getElem?_zip_eq_some]; exact ⟨hp,e⟩
 exact List.mem_of_getElem? this
section
variable {g:Gd} {T:Tab} {S:Spec} {d:Nat} {u:Un} {Kf:Frag}
theorem Room.deeper {A:Around} {env:Env} (R:Room A (d + 1)):Room (A.deeper env) d:=⟨R.hh,by have:=R.dep; show A.depth + 1 + _≤_; lia,by have:=R.un; show A.units + 3 + _≤_; lia⟩
theorem def_ok (P:PF g u T Kf) (SO:SpecOK g Kf S d) (BO:BltOK g T d) (EO:EnumOK g (d + 1)) {a:Addr} {o:Obj} {fd:FuncData} {body:List Stmt} {params vars:List Str} {f n:Nat} {sts:List St}
  (ho:g.B.get? a = some o) (hd:o.data = .func fd) (hb:fd.body = .stmts body) (hcode:g.B.CodeRec fd.code fd.qualname) (hlim:g.B.NoLimit)
  (hk:fd.scope.kind = .function) (hco:fd.scope.isCoroutine = false) (hgen:fd.scope.isGenerator = false) (hgl:fd.globals = mainGlobals) (hbi:fd.builtins = builtinsNs) (hclo:fd.closure = [])
  (hnf:∀ p∈fd.scope.names,p.2≠.free) (hvn:vars.Nodup) (hkind:∀ x∈params,lookS x fd.scope.names = some .local∨lookS x fd.scope.names = some .cell) (hpre:∃ rest,vars = params++rest)
  (hs:body.map (cS u ⟨fd.scope.names,vars⟩ (f + 1) n) = sts)
  {args:List V} {vals:List Value} {vals₀:List Value} {H:AH} {Q:KV} {w:Wd} {s:Shared} {A:Around} (R:Room A (d + 2)) (K:Kn g w H s)
  (hbind:BindsTo s fd ⟨vals₀,[]⟩ (params.zip vals)) (hrs:VRs w args vals) (hlen:args.length = params.length) (h:vDef T S vars.length sts args H Q) :
  codeAny (model g.prog g.wd) A (.call (.ref a) ⟨vals₀,[]⟩) (CallP g w s Q) s:=by
 have lim:∀ h:Heap,(∀ b o,g.B.get? b = some o→h.get? b = some o)→h.NoLimit:=fun h k=>by
  obtain ⟨mc,⟨o,es,ep,q,r⟩,e⟩:=hlim
  exact ⟨mc,⟨o,es,ep,k _ _ q,r⟩,e⟩
 have code:s.heap.CodeRec fd.code fd.qualname:=by
  obtain ⟨c,o,vs,t,e1,e2,e3,e4⟩:=hcode
  exact ⟨c,o,vs,t,e1,K.top _ _ e2,e3,e4⟩
 refine codeAny_call_function (by have:=R.dep; show A.depth < recursionLimit; have:recursionLimit = 1000:=rfl; lia) (K.top _ _ ho) hd hco hgen hb code ?_
 refine hbind _ _ _ _ ?_
 rw [hclo]
 have hzip:(params.zip vals).map (·.1) = params:=by
  rw [List.map_fst_zip]
  rw [← hlen,hrs.length]; exact Nat.le_refl _
 have hzn:((params.zip vals).map (·.1)).Nodup:=by
  rw [hzip]
  obtain ⟨rest,rfl⟩:=hpre
  exact (List.nodup_append.mp hvn).1
 refine wpAny_newFunctionEnv_cells hk (fun x hx=>?_) fun env he s' x=>⟨lim _ fun b o q=>x.toInCall.keep b o (K.top b o q),?_⟩
 ·have hp:x.1∈params:=by rw [← hzip]; exact List.mem_map_of_mem hx
  rcases hkind _ hp with q | q
  ·rw [lookS_eq] at q; exact .inl q
  ·rw [lookS_eq] at q; exact .inr ⟨q,cellsFrom_some _ _ _ (.inl q)⟩
 ·have eL:env.locals = s.heap.objs.size:=by rw [he]; rfl
  have eC:env.cells = cellsFrom (s.heap.objs.size + 1) fd.scope.names []:=by rw [he]; rfl
  have eS:env.scope = fd.scope:=by rw [he]; rfl
  obtain ⟨h₁,tk,rfl⟩:=x.toInCall.same
  have keep:=x.toInCall.keep
  have K₁:Kn g w H { s with heap:=h₁,toks:=tk }:=K.all keep
  have e₁:Ext noX w s w { s with heap:=h₁,toks:=tk }:=Ext.all keep
  have fresh:∀ b,s.heap.objs.size≤b→s.heap.get? b = none:=fun b hb=>Heap.get?_none_of_le hb
  have hkindOf:∀ y,env.kindOf y = lookS y fd.scope.names:=fun y=>by unfold Env.kindOf; rw [lookS_eq,eS]
  have varAt:∀ (i:Nat) (y:Str) (v:V),vars[i]? = some y→(args.map some++List.replicate (vars.length - args.length) none)[i]? = some (some v)→params[i]? = some y∧args[i]? = some v:=fun i y v p q=>by
   have hi:i < args.length:=by
    rcases Nat.lt_or_ge i args.length with z | z
    ·exact z
    ·rw [List.getElem?_append_right (by simpa using z)] at q
     rw [List.getElem?_replicate] at q
     split at q <;> simp at q
   rw [List.getElem?_append_left (by simpa using hi),List.getElem?_map] at q
   obtain ⟨rest,e⟩:=hpre
   rw [e,List.getElem?_append_left (by lia)] at p
   cases z:args[i]? with
   | none=>rw [z] at q; cases q
   | some v'=>rw [z] at q; simp only [Option.map_some,Option.some.injEq] at q; exact ⟨p,by rw [q]⟩
  have F₁:Fm g w env ⟨fd.scope.names,vars⟩ (args.map some++List.replicate (vars.length - args.length) none) { s with heap:=h₁,toks:=tk }:=by
   refine ⟨by rw [eS]; exact hk,by rw [eS],by rw [he]; exact hgl,by rw [he]; exact hbi,?_,fun y c q=>?_,fun y z c p q=>?_,fun y hy=>?_,?_,hvn⟩
   ·rw [eL]; exact ⟨N_free K (not_there _),T_free K (not_there _),B_free K (not_there _)⟩
   ·have hab:=x.above y c (lookup_mem q)
    have hc:s.heap.get? c = none:=fresh c (by rw [eL] at hab; exact Nat.le_of_lt hab)
    exact ⟨⟨N_free K hc,T_free K hc,B_free K hc⟩,fun e=>Nat.lt_irrefl _ (e ▸ hab),Cell.there (x.cell y c q)⟩
   ·exact apart_inj x.apart (lookup_mem p) (lookup_mem q)
   ·rcases hy with hy | hy
    ·have hy':fd.scope.names.lookup y = some .cell:=by rw [← lookS_eq]; exact hy
     obtain ⟨c,hc⟩:=Option.isSome_iff_exists.mp (cellsFrom_some fd.scope.names (s.heap.objs.size + 1) [] (.inl hy'))
     rw [← eC] at hc
     refine ⟨c,_,hc,x.cell y c hc,fun i v p q=>?_⟩
     obtain ⟨p1,p2⟩:=varAt i y v p q
     obtain ⟨val,m1,m2⟩:=zip_mem hrs p1 p2
     exact ⟨val,bindC_get ((hkindOf y).trans hy) _ _ hzn m1,m2⟩
    ·have hy':fd.scope.names.lookup y = some .free:=by rw [← lookS_eq]; exact hy
     exact absurd rfl (hnf _ (lookup_mem hy'))
   ·refine ⟨_,x.toInCall.ns,fun i y v p hl q=>?_⟩
    obtain ⟨p1,p2⟩:=varAt i y v p q
    obtain ⟨val,m1,m2⟩:=zip_mem hrs p1 p2
    exact ⟨val,bindL_get ((hkindOf y).trans hl) _ _ hzn m1,m2⟩
  refine codeAny_func (noE_any ?_)
  have hbody:=map_Ss (fun st=>good_cS (cx:=⟨fd.scope.names,vars⟩) P SO BO EO (f:=f) n st) body
  unfold vDef at h
  rw [← hs] at h
  refine wpAny_mono (hbody env _ w H _ (A.deeper env) _ _ (Room.deeper R) K₁ F₁ h) (fun fl s₂ z=>?_) fun _ _ x=>x
  have ownFresh:∀ b,Own env b→s.heap.get? b = none:=fun b hb=>by
   rcases hb with rfl | ⟨y,hb⟩
   ·rw [eL]; exact not_there _
   ·have hab:=x.above y b (lookup_mem hb)
    exact fresh b (by rw [eL] at hab; exact Nat.le_of_lt hab)
  cases fl with
  | next =>
   obtain ⟨w₂,H₂,l₂,e₂,K₂,F₂,q₂⟩:=z
   exact .mk ⟨.none,w₂,H₂,(e₁.weak fun b q=>q.elim).trans e₂ |>.less ownFresh,K₂,.none,q₂⟩
  | ret y =>
   obtain ⟨w₂,H₂,v,e₂,K₂,r₂,q₂⟩:=z
   exact .mk ⟨v,w₂,H₂,(e₁.weak fun b q=>q.elim).trans e₂ |>.less ownFresh,K₂,r₂,q₂⟩
  | brk=>exact z.elim
  | cont=>exact z.elim
end
end Mine
end
section
open PySem PySem.W PyProof.Rows
namespace Mine
noncomputable def SortedBy (f:List (Int × Int)→List (Int × Int)):Prop:=∀ (g:Gd) (d:Nat) (l:Nat) (x:Value) (vs:List V) (ps:List (Int × Int)) (H:AH) (Q:KV) (w:Wd) (s:Shared) (A:Around),Room A (d + 4)→Kn g w H s→VR w (.ref l) x →
 H.get l = some (.list vs)→intPairs vs = some ps→(ps.map (·.1)).Nodup→ps.length≤100→Nw Q H (.list ((f ps).map fun p=>.tup [.int p.1,.int p.2]))→wpAny (model g.prog g.wd) A (call (.builtin "sorted") [x]) (PE g w s Q) noE s
noncomputable def theSrt:List (Int × Int)→List (Int × Int):=Classical.epsilon SortedBy
end Mine
end
section
open PySem PySem.W PyProof.Rows Hd
namespace Mine
structure Info where
 x:Stmt
 np:Nat
 params:List Str
 vars:List Str
 dfl:List V
noncomputable def codeOf (u:Un) (i:Info):List St:=(fB i.x).map (cS u ⟨(fS i.x).names,i.vars⟩ 31 20)
noncomputable def Sp (u:Un) (T:Tab) (FI:List (Nat × Info)):Nat→Spec
 | 0=>fun _ _ _ _=>False
 | k + 1=>fun a args H Q=>match lookA a FI with
  | some i=>Nat.beq args.length i.np = true∧vDef T (Sp u T FI k) i.vars.length (codeOf u i) (args++i.dfl) H Q
  | none=>False
noncomputable def fdD (o:Obj):Option FuncData:=match o.data with
 | .func fd=>some fd
 | _=>none
theorem fdD_inv {c:Value} {d:Option Nat} {dt:Data} {sl:Array (Option Value)} {fd:FuncData} (h:fdD ⟨c,d,dt,sl⟩ = some fd):dt = .func fd:=by cases dt <;> cases h; rfl
noncomputable def fdOf (K:Frag) (a:Nat):Option FuncData:=(K.lookup a).bind fdD
noncomputable def isLocC (k:Option NameKind):Bool:=k == some .local || k == some .cell
noncomputable def prefS:List Str→List Str→Bool
 | [],_=>true
 | x::r,y::q=>sbeq x y && prefS r q
 | _::_,[]=>false
theorem prefS_ex:∀ {a b:List Str},prefS a b = true→∃ r,b = a++r
 | [],b,_=>⟨b,rfl⟩
 | x::r,[],h=>by cases h
 | x::r,y::q,h=>by
  simp only [prefS,Bool.and_eq_true,sbeq_eq,decide_eq_true_eq] at h
  obtain ⟨e,h⟩:=h
  obtain ⟨z,rfl⟩:=prefS_ex h
  exact ⟨z,by rw [e]; rfl⟩
noncomputable def chk (K:Frag) (fd:FuncData) (i:Info):Bool :=
 codeIn K fd.code fd.qualname && isFun fd.scope.kind && !fd.scope.isCoroutine && !fd.scope.isGenerator && Nat.beq fd.globals mainGlobals && Nat.beq fd.builtins builtinsNs && fd.closure.isEmpty &&
  fd.scope.names.all (fun p=>!isFree p.2) && nodupS i.vars && i.params.all (fun x=>isLocC (lookS x fd.scope.names)) && prefS i.params i.vars && Nat.beq (i.np + i.dfl.length) i.params.length
structure Ent (K:Frag) (a:Nat) (i:Info):Prop where
 ex:∃ fd,fdOf K a = some fd∧fd.body = .stmts (fB i.x)∧fd.scope = fS i.x∧chk K fd i = true ∧
  ∃ dv,(∀ w,VRs w i.dfl dv)∧∀ vals,vals.length = i.np→∀ S,peek K S (bindArgs fd ⟨vals,[]⟩) = some (i.params.zip (vals++dv))
section
variable {g:Gd} {u:Un} {T:Tab} {Kf:Frag} {FI:List (Nat × Info)}
theorem lookA_eq {α:Type} {a:Nat}:∀ {l:List (Nat × α)} {v:α},lookA a l = some v→(a,v)∈l
 | [],_,h=>by cases h
 | (b,v)::r,w,h=>by
  rw [lookA] at h
  split at h
  ·rename_i e; cases h; rw [Nat.eq_of_beq_eq_true e]; exact .head _
  ·exact .tail _ (lookA_eq h)
theorem spec_ok (P:PF g u T Kf) (hlim:g.B.NoLimit) (BO:∀ d,BltOK g T (d + 4)) (EO:∀ d,EnumOK g (d + 4)) (ents:∀ p∈FI,Ent Kf p.1 p.2):∀ k,SpecOK g Kf (Sp u T FI k) (2 * k + 4)
 | 0=>fun _ _ _ _ _ _ _ _ _ _ _ h=>h.elim
 | k + 1=>fun a args vals H Q w s A R K hr h=>by
  have h:match lookA a FI with
   | some i=>Nat.beq args.length i.np = true∧vDef T (Sp u T FI k) i.vars.length (codeOf u i) (args++i.dfl) H Q
   | none=>False:=h
  cases hi:lookA a FI with
  | none=>rw [hi] at h; exact h.elim
  | some i =>
   rw [hi] at h
   obtain ⟨hn,h⟩:=h
   have hn:=Nat.eq_of_beq_eq_true hn
   obtain ⟨fd,hfd,hb,hs,hc,dv,hdv,hbind⟩:=(ents _ (lookA_eq hi)).ex
   have X:=KIn P K
   obtain ⟨⟨c,dd,dt,sl⟩,hl,ho⟩:=Option.bind_eq_some_iff.mp hfd
   obtain rfl:=fdD_inv ho
   simp only [chk,Bool.and_eq_true,Bool.not_eq_true'] at hc
   obtain ⟨⟨⟨⟨⟨⟨⟨⟨⟨⟨⟨c1,c2⟩,c3⟩,c4⟩,c5⟩,c6⟩,c7⟩,c8⟩,c9⟩,c10⟩,c11⟩,c12⟩:=hc
   have c12:=Nat.eq_of_beq_eq_true c12
   refine ⟨by simp only [keepIn,hl],?_⟩
   have key:∀ {sc:Scope},fd.scope = sc→fd.scope.kind = .function:=fun _=>by cases hq:fd.scope.kind <;> rw [hq] at c2 <;> first | rfl | cases c2
   refine def_ok P (spec_ok P hlim BO EO ents k) (BO _) (EO _) (fd:=fd) (body:=fB i.x) (params:=i.params) (vars:=i.vars) (f:=30) (n:=20) (sts:=codeOf u i) (P.kin a _ hl) rfl hb (codeRec_of P.kin c1) hlim
    (key rfl) c3 c4 (Nat.eq_of_beq_eq_true c5) (Nat.eq_of_beq_eq_true c6) (List.isEmpty_iff.mp c7) (fun p hp e=>?_) (nodupS_nodup c9) (fun x hx=>?_) (prefS_ex c11) ?_ (args:=args++i.dfl) (vals:=vals++dv) (R.mono (by lia)) K ?_ (hr.append (hdv w)) (by rw [List.length_append]; lia) h
   ·have:=List.all_eq_true.mp c8 p hp
    rw [e] at this
    exact absurd this (by decide)
   ·have:=List.all_eq_true.mp c10 x hx
    exact (Bool.or_eq_true _ _ ▸ this).imp beq_iff_eq.mp beq_iff_eq.mp
   ·rw [hs]; rfl
   ·exact fun M _ _ _ q=>(Looks.of_peek (M:=M) X (hbind vals (hr.length ▸ hn) _)).here q
end
end Mine
end
section
open PySem PySem.W PyProof.Rows Hd
namespace Mine
section
noncomputable def ats:List Str:=[S71,⟨#[115,112,108,105,116]⟩,S223,S150,S171,S224,S222,S173,S225,S33,S116,S28,S255,S198,S72,S203,S197,S170,S169,S138,⟨#[115,116,97,114,116,115,119,105,116,104]⟩,S95,S94,S93,S90,S89,S92,S91,S192,S80,S168,S201,S187,S221,S23,S78,S51,S210,S241,S242,S243,S177,S195,S32,S256]
noncomputable def gls:List (Str × V):=[(S16,.glob 28),(S17,.glob 35),(S41,.glob 73),(S43,.glob 85),(S44,.glob 94),(S45,.glob 101),(S46,.glob 108),(S47,.glob 115),(S48,.glob 122),(S66,.glob 202),(S101,.glob 234),(S102,.glob 241),(S103,.glob 248),(S108,.glob 283),(S109,.str S110),(S111,.str S112),(S113,.str S114),(S129,.str S130),(S131,.str S132),(S133,.glob 335),(S146,.glob 346),(S147,.glob 353),(S148,.glob 360),(S149,.glob 367),(S150,.glob 374),(S153,.glob 388),(S154,.glob 395),(S155,.glob 402),(S156,.glob 409),(S157,.glob 416),(S164,.glob 423),(S165,.glob 430),(S166,.glob 437),(S167,.glob 527),(S193,.glob 538),(S194,.glob 644),(S227,.glob 686),(S233,.glob 721),(S237,.glob 774),(S251,.glob 827),(S263,.glob 836),(S264,.glob 843),(S265,.glob 850),(S266,.glob 857),(S267,.glob 864),(S268,.glob 871),(S269,.glob 878),(S270,.glob 885),(S271,.glob 890),(S272,.glob 897),(S273,.glob 902),(S274,.glob 907),(⟨#[105,110,116]⟩,.bf .int),(⟨#[108,101,110]⟩,.bf .len),(⟨#[115,117,109]⟩,.bf .sum),(⟨#[97,98,115]⟩,.bf .abs),(⟨#[109,97,120]⟩,.bf .max),(⟨#[108,105,115,116]⟩,.bf .list),(⟨#[100,105,99,116]⟩,.bf .dict),(⟨#[98,121,116,101,115]⟩,.bf .bytes),(⟨#[115,111,114,116,101,100]⟩,.bf .sorted),(⟨#[116,117,112,108,101]⟩,.bf .tuple),(⟨#[114,97,110,103,101]⟩,.bf .range),(⟨#[101,110,117,109,101,114,97,116,101]⟩,.bf .enum)]
noncomputable def un:Un:=⟨gls,ats,[(686,[(43,662)])]⟩
noncomputable def splT:List (Str × List Str):=[(S110,[⟨#[97,108]⟩,⟨#[99,108]⟩,⟨#[100,108]⟩,⟨#[98,108]⟩,⟨#[115,112,108]⟩,⟨#[98,112,108]⟩,⟨#[115,105,108]⟩,⟨#[100,105,108]⟩]),(S112,[⟨#[97,120]⟩,⟨#[99,120]⟩,⟨#[100,120]⟩,⟨#[98,120]⟩,⟨#[115,112]⟩,⟨#[98,112]⟩,⟨#[115,105]⟩,⟨#[100,105]⟩]),(S114,[⟨#[101,97,120]⟩,⟨#[101,99,120]⟩,⟨#[101,100,120]⟩,⟨#[101,98,120]⟩,⟨#[101,115,112]⟩,⟨#[101,98,112]⟩,⟨#[101,115,105]⟩,⟨#[101,100,105]⟩]),(S130,[⟨#[114,97,120]⟩,⟨#[114,99,120]⟩,⟨#[114,100,120]⟩,⟨#[114,98,120]⟩,⟨#[114,115,112]⟩,⟨#[114,98,112]⟩,⟨#[114,115,105]⟩,⟨#[114,100,105]⟩]),(S132,[⟨#[97,104]⟩,⟨#[99,104]⟩,⟨#[100,104]⟩,⟨#[98,104]⟩])]
noncomputable def methT:List (Nat × List (Nat × Nat)):=[(202,[(9,150)]),(335,[]),(527,[(29,458),(30,465),(18,472),(17,479),(4,486),(7,496)]),(644,[(0,559),(14,566),(42,573),(16,585),(41,592),(13,599),(18,606),(17,613)]),(721,[]),(774,[]),(827,[])]
noncomputable def plainT:List (Nat × List Nat):=[(202,[24,23,25,21,22,26,27]),(335,[11,19,35,34]),(527,[28]),(644,[31,2,8,10,6,3,32,5,33]),(721,[19,15]),(774,[19,37,38,39,36,34,40,11]),(827,[11,12,44])]
noncomputable def initT:List (Nat × Nat):=[(202,143),(335,297),(527,451),(644,552),(721,704),(774,738),(827,791)]
noncomputable def i_law:Info:=⟨st 83,1,[⟨#[115,99,114,105,112,116]⟩],[⟨#[115,99,114,105,112,116]⟩,S275,⟨#[108,105,110,101,115]⟩,S223,S78,⟨#[119,111,114,100,115]⟩,S172,⟨#[102,101,101,116]⟩,S20,S187,S222,S288,⟨#[108,105,110,101]⟩,S27],[]⟩
noncomputable def i_law_pen:Info:=⟨st 71,1,[⟨#[115,99,114,105,112,116]⟩],[⟨#[115,99,114,105,112,116]⟩],[]⟩
noncomputable def i_law_draw:Info:=⟨st 72,2,[S275,S276],[S275,S276,S277,S86,S278,S279,S280],[]⟩
noncomputable def i_law_pick:Info:=⟨st 73,2,[S275,S281],[S275,S281],[]⟩
noncomputable def i_law_reg:Info:=⟨st 74,2,[S275,S23],[S275,S23,S78],[]⟩
noncomputable def i_law_mem:Info:=⟨st 75,2,[S275,S23],[S275,S23,S210,S241,S242,S282],[]⟩
noncomputable def i_law_line:Info:=⟨st 76,1,[S275],[S275,S28,S23,S283,S208,S284],[]⟩
noncomputable def i_law_operand:Info:=⟨st 77,1,[S33],[S33,S285,S210,S241,S242,S282,S286,S23,S287],[]⟩
noncomputable def i_law_place:Info:=⟨st 78,3,[S288,S33,S289],[S288,S33,S289,S223,S124,S78,S290],[]⟩
noncomputable def i_law_get:Info:=⟨st 79,4,[S288,S33,S177,S23],[S288,S33,S177,S23],[]⟩
noncomputable def i_law_put:Info:=⟨st 80,5,[S288,S33,S177,S23,S51],[S288,S33,S177,S23,S51,S37,S161,S291],[]⟩
noncomputable def i_law_added:Info:=⟨st 81,4,[S21,S22,⟨#[115,105,103,110]⟩,S23],[S21,S22,⟨#[115,105,103,110]⟩,S23,S124,⟨#[116,111,112]⟩,S119,S76,⟨#[108,101,102,116]⟩,S282,⟨#[104,97,108,102]⟩,S276,⟨#[116,114,117,116,104,115]⟩],[]⟩
noncomputable def i_law_do:Info:=⟨st 82,2,[S288,⟨#[108,105,110,101]⟩],[S288,⟨#[108,105,110,101]⟩,S28,S23,S281,⟨#[112,108,97,99,101,115]⟩,S21,S22,S124,S192,S53],[]⟩
noncomputable def i_move_deed:Info:=⟨st 3,2,[S20,S27],[S20,S27,S28,S21,S22,S23],[]⟩
noncomputable def i_exchange:Info:=⟨st 2,4,[S20,S21,S22,S23],[S20,S21,S22,S23,S24,S25],[]⟩
noncomputable def i_arith_deed:Info:=⟨st 60,2,[S20,S27],[S20,S27,S28],[]⟩
noncomputable def i_xadd_deed:Info:=⟨st 55,2,[S20,S27],[S20,S27,S158,S159,S23,S120,S121,S119],[]⟩
noncomputable def i_cmpxchg_deed:Info:=⟨st 56,2,[S20,S27],[S20,S27,S158,S159,S23,S160,S120,S161,S162],[]⟩
noncomputable def i_mask:Info:=⟨st 8,1,[S23],[S23],[]⟩
noncomputable def i_wrap:Info:=⟨st 9,2,[S51,S23],[S51,S23],[]⟩
noncomputable def i_bit:Info:=⟨st 10,2,[S51,S52],[S51,S52],[]⟩
noncomputable def i_ones:Info:=⟨st 11,2,[S51,S23],[S51,S23,S53,S54],[]⟩
noncomputable def i_parity:Info:=⟨st 12,1,[S51],[S51],[]⟩
noncomputable def i_szp:Info:=⟨st 29,3,[S116,S119,S23],[S116,S119,S23,S33],[]⟩
noncomputable def i_add_flags:Info:=⟨st 30,5,[S116,S120,S121,S122,S23],[S116,S120,S121,S122,S23,S21,S123,S124,S119],[]⟩
noncomputable def i_sub_flags:Info:=⟨st 31,5,[S116,S120,S121,S125,S23],[S116,S120,S121,S125,S23,S21,S123,S53,S119],[]⟩
noncomputable def i_joined:Info:=⟨st 63,3,[S161,S51,S23],[S161,S51,S23],[]⟩
noncomputable def i_gpr:Info:=⟨st 47,2,[S78,S23],[S78,S23,S83],[]⟩
noncomputable def i_high:Info:=⟨st 48,1,[S78],[S78],[]⟩
noncomputable def i_rip:Info:=⟨st 49,0,[],[],[]⟩
noncomputable def i_early_names:Info:=⟨st 45,1,[S23],[S23],[]⟩
noncomputable def i_Flags_init:Info:=⟨sm 25 0,1,[S35],[S35],[]⟩
noncomputable def i_Flags_told:Info:=⟨sm 25 1,1,[S35],[S35],[]⟩
noncomputable def i_Memory_init:Info:=⟨sm 62 0,1,[S35],[S35],[]⟩
noncomputable def i_Memory_octet:Info:=⟨sm 62 1,2,[S35,S177],[S35,S177],[]⟩
noncomputable def i_Memory_set_octet:Info:=⟨sm 62 2,3,[S35,S177,S80],[S35,S177,S80],[]⟩
noncomputable def i_Memory_read:Info:=⟨sm 62 3,3,[S35,S177,S180],[S35,S177,S180,S51,S37],[]⟩
noncomputable def i_Memory_write:Info:=⟨sm 62 4,4,[S35,S177,S180,S51],[S35,S177,S180,S51,S37],[]⟩
noncomputable def i_Memory_load:Info:=⟨sm 62 5,3,[S35,S177,S172],[S35,S177,S172,S37,S80],[]⟩
noncomputable def i_Memory_written:Info:=⟨sm 62 7,1,[S35],[S35],[]⟩
noncomputable def i_State_init:Info:=⟨sm 64 0,2,[S35,S201],[S35,S201],[]⟩
noncomputable def i_State_get:Info:=⟨sm 64 1,2,[S35,S203],[S35,S203],[]⟩
noncomputable def i_State_put:Info:=⟨sm 64 2,3,[S35,S203,S51],[S35,S203,S51,S161],[]⟩
noncomputable def i_State_put_low:Info:=⟨sm 64 3,4,[S35,S203,S23,S51],[S35,S203,S23,S51,S161],[]⟩
noncomputable def i_State_offset:Info:=⟨sm 64 5,2,[S35,S208],[S35,S208,S124],[]⟩
noncomputable def i_State_place:Info:=⟨sm 64 6,2,[S35,S208],[S35,S208,S210],[]⟩
noncomputable def i_State_size_of:Info:=⟨sm 64 7,3,[S35,S212,S27],[S35,S212,S27,S21],[]⟩
noncomputable def i_State_read:Info:=⟨sm 64 8,3,[S35,S212,S23],[S35,S212,S23],[]⟩
noncomputable def i_State_write:Info:=⟨sm 64 9,4,[S35,S212,S23,S51],[S35,S212,S23,S51],[]⟩
noncomputable def i_Register_init:Info:=⟨sm 44 0,5,[S35,S28,S138,S78,S23],[S35,S28,S138,S78,S23],[]⟩
noncomputable def i_Operand_init:Info:=⟨sm 66 0,2,[S35,S138],[S35,S138],[]⟩
noncomputable def i_Reg_init:Info:=⟨sm 67 0,2,[S35,S203],[S35,S203],[]⟩
noncomputable def i_Mem_init:Info:=⟨sm 68 0,7,[S35,S210,S241,S242,S51,S23,S243,S28],[S35,S210,S241,S242,S51,S23,S243,S28],[.str S240]⟩
noncomputable def i_Instruction_init:Info:=⟨sm 69 0,3,[S35,S28,S255,S256],[S35,S28,S255,S256],[.str S240]⟩
noncomputable def FI:List (Nat × Info):=[(912,i_law),(836,i_law_pen),(843,i_law_draw),(850,i_law_pick),(857,i_law_reg),(864,i_law_mem),(871,i_law_line),(878,i_law_operand),(885,i_law_place),(890,i_law_get),(897,i_law_put),(902,i_law_added),(907,i_law_do),(35,i_move_deed),(28,i_exchange),(437,i_arith_deed),(402,i_xadd_deed),(409,i_cmpxchg_deed),(94,i_mask),(101,i_wrap),(108,i_bit),(115,i_ones),(122,i_parity),(234,i_szp),(241,i_add_flags),(248,i_sub_flags),(538,i_joined),(360,i_gpr),(367,i_high),(374,i_rip),(346,i_early_names),(143,i_Flags_init),(150,i_Flags_told),(451,i_Memory_init),(458,i_Memory_octet),(465,i_Memory_set_octet),(472,i_Memory_read),(479,i_Memory_write),(486,i_Memory_load),(496,i_Memory_written),(552,i_State_init),(559,i_State_get),(566,i_State_put),(573,i_State_put_low),(585,i_State_offset),(592,i_State_place),(599,i_State_size_of),(606,i_State_read),(613,i_State_write),(297,i_Register_init),(662,i_Operand_init),(704,i_Reg_init),(738,i_Mem_init),(791,i_Instruction_init)]
end
end Mine
end
section
open PySem PySem.W PyProof.Rows Hd
namespace Mine
section
noncomputable def memN (n:Nat):List Nat→Bool
 | []=>false
 | m::r=>Nat.beq m n || memN n r
noncomputable def TT (scr:Addr→Option (List V)):Tab where
 split s:=lookS s splT
 meth C n:=(lookA C methT).bind (lookA n)
 init C:=lookA C initT
 plain C n:=match lookA C plainT with | some l=>memN n l | none=>false
 scr:=scr
 srt:=theSrt
inductive VW where
 | b (n:String) | r (a:Nat) | i (j:Int) | s (y:Str) | t (m:String) | o
noncomputable def vw:Value→VW
 | .builtin n=>.b n
 | .ref a=>.r a
 | .int j _=>.i j
 | .str y _=>.s y
 | .type m=>.t m
 | _=>.o
noncomputable def VW.ok (w:VW) (v:Value):Prop:=match w with
 | .b n=>v = .builtin n
 | .r a=>v = .ref a
 | .i j=>∃ t,v = .int j t
 | .s y=>∃ t,v = .str y t
 | .t m=>v = .type m
 | .o=>True
theorem vw_ok (v:Value):(vw v).ok v:=by cases v <;> first | rfl | exact ⟨_,rfl⟩ | trivial
noncomputable def isW (p:VW→Bool):Option (Option Value)→Bool
 | none=>false
 | some x=>match x with
  | none=>false
  | some v=>p (vw v)
theorem isW_inv {p:VW→Bool} {x:Option (Option Value)} (h:isW p x = true):∃ v w,x = some (some v)∧p w = true∧w.ok v:=by
 cases x with
 | none=>cases h
 | some x=>cases x with
  | none=>cases h
  | some v=>exact ⟨v,vw v,rfl,h,vw_ok v⟩
noncomputable def isN:Option (Option Value)→Bool
 | none=>false
 | some x=>x.isNone
noncomputable def isB (n:String):Option (Option Value)→Bool:=isW fun w=>match w with | .b m=>m == n | _=>false
noncomputable def isR (a:Nat):Option (Option Value)→Bool:=isW fun w=>match w with | .r b=>Nat.beq a b | _=>false
noncomputable def isI (i:Int):Option (Option Value)→Bool:=isW fun w=>match w with | .i j=>decide (i = j) | _=>false
noncomputable def isS (x:Str):Option (Option Value)→Bool:=isW fun w=>match w with | .s y=>sbeq x y | _=>false
noncomputable def isTy (n:String) (x:Option Value):Bool:=isW (fun w=>match w with | .t m=>m == n | _=>false) (some x)
theorem isN_eq {x:Option (Option Value)} (h:isN x = true):x = some none:=by
 cases x with
 | none=>cases h
 | some x=>cases x with
  | none=>rfl
  | some v=>cases h
theorem isB_eq {n:String} {x:Option (Option Value)} (h:isB n x = true):x = some (some (.builtin n)):=by
 obtain ⟨v,w,rfl,h,k⟩:=isW_inv h
 cases w with
 | b m=>rw [show v = _ from k,beq_iff_eq.mp h]
 | _=>cases h
theorem isR_eq {n:Nat} {x:Option (Option Value)} (h:isR n x = true):x = some (some (.ref n)):=by
 obtain ⟨v,w,rfl,h,k⟩:=isW_inv h
 cases w with
 | r m=>rw [show v = _ from k,Nat.eq_of_beq_eq_true h]
 | _=>cases h
theorem isI_eq {i:Int} {x:Option (Option Value)} (h:isI i x = true):∃ t,x = some (some (.int i t)):=by
 obtain ⟨v,w,rfl,h,k⟩:=isW_inv h
 cases w with
 | i m=>obtain ⟨t,rfl⟩:=k; exact ⟨t,by rw [of_decide_eq_true h]⟩
 | _=>cases h
theorem isS_eq {i:Str} {x:Option (Option Value)} (h:isS i x = true):∃ t,x = some (some (.str i t)):=by
 obtain ⟨v,w,rfl,h,k⟩:=isW_inv h
 cases w with
 | s m=>obtain ⟨t,rfl⟩:=k; exact ⟨t,by rw [of_decide_eq_true ((sbeq_eq i m).symm.trans h)]⟩
 | _=>cases h
theorem isTy_eq {n:String} {x:Option Value} (h:isTy n x = true):x = some (.type n):=by
 obtain ⟨v,w,e,h,k⟩:=isW_inv h
 cases w with
 | t m=>rw [Option.some.inj e,show v = _ from k,beq_iff_eq.mp h]
 | _=>cases h
noncomputable def ckCF (K:Frag) (C:Nat):Bool:=isB "object.__getattribute__" (findIn K (.ref C) "__getattribute__") && isN (findIn K (.ref C) "__getattr__") && isB "object.__setattr__" (findIn K (.ref C) "__setattr__") && plainOver K C && hasDictIn K C
theorem ckCF_ok {K:Frag} {C:Nat} (h:ckCF K C = true):CF K C:=by
 simp only [ckCF,Bool.and_eq_true] at h
 obtain ⟨⟨⟨⟨a,b⟩,c⟩,d⟩,e⟩:=h
 exact ⟨isB_eq a,isN_eq b,isB_eq c,d,e⟩
noncomputable def ckP (K:Frag) (C n:Nat):Bool:=match ats[n]? with
 | some x=>isN (findIn K (.ref C) x) && isN (takerIn K C x)
 | none=>false
noncomputable def ckM (K:Frag) (C n f:Nat):Bool:=match ats[n]? with
 | some x=>keepIn K (.ref f) && isR f (findIn K (.ref C) x) && isTy "function" (typeIn K (.ref f))
 | none=>false
noncomputable def ckI (K:Frag) (C f:Nat):Bool:=makesIn K C && keepIn K (.ref C) && isR f (findIn K (.ref C) "__init__") && isTy "function" (typeIn K (.ref f))
theorem all_plain (P:Params):(plainT.all fun p=>ckCF (Hd.K P) p.1 && p.2.all (ckP (Hd.K P) p.1)) = true:=by kernel_rfl
theorem all_meth (P:Params):(methT.all fun p=>ckCF (Hd.K P) p.1 && p.2.all fun q=>ckM (Hd.K P) p.1 q.1 q.2) = true:=by kernel_rfl
theorem all_init (P:Params):(initT.all fun p=>ckI (Hd.K P) p.1 p.2) = true:=by kernel_rfl
noncomputable def ckG (K:Frag) (x:Str):V→Bool
 | .glob a=>isR a (nsIn K mainGlobals x)
 | .int i=>isI i (nsIn K mainGlobals x)
 | .str s=>isS s (nsIn K mainGlobals x)
 | .bf _=>isN (nsIn K mainGlobals x)
 | _=>false
theorem all_gl (P:Params):(gls.all fun p=>ckG (Hd.K P) p.1 p.2) = true:=by kernel_rfl
noncomputable def ckW1 (w:VW) (x:Option Value):Bool:=match w with
 | .b n=>isB n (some x)
 | .t n=>isTy n x
 | _=>false
theorem ckW1_ok {b:Value} {x:Option Value} (h:ckW1 (vw b) x = true):x = some b:=by
 have k:=vw_ok b
 generalize vw b = w at h k
 cases w with
 | b n=>rw [Option.some.inj (isB_eq h),show b = _ from k]
 | t n=>rw [isTy_eq h,show b = _ from k]
 | _=>cases h
noncomputable def ckB (x:Str):V→Bool
 | .bf b=>!sbeq x ⟨#[95,95,110,97,109,101,95,95]⟩ && ckW1 (vw b.val) (bootBuiltins x)
 | _=>true
theorem all_bf:(gls.all fun p=>ckB p.1 p.2) = true:=by kernel_rfl
theorem lookS_mem {α:Type} {x:Str} {v:α}:∀ {l:List (Str × α)},lookS x l = some v→(x,v)∈l
 | [],h=>by cases h
 | (y,w)::r,h=>by
  rw [lookS] at h
  split at h
  ·rename_i e; cases h; rw [sbeq_eq,decide_eq_true_eq] at e; rw [e]; exact .head _
  ·exact .tail _ (lookS_mem h)
theorem memN_mem {n:Nat}:∀ {l:List Nat},memN n l = true→n∈l
 | [],h=>by cases h
 | m::r,h=>by
  rw [memN,Bool.or_eq_true] at h
  rcases h with e | e
  ·rw [Nat.eq_of_beq_eq_true e]; exact .head _
  ·exact .tail _ (memN_mem e)
theorem ats_nodup:ats.Nodup:=nodupS_nodup (by kernel_rfl)
theorem ats_get:ats[mGet]? = some ("get" : Str):=by kernel_rfl
theorem ats_spl:ats[mSplit]? = some ("split" : Str):=by kernel_rfl
noncomputable def ckW (p:Str × List Str):Bool:=decide ((Txt.words p.1) = p.2) && Nat.ble p.1.length 1000 && Nat.ble (Builtin.Str.spaceWords p.1 (p.1.length + 1)).length 1000
theorem all_w:(splT.all ckW) = true:=by kernel_rfl
noncomputable def cval (x:Option CFound):Option (Option Value):=match x with
 | none=>none
 | some f=>match f with
  | .val v=>some (some v)
  | _=>none
theorem cval_inv {x:Option CFound} {v:Value} (h:cval x = some (some v)):x = some (.val v):=by
 cases x with
 | none=>cases h
 | some f=>cases f with
  | val u=>rw [Option.some.inj (Option.some.inj h)]
  | _=>cases h
noncomputable def ckC (K:Frag) (x:Option Str):Bool:=match x with
 | some x=>isR 662 (cval (findCls K (.ref 686) (.type "type") x))
 | none=>false
theorem ckC_ok {K:Frag} {x:Option Str} (h:ckC K x = true):∃ y,x = some y∧findCls K (.ref 686) (.type "type") y = some (.val (.ref 662)):=by
 cases x with
 | none=>cases h
 | some y=>exact ⟨y,rfl,cval_inv (isR_eq h)⟩
theorem cls_ok (P:Params):(keepIn (Hd.K P) (.ref 662) && isB "type.__getattribute__" (specialIn (Hd.K P) (.ref 686) "__getattribute__") && readsIn (Hd.K P) 686 (.type "type") &&
  ckC (Hd.K P) ats[43]?) = true:=by kernel_rfl
set_option tactic.hygienic true in
theorem pf {g:Gd} {scr:Addr→Option (List V)} {mg mb:Str→Option Value} (X:(Hd.K g.wd.params).In g.B) (hn:g.names = ats) (Gg:g.B.Ns mainGlobals mg) (Gb:g.B.Ns builtinsNs mb) (hb:∀ x:Str,x≠"__name__"→mb x = bootBuiltins x)
  (hs:ScrF g (TT scr)):PF g un (TT scr) (Hd.K g.wd.params) where
 gl:=⟨mg,mb,Gg,Gb,fun x v h=>by
  have hm:=lookS_mem h
  have h1:=List.all_eq_true.mp (all_gl g.wd.params) _ hm
  have h2:=List.all_eq_true.mp all_bf _ hm
  cases v with
  | glob a=>exact ⟨.ref a,fun w=>.glob a,.inl (mg_of X Gg (isR_eq h1))⟩
  | int i=>obtain ⟨t,e⟩:=isI_eq h1; exact ⟨.int i t,fun w=>.int i t,.inl (mg_of X Gg e)⟩
  | str i=>obtain ⟨t,e⟩:=isS_eq h1; exact ⟨.str i t,fun w=>.str i t,.inl (mg_of X Gg e)⟩
  | bf b =>
   refine ⟨b.val,fun w=>.bf b,.inr ⟨mg_none_of X Gg (isN_eq h1),?_⟩⟩
   simp only [ckB,Bool.and_eq_true,Bool.not_eq_true'] at h2
   obtain ⟨h2,h3⟩:=h2
   rw [sbeq_eq,decide_eq_false_iff_not] at h2
   rw [hb x (by have e:(⟨#[95,95,110,97,109,101,95,95]⟩:Str) = "__name__":=(by decide +kernel); rw [← e]; exact h2)]
   exact ckW1_ok h3
  | _=>cases h1⟩
 kin:=X
 mods:=by
  have:(Hd.K g.wd.params).lookup 1 = some (boot_o_1 g.wd.params):=by kernel_rfl
  rw [show sysModules = 1 from rfl,X _ _ this]
  exact Option.some_ne_none _
 names:=hn
 nodup:=ats_nodup
 plain:=fun C n h=>by
  have h:(match lookA C plainT with | some l=>memN n l | none=>false) = true:=h
  split at h
  ·rename_i l hl
   have h1:=List.all_eq_true.mp (all_plain g.wd.params) _ (lookA_eq hl)
   rw [Bool.and_eq_true] at h1
   have h2:=List.all_eq_true.mp h1.2 _ (memN_mem h)
   unfold ckP at h2
   split at h2
   ·rename_i x hx
    rw [Bool.and_eq_true] at h2
    exact ⟨ckCF_ok h1.1,x,hx,isN_eq h2.1,isN_eq h2.2⟩
   ·cases h2
  ·cases h
 meth:=fun C n f h=>by
  have h:(lookA C methT).bind (lookA n) = some f:=h
  obtain ⟨l,hl,hf⟩:=Option.bind_eq_some_iff.mp h
  have h1:=List.all_eq_true.mp (all_meth g.wd.params) _ (lookA_eq hl)
  rw [Bool.and_eq_true] at h1
  have h2:=List.all_eq_true.mp h1.2 _ (lookA_eq hf)
  unfold ckM at h2
  split at h2
  ·rename_i x hx
   simp only [Bool.and_eq_true] at h2
   exact ⟨ckCF_ok h1.1,h2.1.1,x,hx,isR_eq h2.1.2,isTy_eq h2.2⟩
  ·cases h2
 init:=fun C f h=>by
  have h1:=List.all_eq_true.mp (all_init g.wd.params) _ (lookA_eq (show lookA C initT = some f from h))
  simp only [ckI,Bool.and_eq_true] at h1
  exact ⟨h1.1.1.1,h1.1.1.2,isR_eq h1.1.2,isTy_eq h1.2⟩
 clsa:=fun C l i f h1 h2=>by
  have e1:=lookA_eq h1
  have e2:=lookA_eq h2
  simp only [un,List.mem_singleton,Prod.mk.injEq] at e1
  obtain ⟨rfl,rfl⟩:=e1
  simp only [List.mem_singleton,Prod.mk.injEq] at e2
  obtain ⟨rfl,rfl⟩:=e2
  have c:=cls_ok g.wd.params
  simp only [Bool.and_eq_true] at c
  obtain ⟨⟨⟨c1,c2⟩,c3⟩,c4⟩:=c
  obtain ⟨x,hx,ha⟩:=ckC_ok c4
  exact ⟨x,.type "type",hx,c1,isB_eq c2,c3,ha⟩
 get:=ats_get
 spl:=ats_spl
 scr:=hs
 words:=fun s ws h=>by
  have h1:=List.all_eq_true.mp all_w _ (lookS_mem (show lookS s splT = some ws from h))
  simp only [ckW,Bool.and_eq_true] at h1
  have:=Nat.le_of_ble_eq_true h1.1.2
  have:=Nat.le_of_ble_eq_true h1.2
  exact ⟨of_decide_eq_true h1.1.1,by rw [sizeLine_eq]; lia,by rw [sizeLine_eq]; lia⟩
end
end Mine
end
section
open PySem PySem.W PyProof.Rows Hd
namespace Mine
section
noncomputable def mk (f:Nat→Value):Nat→Nat→List Value
 | _,0=>[]
 | k,n + 1=>f k::mk f (k + 1) n
theorem mk_eq (l:List Value):∀ (r:List Value) (k:Nat),(∀ j,(h:j < r.length)→l.getD (k + j) .none = r[j])→mk (fun k=>l.getD k .none) k r.length = r
 | [],_,_=>rfl
 | x::r,k,h=>congr (congrArg List.cons (h 0 (Nat.succ_pos _))) (mk_eq l r (k + 1) fun j q=>by rw [Nat.add_assoc,Nat.add_comm 1]; exact h (j + 1) (Nat.succ_lt_succ q))
noncomputable def eA (K:Frag) (a:Nat) (i:Info):Option (FuncBody × Scope × Bool):=(fdOf K a).map fun fd=>(fd.body,fd.scope,chk K fd i)
noncomputable def eB (i:Info):Option (FuncBody × Scope × Bool):=some (.stmts (fB i.x),fS i.x,true)
noncomputable def eC (K:Frag) (a:Nat) (i:Info) (f:Nat→Value) (S:Setting):=(fdOf K a).bind fun fd=>peek K S (bindArgs fd ⟨mk f 0 i.np,[]⟩)
noncomputable def eD (i:Info) (dv:List Value) (f:Nat→Value):=some (i.params.zip (mk f 0 i.np++dv))
structure Ent' (K:Frag) (a:Nat) (i:Info) (dv:List Value):Prop where
 q:eA K a i = eB i
 v:∀ w,VRs w i.dfl dv
 d:∀ f S,eC K a i f S = eD i dv f
noncomputable def AllE (K:Frag) (l:List (Nat × Info)):Prop:=∀ p∈l,Ent K p.1 p.2
theorem en_nil {K:Frag}:AllE K []:=fun _ h=>by cases h
theorem en_cons {K:Frag} {a:Nat} {i:Info} {dv:List Value} {l:List (Nat × Info)} (h:Ent' K a i dv) (t:AllE K l):AllE K ((a,i)::l):=by
 refine List.forall_mem_cons.mpr ⟨?_,t⟩
 obtain ⟨q,v,d⟩:=h
 unfold eA eB at q
 unfold eC eD at d
 show Ent K a i
 cases e:fdOf K a with
 | none=>rw [e] at q; cases q
 | some fd =>
  rw [e] at q d
  have q:=Option.some.inj q
  refine ⟨fd,e,congrArg (·.1) q,congrArg (·.2.1) q,congrArg (·.2.2) q,dv,v,fun vals hv S=>?_⟩
  have:=d (fun k=>vals.getD k .none) S
  rw [← hv,mk_eq vals vals 0 fun j h=>by rw [Nat.zero_add,List.getD_eq_getElem?_getD,List.getElem?_eq_getElem h]; rfl] at this
  exact this
theorem e_law (P:Params):Ent' (Hd.K P) 912 i_law []:=⟨by kernel_rfl,fun _=>.nil,fun f S=>by kernel_rfl⟩
theorem e_law_pen (P:Params):Ent' (Hd.K P) 836 i_law_pen []:=⟨by kernel_rfl,fun _=>.nil,fun f S=>by kernel_rfl⟩
theorem e_law_draw (P:Params):Ent' (Hd.K P) 843 i_law_draw []:=⟨by kernel_rfl,fun _=>.nil,fun f S=>by kernel_rfl⟩
theorem e_law_pick (P:Params):Ent' (Hd.K P) 850 i_law_pick []:=⟨by kernel_rfl,fun _=>.nil,fun f S=>by kernel_rfl⟩
theorem e_law_reg (P:Params):Ent' (Hd.K P) 857 i_law_reg []:=⟨by kernel_rfl,fun _=>.nil,fun f S=>by kernel_rfl⟩
theorem e_law_mem (P:Params):Ent' (Hd.K P) 864 i_law_mem []:=⟨by kernel_rfl,fun _=>.nil,fun f S=>by kernel_rfl⟩
theorem e_law_line (P:Params):Ent' (Hd.K P) 871 i_law_line []:=⟨by kernel_rfl,fun _=>.nil,fun f S=>by kernel_rfl⟩
theorem e_law_operand (P:Params):Ent' (Hd.K P) 878 i_law_operand []:=⟨by kernel_rfl,fun _=>.nil,fun f S=>by kernel_rfl⟩
theorem e_law_place (P:Params):Ent' (Hd.K P) 885 i_law_place []:=⟨by kernel_rfl,fun _=>.nil,fun f S=>by kernel_rfl⟩
theorem e_law_get (P:Params):Ent' (Hd.K P) 890 i_law_get []:=⟨by kernel_rfl,fun _=>.nil,fun f S=>by kernel_rfl⟩
theorem e_law_put (P:Params):Ent' (Hd.K P) 897 i_law_put []:=⟨by kernel_rfl,fun _=>.nil,fun f S=>by kernel_rfl⟩
theorem e_law_added (P:Params):Ent' (Hd.K P) 902 i_law_added []:=⟨by kernel_rfl,fun _=>.nil,fun f S=>by kernel_rfl⟩
theorem e_law_do (P:Params):Ent' (Hd.K P) 907 i_law_do []:=⟨by kernel_rfl,fun _=>.nil,fun f S=>by kernel_rfl⟩
theorem e_move_deed (P:Params):Ent' (Hd.K P) 35 i_move_deed []:=⟨by kernel_rfl,fun _=>.nil,fun f S=>by kernel_rfl⟩
theorem e_exchange (P:Params):Ent' (Hd.K P) 28 i_exchange []:=⟨by kernel_rfl,fun _=>.nil,fun f S=>by kernel_rfl⟩
theorem e_arith_deed (P:Params):Ent' (Hd.K P) 437 i_arith_deed []:=⟨by kernel_rfl,fun _=>.nil,fun f S=>by kernel_rfl⟩
theorem e_xadd_deed (P:Params):Ent' (Hd.K P) 402 i_xadd_deed []:=⟨by kernel_rfl,fun _=>.nil,fun f S=>by kernel_rfl⟩
theorem e_cmpxchg_deed (P:Params):Ent' (Hd.K P) 409 i_cmpxchg_deed []:=⟨by kernel_rfl,fun _=>.nil,fun f S=>by kernel_rfl⟩
theorem e_mask (P:Params):Ent' (Hd.K P) 94 i_mask []:=⟨by kernel_rfl,fun _=>.nil,fun f S=>by kernel_rfl⟩
theorem e_wrap (P:Params):Ent' (Hd.K P) 101 i_wrap []:=⟨by kernel_rfl,fun _=>.nil,fun f S=>by kernel_rfl⟩
theorem e_bit (P:Params):Ent' (Hd.K P) 108 i_bit []:=⟨by kernel_rfl,fun _=>.nil,fun f S=>by kernel_rfl⟩
theorem e_ones (P:Params):Ent' (Hd.K P) 115 i_ones []:=⟨by kernel_rfl,fun _=>.nil,fun f S=>by kernel_rfl⟩
theorem e_parity (P:Params):Ent' (Hd.K P) 122 i_parity []:=⟨by kernel_rfl,fun _=>.nil,fun f S=>by kernel_rfl⟩
theorem e_szp (P:Params):Ent' (Hd.K P) 234 i_szp []:=⟨by kernel_rfl,fun _=>.nil,fun f S=>by kernel_rfl⟩
theorem e_add_flags (P:Params):Ent' (Hd.K P) 241 i_add_flags []:=⟨by kernel_rfl,fun _=>.nil,fun f S=>by kernel_rfl⟩
theorem e_sub_flags (P:Params):Ent' (Hd.K P) 248 i_sub_flags []:=⟨by kernel_rfl,fun _=>.nil,fun f S=>by kernel_rfl⟩
theorem e_joined (P:Params):Ent' (Hd.K P) 538 i_joined []:=⟨by kernel_rfl,fun _=>.nil,fun f S=>by kernel_rfl⟩
theorem e_gpr (P:Params):Ent' (Hd.K P) 360 i_gpr []:=⟨by kernel_rfl,fun _=>.nil,fun f S=>by kernel_rfl⟩
theorem e_high (P:Params):Ent' (Hd.K P) 367 i_high []:=⟨by kernel_rfl,fun _=>.nil,fun f S=>by kernel_rfl⟩
theorem e_rip (P:Params):Ent' (Hd.K P) 374 i_rip []:=⟨by kernel_rfl,fun _=>.nil,fun f S=>by kernel_rfl⟩
theorem e_early_names (P:Params):Ent' (Hd.K P) 346 i_early_names []:=⟨by kernel_rfl,fun _=>.nil,fun f S=>by kernel_rfl⟩
theorem e_Flags_init (P:Params):Ent' (Hd.K P) 143 i_Flags_init []:=⟨by kernel_rfl,fun _=>.nil,fun f S=>by kernel_rfl⟩
theorem e_Flags_told (P:Params):Ent' (Hd.K P) 150 i_Flags_told []:=⟨by kernel_rfl,fun _=>.nil,fun f S=>by kernel_rfl⟩
theorem e_Memory_init (P:Params):Ent' (Hd.K P) 451 i_Memory_init []:=⟨by kernel_rfl,fun _=>.nil,fun f S=>by kernel_rfl⟩
theorem e_Memory_octet (P:Params):Ent' (Hd.K P) 458 i_Memory_octet []:=⟨by kernel_rfl,fun _=>.nil,fun f S=>by kernel_rfl⟩
theorem e_Memory_set_octet (P:Params):Ent' (Hd.K P) 465 i_Memory_set_octet []:=⟨by kernel_rfl,fun _=>.nil,fun f S=>by kernel_rfl⟩
theorem e_Memory_read (P:Params):Ent' (Hd.K P) 472 i_Memory_read []:=⟨by kernel_rfl,fun _=>.nil,fun f S=>by kernel_rfl⟩
theorem e_Memory_write (P:Params):Ent' (Hd.K P) 479 i_Memory_write []:=⟨by kernel_rfl,fun _=>.nil,fun f S=>by kernel_rfl⟩
theorem e_Memory_load (P:Params):Ent' (Hd.K P) 486 i_Memory_load []:=⟨by kernel_rfl,fun _=>.nil,fun f S=>by kernel_rfl⟩
theorem e_Memory_written (P:Params):Ent' (Hd.K P) 496 i_Memory_written []:=⟨by kernel_rfl,fun _=>.nil,fun f S=>by kernel_rfl⟩
theorem e_State_init (P:Params):Ent' (Hd.K P) 552 i_State_init []:=⟨by kernel_rfl,fun _=>.nil,fun f S=>by kernel_rfl⟩
theorem e_State_get (P:Params):Ent' (Hd.K P) 559 i_State_get []:=⟨by kernel_rfl,fun _=>.nil,fun f S=>by kernel_rfl⟩
theorem e_State_put (P:Params):Ent' (Hd.K P) 566 i_State_put []:=⟨by kernel_rfl,fun _=>.nil,fun f S=>by kernel_rfl⟩
theorem e_State_put_low (P:Params):Ent' (Hd.K P) 573 i_State_put_low []:=⟨by kernel_rfl,fun _=>.nil,fun f S=>by kernel_rfl⟩
theorem e_State_offset (P:Params):Ent' (Hd.K P) 585 i_State_offset []:=⟨by kernel_rfl,fun _=>.nil,fun f S=>by kernel_rfl⟩
theorem e_State_place (P:Params):Ent' (Hd.K P) 592 i_State_place []:=⟨by kernel_rfl,fun _=>.nil,fun f S=>by kernel_rfl⟩
theorem e_State_size_of (P:Params):Ent' (Hd.K P) 599 i_State_size_of []:=⟨by kernel_rfl,fun _=>.nil,fun f S=>by kernel_rfl⟩
theorem e_State_read (P:Params):Ent' (Hd.K P) 606 i_State_read []:=⟨by kernel_rfl,fun _=>.nil,fun f S=>by kernel_rfl⟩
theorem e_State_write (P:Params):Ent' (Hd.K P) 613 i_State_write []:=⟨by kernel_rfl,fun _=>.nil,fun f S=>by kernel_rfl⟩
theorem e_Register_init (P:Params):Ent' (Hd.K P) 297 i_Register_init []:=⟨by kernel_rfl,fun _=>.nil,fun f S=>by kernel_rfl⟩
theorem e_Operand_init (P:Params):Ent' (Hd.K P) 662 i_Operand_init []:=⟨by kernel_rfl,fun _=>.nil,fun f S=>by kernel_rfl⟩
theorem e_Reg_init (P:Params):Ent' (Hd.K P) 704 i_Reg_init []:=⟨by kernel_rfl,fun _=>.nil,fun f S=>by kernel_rfl⟩
theorem e_Mem_init (P:Params):Ent' (Hd.K P) 738 i_Mem_init [.str ⟨#[]⟩ 1191]:=⟨by kernel_rfl,fun _=>.cons (.str _ _) .nil,fun f S=>by kernel_rfl⟩
theorem e_Instruction_init (P:Params):Ent' (Hd.K P) 791 i_Instruction_init [.str ⟨#[]⟩ 1265]:=⟨by kernel_rfl,fun _=>.cons (.str _ _) .nil,fun f S=>by kernel_rfl⟩
theorem ents (P:Params):AllE (Hd.K P) FI:=en_cons (e_law P) <| en_cons (e_law_pen P) <| en_cons (e_law_draw P) <| en_cons (e_law_pick P) <| en_cons (e_law_reg P) <| en_cons (e_law_mem P) <| en_cons (e_law_line P) <| en_cons (e_law_operand P) <| en_cons (e_law_place P) <| en_cons (e_law_get P) <| en_cons (e_law_put P) <| en_cons (e_law_added P) <| en_cons (e_law_do P) <| en_cons (e_move_deed P) <| en_cons (e_exchange P) <| en_cons (e_arith_deed P) <| en_cons (e_xadd_deed P) <| en_cons (e_cmpxchg_deed P) <| en_cons (e_mask P) <| en_cons (e_wrap P) <| en_cons (e_bit P) <| en_cons (e_ones P) <| en_cons (e_parity P) <| en_cons (e_szp P) <| en_cons (e_add_flags P) <| en_cons (e_sub_flags P) <| en_cons (e_joined P) <| en_cons (e_gpr P) <| en_cons (e_high P) <| en_cons (e_rip P) <| en_cons (e_early_names P) <| en_cons (e_Flags_init P) <| en_cons (e_Flags_told P) <| en_cons (e_Memory_init P) <| en_cons (e_Memory_octet P) <| en_cons (e_Memory_set_octet P) <| en_cons (e_Memory_read P) <| en_cons (e_Memory_write P) <| en_cons (e_Memory_load P) <| en_cons (e_Memory_written P) <| en_cons (e_State_init P) <| en_cons (e_State_get P) <| en_cons (e_State_put P) <| en_cons (e_State_put_low P) <| en_cons (e_State_offset P) <| en_cons (e_State_place P) <| en_cons (e_State_size_of P) <| en_cons (e_State_read P) <| en_cons (e_State_write P) <| en_cons (e_Register_init P) <| en_cons (e_Operand_init P) <| en_cons (e_Reg_init P) <| en_cons (e_Mem_init P) <| en_cons (e_Instruction_init P) <| en_nil
end
end Mine
end
section
open PySem PySem.W PyProof.Rows Hd
namespace Mine
section
noncomputable def H0:AH:=⟨fun _=>none,0,0⟩
noncomputable def w0:Wd:=⟨fun _=>0,fun _=>0,0,fun _=>none,fun _=>none,0⟩
noncomputable def scrOf (l:Addr) (ns:List Int):Addr→Option (List V):=fun a=>if a = l then some (ns.map .int) else none
noncomputable def Plain:Prop:=∀ (l:Addr) (ns:List Int),ns.length≤63→Sp un (TT (scrOf l ns)) FI 20 912 [.glob l] H0 fun v _=>v = .bool true
theorem ints_of {R:WRecords} {cl:Str→Option Addr} {h:Heap} {xs:List WData}:∀ {vs:List Value} {as:List Addr},ReadsAllW R cl h vs xs as→WShape.hasItems R xs .int = true →
  ∃ ns:List Int,ns.length = xs.length∧∀ w,VRs w (ns.map .int) vs:=by
 induction xs with
 | nil =>
  intro vs as r _
  cases r
  exact ⟨[],rfl,fun _=>.nil⟩
 | cons x xs ih =>
  intro vs as r e
  have e:=Bool.and_eq_true_iff.mp (show (WShape.has R x .int && WShape.hasItems R xs .int) = true from e)
  have e1:=e.1
  cases r with
  | cons r rs =>
   obtain ⟨ns,hl,hv⟩:=ih rs e.2
   obtain ⟨i,rfl⟩:=hasW_int e1
   cases r with
   | int _ t=>exact ⟨i::ns,congrArg Nat.succ hl,fun w=>.cons (.int i t) (hv w)⟩
theorem walk (BO:∀ g scr d,BltOK g (TT scr) (d + 4)) (EO:∀ g d,EnumOK g (d + 4)) (plain:Plain) :
  WalkO qv loose (fun _ _=>True) (InK Hd.K) row.toRowW dl [] (fun f vs=>PySem.call f vs):=by
 intro w s₀ s₁ mg mb G X a o pm cd doc dV kV _ _ _ _ hmg hgens args vals as hpre hlay hreads _ _
 have ha:a = 912:=by
  have:=mg_of (n:=dl.name) (v:=.ref 912) X G.T.g (by kernel_rfl)
  rw [hmg] at this
  cases this; rfl
 subst ha
 obtain ⟨p1,p2⟩:=pre_splitW hpre
 have hargs:∃ xs,args = [.list xs]∧WShape.hasItems ([]:WRecords) xs .int = true:=by
  have p1:WShape.hasAll [] args [.list .int] = true:=p1
  obtain ⟨d,r,rfl,a,b⟩:=hasAllW_cons p1
  obtain rfl:=hasAllW_nil b
  obtain ⟨xs,rfl,q⟩:=hasW_list a
  exact ⟨xs,rfl,q⟩
 obtain ⟨xs,rfl,hxs⟩:=hargs
 have hlen:xs.length≤63:=by
  have p2:(OpenLaw.pre PySem.Challenge.rw_nn0069_01).holds [] { args:=[.list xs] } = true:=p2
  dsimp only [OpenLaw.pre,PySem.Challenge.rw_nn0069_01,WTm.holds,WTm.value,List.getElem?_cons_zero] at p2
  by_cases hc:(63:Int) < xs.length
  ·rw [show less? (WData.int ((63:Nat):Int)) (WData.int xs.length) = some (decide (((63:Nat):Int) < xs.length)) from rfl] at p2
   have hc:((63:Nat):Int) < xs.length:=hc
   rw [decide_eq_true hc] at p2
   cases p2
  ·omega
 cases hreads with
 | cons r rs =>
  cases rs
  cases r with
  | @list l ob vs n _ as' h1 h2 h3 h4 =>
   obtain ⟨ns,hn,hv⟩:=ints_of h4 hxs
   let g:Gd:={ prog:=row.prog,wd:=w,names:=ats,B:=s₁.heap }
   have P:PF g un (TT (scrOf l ns)) (Hd.K g.wd.params):=pf (g:=g) X rfl G.T.g G.T.b G.T.builtins (fun b ws e=>by
    have e:(if b = l then some (ns.map V.int) else none) = some ws:=e
    split at e
    ·rename_i hb; cases e; subst hb
     exact ⟨vs,⟨ob,h1,h2,n,h3⟩,hv⟩
    ·cases e)
   have S:=spec_ok (FI:=FI) P G.T.nolimit (BO g _) (EO g) (ents g.wd.params) 20
   have R:Room callerA 44:=⟨by rfl,by decide +kernel,by decide +kernel⟩
   have Kn₀:Kn g w0 H0 s₁:=⟨fun _ _ e=>e,fun _ _ e=>(nomatch e),fun _ _ e=>(nomatch e),rfl,rfl,fun _ _ e=>(nomatch e),fun _ _ e=>(nomatch e),fun _ _ _ _ e=>(nomatch e),fun _ _ _ _ _ e=>(nomatch e),fun _ _ _ _ _ _ e=>(nomatch e)⟩
   obtain ⟨_,hc⟩:=S 912 [.glob l] [.ref l] H0 _ w0 s₁ callerA R Kn₀ (.cons (.glob l) .nil) (plain l ns (by omega))
   refine wpAny_call (codeAny_mono hc fun r s' z=>?_)
   cases z with
   | mk z =>
    obtain ⟨v,w₁,H₁,e₁,K₁,r₁,q₁⟩:=z
    subst q₁
    obtain rfl:=r₁.boolI
    refine ⟨.inl ⟨_,.bool true,[],rfl,fun cls=>rfl,.bool true,?_,fun _=>⟨List.nodup_nil,fun a h=>by simp at h⟩⟩,.of_keep fun b o e=>e₁.kept b o e rfl fun x=>x,e₁.os,?_⟩
    ·have h1:WShape.has ([]:WRecords) (.bool true) .bool = true:=by decide +kernel
     have h2:∀ c:WCtx,c.res = some (.bool true)→WTm.holds [] (.eq .res (.lit (.bool true))) c = true:=fun c hc=>by
      obtain ⟨a,r,af,vs⟩:=c
      cases hc
      kernel_rfl
     exact Bool.and_eq_true_iff.mpr ⟨h1,h2 _ rfl⟩
    ·rw [e₁.gens,hgens]; exact .empty
theorem fin (BO:∀ g scr d,BltOK g (TT scr) (d + 4)) (EO:∀ g d,EnumOK g (d + 4)) (plain:Plain):PySem.Challenge.rw_nn0069_01.Holds:=Hd.holds (walk BO EO plain)
end
end Mine
end
section
open PySem PySem.W PyProof.Rows Hd
namespace Mine
section
noncomputable def t_dec:Str:=⟨#[100,101,99]⟩
noncomputable def t_fs:Str:=⟨#[102,115]⟩
noncomputable def t_gs:Str:=⟨#[103,115]⟩
noncomputable def t_h:Str:=⟨#[104]⟩
noncomputable def t_inc:Str:=⟨#[105,110,99]⟩
noncomputable def t_lea:Str:=⟨#[108,101,97]⟩
noncomputable def t_lahf:Str:=⟨#[108,97,104,102]⟩
noncomputable def t_mov:Str:=⟨#[109,111,118]⟩
noncomputable def t_m:Str:=⟨#[109]⟩
noncomputable def t_neg:Str:=⟨#[110,101,103]⟩
noncomputable def t_nop:Str:=⟨#[110,111,112]⟩
noncomputable def t_not:Str:=⟨#[110,111,116]⟩
noncomputable def t_or:Str:=⟨#[111,114]⟩
noncomputable def t_r:Str:=⟨#[114]⟩
noncomputable def t_set:Str:=⟨#[115,101,116]⟩
noncomputable def t_std:Str:=⟨#[115,116,100]⟩
noncomputable def t_stc:Str:=⟨#[115,116,99]⟩
noncomputable def t_sub:Str:=⟨#[115,117,98]⟩
noncomputable def t_sahf:Str:=⟨#[115,97,104,102]⟩
noncomputable def t_sbb:Str:=⟨#[115,98,98]⟩
noncomputable def t_test:Str:=⟨#[116,101,115,116]⟩
noncomputable def t_xor:Str:=⟨#[120,111,114]⟩
noncomputable def t_xadd:Str:=⟨#[120,97,100,100]⟩
noncomputable def t_xchg:Str:=⟨#[120,99,104,103]⟩
noncomputable def t_add:Str:=⟨#[97,100,100]⟩
noncomputable def t_adc:Str:=⟨#[97,100,99]⟩
noncomputable def t_and:Str:=⟨#[97,110,100]⟩
noncomputable def t_cld:Str:=⟨#[99,108,100]⟩
noncomputable def t_clc:Str:=⟨#[99,108,99]⟩
noncomputable def t_cmov:Str:=⟨#[99,109,111,118]⟩
noncomputable def t_cmpxchg:Str:=⟨#[99,109,112,120,99,104,103]⟩
noncomputable def t_cmp:Str:=⟨#[99,109,112]⟩
noncomputable def t_cmc:Str:=⟨#[99,109,99]⟩
noncomputable def c_law:List St:=[.asg (.var 1) (.call (.glob 836) [(.var 0)]),.asg (.var 2) (.comp (.call (.glob 871) [(.var 1)]) 0 1 (.bin .Add (.lit (.int 1)) (.call (.glob 843) [(.var 1),(.lit (.int 4))])) (.lit (.bool true)) [none,some 1]),.asg (.var 3) (.bin .Mult (.list [(.lit (.int 0))]) (.lit (.int 16))),.for1 4 0 (.list [(.lit (.int 0)),.lit (.int 1),.lit (.int 3),.lit (.int 6),(.lit (.int 4))]) [.asg (.item (.var 3) (.var 4)) (.call (.glob 850) [(.var 1),(.list [(.bin .Add (.lit (.int 16384)) (.call (.glob 843) [(.var 1),(.lit (.int 24))])),.call (.glob 843) [(.var 1),(.lit (.int 4))],.call (.glob 843) [(.var 1),(.bin .Pow (.lit (.int 2)) (.lit (.int 64)))],(.bin .Sub (.bin .Pow (.lit (.int 2)) (.lit (.int 64))) (.lit (.int 1)))])])],.asg (.var 5) (.comp (.bin .Mult (.bin .Mod (.call (.bf .int) [(.bin .Mult (.call (.glob 843) [(.var 1),(.bin .Pow (.lit (.int 2)) (.lit (.int 64)))]) (.bin .Add (.bin .Pow (.lit (.int 2)) (.lit (.int 38))) (.lit (.int 1))))]) (.bin .Pow (.lit (.int 2)) (.lit (.int 64)))) (.bin .Pow (.lit (.int 2)) (.bin .Mult (.lit (.int 64)) (.var 0)))) 0 1 (.lit (.int 6)) (.lit (.bool true)) [none,some 1]),.asg (.var 6) (.comp (.bin .Mod (.call (.bf .int) [(.bin .FloorDiv (.call (.bf .sum) [(.var 1)]) (.bin .Pow (.lit (.int 256)) (.var 0)))]) (.lit (.int 256))) 0 1 (.lit (.int 48)) (.lit (.bool true)) [none,some 5]),.asg (.var 7) (.comp (.call (.glob 850) [(.var 1),(.list [(.lit (.int 0)),.lit (.int 8),.bin .Sub (.bin .Pow (.lit (.int 2)) (.lit (.int 64))) (.lit (.int 8)),(.call (.glob 843) [(.var 1),(.bin .Pow (.lit (.int 2)) (.lit (.int 64)))])])]) 0 1 (.lit (.int 2)) (.lit (.bool true)) [none,some 1]),.unp [(.var 8),(.var 9)] (.tup [(.call (.glob 644) [(.lit .none)]),(.bin .Sub (.lit (.int 16384)) (.call (.glob 843) [(.var 1),(.lit (.int 16))]))]),.unp [(.attr (.var 8) 2),(.attr (.var 8) 3)] (.tup [(.call (.bf .list) [(.var 3)]),(.var 9)]),.unp [(.item (.attr (.var 8) 5) (.lit (.str t_fs))),(.item (.attr (.var 8) 5) (.lit (.str t_gs)))] (.tup [(.item (.var 7) (.lit (.int 0))),(.item (.var 7) (.lit (.int 1)))]),.ex (.meth (.attr (.var 8) 6) 4 [(.lit (.int 16384)),(.call (.bf .bytes) [(.var 6)])]),.asg (.var 10) (.call (.bf .dict) [(.comp (.tup [(.bin .Add (.lit (.int 16384)) (.var 0)),(.item (.var 1) (.var 0))]) 0 1 (.lit (.int 48)) (.lit (.bool true)) [none,some 6])]),.asg (.var 11) (.dict [S223,S150,S218,S222,S116] [(.var 3),.var 9,.dict [t_fs,t_gs] [(.item (.var 7) (.lit (.int 0))),(.item (.var 7) (.lit (.int 1)))],.var 10,(.bin .Mult (.list [(.lit (.int 0))]) (.lit (.int 6)))]),.for1 12 0 (.var 2) [.asg (.var 13) (.call (.glob 827) [(.item (.var 12) (.lit (.int 0))),(.comp (.call (.glob 878) [(.var 0)]) 0 0 (.item (.var 12) (.lit (.int 2))) (.lit (.bool true)) [none])]),.iff (.un .Not (.ite (.cmp .In (.item (.var 12) (.lit (.int 0))) (.tup [(.lit (.str t_xchg)),.lit (.str t_mov),(.lit (.str t_lea))])) (.call (.glob 35) [(.var 8),(.var 13)]) (.call (.glob 437) [(.var 8),(.var 13)]))) [.ret (.lit (.bool false))] [],.ex (.call (.glob 907) [(.var 11),(.var 12)]),.iff (.cmp .NotEq (.attr (.var 8) 2) (.item (.var 11) (.lit (.str S223)))) [.ret (.lit (.bool false))] []],.iff (.cmp .NotEq (.meth (.attr (.var 8) 6) 7 []) (.call (.bf .sorted) [(.comp (.tup [(.var 0),(.item (.var 1) (.var 0))]) 0 0 (.var 10) (.cmp .NotEq (.item (.var 1) (.var 0)) (.lit (.int 0))) [none,some 10])])) [.ret (.lit (.bool false))] [],.iff (.or (.cmp .NotEq (.meth (.attr (.var 8) 10) 9 []) (.call (.bf .tuple) [(.bin .Add (.item (.var 11) (.lit (.str S116))) (.list [(.lit (.int 0))]))])) (.cmp .NotEq (.attr (.var 8) 3) (.var 9))) [.ret (.lit (.bool false))] [],.ret (.and (.cmp .Eq (.list [(.item (.attr (.var 8) 5) (.lit (.str t_fs))),(.item (.attr (.var 8) 5) (.lit (.str t_gs)))]) (.var 7)) (.cmp .Eq (.attr (.var 8) 8) (.bin .Mult (.list [(.lit (.int 0))]) (.lit (.int 16)))))]
theorem e_c_law:codeOf un i_law = c_law:=by kernel_rfl
noncomputable def c_law_pen:List St:=[.ret (.list [(.comp (.call (.bf .int) [(.var 0)]) 0 0 (.upto (.var 0) (.lit (.int 40))) (.lit (.bool true)) [none]),.lit (.int 0),(.lit (.int 0))])]
theorem e_c_law_pen:codeOf un i_law_pen = c_law_pen:=by kernel_rfl
noncomputable def c_law_draw:List St:=[.iff (.cmp .Gt (.item (.var 0) (.lit (.int 2))) (.lit (.int 0))) [.asg (.var 2) (.bin .Mod (.call (.bf .int) [(.item (.var 0) (.lit (.int 2)))]) (.var 1)),.asg (.item (.var 0) (.lit (.int 2))) (.bin .FloorDiv (.call (.bf .int) [(.item (.var 0) (.lit (.int 2)))]) (.var 1)),.ret (.var 2)] [],.asg (.var 3) (.item (.var 0) (.lit (.int 1))),.asg (.item (.var 0) (.lit (.int 1))) (.bin .Add (.var 3) (.lit (.int 1))),.asg (.var 4) (.bin .Add (.bin .Add (.bin .Mult (.lit (.int 52361)) (.var 3)) (.lit (.int 4027))) (.bin .Mod (.call (.bf .int) [(.call (.bf .sum) [(.upto (.item (.var 0) (.lit (.int 0))) (.lit (.int 1)))])]) (.lit (.int 1000003)))),.iff (.cmp .NotEq (.item (.var 0) (.lit (.int 0))) (.list [])) [.asg (.var 4) (.item (.item (.var 0) (.lit (.int 0))) (.bin .Mod (.call (.bf .int) [(.var 3)]) (.call (.bf .len) [(.item (.var 0) (.lit (.int 0)))])))] [],.iff (.and (.cmp .Lt (.var 3) (.call (.bf .len) [(.item (.var 0) (.lit (.int 0)))])) (.cmp .GtE (.call (.bf .abs) [(.var 4)]) (.bin .Pow (.lit (.int 10)) (.lit (.int 18))))) [.asg (.var 5) (.bin .Add (.bin .Mult (.lit (.int 2)) (.bin .Sub (.call (.bf .abs) [(.var 4)]) (.bin .Pow (.lit (.int 10)) (.lit (.int 18))))) (.call (.bf .int) [(.cmp .Lt (.var 4) (.lit (.int 0)))])),.asg (.item (.var 0) (.lit (.int 2))) (.bin .FloorDiv (.call (.bf .int) [(.var 5)]) (.var 1)),.ret (.bin .Mod (.call (.bf .int) [(.var 5)]) (.var 1))] [],.asg (.var 6) (.bin .Mod (.call (.bf .int) [(.bin .Pow (.bin .Add (.bin .Add (.bin .Mod (.call (.bf .int) [(.var 4)]) (.lit (.int 2147483587))) (.bin .Mult (.lit (.int 52361)) (.var 3))) (.lit (.int 4027))) (.lit (.int 5)))]) (.lit (.int 2147483629))),.asg (.var 6) (.bin .Mod (.call (.bf .int) [(.bin .Pow (.bin .Add (.bin .Add (.bin .Mult (.var 6) (.bin .Add (.bin .Mult (.lit (.int 2)) (.var 3)) (.lit (.int 7561)))) (.bin .Mult (.bin .Mult (.lit (.int 52361)) (.var 3)) (.var 3))) (.lit (.int 67))) (.lit (.int 3)))]) (.lit (.int 2147483579))),.ret (.bin .Mod (.call (.bf .int) [(.bin .FloorDiv (.var 6) (.lit (.int 32)))]) (.var 1))]
theorem e_c_law_draw:codeOf un i_law_draw = c_law_draw:=by kernel_rfl
noncomputable def c_law_pick:List St:=[.ret (.item (.var 1) (.call (.glob 843) [(.var 0),(.call (.bf .len) [(.var 1)])]))]
theorem e_c_law_pick:codeOf un i_law_pick = c_law_pick:=by kernel_rfl
noncomputable def c_law_reg:List St:=[.asg (.var 2) (.call (.glob 850) [(.var 0),(.list [(.lit (.int 0)),.lit (.int 1),.lit (.int 3),(.lit (.int 6))])]),.ret (.tup [(.ite (.and (.cmp .Eq (.var 1) (.lit (.int 8))) (.and (.cmp .Lt (.var 2) (.lit (.int 4))) (.cmp .Eq (.call (.glob 843) [(.var 0),(.lit (.int 3))]) (.lit (.int 2))))) (.lit (.str t_h)) (.lit (.str t_r))),.var 2,(.var 1)])]
theorem e_c_law_reg:codeOf un i_law_reg = c_law_reg:=by kernel_rfl
noncomputable def c_law_mem:List St:=[.unp [(.var 2),(.var 3)] (.tup [(.call (.glob 850) [(.var 0),(.list [(.lit (.int 0)),.lit (.int 1),.lit (.int 3),.lit (.int 6),.lit (.int 16),.un .USub (.lit (.int 1)),(.lit (.int 4))])]),(.call (.glob 850) [(.var 0),(.list [(.un .USub (.lit (.int 1))),.lit (.int 0),.lit (.int 1),.lit (.int 3),.un .USub (.lit (.int 1)),(.lit (.int 6))])])]),.asg (.var 3) (.ite (.cmp .Eq (.var 2) (.lit (.int 16))) (.un .USub (.lit (.int 1))) (.var 3)),.asg (.var 4) (.ite (.cmp .GtE (.var 3) (.lit (.int 0))) (.call (.glob 850) [(.var 0),(.list [(.lit (.int 1)),.lit (.int 2),.lit (.int 4),(.lit (.int 8))])]) (.lit (.int 1))),.asg (.var 5) (.call (.glob 850) [(.var 0),(.list [(.lit (.int 0)),.call (.glob 843) [(.var 0),(.lit (.int 32))],.un .USub (.lit (.int 8)),(.bin .Add (.lit (.int 16384)) (.call (.glob 843) [(.var 0),(.lit (.int 32))]))])]),.ret (.tup [(.lit (.str t_m)),.var 2,.var 3,.var 4,.var 5,.call (.glob 850) [(.var 0),(.list [(.lit (.str S240)),.lit (.str t_fs),.lit (.str S240),(.lit (.str t_gs))])],(.var 1)])]
theorem e_c_law_mem:codeOf un i_law_mem = c_law_mem:=by kernel_rfl
noncomputable def c_law_line:List St:=[.unp [(.var 1),(.var 2)] (.tup [(.call (.glob 850) [(.var 0),(.list [(.lit (.str t_xchg)),.lit (.str t_xadd),.lit (.str t_cmpxchg),.lit (.str t_mov),.lit (.str t_xchg),(.lit (.str t_lea))])]),(.call (.glob 850) [(.var 0),(.list [(.lit (.int 64)),.lit (.int 32),.lit (.int 8),(.lit (.int 16))])])]),.asg (.var 2) (.ite (.cmp .Eq (.var 1) (.lit (.str t_lea))) (.call (.bf .max) [(.var 2),(.lit (.int 16))]) (.var 2)),.unp [(.var 3),.var 4,(.var 5)] (.tup [(.call (.glob 857) [(.var 0),(.var 2)]),.call (.glob 864) [(.var 0),(.var 2)],(.call (.glob 843) [(.var 0),(.lit (.int 3))])]),.iff (.or (.cmp .Eq (.var 1) (.lit (.str t_lea))) (.and (.cmp .Eq (.var 5) (.lit (.int 1))) (.cmp .In (.var 1) (.tup [(.lit (.str t_xchg)),(.lit (.str t_mov))])))) [.ret (.tup [(.var 1),.var 2,(.list [(.var 3),(.var 4)])])] [],.iff (.and (.cmp .Eq (.var 5) (.lit (.int 2))) (.or (.cmp .NotEq (.var 1) (.lit (.str t_cmpxchg))) (.cmp .NotEq (.var 2) (.lit (.int 32))))) [.ret (.tup [(.var 1),.var 2,(.list [(.var 3),(.call (.glob 857) [(.var 0),(.var 2)])])])] [],.ret (.tup [(.var 1),.var 2,(.list [(.var 4),(.var 3)])])]
theorem e_c_law_line:codeOf un i_law_line = c_law_line:=by kernel_rfl
noncomputable def c_law_operand:List St:=[.iff (.cmp .Eq (.item (.var 0) (.lit (.int 0))) (.lit (.str t_r))) [.ret (.call (.glob 721) [(.call (.glob 360) [(.item (.var 0) (.lit (.int 1))),(.item (.var 0) (.lit (.int 2)))])])] [],.iff (.cmp .Eq (.item (.var 0) (.lit (.int 0))) (.lit (.str t_h))) [.ret (.call (.glob 721) [(.call (.glob 367) [(.bin .Add (.lit (.int 4)) (.item (.var 0) (.lit (.int 1))))])])] [],.unp [(.var 1),.var 2,.var 3,.var 4,.var 5,.var 6,(.var 7)] (.var 0),.asg (.var 8) (.ite (.cmp .Eq (.var 2) (.lit (.int 16))) (.call (.glob 374) []) (.ite (.cmp .Lt (.var 2) (.lit (.int 0))) (.lit .none) (.call (.glob 360) [(.var 2),(.lit (.int 64))]))),.ret (.call (.glob 774) [(.var 8),.ite (.cmp .Lt (.var 3) (.lit (.int 0))) (.lit .none) (.call (.glob 360) [(.var 3),(.lit (.int 64))]),.var 4,.var 5,.var 7,(.var 6)])]
theorem e_c_law_operand:codeOf un i_law_operand = c_law_operand:=by kernel_rfl
noncomputable def c_law_place:List St:=[.asg (.var 3) (.bin .Add (.item (.var 0) (.lit (.str S223))) (.list [(.item (.var 0) (.lit (.str S150)))])),.asg (.var 4) (.bin .Add (.item (.var 1) (.lit (.int 4))) (.meth (.item (.var 0) (.lit (.str S218))) 0 [(.ite (.var 2) (.lit (.str S240)) (.item (.var 1) (.lit (.int 5)))),(.lit (.int 0))])),.for2 5 6 0 (.list [(.tup [(.item (.var 1) (.lit (.int 1))),(.lit (.int 1))]),(.tup [(.item (.var 1) (.lit (.int 2))),(.item (.var 1) (.lit (.int 3)))])]) [.asg (.var 4) (.bin .Add (.var 4) (.ite (.cmp .GtE (.var 5) (.lit (.int 0))) (.bin .Mult (.item (.var 3) (.var 5)) (.var 6)) (.lit (.int 0))))],.ret (.bin .Mod (.call (.bf .int) [(.var 4)]) (.bin .Pow (.lit (.int 2)) (.lit (.int 64))))]
theorem e_c_law_place:codeOf un i_law_place = c_law_place:=by kernel_rfl
noncomputable def c_law_get:List St:=[.iff (.cmp .Eq (.item (.var 1) (.lit (.int 0))) (.lit (.str t_m))) [.ret (.call (.bf .sum) [(.comp (.bin .Mult (.meth (.item (.var 2) (.lit (.str S222))) 0 [(.bin .Mod (.call (.bf .int) [(.bin .Add (.var 1) (.var 0))]) (.bin .Pow (.lit (.int 2)) (.lit (.int 64)))),(.lit (.int 0))]) (.bin .Pow (.lit (.int 256)) (.var 0))) 0 1 (.bin .FloorDiv (.var 3) (.lit (.int 8))) (.lit (.bool true)) [none,some 2,some 0])])] [],.ret (.bin .Mod (.call (.bf .int) [(.bin .FloorDiv (.call (.bf .int) [(.item (.item (.var 0) (.lit (.str S223))) (.item (.var 1) (.lit (.int 1))))]) (.ite (.cmp .Eq (.item (.var 1) (.lit (.int 0))) (.lit (.str t_h))) (.lit (.int 256)) (.lit (.int 1))))]) (.bin .Pow (.lit (.int 2)) (.var 3)))]
theorem e_c_law_get:codeOf un i_law_get = c_law_get:=by kernel_rfl
noncomputable def c_law_put:List St:=[.iff (.cmp .Eq (.item (.var 1) (.lit (.int 0))) (.lit (.str t_m))) [.for1 5 1 (.bin .FloorDiv (.var 3) (.lit (.int 8))) [.asg (.item (.item (.var 0) (.lit (.str S222))) (.bin .Mod (.call (.bf .int) [(.bin .Add (.var 2) (.var 5))]) (.bin .Pow (.lit (.int 2)) (.lit (.int 64))))) (.bin .Mod (.call (.bf .int) [(.bin .FloorDiv (.call (.bf .int) [(.var 4)]) (.bin .Pow (.lit (.int 256)) (.var 5)))]) (.lit (.int 256)))],.retN] [],.asg (.var 6) (.item (.item (.var 0) (.lit (.str S223))) (.item (.var 1) (.lit (.int 1)))),.asg (.var 7) (.ite (.cmp .Eq (.item (.var 1) (.lit (.int 0))) (.lit (.str t_h))) (.lit (.int 256)) (.lit (.int 1))),.iff (.cmp .GtE (.var 3) (.lit (.int 32))) [.asg (.item (.item (.var 0) (.lit (.str S223))) (.item (.var 1) (.lit (.int 1)))) (.var 4)] [.asg (.item (.item (.var 0) (.lit (.str S223))) (.item (.var 1) (.lit (.int 1)))) (.bin .Add (.var 6) (.bin .Mult (.bin .Sub (.var 4) (.bin .Mod (.call (.bf .int) [(.bin .FloorDiv (.call (.bf .int) [(.var 6)]) (.var 7))]) (.bin .Pow (.lit (.int 2)) (.var 3)))) (.var 7)))]]
theorem e_c_law_put:codeOf un i_law_put = c_law_put:=by kernel_rfl
noncomputable def c_law_added:List St:=[.unp [(.var 4),(.var 5)] (.tup [(.bin .Add (.var 0) (.bin .Mult (.var 2) (.var 1))),(.bin .Pow (.lit (.int 2)) (.var 3))]),.asg (.var 6) (.bin .Mod (.call (.bf .int) [(.var 4)]) (.var 5)),.unp [(.var 7),(.var 8)] (.comp (.ite (.cmp .GtE (.bin .Mult (.lit (.int 2)) (.var 0)) (.var 1)) (.bin .Sub (.var 0) (.var 1)) (.var 0)) 0 0 (.tup [(.var 0),(.var 1)]) (.lit (.bool true)) [none,some 5]),.unp [(.var 9),(.var 10)] (.tup [(.bin .Add (.var 7) (.bin .Mult (.var 2) (.var 8))),(.bin .Add (.bin .Mod (.call (.bf .int) [(.var 0)]) (.lit (.int 16))) (.bin .Mult (.var 2) (.bin .Mod (.call (.bf .int) [(.var 1)]) (.lit (.int 16)))))]),.asg (.var 11) (.call (.bf .sum) [(.comp (.bin .Mod (.bin .FloorDiv (.call (.bf .int) [(.var 1)]) (.bin .Pow (.lit (.int 2)) (.var 0))) (.lit (.int 2))) 0 1 (.lit (.int 8)) (.lit (.bool true)) [none,some 6])]),.asg (.var 12) (.list [(.cmp .NotEq (.var 4) (.var 6)),.cmp .Eq (.bin .Mod (.call (.bf .int) [(.var 11)]) (.lit (.int 2))) (.lit (.int 0)),.or (.cmp .Lt (.var 10) (.lit (.int 0))) (.cmp .Gt (.var 10) (.lit (.int 15))),.cmp .Eq (.var 6) (.lit (.int 0)),(.cmp .GtE (.bin .Mult (.lit (.int 2)) (.var 6)) (.var 5))]),.ret (.tup [(.var 6),(.comp (.call (.bf .int) [(.var 0)]) 0 0 (.bin .Add (.var 12) (.list [(.or (.cmp .Lt (.bin .Mult (.lit (.int 2)) (.var 9)) (.un .USub (.var 5))) (.cmp .GtE (.bin .Mult (.lit (.int 2)) (.var 9)) (.var 5)))])) (.lit (.bool true)) [none])])]
theorem e_c_law_added:codeOf un i_law_added = c_law_added:=by kernel_rfl
noncomputable def c_law_do:List St:=[.unp [(.var 2),.var 3,(.var 4)] (.var 1),.asg (.var 5) (.comp (.ite (.cmp .Eq (.item (.var 0) (.lit (.int 0))) (.lit (.str t_m))) (.call (.glob 885) [(.var 2),.var 0,(.cmp .Eq (.var 1) (.lit (.str t_lea)))]) (.lit (.int 0))) 0 0 (.var 4) (.lit (.bool true)) [none,some 2,some 0]),.iff (.cmp .Eq (.var 2) (.lit (.str t_lea))) [.ex (.call (.glob 897) [(.var 0),.item (.var 4) (.lit (.int 0)),.lit (.int 0),.var 3,(.bin .Mod (.call (.bf .int) [(.item (.var 5) (.lit (.int 1)))]) (.bin .Pow (.lit (.int 2)) (.var 3)))]),.retN] [],.unp [(.var 6),(.var 7)] (.tup [(.call (.glob 890) [(.var 0),.item (.var 4) (.lit (.int 0)),.item (.var 5) (.lit (.int 0)),(.var 3)]),(.call (.glob 890) [(.var 0),.item (.var 4) (.lit (.int 1)),.item (.var 5) (.lit (.int 1)),(.var 3)])]),.iff (.cmp .Eq (.var 2) (.lit (.str t_mov))) [.ex (.call (.glob 897) [(.var 0),.item (.var 4) (.lit (.int 0)),.item (.var 5) (.lit (.int 0)),.var 3,(.var 7)])] [.iff (.cmp .Eq (.var 2) (.lit (.str t_xchg))) [.ex (.call (.glob 897) [(.var 0),.item (.var 4) (.lit (.int 0)),.item (.var 5) (.lit (.int 0)),.var 3,(.var 7)]),.ex (.call (.glob 897) [(.var 0),.item (.var 4) (.lit (.int 1)),.item (.var 5) (.lit (.int 1)),.var 3,(.var 6)])] [.iff (.cmp .Eq (.var 2) (.lit (.str t_xadd))) [.unp [(.var 8),(.item (.var 0) (.lit (.str S116)))] (.call (.glob 902) [(.var 6),.var 7,.lit (.int 1),(.var 3)]),.ex (.call (.glob 897) [(.var 0),.item (.var 4) (.lit (.int 1)),.item (.var 5) (.lit (.int 1)),.var 3,(.var 6)]),.ex (.call (.glob 897) [(.var 0),.item (.var 4) (.lit (.int 0)),.item (.var 5) (.lit (.int 0)),.var 3,(.var 8)])] [.asg (.var 9) (.bin .Mod (.call (.bf .int) [(.item (.item (.var 0) (.lit (.str S223))) (.lit (.int 0)))]) (.bin .Pow (.lit (.int 2)) (.var 3))),.unp [(.var 10),(.item (.var 0) (.lit (.str S116)))] (.call (.glob 902) [(.var 9),.var 6,.un .USub (.lit (.int 1)),(.var 3)]),.iff (.cmp .Eq (.var 10) (.lit (.int 0))) [.ex (.call (.glob 897) [(.var 0),.item (.var 4) (.lit (.int 0)),.item (.var 5) (.lit (.int 0)),.var 3,(.var 7)])] [.ex (.call (.glob 897) [(.var 0),.tup [(.lit (.str t_r)),.lit (.int 0),(.var 3)],.lit (.int 0),.var 3,(.var 6)])]]]]]
theorem e_c_law_do:codeOf un i_law_do = c_law_do:=by kernel_rfl
noncomputable def c_move_deed:List St:=[.asg (.var 2) (.attr (.var 1) 11),.iff (.cmp .Eq (.var 2) (.lit (.str t_nop))) [.ret (.lit (.bool true))] [],.iff (.and (.cmp .NotEq (.var 2) (.lit (.str t_mov))) (.and (.cmp .NotEq (.var 2) (.lit (.str t_lea))) (.cmp .NotEq (.var 2) (.lit (.str t_xchg))))) [.ret (.lit (.bool false))] [],.asg (.var 3) (.item (.attr (.var 1) 12) (.lit (.int 0))),.asg (.var 4) (.item (.attr (.var 1) 12) (.lit (.int 1))),.asg (.var 5) (.meth (.var 0) 13 [(.var 3),(.var 1)]),.iff (.cmp .Eq (.var 2) (.lit (.str t_lea))) [.ex (.meth (.var 0) 14 [(.attr (.var 3) 15),(.meth (.var 0) 16 [(.var 4)])])] [.iff (.cmp .Eq (.var 2) (.lit (.str t_mov))) [.ex (.meth (.var 0) 17 [(.var 3),.var 5,(.meth (.var 0) 18 [(.var 4),(.var 5)])])] [.ex (.call (.glob 28) [(.var 0),.var 3,.var 4,(.var 5)])]],.ret (.lit (.bool true))]
theorem e_c_move_deed:codeOf un i_move_deed = c_move_deed:=by kernel_rfl
noncomputable def c_exchange:List St:=[.iff (.cmp .Eq (.attr (.var 2) 19) (.lit (.str S208))) [.unp [(.var 1),(.var 2)] (.tup [(.var 2),(.var 1)])] [],.asg (.var 4) (.meth (.var 0) 18 [(.var 1),(.var 3)]),.asg (.var 5) (.meth (.var 0) 18 [(.var 2),(.var 3)]),.ex (.meth (.var 0) 17 [(.var 1),.var 3,(.var 5)]),.ex (.meth (.var 0) 17 [(.var 2),.var 3,(.var 4)])]
theorem e_c_exchange:codeOf un i_exchange = c_exchange:=by kernel_rfl
noncomputable def c_arith_deed:List St:=[.asg (.var 2) (.attr (.var 1) 11),.iff (.cmp .In (.var 2) (.tup [(.lit (.str t_add)),.lit (.str t_adc),.lit (.str t_sub),.lit (.str t_sbb),.lit (.str t_cmp),.lit (.str t_and),.lit (.str t_or),.lit (.str t_xor),(.lit (.str t_test))])) [.ex (.call (.glob 388) [(.var 0),(.var 1)])] [.iff (.cmp .In (.var 2) (.tup [(.lit (.str t_inc)),.lit (.str t_dec),.lit (.str t_not),(.lit (.str t_neg))])) [.ex (.call (.glob 395) [(.var 0),(.var 1)])] [.iff (.cmp .Eq (.var 2) (.lit (.str t_xadd))) [.ex (.call (.glob 402) [(.var 0),(.var 1)])] [.iff (.cmp .Eq (.var 2) (.lit (.str t_cmpxchg))) [.ex (.call (.glob 409) [(.var 0),(.var 1)])] [.iff (.cmp .In (.var 2) (.tup [(.lit (.str t_clc)),.lit (.str t_stc),.lit (.str t_cmc),.lit (.str t_cld),.lit (.str t_std),.lit (.str t_lahf),(.lit (.str t_sahf))])) [.ex (.call (.glob 416) [(.var 0),(.var 2)])] [.iff (.and (.meth (.var 2) 20 [(.lit (.str t_set))]) (.cmp .NotEq (.call (.glob 283) [(.var 2)]) (.lit (.str S240)))) [.ex (.call (.glob 423) [(.var 0),(.var 1)])] [.iff (.and (.meth (.var 2) 20 [(.lit (.str t_cmov))]) (.cmp .NotEq (.call (.glob 283) [(.var 2)]) (.lit (.str S240)))) [.ex (.call (.glob 430) [(.var 0),(.var 1)])] [.ret (.lit (.bool false))]]]]]]],.ret (.lit (.bool true))]
theorem e_c_arith_deed:codeOf un i_arith_deed = c_arith_deed:=by kernel_rfl
noncomputable def c_xadd_deed:List St:=[.unp [(.var 2),(.var 3)] (.tup [(.item (.attr (.var 1) 12) (.lit (.int 0))),(.item (.attr (.var 1) 12) (.lit (.int 1)))]),.asg (.var 4) (.meth (.var 0) 13 [(.var 2),(.var 1)]),.unp [(.var 5),(.var 6)] (.tup [(.meth (.var 0) 18 [(.var 2),(.var 4)]),(.meth (.var 0) 18 [(.var 3),(.var 4)])]),.asg (.var 7) (.call (.glob 241) [(.attr (.var 0) 10),.var 5,.var 6,.lit (.int 0),(.var 4)]),.iff (.cmp .Eq (.attr (.var 2) 19) (.lit (.str S208))) [.ex (.meth (.var 0) 17 [(.var 2),.var 4,(.var 7)]),.ex (.meth (.var 0) 17 [(.var 3),.var 4,(.var 5)])] [.ex (.meth (.var 0) 17 [(.var 3),.var 4,(.var 5)]),.ex (.meth (.var 0) 17 [(.var 2),.var 4,(.var 7)])]]
theorem e_c_xadd_deed:codeOf un i_xadd_deed = c_xadd_deed:=by kernel_rfl
noncomputable def c_cmpxchg_deed:List St:=[.unp [(.var 2),(.var 3)] (.tup [(.item (.attr (.var 1) 12) (.lit (.int 0))),(.item (.attr (.var 1) 12) (.lit (.int 1)))]),.asg (.var 4) (.meth (.var 0) 13 [(.var 2),(.var 1)]),.asg (.var 5) (.call (.glob 360) [(.lit (.int 0)),(.var 4)]),.unp [(.var 6),.var 7,(.var 8)] (.tup [(.meth (.var 0) 0 [(.var 5)]),.meth (.var 0) 18 [(.var 2),(.var 4)],(.meth (.var 0) 18 [(.var 3),(.var 4)])]),.ex (.call (.glob 248) [(.attr (.var 0) 10),.var 6,.var 7,.lit (.int 0),(.var 4)]),.iff (.cmp .Eq (.attr (.attr (.var 0) 10) 21) (.lit (.int 1))) [.ex (.meth (.var 0) 17 [(.var 2),.var 4,(.var 8)])] [.ex (.meth (.var 0) 14 [(.var 5),(.var 7)])]]
theorem e_c_cmpxchg_deed:codeOf un i_cmpxchg_deed = c_cmpxchg_deed:=by kernel_rfl
noncomputable def c_mask:List St:=[.ret (.bin .Sub (.bin .LShift (.lit (.int 1)) (.var 0)) (.lit (.int 1)))]
theorem e_c_mask:codeOf un i_mask = c_mask:=by kernel_rfl
noncomputable def c_wrap:List St:=[.ret (.bin .BitAnd (.var 0) (.call (.glob 94) [(.var 1)]))]
theorem e_c_wrap:codeOf un i_wrap = c_wrap:=by kernel_rfl
noncomputable def c_bit:List St:=[.ret (.bin .BitAnd (.bin .RShift (.var 0) (.var 1)) (.lit (.int 1)))]
theorem e_c_bit:codeOf un i_bit = c_bit:=by kernel_rfl
noncomputable def c_ones:List St:=[.asg (.var 2) (.call (.glob 101) [(.var 0),(.var 1)]),.asg (.var 3) (.lit (.int 0)),.whil (.cmp .Gt (.var 2) (.lit (.int 0))) [.asg (.var 2) (.bin .BitAnd (.var 2) (.bin .Sub (.var 2) (.lit (.int 1)))),.asg (.var 3) (.bin .Add (.var 3) (.lit (.int 1)))],.ret (.var 3)]
theorem e_c_ones:codeOf un i_ones = c_ones:=by kernel_rfl
noncomputable def c_parity:List St:=[.ret (.bin .Sub (.lit (.int 1)) (.bin .Mod (.call (.glob 115) [(.var 0),(.lit (.int 8))]) (.lit (.int 2))))]
theorem e_c_parity:codeOf un i_parity = c_parity:=by kernel_rfl
noncomputable def c_szp:List St:=[.asg (.var 3) (.call (.glob 101) [(.var 1),(.var 2)]),.asg (.attr (.var 0) 22) (.call (.glob 108) [(.var 3),(.bin .Sub (.var 2) (.lit (.int 1)))]),.asg (.attr (.var 0) 21) (.ite (.cmp .Eq (.var 3) (.lit (.int 0))) (.lit (.int 1)) (.lit (.int 0))),.asg (.attr (.var 0) 23) (.call (.glob 122) [(.var 3)]),.ret (.var 3)]
theorem e_c_szp:codeOf un i_szp = c_szp:=by kernel_rfl
noncomputable def c_add_flags:List St:=[.unp [(.var 5),(.var 6)] (.tup [(.call (.glob 101) [(.var 1),(.var 4)]),(.call (.glob 101) [(.var 2),(.var 4)])]),.asg (.var 7) (.bin .Add (.bin .Add (.var 5) (.var 6)) (.var 3)),.asg (.var 8) (.call (.glob 234) [(.var 0),.var 7,(.var 4)]),.asg (.attr (.var 0) 24) (.bin .RShift (.var 7) (.var 4)),.asg (.attr (.var 0) 25) (.bin .RShift (.bin .Add (.bin .Add (.bin .BitAnd (.var 5) (.lit (.int 15))) (.bin .BitAnd (.var 6) (.lit (.int 15)))) (.var 3)) (.lit (.int 4))),.asg (.attr (.var 0) 26) (.call (.glob 108) [(.bin .BitAnd (.bin .BitXor (.var 5) (.var 8)) (.bin .BitXor (.var 6) (.var 8))),(.bin .Sub (.var 4) (.lit (.int 1)))]),.ret (.var 8)]
theorem e_c_add_flags:codeOf un i_add_flags = c_add_flags:=by kernel_rfl
noncomputable def c_sub_flags:List St:=[.unp [(.var 5),(.var 6)] (.tup [(.call (.glob 101) [(.var 1),(.var 4)]),(.call (.glob 101) [(.var 2),(.var 4)])]),.asg (.var 7) (.bin .Sub (.bin .Sub (.var 5) (.var 6)) (.var 3)),.asg (.var 8) (.call (.glob 234) [(.var 0),.var 7,(.var 4)]),.asg (.attr (.var 0) 24) (.ite (.cmp .Lt (.var 7) (.lit (.int 0))) (.lit (.int 1)) (.lit (.int 0))),.asg (.attr (.var 0) 25) (.ite (.cmp .Lt (.bin .Sub (.bin .Sub (.bin .BitAnd (.var 5) (.lit (.int 15))) (.bin .BitAnd (.var 6) (.lit (.int 15)))) (.var 3)) (.lit (.int 0))) (.lit (.int 1)) (.lit (.int 0))),.asg (.attr (.var 0) 26) (.call (.glob 108) [(.bin .BitAnd (.bin .BitXor (.var 5) (.var 6)) (.bin .BitXor (.var 5) (.var 8))),(.bin .Sub (.var 4) (.lit (.int 1)))]),.ret (.var 8)]
theorem e_c_sub_flags:codeOf un i_sub_flags = c_sub_flags:=by kernel_rfl
noncomputable def c_joined:List St:=[.iff (.cmp .GtE (.var 2) (.lit (.int 32))) [.ret (.var 1)] [],.ret (.bin .Add (.bin .Sub (.var 0) (.call (.glob 101) [(.var 0),(.var 2)])) (.var 1))]
theorem e_c_joined:codeOf un i_joined = c_joined:=by kernel_rfl
noncomputable def c_gpr:List St:=[.asg (.var 2) (.call (.glob 346) [(.var 1)]),.iff (.or (.cmp .Eq (.var 2) (.list [])) (.un .Not (.chain .LtE .LtE (.lit (.int 0)) (.var 0) (.lit (.int 15))))) [.bad] [],.iff (.cmp .Lt (.var 0) (.lit (.int 8))) [.ret (.call (.glob 335) [(.item (.var 2) (.var 0)),.lit (.str S148),.var 0,(.var 1)])] [],.ret (.call (.glob 335) [(.bin .Add (.bin .Add (.lit (.str t_r)) .bad) (.call (.glob 353) [(.var 1)])),.lit (.str S148),.var 0,(.var 1)])]
theorem e_c_gpr:codeOf un i_gpr = c_gpr:=by kernel_rfl
noncomputable def c_high:List St:=[.iff (.un .Not (.chain .LtE .LtE (.lit (.int 4)) (.var 0) (.lit (.int 7)))) [.bad] [],.ret (.call (.glob 335) [(.item (.meth (.lit (.str S132)) 1 []) (.bin .Sub (.var 0) (.lit (.int 4)))),.lit (.str S149),.var 0,(.lit (.int 8))])]
theorem e_c_high:codeOf un i_high = c_high:=by kernel_rfl
noncomputable def c_rip:List St:=[.ret (.call (.glob 335) [(.lit (.str S150)),.lit (.str S150),.lit (.int 0),(.lit (.int 64))])]
theorem e_c_rip:codeOf un i_rip = c_rip:=by kernel_rfl
noncomputable def c_early_names:List St:=[.iff (.cmp .Eq (.var 0) (.lit (.int 64))) [.ret (.meth (.lit (.str S130)) 1 [])] [],.iff (.cmp .Eq (.var 0) (.lit (.int 32))) [.ret (.meth (.lit (.str S114)) 1 [])] [],.iff (.cmp .Eq (.var 0) (.lit (.int 16))) [.ret (.meth (.lit (.str S112)) 1 [])] [],.iff (.cmp .Eq (.var 0) (.lit (.int 8))) [.ret (.meth (.lit (.str S110)) 1 [])] [],.ret (.list [])]
theorem e_c_early_names:codeOf un i_early_names = c_early_names:=by kernel_rfl
noncomputable def c_Flags_init:List St:=[.asg (.attr (.var 0) 24) (.lit (.int 0)),.asg (.attr (.var 0) 23) (.lit (.int 0)),.asg (.attr (.var 0) 25) (.lit (.int 0)),.asg (.attr (.var 0) 21) (.lit (.int 0)),.asg (.attr (.var 0) 22) (.lit (.int 0)),.asg (.attr (.var 0) 26) (.lit (.int 0)),.asg (.attr (.var 0) 27) (.lit (.int 0))]
theorem e_c_Flags_init:codeOf un i_Flags_init = c_Flags_init:=by kernel_rfl
noncomputable def c_Flags_told:List St:=[.ret (.tup [(.attr (.var 0) 24),.attr (.var 0) 23,.attr (.var 0) 25,.attr (.var 0) 21,.attr (.var 0) 22,.attr (.var 0) 26,(.attr (.var 0) 27)])]
theorem e_c_Flags_told:codeOf un i_Flags_told = c_Flags_told:=by kernel_rfl
noncomputable def c_Memory_init:List St:=[.asg (.attr (.var 0) 28) (.dict [] [])]
theorem e_c_Memory_init:codeOf un i_Memory_init = c_Memory_init:=by kernel_rfl
noncomputable def c_Memory_octet:List St:=[.ret (.meth (.attr (.var 0) 28) 0 [(.call (.glob 101) [(.var 1),(.lit (.int 64))]),(.lit (.int 0))])]
theorem e_c_Memory_octet:codeOf un i_Memory_octet = c_Memory_octet:=by kernel_rfl
noncomputable def c_Memory_set_octet:List St:=[.asg (.item (.attr (.var 0) 28) (.call (.glob 101) [(.var 1),(.lit (.int 64))])) (.var 2)]
theorem e_c_Memory_set_octet:codeOf un i_Memory_set_octet = c_Memory_set_octet:=by kernel_rfl
noncomputable def c_Memory_read:List St:=[.asg (.var 3) (.lit (.int 0)),.for1 4 1 (.var 2) [.asg (.var 3) (.bin .Add (.var 3) (.bin .LShift (.meth (.var 0) 29 [(.bin .Add (.var 1) (.var 4))]) (.bin .Mult (.lit (.int 8)) (.var 4))))],.ret (.var 3)]
theorem e_c_Memory_read:codeOf un i_Memory_read = c_Memory_read:=by kernel_rfl
noncomputable def c_Memory_write:List St:=[.for1 4 1 (.var 2) [.ex (.meth (.var 0) 30 [(.bin .Add (.var 1) (.var 4)),(.bin .BitAnd (.bin .RShift (.var 3) (.bin .Mult (.lit (.int 8)) (.var 4))) (.lit (.int 255)))])]]
theorem e_c_Memory_write:codeOf un i_Memory_write = c_Memory_write:=by kernel_rfl
noncomputable def c_Memory_load:List St:=[.for2 3 4 2 (.var 2) [.ex (.meth (.var 0) 30 [(.bin .Add (.var 1) (.var 3)),(.var 4)])]]
theorem e_c_Memory_load:codeOf un i_Memory_load = c_Memory_load:=by kernel_rfl
noncomputable def c_Memory_written:List St:=[.ret (.call (.bf .sorted) [(.comp (.tup [(.var 0),(.item (.attr (.var 1) 28) (.var 0))]) 0 0 (.attr (.var 0) 28) (.cmp .NotEq (.item (.attr (.var 1) 28) (.var 0)) (.lit (.int 0))) [none,some 0])])]
theorem e_c_Memory_written:codeOf un i_Memory_written = c_Memory_written:=by kernel_rfl
noncomputable def c_State_init:List St:=[.asg (.attr (.var 0) 31) (.var 1),.asg (.attr (.var 0) 2) (.bin .Mult (.list [(.lit (.int 0))]) (.lit (.int 16))),.asg (.attr (.var 0) 8) (.bin .Mult (.list [(.lit (.int 0))]) (.lit (.int 16))),.asg (.attr (.var 0) 10) (.call (.glob 202) []),.asg (.attr (.var 0) 6) (.call (.glob 527) []),.asg (.attr (.var 0) 3) (.lit (.int 0)),.asg (.attr (.var 0) 32) (.lit (.int 0)),.asg (.attr (.var 0) 5) (.dict [t_fs,t_gs] [(.lit (.int 0)),(.lit (.int 0))]),.asg (.attr (.var 0) 33) (.lit (.bool false))]
theorem e_c_State_init:codeOf un i_State_init = c_State_init:=by kernel_rfl
noncomputable def c_State_get:List St:=[.iff (.cmp .Eq (.attr (.var 1) 19) (.lit (.str S148))) [.ret (.call (.glob 101) [(.item (.attr (.var 0) 2) (.attr (.var 1) 35)),(.attr (.var 1) 34)])] [],.iff (.cmp .Eq (.attr (.var 1) 19) (.lit (.str S149))) [.ret (.call (.glob 101) [(.bin .RShift (.item (.attr (.var 0) 2) (.bin .Sub (.attr (.var 1) 35) (.lit (.int 4)))) (.lit (.int 8))),(.lit (.int 8))])] [],.iff (.cmp .Eq (.attr (.var 1) 19) (.lit (.str S225))) [.ret (.item (.attr (.var 0) 8) (.attr (.var 1) 35))] [],.iff (.cmp .Eq (.attr (.var 1) 19) (.lit (.str S150))) [.ret (.attr (.var 0) 3)] [],.bad]
theorem e_c_State_get:codeOf un i_State_get = c_State_get:=by kernel_rfl
noncomputable def c_State_put:List St:=[.asg (.var 2) (.call (.glob 101) [(.var 2),(.attr (.var 1) 34)]),.iff (.cmp .Eq (.attr (.var 1) 19) (.lit (.str S148))) [.asg (.item (.attr (.var 0) 2) (.attr (.var 1) 35)) (.call (.glob 538) [(.item (.attr (.var 0) 2) (.attr (.var 1) 35)),.var 2,(.attr (.var 1) 34)])] [.iff (.cmp .Eq (.attr (.var 1) 19) (.lit (.str S149))) [.asg (.var 3) (.item (.attr (.var 0) 2) (.bin .Sub (.attr (.var 1) 35) (.lit (.int 4)))),.asg (.item (.attr (.var 0) 2) (.bin .Sub (.attr (.var 1) 35) (.lit (.int 4)))) (.bin .Add (.var 3) (.bin .LShift (.bin .Sub (.var 2) (.call (.glob 101) [(.bin .RShift (.var 3) (.lit (.int 8))),(.lit (.int 8))])) (.lit (.int 8))))] [.iff (.cmp .Eq (.attr (.var 1) 19) (.lit (.str S225))) [.asg (.item (.attr (.var 0) 8) (.attr (.var 1) 35)) (.var 2)] [.bad]]]]
theorem e_c_State_put:codeOf un i_State_put = c_State_put:=by kernel_rfl
noncomputable def c_State_put_low:List St:=[.iff (.and (.cmp .Eq (.attr (.var 1) 19) (.lit (.str S225))) (.cmp .Lt (.var 2) (.lit (.int 128)))) [.asg (.var 4) (.item (.attr (.var 0) 8) (.attr (.var 1) 35)),.asg (.item (.attr (.var 0) 8) (.attr (.var 1) 35)) (.bin .Add (.bin .Sub (.var 4) (.call (.glob 101) [(.var 4),(.var 2)])) (.call (.glob 101) [(.var 3),(.var 2)]))] [.ex (.meth (.var 0) 14 [(.var 1),(.var 3)])]]
theorem e_c_State_put_low:codeOf un i_State_put_low = c_State_put_low:=by kernel_rfl
noncomputable def c_State_offset:List St:=[.asg (.var 2) (.attr (.var 1) 36),.iff (.cmp .IsNot (.attr (.var 1) 37) (.lit .none)) [.asg (.var 2) (.bin .Add (.var 2) (.meth (.var 0) 0 [(.attr (.var 1) 37)]))] [],.iff (.cmp .IsNot (.attr (.var 1) 38) (.lit .none)) [.asg (.var 2) (.bin .Add (.var 2) (.bin .Mult (.meth (.var 0) 0 [(.attr (.var 1) 38)]) (.attr (.var 1) 39)))] [],.ret (.call (.glob 101) [(.var 2),(.lit (.int 64))])]
theorem e_c_State_offset:codeOf un i_State_offset = c_State_offset:=by kernel_rfl
noncomputable def c_State_place:List St:=[.asg (.var 2) (.ite (.cmp .Eq (.attr (.var 1) 40) (.lit (.str S240))) (.lit (.int 0)) (.item (.attr (.var 0) 5) (.attr (.var 1) 40))),.ret (.call (.glob 101) [(.bin .Add (.meth (.var 0) 16 [(.var 1)]) (.var 2)),(.lit (.int 64))])]
theorem e_c_State_place:codeOf un i_State_place = c_State_place:=by kernel_rfl
noncomputable def c_State_size_of:List St:=[.for1 3 0 (.bin .Add (.list [(.var 1)]) (.call (.bf .list) [(.attr (.var 2) 12)])) [.iff (.cmp .Eq (.attr (.var 3) 19) (.lit (.str S283))) [.ret (.attr (.attr (.var 3) 15) 34)] [],.iff (.and (.cmp .Eq (.attr (.var 3) 19) (.lit (.str S208))) (.cmp .Gt (.attr (.var 3) 34) (.lit (.int 0)))) [.ret (.attr (.var 3) 34)] []],.ret (.lit (.int 64))]
theorem e_c_State_size_of:codeOf un i_State_size_of = c_State_size_of:=by kernel_rfl
noncomputable def c_State_read:List St:=[.iff (.cmp .Eq (.attr (.var 1) 19) (.lit (.str S283))) [.ret (.call (.glob 101) [(.meth (.var 0) 0 [(.attr (.var 1) 15)]),(.var 2)])] [],.iff (.cmp .Eq (.attr (.var 1) 19) (.lit (.str S208))) [.ret (.meth (.attr (.var 0) 6) 18 [(.meth (.var 0) 41 [(.var 1)]),(.bin .FloorDiv (.var 2) (.lit (.int 8)))])] [],.ret (.call (.glob 101) [(.attr (.var 1) 36),(.var 2)])]
theorem e_c_State_read:codeOf un i_State_read = c_State_read:=by kernel_rfl
noncomputable def c_State_write:List St:=[.iff (.cmp .Eq (.attr (.var 1) 19) (.lit (.str S283))) [.ex (.meth (.var 0) 42 [(.attr (.var 1) 15),.var 2,(.var 3)])] [.iff (.cmp .Eq (.attr (.var 1) 19) (.lit (.str S208))) [.ex (.meth (.attr (.var 0) 6) 17 [(.meth (.var 0) 41 [(.var 1)]),.bin .FloorDiv (.var 2) (.lit (.int 8)),(.var 3)])] [.bad]]]
theorem e_c_State_write:codeOf un i_State_write = c_State_write:=by kernel_rfl
noncomputable def c_Register_init:List St:=[.asg (.attr (.var 0) 11) (.var 1),.asg (.attr (.var 0) 19) (.var 2),.asg (.attr (.var 0) 35) (.var 3),.asg (.attr (.var 0) 34) (.var 4)]
theorem e_c_Register_init:codeOf un i_Register_init = c_Register_init:=by kernel_rfl
noncomputable def c_Operand_init:List St:=[.asg (.attr (.var 0) 19) (.var 1)]
theorem e_c_Operand_init:codeOf un i_Operand_init = c_Operand_init:=by kernel_rfl
noncomputable def c_Reg_init:List St:=[.ex (.call (.glob 662) [(.var 0),(.lit (.str S283))]),.asg (.attr (.var 0) 15) (.var 1)]
theorem e_c_Reg_init:codeOf un i_Reg_init = c_Reg_init:=by kernel_rfl
noncomputable def c_Mem_init:List St:=[.ex (.call (.glob 662) [(.var 0),(.lit (.str S208))]),.asg (.attr (.var 0) 37) (.var 1),.asg (.attr (.var 0) 38) (.var 2),.asg (.attr (.var 0) 39) (.var 3),.asg (.attr (.var 0) 36) (.var 4),.asg (.attr (.var 0) 34) (.var 5),.asg (.attr (.var 0) 40) (.var 6),.asg (.attr (.var 0) 11) (.var 7)]
theorem e_c_Mem_init:codeOf un i_Mem_init = c_Mem_init:=by kernel_rfl
noncomputable def c_Instruction_init:List St:=[.asg (.attr (.var 0) 11) (.var 1),.asg (.attr (.var 0) 12) (.call (.bf .tuple) [(.var 2)]),.asg (.attr (.var 0) 44) (.var 3)]
theorem e_c_Instruction_init:codeOf un i_Instruction_init = c_Instruction_init:=by kernel_rfl
end
end Mine
end
section
open PySem PySem.W PyProof.Rows Hd
namespace Mine
section
variable {scr:Addr→Option (List V)} {k:Nat} {H:AH} {Q:KV}
noncomputable abbrev W (scr:Addr→Option (List V)) (k:Nat):Spec:=Sp un (TT scr) FI k
theorem sp_go {a:Nat} {i:Info} {c:List St} {args:List V} (hi:lookA a FI = some i) (hc:codeOf un i = c) (hn:Nat.beq args.length i.np = true)
  (h:vDef (TT scr) (W scr k) i.vars.length c (args++i.dfl) H Q):W scr (k + 1) a args H Q:=by
 show match lookA a FI with
   | some i=>Nat.beq args.length i.np = true∧vDef (TT scr) (Sp un (TT scr) FI k) i.vars.length (codeOf un i) (args++i.dfl) H Q
   | none=>False
 rw [hi]
 exact ⟨hn,hc ▸ h⟩
theorem gv {o:Option (Option V)} {k:V→Prop} {v:V} (h:o = some (some v)) (q:k v):GetV o k:=by subst h; exact q
theorem setv_ {T:Tab} {S:Spec} {i:Nat} {v:V} {loc:Loc} {K:Loc→AH→Prop} (q:K (setLoc loc i v) H):vTg T S (.var i) v loc H K:=q
theorem var_ {T:Tab} {S:Spec} {i:Nat} {v:V} {loc:Loc} (h:loc[i]? = some (some v)) (q:Q v H):vE T S (.var i) loc H Q:=gv h q
theorem neg_ {T:Tab} {S:Spec} {a:Int} {loc:Loc} (q:Q (.int (-a)) H):vE T S (.un .USub (.lit (.int a))) loc H Q:=q
theorem lit_ {T:Tab} {S:Spec} {v:V} {loc:Loc} (q:Q v H):vE T S (.lit v) loc H Q:=q
theorem br_t {c:Bool} {P R:Prop} (h:c = true) (p:P):branch c P R:=by subst h; exact p
theorem br_f {c:Bool} {P R:Prop} (h:c = false) (p:R):branch c P R:=by subst h; exact p
theorem br_c {c:Bool} {P R:Prop} (p:c = true→P) (r:c = false→R):branch c P R:=by
 cases c with
 | true=>exact p rfl
 | false=>exact r rfl
theorem at_ok {l n:Nat} {C:Nat} {fs:List (Nat × V)} {v:V} (h:H.get l = some (.inst C fs)) (p:(TT scr).plain C n = true) (f:flook n fs = some v) (q:Q v H):opAttr (TT scr) (.ref l) n H Q:=.mk h p f q
theorem bits64 {a:Int} (h:a.natAbs < 2 ^ 64):Builtin.Int.intBits a≤64:=intBits_le_iff.mpr h
theorem bAnd_mask (x:Int) (n:Nat):Builtin.bitAnd x (2 ^ n - 1) = x % 2 ^ n:=by
 have hM:(0:Int) < 2 ^ n:=Int.pow_pos (by decide)
 have hc:((2:Int) ^ n - 1).toNat = 2 ^ n - 1:=by
  have:((2:Int) ^ n) = ((2 ^ n:Nat):Int):=by simp
  rw [this]; lia
 by_cases hx:0≤x
 ·rw [bitAnd_pp hx (by lia),hc,Nat.and_two_pow_sub_one_eq_mod]
  have e:x = (x.toNat:Int):=by lia
  rw [show x % 2 ^ n = (x.toNat:Int) % ((2 ^ n:Nat):Int) by rw [← e]; simp]
  rw [← Int.natCast_emod]
 ·rw [bitAnd_np hx (by lia),hc,Nat.and_comm,Nat.and_two_pow_sub_one_eq_mod]
  have hb:0≤Builtin.bitNot x:=by unfold Builtin.bitNot; lia
  have hbx:Builtin.bitNot x = -x - 1:=by unfold Builtin.bitNot; lia
  generalize hy:(Builtin.bitNot x).toNat = y
  have hxy:x = -(y:Int) - 1:=by lia
  rw [Int.natCast_emod,show ((2 ^ n:Nat):Int) = 2 ^ n by simp,hxy]
  generalize hMM:(2:Int) ^ n = M at hM ⊢
  have d:=Int.emod_add_mul_ediv (y:Int) M
  have l1:=Int.emod_nonneg (y:Int) (Int.ne_of_gt hM)
  have l2:=Int.emod_lt_of_pos (y:Int) hM
  generalize (y:Int) % M = m at d l1 l2 ⊢
  generalize (y:Int) / M = q at d
  rw [← d,show -(m + M * q) - 1 = (M - 1 - m) + M * (-(q + 1)) by rw [Int.mul_neg,Int.mul_add]; lia,Int.add_mul_emod_self_left,Int.emod_eq_of_lt (by lia) (by lia)]
theorem mask_ok {n:Int} (h0:0≤n) (h1:n≤64) (q:Q (.int (2 ^ n.toNat - 1)) H):W scr (k + 1) 94 [.int n] H Q:=by
 refine sp_go (i:=i_mask) rfl e_c_mask rfl ?_
 refine ⟨h0,?_,?_⟩
 ·have:Builtin.Int.intBits 1≤1:=intBits_le_iff.mpr (by decide)
  have:(Builtin.Int.intBits 1:Int)≤1:=by lia
  have e:(2:Int) ^ 27 = 134217728:=by decide
  lia
 ·show Q (.int (1 * 2 ^ n.toNat - 1)) H
  rw [Int.one_mul]; exact q
theorem wrap_ok {a n:Int} (h0:0≤n) (h1:n≤64) (q:Q (.int (a % 2 ^ n.toNat)) H):W scr (k + 2) 101 [.int a,.int n] H Q:=by
 refine sp_go (i:=i_wrap) rfl e_c_wrap rfl ?_
 refine mask_ok h0 h1 ?_
 show Q (.int (Builtin.bitAnd a (2 ^ n.toNat - 1))) H
 rw [bAnd_mask]; exact q
theorem wrap_eq {a n b:Int} (h0:0≤n) (h1:n≤64) (e:a % 2 ^ n.toNat = b) (q:Q (.int b) H):W scr (k + 2) 101 [.int a,.int n] H Q:=wrap_ok h0 h1 (e ▸ q)
theorem bit_ok {a n:Int} (h0:0≤n) (q:Q (.int (a / 2 ^ n.toNat % 2)) H):W scr (k + 1) 108 [.int a,.int n] H Q:=by
 refine sp_go (i:=i_bit) rfl e_c_bit rfl ?_
 refine ⟨h0,?_⟩
 show Q (.int (Builtin.bitAnd (a.fdiv (2 ^ n.toNat)) 1)) H
 rw [bitAnd_m1,Int.fdiv_eq_ediv_of_nonneg _ (Int.le_of_lt (Int.pow_pos (by decide)))]; exact q
noncomputable def popc:Nat→Nat→Nat
 | 0,_=>0
 | f + 1,r=>if r = 0 then 0 else popc f (r &&& (r - 1)) + 1
noncomputable def reach:Nat→Nat→Bool
 | 0,r=>Nat.beq r 0
 | f + 1,r=>Nat.beq r 0 || reach f (r &&& (r - 1))
theorem reach8:∀ r,r < 256→reach 8 r = true:=by decide +kernel
noncomputable def onesT:X:=.cmp .Gt (.var 2) (.lit (.int 0))
noncomputable def onesB:List St:=[.asg (.var 2) (.bin .BitAnd (.var 2) (.bin .Sub (.var 2) (.lit (.int 1)))),.asg (.var 3) (.bin .Add (.var 3) (.lit (.int 1)))]
theorem ones_loop {S:Spec} {R:KV} {K:Loc→AH→Prop} {a b:V}:∀ (f r:Nat) (c:Int),reach f r = true→(∀ r':Int,K [some a,some b,some (.int r'),some (.int (c + popc f r))] H) →
  whileN (vT (TT scr) S onesT) (fun loc H K=>vSs (TT scr) S onesB loc H K R) K (f + 1) [some a,some b,some (.int r),some (.int c)] H
 | 0,r,c,h,q=>by
  obtain rfl:=Nat.eq_of_beq_eq_true h
  exact show K [some a,some b,some (.int 0),some (.int c)] H by simpa [popc] using q 0
 | f + 1,r,c,h,q=>by
  show branch (decide ((0:Int) < r)) _ _
  by_cases h0:r = 0
  ·subst h0; exact br_f rfl (by simpa [popc] using q 0)
  ·refine br_t (by simp; lia) ?_
   have h:reach f (r &&& (r - 1)) = true:=by
    simp only [reach,Bool.or_eq_true] at h
    rcases h with h | h
    ·exact absurd (Nat.eq_of_beq_eq_true h) h0
    ·exact h
   have e:Builtin.bitAnd (r:Int) (r - 1) = ((r &&& (r - 1):Nat):Int):=by
    rw [bitAnd_pp (by lia) (by lia)]
    rw [show ((r:Int) - 1).toNat = r - 1 by lia,show ((r:Int)).toNat = r by lia]
   have ih:=ones_loop (S:=S) (R:=R) (K:=K) (a:=a) (b:=b) f (r &&& (r - 1)) (c + 1) h fun r'=>by
    have:=q r'
    simp only [popc,if_neg h0] at this
    rw [show c + 1 + (popc f (r &&& (r - 1)):Int) = c + ((popc f (r &&& (r - 1)) + 1:Nat):Int) by push_cast; lia]
    exact this
   rw [← e] at ih
   exact ih
theorem ones_ok {a:Int} (q:Q (.int (popc 8 (a % 256).toNat)) H):W scr (k + 3) 115 [.int a,.int 8] H Q:=by
 refine sp_go (i:=i_ones) rfl e_c_ones rfl ?_
 refine wrap_ok (by decide) (by decide) ?_
 have e:a % 2 ^ (8:Int).toNat = ((a % 256).toNat:Int):=by
  have:(2:Int) ^ (8:Int).toNat = 256:=by decide
  rw [this]; lia
 rw [e]
 refine ⟨9,ones_loop 8 _ 0 (reach8 _ (by lia)) fun r'=>?_⟩
 rw [Int.zero_add]; exact q
end
end Mine
end
section
open PySem PySem.W PyProof.Rows Hd
namespace Mine
noncomputable def WF (H:AH):Prop:=∀ l o,H.get l = some o→l < H.next
structure Kp (X:List Nat) (H H':AH):Prop where
 wf:WF H'
 nx:H.next≤H'.next
 kp:∀ x o,H.get x = some o→x ∉ X→H'.get x = some o
 th:∀ x,H.get x≠none→H'.get x≠none
theorem Kp.refl {X:List Nat} {H:AH} (w:WF H):Kp X H H:=⟨w,Nat.le_refl _,fun _ _ h _=>h,fun _ h=>h⟩
theorem Kp.trans {X:List Nat} {H H₁ H₂:AH} (a:Kp X H H₁) (b:Kp X H₁ H₂):Kp X H H₂ :=
 ⟨b.wf,Nat.le_trans a.nx b.nx,fun x o h n=>b.kp x o (a.kp x o h n) n,fun x h=>b.th x (a.th x h)⟩
theorem Kp.mono {X Y:List Nat} {H H':AH} (a:Kp X H H') (h:∀ x,x∈X→x∈Y):Kp Y H H':=⟨a.wf,a.nx,fun x o e n=>a.kp x o e fun q=>n (h x q),a.th⟩
theorem Kp.nil {Y:List Nat} {H H':AH} (a:Kp [] H H'):Kp Y H H':=a.mono fun _ h=>by simp at h
theorem Kp.alloc {X:List Nat} {H:AH} {o:O} (w:WF H):Kp X H (H.alloc o) where
 wf:=fun l o' h=>by
  have h:(if l = H.next then some o else H.get l) = some o':=h
  show l < H.next + 1
  split at h
  ·lia
  ·exact Nat.lt_succ_of_lt (w _ _ h)
 nx:=Nat.le_succ _
 kp:=fun x o' h _=>(if_neg (Nat.ne_of_lt (w _ _ h))).trans h
 th:=fun x h=>by
  show (if x = H.next then some o else H.get x)≠none
  split
  ·exact Option.some_ne_none _
  ·exact h
theorem Kp.set {H:AH} {l:Nat} {o o':O} (w:WF H) (h:H.get l = some o):Kp [l] H (H.set l o') where
 wf:=fun x ox hx=>by
  have hx:(if x = l then some o' else H.get x) = some ox:=hx
  split at hx
  ·rename_i e; rw [e]; exact w _ _ h
  ·exact w _ _ hx
 nx:=Nat.le_refl _
 kp:=fun x ox hx n=>(if_neg fun e=>n (by rw [e]; exact .head _)).trans hx
 th:=fun x h=>by
  show (if x = l then some o' else H.get x)≠none
  split
  ·exact Option.some_ne_none _
  ·exact h
theorem Kp.fresh {X:List Nat} {l:Nat} {H H':AH} (a:Kp (l::X) H H') (h:H.get l = none):Kp X H H' :=
 ⟨a.wf,a.nx,fun x o e n=>a.kp x o e fun q=>by
  rcases List.mem_cons.mp q with rfl | q
  ·rw [h] at e; cases e
  ·exact n q,a.th⟩
theorem AH.get_set {H:AH} {l:Nat} {o:O}:(H.set l o).get l = some o:=if_pos rfl
theorem AH.get_set_ne {H:AH} {l x:Nat} {o:O} (h:x≠l):(H.set l o).get x = H.get x:=if_neg h
theorem AH.get_alloc {H:AH} {o:O}:(H.alloc o).get H.next = some o:=if_pos rfl
theorem AH.get_alloc_lt {H:AH} {o o':O} {x:Nat} (w:WF H) (h:H.get x = some o'):(H.alloc o).get x = some o':=(if_neg (Nat.ne_of_lt (w _ _ h))).trans h
theorem WF.none {H:AH} (w:WF H) {x:Nat} (h:H.next≤x):H.get x = none:=by
 cases e:H.get x with
 | none=>rfl
 | some o=>exact absurd (w _ _ e) (Nat.not_lt.mpr h)
section
variable {scr:Addr→Option (List V)} {k:Nat} {H:AH} {Q:KV}
theorem new_ok {P:KV} {o:O} (w:WF H) (q:∀ l H',Kp [] H H'→H.get l = none→H'.get l = some o→P (.ref l) H'):Nw P H o :=
 ⟨q _ _ (Kp.alloc w) (w.none (Nat.le_refl _)) AH.get_alloc⟩
theorem sa_ok {l n C:Nat} {fs:List (Nat × V)} {v:V} {P:AH→Prop} (w:WF H) (h:H.get l = some (.inst C fs)) (p:(TT scr).plain C n = true) (lt:Nat.ble fs.length 50 = true)
  (q:∀ H',Kp [l] H H'→H'.get l = some (.inst C (fput n v fs))→P H'):opSetAttr (TT scr) (.ref l) n v H P :=
 .mk h p (Nat.le_of_ble_eq_true lt) (q _ (Kp.set w h) AH.get_set)
theorem si_l {l:Nat} {i:Int} {vs:List V} {v:V} {P:AH→Prop} (w:WF H) (h:H.get l = some (.list vs)) (h0:0≤i) (h1:i.toNat < vs.length) (h2:i < 2 ^ 62)
  (q:∀ H',Kp [l] H H'→H'.get l = some (.list (vs.set i.toNat v))→P H'):opSetItem (.ref l) (.int i) v H P :=
 .list h h0 h2 h1 (q _ (Kp.set w h) AH.get_set)
theorem si_d {l:Nat} {i:Int} {es:List (Int × V)} {v:V} {P:AH→Prop} (w:WF H) (h:H.get l = some (.di es)) (h1:es.length≤1000)
  (q:∀ H',Kp [l] H H'→H'.get l = some (.di (iput i v es))→P H'):opSetItem (.ref l) (.int i) v H P :=
 .di h h1 (q _ (Kp.set w h) AH.get_set)
theorem si_s {l:Nat} {i:Str} {es:List (Str × V)} {v:V} {P:AH→Prop} (w:WF H) (h:H.get l = some (.ds es)) (h1:Nat.ble es.length 1000 = true)
  (q:∀ H',Kp [l] H H'→H'.get l = some (.ds (sput i v es))→P H'):opSetItem (.ref l) (.str i) v H P :=
 .ds h (Nat.le_of_ble_eq_true h1) (q _ (Kp.set w h) AH.get_set)
theorem gi_l {l:Nat} {i:Int} {vs:List V} {v:V} (h:H.get l = some (.list vs)) (h0:0≤i) (h2:i < 2 ^ 62) (e:vs[i.toNat]? = some v) (q:Q v H):OpItem H Q (.ref l) (.int i):=.list h h0 h2 e q
theorem look_i {l n C a:Nat} {fs:List (Nat × V)} (h:H.get l = some (.inst C fs)) (f:flook n fs = none) (m:(TT scr).meth C n = some a):opLook (TT scr) (.ref l) n H:=.inst h f m
theorem meth_i {S:Spec} {l n C a:Nat} {fs:List (Nat × V)} {args:List V} {H₁:AH} (h:H.get l = some (.inst C fs)) (m:(TT scr).meth C n = some a) (q:S a (.ref l::args) H₁ Q):opMeth (TT scr) S (.ref l) n H args H₁ Q:=.inst h m q
theorem gi_s {l:Nat} {i:Str} {es:List (Str × V)} {v:V} (h:H.get l = some (.ds es)) (e:sget i es = some v) (q:Q v H):OpItem H Q (.ref l) (.str i):=.ds h e q
noncomputable def flO (c p a z s o:Int):O:=.inst 202 [(24,.int c),(23,.int p),(25,.int a),(21,.int z),(22,.int s),(26,.int o),(27,.int 0)]
noncomputable def par (a:Int):Int:=1 - (popc 8 (a % 256).toNat:Int) % 2
theorem par_ok {a:Int} (q:Q (.int (par a)) H):W scr (k + 4) 122 [.int a] H Q:=by
 refine sp_go (i:=i_parity) rfl e_c_parity rfl ?_
 refine ones_ok ⟨by decide,?_⟩
 show Q (.int (1 - (popc 8 (a % 256).toNat:Int).fmod 2)) H
 rw [Int.fmod_eq_emod_of_nonneg _ (by decide)]; exact q
noncomputable def b01 (b:Bool):Int:=if b then 1 else 0
theorem szp_ok {l:Nat} {x n c p a z s o:Int} (w:WF H) (h0:1≤n) (h1:n≤64) (hF:H.get l = some (flO c p a z s o))
  (q:∀ H',Kp [l] H H'→H'.get l = some (flO c (par (x % 2 ^ n.toNat)) a (b01 (decide (x % 2 ^ n.toNat = 0))) (x % 2 ^ n.toNat / 2 ^ (n - 1).toNat % 2) o)→Q (.int (x % 2 ^ n.toNat)) H'):W scr (k + 5) 234 [.ref l,.int x,.int n] H Q:=by
 refine sp_go (i:=i_szp) rfl e_c_szp rfl ?_
 refine wrap_ok (by lia) h1 (bit_ok (by lia) (sa_ok w hF rfl rfl fun H₁ k₁ e₁=>?_))
 have fin:∀ v:Int,v = b01 (decide (x % 2 ^ n.toNat = 0))→opSetAttr (TT scr) (.ref l) 21 (.int v) H₁ fun H=>vSs (TT scr) (W scr (k + 4)) (c_szp.drop 3) [some (.ref l),some (.int x),some (.int n),some (.int (x % 2 ^ n.toNat))] H (fun _ H=>Q .none H) Q:=fun v hv=>by
  refine sa_ok k₁.wf e₁ rfl rfl fun H₂ k₂ e₂=>par_ok (sa_ok k₂.wf e₂ rfl rfl fun H₃ k₃ e₃=>(q H₃ ((k₁.trans k₂).trans k₃) ?_))
  rw [← hv]; exact e₃
 refine br_c (fun h=>(fin 1 ?_)) fun h=>fin 0 ?_
 ·have h:decide (x % 2 ^ n.toNat = 0) = true:=by simpa using h
  rw [h]; rfl
 ·have h:decide (x % 2 ^ n.toNat = 0) = false:=by simpa using h
  rw [h]; rfl
end
end Mine
end
section
open PySem PySem.W PyProof.Rows Hd
namespace Mine
section
variable {scr:Addr→Option (List V)} {k:Nat} {H:AH} {Q:KV}
theorem addf_ok {l:Nat} {a b n c p f z s o:Int} (w:WF H) (h0:1≤n) (h1:n≤64) (a0:0≤a) (a1:a < 2 ^ n.toNat) (b0:0≤b) (b1:b < 2 ^ n.toNat) (hF:H.get l = some (flO c p f z s o))
  (q:∀ H' r,r = (a + b) % 2 ^ n.toNat→Kp [l] H H'→H'.get l = some (flO ((a + b) / 2 ^ n.toNat) (par r) ((a % 16 + b % 16) / 16) (b01 (decide (r = 0))) (r / 2 ^ (n - 1).toNat % 2)
    (Builtin.bitAnd (Builtin.bitXor a r) (Builtin.bitXor b r) / 2 ^ (n - 1).toNat % 2))→Q (.int r) H'):W scr (k + 6) 241 [.ref l,.int a,.int b,.int 0,.int n] H Q:=by
 refine sp_go (i:=i_add_flags) rfl e_c_add_flags rfl ?_
 refine wrap_eq (by lia) h1 (Int.emod_eq_of_lt a0 a1) (wrap_eq (by lia) h1 (Int.emod_eq_of_lt b0 b1) ?_)
 rw [← show a + b + 0 = a + b by lia] at q
 have hM:(0:Int)≤2 ^ n.toNat:=Int.le_of_lt (Int.pow_pos (by decide))
 refine szp_ok w h0 h1 hF fun H₁ k₁ e₁=>⟨by lia,sa_ok k₁.wf e₁ rfl rfl fun H₂ k₂ e₂=>⟨by decide,sa_ok k₂.wf e₂ rfl rfl fun H₃ k₃ e₃=>?_⟩⟩
 refine bit_ok (by lia) (sa_ok k₃.wf e₃ rfl rfl fun H₄ k₄ e₄=>(q H₄ _ rfl (((k₁.trans k₂).trans k₃).trans k₄) ?_))
 rw [bitAnd_m4,bitAnd_m4,Int.fdiv_eq_ediv_of_nonneg _ hM,Int.fdiv_eq_ediv_of_nonneg _ (by decide:(0:Int)≤2 ^ (4:Int).toNat),show a % 16 + b % 16 + 0 = a % 16 + b % 16 by lia] at e₄
 exact e₄
theorem subf_ok {l:Nat} {a b n c p f z s o:Int} (w:WF H) (h0:1≤n) (h1:n≤64) (a0:0≤a) (a1:a < 2 ^ n.toNat) (b0:0≤b) (b1:b < 2 ^ n.toNat) (hF:H.get l = some (flO c p f z s o))
  (q:∀ H' r,r = (a - b) % 2 ^ n.toNat→Kp [l] H H'→H'.get l = some (flO (b01 (decide (a - b < 0))) (par r) (b01 (decide (a % 16 - b % 16 < 0))) (b01 (decide (r = 0))) (r / 2 ^ (n - 1).toNat % 2)
    (Builtin.bitAnd (Builtin.bitXor a b) (Builtin.bitXor a r) / 2 ^ (n - 1).toNat % 2))→Q (.int r) H'):W scr (k + 6) 248 [.ref l,.int a,.int b,.int 0,.int n] H Q:=by
 refine sp_go (i:=i_sub_flags) rfl e_c_sub_flags rfl ?_
 refine wrap_eq (by lia) h1 (Int.emod_eq_of_lt a0 a1) (wrap_eq (by lia) h1 (Int.emod_eq_of_lt b0 b1) ?_)
 rw [← show a - b - 0 = a - b by lia] at q
 refine szp_ok w h0 h1 hF fun H₁ k₁ e₁=>?_
 have last:∀ H₃,Kp [l] H H₃→H₃.get l = some (flO (b01 (decide (a - b - 0 < 0))) (par ((a - b - 0) % 2 ^ n.toNat)) (b01 (decide (a % 16 - b % 16 < 0))) (b01 (decide ((a - b - 0) % 2 ^ n.toNat = 0))) ((a - b - 0) % 2 ^ n.toNat / 2 ^ (n - 1).toNat % 2) o) →
   vSs (TT scr) (W scr (k + 5)) (c_sub_flags.drop 5) [some (.ref l),some (.int a),some (.int b),some (.int 0),some (.int n),some (.int a),some (.int b),some (.int (a - b - 0)),some (.int ((a - b - 0) % 2 ^ n.toNat))] H₃ (fun _ H=>Q .none H) Q:=fun H₃ k₃ e₃=>by
  exact bit_ok (by lia) (sa_ok k₃.wf e₃ rfl rfl fun H₄ k₄ e₄=>(q H₄ _ rfl (k₃.trans k₄) e₄))
 have mid:∀ H₂,Kp [l] H H₂→H₂.get l = some (flO (b01 (decide (a - b - 0 < 0))) (par ((a - b - 0) % 2 ^ n.toNat)) f (b01 (decide ((a - b - 0) % 2 ^ n.toNat = 0))) ((a - b - 0) % 2 ^ n.toNat / 2 ^ (n - 1).toNat % 2) o) →
   vSs (TT scr) (W scr (k + 5)) (c_sub_flags.drop 4) [some (.ref l),some (.int a),some (.int b),some (.int 0),some (.int n),some (.int a),some (.int b),some (.int (a - b - 0)),some (.int ((a - b - 0) % 2 ^ n.toNat))] H₂ (fun _ H=>Q .none H) Q:=fun H₂ k₂ e₂=>by
  show branch (decide (Builtin.bitAnd a 15 - Builtin.bitAnd b 15 - 0 < 0)) _ _
  rw [bitAnd_m4,bitAnd_m4,show a % 16 - b % 16 - 0 = a % 16 - b % 16 by lia]
  refine br_c (fun h=>?_) fun h=>?_
  ·exact sa_ok k₂.wf e₂ rfl rfl fun H₃ k₃ e₃=>last H₃ (k₂.trans k₃) (by rw [h]; exact e₃)
  ·exact sa_ok k₂.wf e₂ rfl rfl fun H₃ k₃ e₃=>last H₃ (k₂.trans k₃) (by rw [h]; exact e₃)
 refine br_c (fun h=>?_) fun h=>?_
 ·exact sa_ok k₁.wf e₁ rfl rfl fun H₂ k₂ e₂=>mid H₂ (k₁.trans k₂) (by rw [h]; exact e₂)
 ·exact sa_ok k₁.wf e₁ rfl rfl fun H₂ k₂ e₂=>mid H₂ (k₁.trans k₂) (by rw [h]; exact e₂)
end
end Mine
end
section
open PySem PySem.W PyProof.Rows Hd
namespace Mine
section
variable {scr:Addr→Option (List V)} {k:Nat} {H:AH} {Q:KV}
noncomputable def sGpr:Str:=⟨#[103,112,114]⟩
noncomputable def sHigh:Str:=⟨#[104,105,103,104]⟩
noncomputable def sRip:Str:=⟨#[114,105,112]⟩
noncomputable def sReg:Str:=⟨#[114,101,103]⟩
noncomputable def sMem:Str:=⟨#[109,101,109]⟩
noncomputable def regO (nm kind:Str) (num size:Int):O:=.inst 335 [(11,.str nm),(19,.str kind),(35,.int num),(34,.int size)]
theorem reg_new {nm kind:Str} {num size:Int} (w:WF H) (q:∀ l H',Kp [] H H'→H.get l = none→H'.get l = some (regO nm kind num size)→Q (.ref l) H') :
  opCall (TT scr) (W scr (k + 1)) (.glob 335) [.str nm,.str kind,.int num,.int size] H Q:=by
 show W scr (k + 1) 297 [.ref H.next,.str nm,.str kind,.int num,.int size] (H.alloc (.inst 335 [])) _
 have k₀:Kp [H.next] H (H.alloc (.inst 335 [])):=Kp.alloc w
 have n₀:H.get H.next = none:=w.none (Nat.le_refl _)
 refine sp_go (i:=i_Register_init) rfl e_c_Register_init rfl ?_
 exact (sa_ok k₀.wf AH.get_alloc rfl rfl fun H₁ k₁ e₁=>(sa_ok k₁.wf e₁ rfl rfl fun H₂ k₂ e₂=>(sa_ok k₂.wf e₂ rfl rfl fun H₃ k₃ e₃ =>
  (sa_ok k₃.wf e₃ rfl rfl fun H₄ k₄ e₄=>(q _ _ ((((k₀.trans k₁).trans k₂).trans k₃).trans k₄ |>.fresh n₀) n₀ e₄)))))
noncomputable def Sz (n:Int):Prop:=n = 8∨n = 16∨n = 32∨n = 64
theorem split_ok {s:Str} {ws:List Str} {as:List X} {loc:Loc} (h:(TT scr).split s = some ws) (w:WF H) (q:∀ l H',Kp [] H H'→H.get l = none→H'.get l = some (.list (ws.map .str))→Q (.ref l) H') :
  vE (TT scr) (W scr k) (.meth (.lit (.str s)) 1 []) loc H Q :=
 ⟨.str rfl (by rw [h]; rfl),.str h (new_ok w q)⟩
theorem early_ok {n:Int} (hn:Sz n) (w:WF H) (q:∀ l H' ws,List.length ws = 8→Kp [] H H'→H.get l = none→H'.get l = some (.list (ws.map .str))→Q (.ref l) H'):W scr (k + 1) 346 [.int n] H Q:=by
 refine sp_go (i:=i_early_names) rfl e_c_early_names rfl ?_
 have fin:∀ (s:Str) (ws:List Str) (loc:Loc),(TT scr).split s = some ws→ws.length = 8→vE (TT scr) (W scr k) (.meth (.lit (.str s)) 1 []) loc H Q :=
  fun s ws loc h hl=>split_ok (as:=[]) h w fun l H' k n e=>q l H' ws hl k n e
 rcases hn with rfl | rfl | rfl | rfl
 ·exact fin _ _ _ rfl rfl
 ·exact fin _ _ _ rfl rfl
 ·exact fin _ _ _ rfl rfl
 ·exact fin _ _ _ rfl rfl
theorem gpr_ok {n i:Int} (hn:Sz n) (h0:0≤i) (h1:i < 8) (w:WF H) (q:∀ l H' nm,Kp [] H H'→H.get l = none→H'.get l = some (regO nm sGpr i n)→Q (.ref l) H'):W scr (k + 3) 360 [.int i,.int n] H Q:=by
 refine sp_go (i:=i_gpr) rfl e_c_gpr rfl ?_
 refine early_ok hn w fun l H₁ ws hw k₁ n₁ e₁=>?_
 refine new_ok k₁.wf fun l' H₂ k₂ n₂ e₂=>⟨_,_,k₂.kp _ _ e₁ (by simp),e₂,.inl ⟨by rw [List.length_map,hw]; decide,?_⟩⟩
 have c1:decide ((0:Int)≤i) = true:=decide_eq_true h0
 have c2:decide (i≤15) = true:=decide_eq_true (by lia)
 refine br_t c1 (br_f (by rw [c2]; rfl) (br_t (decide_eq_true h1) ?_))
 have hi:i.toNat < ws.length:=by lia
 show opItem (.ref l) (.int i) H₂ _
 refine gi_l (k₂.kp _ _ e₁ (by simp)) h0 (by lia) (by rw [List.getElem?_map,List.getElem?_eq_getElem hi]; rfl) ?_
 have k12:Kp [] H H₂:=k₁.trans k₂
 refine reg_new (k:=k + 1) k12.wf fun l₃ H₃ k₃ n₃ e₃=>q l₃ H₃ _ (k12.trans k₃) ?_ e₃
 cases hq:H.get l₃ with
 | none=>rfl
 | some o=>rw [k12.kp _ _ hq (by simp)] at n₃; cases n₃
theorem fresh_back {X:List Nat} {H H₂:AH} {l:Nat} (k12:Kp X H H₂) (n₃:H₂.get l = none) (h:l ∉ X):H.get l = none:=by
 cases hq:H.get l with
 | none=>rfl
 | some o=>rw [k12.kp _ _ hq h] at n₃; cases n₃
theorem high_ok {i:Int} (h0:4≤i) (h1:i < 8) (w:WF H) (q:∀ l H' nm,Kp [] H H'→H.get l = none→H'.get l = some (regO nm sHigh i 8)→Q (.ref l) H'):W scr (k + 2) 367 [.int i] H Q:=by
 refine sp_go (i:=i_high) rfl e_c_high rfl ?_
 refine br_t (decide_eq_true h0) (br_f (by rw [decide_eq_true (show i≤7 by lia)]; rfl) ?_)
 refine split_ok (as:=[]) (ws:=[⟨#[97,104]⟩,⟨#[99,104]⟩,⟨#[100,104]⟩,⟨#[98,104]⟩]) rfl w fun l H₁ k₁ n₁ e₁=>?_
 have hi:(i - 4).toNat < 4:=by lia
 show opItem (.ref l) (.int (i - 4)) _ _
 refine gi_l e₁ (by lia) (by lia) (by rw [List.getElem?_map,List.getElem?_eq_getElem (by simpa using hi)]; rfl) ?_
 refine reg_new k₁.wf fun l₃ H₃ k₃ n₃ e₃=>q l₃ H₃ _ (k₁.trans k₃) (fresh_back k₁ n₃ (by simp)) e₃
theorem rip_ok (w:WF H) (q:∀ l H',Kp [] H H'→H.get l = none→H'.get l = some (regO sRip sRip 0 64)→Q (.ref l) H'):W scr (k + 2) 374 [] H Q:=by
 refine sp_go (i:=i_rip) rfl e_c_rip rfl ?_
 exact reg_new w q
end
end Mine
end
section
open PySem PySem.W PyProof.Rows Hd
namespace Mine
structure L7 where
 (s r x f m d g:Nat)
structure Mst where
 rg:List Int
 mm:List (Int × Int)
 (c p a z s o rip fs gs:Int)
noncomputable def mV (mm:List (Int × Int)):List (Int × V):=mm.map fun p=>(p.1,.int p.2)
noncomputable def mget (k:Int):List (Int × Int)→Int
 | []=>0
 | (a,v)::r=>if a = k then v else mget k r
noncomputable def mput (k v:Int):List (Int × Int)→List (Int × Int)
 | []=>[(k,v)]
 | (a,w)::r=>if a = k then (a,v)::r else (a,w)::mput k v r
theorem mget_V (k:Int):∀ mm,(iget k (mV mm)).getD (.int 0) = .int (mget k mm)
 | []=>rfl
 | (a,v)::r=>by
  show (if a = k then some (V.int v) else iget k (mV r)).getD (.int 0) = .int (if a = k then v else mget k r)
  split
  ·rfl
  ·exact mget_V k r
theorem mput_V (k v:Int):∀ mm,iput k (.int v) (mV mm) = mV (mput k v mm)
 | []=>rfl
 | (a,w)::r=>by
  show (if a = k then (a,V.int v)::mV r else (a,.int w)::iput k (.int v) (mV r)) = mV (if a = k then (a,v)::r else (a,w)::mput k v r)
  split
  ·rfl
  ·rw [mput_V k v r]; rfl
theorem mput_len (k v:Int):∀ mm,(mput k v mm).length≤mm.length + 1
 | []=>Nat.le_refl _
 | (a,w)::r=>by
  rw [mput]
  split
  ·simp
  ·have:=mput_len k v r; simp; lia
noncomputable def stO (L:L7) (rip:Int):O:=.inst 644 [(31,.none),(2,.ref L.r),(8,.ref L.x),(10,.ref L.f),(6,.ref L.m),(3,.int rip),(32,.int 0),(5,.ref L.g),(33,.bool false)]
noncomputable def mmO (L:L7):O:=.inst 527 [(28,.ref L.d)]
noncomputable def sgO (fs gs:Int):O:=.ds [(t_fs,.int fs),(t_gs,.int gs)]
structure Mch (H:AH) (L:L7) (σ:Mst):Prop where
 wf:WF H
 hS:H.get L.s = some (stO L σ.rip)
 hR:H.get L.r = some (.list (σ.rg.map .int))
 hX:H.get L.x = some (.list (List.replicate 16 (.int 0)))
 hF:H.get L.f = some (flO σ.c σ.p σ.a σ.z σ.s σ.o)
 hM:H.get L.m = some (mmO L)
 hD:H.get L.d = some (.di (mV σ.mm))
 hG:H.get L.g = some (sgO σ.fs σ.gs)
 rx:L.r≠L.x
theorem get_ne {H:AH} {l l':Nat} {o o':O} (h:H.get l = some o) (h':H.get l' = some o') (ne:o≠o'):l≠l':=fun e=>ne (by rw [e,h'] at h; exact (Option.some.inj h).symm)
theorem not1 {l x:Nat} (h:l≠x):l ∉ [x]:=fun q=>h (List.mem_singleton.mp q)
section
variable {scr:Addr→Option (List V)} {k:Nat} {H H':AH} {Q:KV} {L:L7} {σ:Mst}
theorem Mch.kp {X:List Nat} (M:Mch H L σ) (h:Kp X H H') (n:∀ y,y∈X→y≠L.s∧y≠L.r∧y≠L.x∧y≠L.f∧y≠L.m∧y≠L.d∧y≠L.g):Mch H' L σ :=
 ⟨h.wf,h.kp _ _ M.hS fun q=>(n _ q).1 rfl,h.kp _ _ M.hR fun q=>(n _ q).2.1 rfl,h.kp _ _ M.hX fun q=>(n _ q).2.2.1 rfl,h.kp _ _ M.hF fun q=>(n _ q).2.2.2.1 rfl,
  h.kp _ _ M.hM fun q=>(n _ q).2.2.2.2.1 rfl,h.kp _ _ M.hD fun q=>(n _ q).2.2.2.2.2.1 rfl,h.kp _ _ M.hG fun q=>(n _ q).2.2.2.2.2.2 rfl,M.rx⟩
theorem Mch.kp0 (M:Mch H L σ) (h:Kp [] H H'):Mch H' L σ:=M.kp h fun _ q=>by simp at q
theorem Mch.setR (M:Mch H L σ) {rg:List Int} (h:Kp [L.r] H H') (e:H'.get L.r = some (.list (rg.map .int))):Mch H' L { σ with rg:=rg } :=
 ⟨h.wf,h.kp _ _ M.hS (not1 (get_ne M.hS M.hR (fun q=>by cases q))),e,h.kp _ _ M.hX (not1 (Ne.symm M.rx)),h.kp _ _ M.hF (not1 (get_ne M.hF M.hR (fun q=>by cases q))),
  h.kp _ _ M.hM (not1 (get_ne M.hM M.hR (fun q=>by cases q))),h.kp _ _ M.hD (not1 (get_ne M.hD M.hR (fun q=>by cases q))),h.kp _ _ M.hG (not1 (get_ne M.hG M.hR (fun q=>by cases q))),M.rx⟩
theorem Mch.setD (M:Mch H L σ) {mm:List (Int × Int)} (h:Kp [L.d] H H') (e:H'.get L.d = some (.di (mV mm))):Mch H' L { σ with mm:=mm } :=
 ⟨h.wf,h.kp _ _ M.hS (not1 (get_ne M.hS M.hD (fun q=>by cases q))),h.kp _ _ M.hR (not1 (get_ne M.hR M.hD (fun q=>by cases q))),h.kp _ _ M.hX (not1 (get_ne M.hX M.hD (fun q=>by cases q))),h.kp _ _ M.hF (not1 (get_ne M.hF M.hD (fun q=>by cases q))),
  h.kp _ _ M.hM (not1 (get_ne M.hM M.hD (fun q=>by cases q))),e,h.kp _ _ M.hG (not1 (get_ne M.hG M.hD (fun q=>by cases q))),M.rx⟩
theorem Mch.setF (M:Mch H L σ) {c p a z s o:Int} (h:Kp [L.f] H H') (e:H'.get L.f = some (flO c p a z s o)):Mch H' L { σ with c:=c,p:=p,a:=a,z:=z,s:=s,o:=o } :=
 ⟨h.wf,h.kp _ _ M.hS (not1 (get_ne M.hS M.hF (fun q=>by cases q))),h.kp _ _ M.hR (not1 (get_ne M.hR M.hF (fun q=>by cases q))),h.kp _ _ M.hX (not1 (get_ne M.hX M.hF (fun q=>by cases q))),e,
  h.kp _ _ M.hM (not1 (get_ne M.hM M.hF (fun q=>by cases q))),h.kp _ _ M.hD (not1 (get_ne M.hD M.hF (fun q=>by cases q))),h.kp _ _ M.hG (not1 (get_ne M.hG M.hF (fun q=>by cases q))),M.rx⟩
theorem forR {step:V→Loc→AH→(Loc→AH→Prop)→Prop} {K:Loc→AH→Prop} (I:Nat→Loc→AH→Prop) (n:Nat)
  (hs:∀ i loc H K',i < n→I i loc H→(∀ loc' H',I (i + 1) loc' H'→K' loc' H')→step (.int i) loc H K') (hK:∀ loc H,I n loc H→K loc H) :
  ∀ {loc:Loc} {H:AH},I 0 loc H→forL step (rngV n) loc H K:=by
 have go:∀ (m i:Nat) (loc:Loc) (H:AH),i + m = n→I i loc H→forL step ((List.range' i m).map fun (j:Nat)=>V.int (j:Int)) loc H K:=by
  intro m
  induction m with
  | zero=>intro i loc H e h; obtain rfl:i = n:=(by lia); exact hK _ _ h
  | succ m ih =>
   intro i loc H e h
   rw [List.range'_succ,List.map_cons]
   exact hs i loc H _ (by lia) h fun loc' H' h'=>ih (i + 1) loc' H' (by lia) h'
 intro loc H h
 have:=go n 0 loc H (by lia) h
 rw [← List.range_eq_range'] at this
 exact this
theorem compG {cnd:V→AH→KB→Prop} {elt:V→AH→KV→Prop} {still:AH→Prop} {K:List V→AH→Prop} (vs:List V) (I:Nat→List V→AH→Prop) (hc:∀ v H P,P true H→cnd v H P) (hst:∀ i acc H,I i acc H→still H)
  (hs:∀ i v acc H Q,vs[i]? = some v→I i acc H→(∀ y H',I (i + 1) (acc++[y]) H'→Q y H')→elt v H Q) (hK:∀ acc H,I vs.length acc H→K acc H) :
  ∀ {acc:List V} {H:AH},I 0 acc H→compL cnd elt still vs acc H K:=by
 have go:∀ (us:List V) (i:Nat) (acc:List V) (H:AH),i≤vs.length→vs.drop i = us→I i acc H→compL cnd elt still us acc H K:=by
  intro us
  induction us with
  | nil =>
   intro i acc H hi e h
   have:vs.length≤i:=List.drop_eq_nil_iff.mp e
   obtain rfl:i = vs.length:=by lia
   exact ⟨hst _ _ _ h,hK _ _ h⟩
  | cons v r ih =>
   intro i acc H hi e h
   have hl:i < vs.length:=by
    rcases Nat.lt_or_ge i vs.length with q | q
    ·exact q
    ·rw [List.drop_eq_nil_of_le q] at e; cases e
   rw [List.drop_eq_getElem_cons hl] at e
   obtain ⟨e1,e2⟩:=List.cons.inj e
   refine ⟨hst _ _ _ h,hc _ _ _ ?_⟩
   exact hs i v acc H _ (by rw [List.getElem?_eq_getElem hl,e1]) h fun y H' h'=>ih (i + 1) (acc++[y]) H' hl e2 h'
 intro acc H h
 exact go vs 0 acc H (Nat.zero_le _) rfl h
end
end Mine
end
section
open PySem PySem.W PyProof.Rows Hd
namespace Mine
noncomputable def rgAt (rg:List Int) (i:Int):Int:=rg.getD i.toNat 0
theorem rg_get {rg:List Int} {i:Int} (h:rg.length = 16) (h0:0≤i) (h1:i < 16):(rg.map V.int)[i.toNat]? = some (.int (rgAt rg i)):=by
 have hi:i.toNat < rg.length:=by lia
 rw [List.getElem?_map,List.getElem?_eq_getElem hi,rgAt,List.getD_eq_getElem?_getD,List.getElem?_eq_getElem hi]; rfl
section
variable {scr:Addr→Option (List V)} {k:Nat} {H:AH} {Q:KV} {L:L7} {σ:Mst}
theorem get_gpr {lr:Nat} {nm:Str} {num size:Int} (M:Mch H L σ) (hl:σ.rg.length = 16) (hr:H.get lr = some (regO nm sGpr num size)) (n0:0≤num) (n1:num < 16) (s0:0≤size) (s1:size≤64)
  (q:Q (.int (rgAt σ.rg num % 2 ^ size.toNat)) H):W scr (k + 3) 559 [.ref L.s,.ref lr] H Q:=by
 refine sp_go (i:=i_State_get) rfl e_c_State_get rfl ?_
 exact at_ok hr rfl rfl ((at_ok M.hS rfl rfl (at_ok hr rfl rfl (gi_l M.hR n0 (by lia) (rg_get hl n0 n1) (at_ok hr rfl rfl (wrap_ok s0 s1 q))))))
theorem get_high {lr:Nat} {nm:Str} {num size:Int} (M:Mch H L σ) (hl:σ.rg.length = 16) (hr:H.get lr = some (regO nm sHigh num size)) (n0:4≤num) (n1:num < 8)
  (q:Q (.int (rgAt σ.rg (num - 4) / 256 % 256)) H):W scr (k + 3) 559 [.ref L.s,.ref lr] H Q:=by
 refine sp_go (i:=i_State_get) rfl e_c_State_get rfl ?_
 refine at_ok hr rfl rfl ((at_ok hr rfl rfl ((at_ok M.hS rfl rfl (at_ok hr rfl rfl ?_)))))
 dsimp only [vE,opBin,int2]
 refine gi_l M.hR (by lia) (by lia) (rg_get hl (by lia) (by lia)) ⟨by decide,wrap_ok (by decide) (by decide) ?_⟩
 rw [Int.fdiv_eq_ediv_of_nonneg _ (by decide:(0:Int)≤2 ^ (8:Int).toNat)]
 exact q
theorem get_rip {lr:Nat} {nm:Str} {num size:Int} (M:Mch H L σ) (hr:H.get lr = some (regO nm sRip num size)) (q:Q (.int σ.rip) H):W scr (k + 3) 559 [.ref L.s,.ref lr] H Q:=by
 refine sp_go (i:=i_State_get) rfl e_c_State_get rfl ?_
 exact at_ok hr rfl rfl ((at_ok hr rfl rfl ((at_ok hr rfl rfl ((at_ok hr rfl rfl ((at_ok M.hS rfl rfl q))))))))
noncomputable def joinV (old w size:Int):Int:=if 32≤size then w else old - old % 2 ^ size.toNat + w
theorem joined_ok {old wo size:Int} (s0:0≤size) (s1:size≤64) (q:Q (.int (joinV old wo size)) H):W scr (k + 3) 538 [.int old,.int wo,.int size] H Q:=by
 refine sp_go (i:=i_joined) rfl e_c_joined rfl ?_
 refine br_c (fun h=>?_) fun h=>wrap_ok s0 s1 ?_
 ·have h:32≤size:=of_decide_eq_true h
  rw [joinV,if_pos h] at q; exact q
 ·have h:¬ 32≤size:=of_decide_eq_false h
  rw [joinV,if_neg h] at q; exact q
theorem set_map {rg:List Int} {i:Nat} {v:Int}:(rg.map V.int).set i (.int v) = (rg.set i v).map V.int:=by rw [List.map_set]
theorem put_gpr {lr:Nat} {nm:Str} {num size wo:Int} (M:Mch H L σ) (hl:σ.rg.length = 16) (hr:H.get lr = some (regO nm sGpr num size)) (n0:0≤num) (n1:num < 16) (s0:0≤size) (s1:size≤64)
  (q:∀ H',Kp [L.r] H H'→Mch H' L { σ with rg:=σ.rg.set num.toNat (joinV (rgAt σ.rg num) (wo % 2 ^ size.toNat) size) }→Q .none H'):W scr (k + 4) 566 [.ref L.s,.ref lr,.int wo] H Q:=by
 refine sp_go (i:=i_State_put) rfl e_c_State_put rfl ?_
 refine (at_ok hr rfl rfl (wrap_ok s0 s1 (at_ok hr rfl rfl ((at_ok M.hS rfl rfl (at_ok hr rfl rfl (gi_l M.hR n0 (by lia) (rg_get hl n0 n1)
  (at_ok hr rfl rfl (joined_ok s0 s1 (at_ok M.hS rfl rfl (at_ok hr rfl rfl (si_l M.wf M.hR n0 (by rw [List.length_map,hl]; lia) (by lia) fun H' k e=>q H' k (M.setR k ?_)))))))))))))
 rw [set_map] at e; exact e
theorem put_high {lr:Nat} {nm:Str} {num wo:Int} (M:Mch H L σ) (hl:σ.rg.length = 16) (hr:H.get lr = some (regO nm sHigh num 8)) (n0:4≤num) (n1:num < 8)
  (q:∀ H',Kp [L.r] H H'→Mch H' L { σ with rg:=σ.rg.set (num - 4).toNat (rgAt σ.rg (num - 4) + (wo % 256 - rgAt σ.rg (num - 4) / 256 % 256) * 256) }→Q .none H'):W scr (k + 4) 566 [.ref L.s,.ref lr,.int wo] H Q:=by
 refine sp_go (i:=i_State_put) rfl e_c_State_put rfl ?_
 refine at_ok hr rfl rfl (wrap_ok (by decide) (by decide) (at_ok hr rfl rfl ((at_ok hr rfl rfl ((at_ok M.hS rfl rfl (at_ok hr rfl rfl ?_)))))))
 dsimp only [vE,opBin,int2]
 refine gi_l M.hR (by lia) (by lia) (rg_get hl (by lia) (by lia)) ⟨by decide,wrap_ok (by decide) (by decide) ?_⟩
 rw [Int.fdiv_eq_ediv_of_nonneg _ (by decide:(0:Int)≤2 ^ (8:Int).toNat)]
 have e8:(2:Int) ^ (8:Int).toNat = 256:=by decide
 refine ⟨by decide,?_,at_ok M.hS rfl rfl (at_ok hr rfl rfl ?_)⟩
 ·have hb:Builtin.Int.intBits (wo % 2 ^ (8:Int).toNat - rgAt σ.rg (num - 4) / 2 ^ (8:Int).toNat % 2 ^ (8:Int).toNat)≤9:=intBits_le_iff.mpr (by rw [e8]; lia)
  have e:(2:Int) ^ 27 = 134217728:=by decide
  lia
 dsimp only [vE,opBin,int2]
 refine si_l M.wf M.hR (by lia) (by rw [List.length_map,hl]; lia) (by lia) fun H' k e=>q H' k (M.setR k ?_)
 rw [set_map,e8] at e; exact e
end
end Mine
end
section
open PySem PySem.W PyProof.Rows Hd
namespace Mine
noncomputable def Oct (mm:List (Int × Int)):Prop:=∀ p∈mm,0≤p.2∧p.2 < 256
theorem mget_oct {mm:List (Int × Int)} (h:Oct mm) (k:Int):0≤mget k mm∧mget k mm < 256:=by
 induction mm with
 | nil=>exact ⟨Int.le_refl 0,show (0:Int) < 256 by decide⟩
 | cons p r ih =>
  rw [mget]
  split
  ·exact h p (.head _)
  ·exact ih fun q hq=>h q (.tail _ hq)
noncomputable def mrd (mm:List (Int × Int)) (p:Int):Nat→Int
 | 0=>0
 | n + 1=>mrd mm p n + mget ((p + n) % 2 ^ 64) mm * 2 ^ (8 * n)
noncomputable def mwr (mm:List (Int × Int)) (p wo:Int):Nat→List (Int × Int)
 | 0=>mm
 | n + 1=>mput ((p + n) % 2 ^ 64) (wo / 2 ^ (8 * n) % 256) (mwr mm p wo n)
theorem mwr_len (mm:List (Int × Int)) (p wo:Int):∀ n,(mwr mm p wo n).length≤mm.length + n
 | 0=>Nat.le_refl _
 | n + 1=>by have:=mwr_len mm p wo n; have:=mput_len ((p + n) % 2 ^ 64) (wo / 2 ^ (8 * n) % 256) (mwr mm p wo n); rw [mwr]; lia
section
variable {scr:Addr→Option (List V)} {k:Nat} {H:AH} {Q:KV} {L:L7} {σ:Mst}
theorem e64:(2:Int) ^ (64:Int).toNat = 2 ^ 64:=rfl
theorem octet_ok {p:Int} (M:Mch H L σ) (q:Q (.int (mget (p % 2 ^ 64) σ.mm)) H):W scr (k + 3) 458 [.ref L.m,.int p] H Q:=by
 refine sp_go (i:=i_Memory_octet) rfl e_c_Memory_octet rfl ?_
 refine at_ok M.hM rfl rfl ⟨.di M.hD rfl,wrap_ok (by decide) (by decide) ?_⟩
 refine OpMeth.di rfl M.hD M.hD ?_
 rw [mget_V]; exact q
theorem set_octet_ok {p v:Int} (M:Mch H L σ) (hl:σ.mm.length≤1000) (q:∀ H',Kp [L.d] H H'→Mch H' L { σ with mm:=mput (p % 2 ^ 64) v σ.mm }→Q .none H'):W scr (k + 3) 465 [.ref L.m,.int p,.int v] H Q:=by
 refine sp_go (i:=i_Memory_set_octet) rfl e_c_Memory_set_octet rfl ?_
 refine at_ok M.hM rfl rfl (wrap_ok (by decide) (by decide) (si_d M.wf M.hD (by rw [mV,List.length_map]; exact hl) fun H' k e=>q H' k (M.setD k ?_)))
 rw [mput_V] at e; exact e
theorem mread_ok {p:Int} {n:Nat} (M:Mch H L σ) (ho:Oct σ.mm) (hn:n≤100) (q:Q (.int (mrd σ.mm p n)) H):W scr (k + 4) 472 [.ref L.m,.int p,.int n] H Q:=by
 refine sp_go (i:=i_Memory_read) rfl e_c_Memory_read rfl ?_
 refine ⟨by lia,by lia,?_⟩
 refine forR (fun i loc H'=>H' = H∧∃ x,loc = [some (.ref L.m),some (.int p),some (.int n),some (.int (mrd σ.mm p i)),x]) n ?_ ?_ ⟨rfl,_,rfl⟩
 ·rintro i _ _ K' hi ⟨rfl,x,rfl⟩ hk
  refine ⟨trivial,look_i M.hM rfl rfl,meth_i M.hM rfl (octet_ok M ?_)⟩
  have b:=mget_oct ho ((p + i) % 2 ^ 64)
  refine ⟨IntMulOk.of_left (intBits_le_iff.mpr (by decide)),by lia,?_,?_⟩
  ·have hb:Builtin.Int.intBits (mget ((p + i) % 2 ^ 64) σ.mm)≤8:=intBits_le_iff.mpr (by lia)
   have e:(2:Int) ^ 27 = 134217728:=by decide
   lia
  ·refine hk _ _ ⟨rfl,some (.int i),?_⟩
   have e:((8:Int) * (i:Int)).toNat = 8 * i:=by lia
   show [some (V.ref L.m),some (V.int p),some (V.int n),some (V.int (mrd σ.mm p i + mget ((p + i) % 2 ^ 64) σ.mm * 2 ^ ((8:Int) * (i:Int)).toNat)),some (V.int i)] = _
   rw [e]; rfl
 ·rintro _ _ ⟨rfl,x,rfl⟩
  exact ⟨trivial,q⟩
theorem mwrite_ok {p wo:Int} {n:Nat} (M:Mch H L σ) (hl:σ.mm.length + n≤1000) (hn:n≤100) (q:∀ H',Kp [L.d] H H'→Mch H' L { σ with mm:=mwr σ.mm p wo n }→Q .none H'):W scr (k + 4) 479 [.ref L.m,.int p,.int n,.int wo] H Q:=by
 refine sp_go (i:=i_Memory_write) rfl e_c_Memory_write rfl ?_
 refine ⟨by lia,by lia,?_⟩
 refine forR (fun i loc H'=>i≤n∧Kp [L.d] H H'∧Mch H' L { σ with mm:=mwr σ.mm p wo i }∧∃ x,loc = [some (.ref L.m),some (.int p),some (.int n),some (.int wo),x]) n ?_ ?_ ⟨Nat.zero_le _,Kp.refl M.wf,M,_,rfl⟩
 ·rintro i _ H₁ K' hi ⟨_,k₁,M₁,x,rfl⟩ hk
  refine ⟨trivial,look_i M₁.hM rfl rfl,?_⟩
  refine ⟨IntMulOk.of_left (intBits_le_iff.mpr (by decide)),by lia,meth_i M₁.hM rfl (set_octet_ok M₁ (by have:=mwr_len σ.mm p wo i; show (mwr σ.mm p wo i).length≤1000; lia) fun H₂ k₂ M₂=>?_)⟩
  refine hk _ _ ⟨hi,k₁.trans k₂,?_,_,rfl⟩
  have e:((8:Int) * (i:Int)).toNat = 8 * i:=by lia
  rw [bitAnd_m8,Int.fdiv_eq_ediv_of_nonneg _ (Int.le_of_lt (Int.pow_pos (by decide))),e] at M₂
  exact M₂
 ·rintro _ H₁ ⟨_,k₁,M₁,x,rfl⟩
  exact ⟨trivial,q _ k₁ M₁⟩
end
end Mine
end
section
open PySem PySem.W PyProof.Rows Hd
namespace Mine
noncomputable def sEmpty:Str:=⟨#[]⟩
inductive Opd where
 | r (n:Int)
 | h (n:Int)
 | m (b i sc far:Int) (seg:Str)
noncomputable def memO (vb vi:V) (sc far size:Int) (seg:Str):O:=.inst 774 [(19,.str sMem),(37,vb),(38,vi),(39,.int sc),(36,.int far),(34,.int size),(40,.str seg),(11,.str sEmpty)]
noncomputable def opdO (lr:Nat):O:=.inst 721 [(19,.str sReg),(15,.ref lr)]
noncomputable def IsBase (H:AH) (v:V) (n:Int):Prop:=(n < 0∧v = .none)∨(n = 16∧∃ l nm,v = .ref l∧H.get l = some (regO nm sRip 0 64))∨(0≤n∧n < 8∧∃ l nm,v = .ref l∧H.get l = some (regO nm sGpr n 64))
noncomputable def SegOK (seg:Str):Prop:=seg = sEmpty∨seg = t_fs∨seg = t_gs
noncomputable def IsOpd (H:AH) (l:Nat) (size:Int):Opd→Prop
 | .r n=>0≤n∧n < 8∧∃ lr nm,H.get l = some (opdO lr)∧H.get lr = some (regO nm sGpr n size)
 | .h n=>0≤n∧n < 4∧size = 8∧∃ lr nm,H.get l = some (opdO lr)∧H.get lr = some (regO nm sHigh (4 + n) 8)
 | .m b i sc far seg=>SegOK seg∧i≠16∧0≤sc∧sc≤8∧∃ vb vi,H.get l = some (memO vb vi sc far size seg)∧IsBase H vb b∧IsBase H vi i
noncomputable def Soft (H:AH) (X:List Nat):Prop:=∀ x∈X,∀ C fs,H.get x = some (.inst C fs)→C = 202
theorem Soft.not {H:AH} {X:List Nat} (s:Soft H X) {x C:Nat} {fs:List (Nat × V)} (h:H.get x = some (.inst C fs)) (n:C≠202):x ∉ X:=fun q=>n (s x q C fs h)
theorem IsBase.kp {H H':AH} {X:List Nat} {v:V} {n:Int} (h:IsBase H v n) (k:Kp X H H') (s:Soft H X):IsBase H' v n:=by
 rcases h with h | ⟨e,l,nm,rfl,h⟩ | ⟨a,b,l,nm,rfl,h⟩
 ·exact .inl h
 ·exact .inr (.inl ⟨e,l,nm,rfl,k.kp _ _ h (s.not h (by decide))⟩)
 ·exact .inr (.inr ⟨a,b,l,nm,rfl,k.kp _ _ h (s.not h (by decide))⟩)
theorem IsOpd.kp {H H':AH} {X:List Nat} {l:Nat} {size:Int} {op:Opd} (h:IsOpd H l size op) (k:Kp X H H') (s:Soft H X):IsOpd H' l size op:=by
 cases op with
 | r n=>obtain ⟨a,b,lr,nm,e1,e2⟩:=h; exact ⟨a,b,lr,nm,k.kp _ _ e1 (s.not e1 (by decide)),k.kp _ _ e2 (s.not e2 (by decide))⟩
 | h n=>obtain ⟨a,b,c,lr,nm,e1,e2⟩:=h; exact ⟨a,b,c,lr,nm,k.kp _ _ e1 (s.not e1 (by decide)),k.kp _ _ e2 (s.not e2 (by decide))⟩
 | m b i sc far seg=>obtain ⟨a,c,d,f,vb,vi,e,x,y⟩:=h; exact ⟨a,c,d,f,vb,vi,k.kp _ _ e (s.not e (by decide)),x.kp k s,y.kp k s⟩
theorem Soft.nil {H:AH}:Soft H []:=fun _ h=>by simp at h
noncomputable def baseV (σ:Mst) (n:Int):Int:=if n < 0 then 0 else if n = 16 then σ.rip else rgAt σ.rg n % 2 ^ 64
noncomputable def offV (σ:Mst) (b i sc far:Int):Int:=(far + baseV σ b + baseV σ i * sc) % 2 ^ 64
noncomputable def segV (σ:Mst) (seg:Str):Int:=if sbeq seg sEmpty then 0 else if sbeq seg t_fs then σ.fs else σ.gs
noncomputable def placeV (σ:Mst) (b i sc far:Int) (seg:Str):Int:=(offV σ b i sc far + segV σ seg) % 2 ^ 64
noncomputable def rdV (σ:Mst) (size:Int):Opd→Int
 | .r n=>rgAt σ.rg n % 2 ^ size.toNat
 | .h n=>rgAt σ.rg n / 256 % 256
 | .m b i sc far seg=>mrd σ.mm (placeV σ b i sc far seg) (size / 8).toNat
noncomputable def wrV (σ:Mst) (size wo:Int):Opd→Mst
 | .r n=>{ σ with rg:=σ.rg.set n.toNat (joinV (rgAt σ.rg n) (wo % 2 ^ size.toNat) size) }
 | .h n=>{ σ with rg:=σ.rg.set n.toNat (rgAt σ.rg n + (wo % 256 - rgAt σ.rg n / 256 % 256) * 256) }
 | .m b i sc far seg=>{ σ with mm:=mwr σ.mm (placeV σ b i sc far seg) wo (size / 8).toNat }
section
variable {scr:Addr→Option (List V)} {k:Nat} {H:AH} {Q:KV} {L:L7} {σ:Mst}
theorem getBase {v:V} {n:Int} {lm:Nat} (M:Mch H L σ) (hl:σ.rg.length = 16) (hb:IsBase H v n):(n < 0∧v = .none)∨(¬ n < 0∧∃ l,v = .ref l∧∀ {Q:KV},Q (.int (baseV σ n)) H→W scr (k + 3) 559 [.ref L.s,.ref l] H Q):=by
 rcases hb with h | ⟨rfl,l,nm,rfl,h⟩ | ⟨a,b,l,nm,rfl,h⟩
 ·exact .inl h
 ·exact .inr ⟨by decide,l,rfl,fun q=>get_rip M h q⟩
 ·refine .inr ⟨by lia,l,rfl,fun q=>get_gpr M hl h a (by lia) (by decide) (by decide) ?_⟩
  rw [baseV,if_neg (by lia),if_neg (by lia)] at q
  exact q
theorem offset_ok {l:Nat} {size b i sc far:Int} {seg:Str} (M:Mch H L σ) (hl:σ.rg.length = 16) (hm:IsOpd H l size (.m b i sc far seg)) (q:Q (.int (offV σ b i sc far)) H):W scr (k + 4) 585 [.ref L.s,.ref l] H Q:=by
 obtain ⟨_,_,sc0,sc1,vb,vi,e,hb,hi⟩:=hm
 refine sp_go (i:=i_State_offset) rfl e_c_State_offset rfl ?_
 refine at_ok e rfl rfl (at_ok e rfl rfl ?_)
 have fin:∀ t:Int,t = far + baseV σ b→vSs (TT scr) (W scr (k + 3)) (c_State_offset.drop 2) [some (.ref L.s),some (.ref l),some (.int t)] H (fun _ H=>Q .none H) Q:=fun t ht=>by
  subst ht
  have last:∀ t:Int,t = far + baseV σ b + baseV σ i * sc→vSs (TT scr) (W scr (k + 3)) (c_State_offset.drop 3) [some (.ref L.s),some (.ref l),some (.int t)] H (fun _ H=>Q .none H) Q:=fun t ht=>by
   subst ht
   exact wrap_ok (by decide) (by decide) q
  refine at_ok e rfl rfl ?_
  rcases getBase (scr:=scr) (k:=k) (lm:=l) M hl hi with ⟨hn,rfl⟩ | ⟨hn,lr,rfl,g⟩
  ·refine last _ ?_
   rw [show baseV σ i = 0 from if_pos hn]; lia
  ·refine ⟨look_i M.hS rfl rfl,at_ok e rfl rfl (meth_i M.hS rfl (g (at_ok e rfl rfl ⟨?_,last _ rfl⟩)))⟩
   exact IntMulOk.of_right (intBits_le_iff.mpr (by lia))
 rcases getBase (scr:=scr) (k:=k) (lm:=l) M hl hb with ⟨hn,rfl⟩ | ⟨hn,lr,rfl,g⟩
 ·refine fin _ ?_
  rw [show baseV σ b = 0 from if_pos hn]; lia
 ·exact ⟨look_i M.hS rfl rfl,at_ok e rfl rfl (meth_i M.hS rfl (g (fin _ rfl)))⟩
theorem place_ok {l:Nat} {size b i sc far:Int} {seg:Str} (M:Mch H L σ) (hl:σ.rg.length = 16) (hm:IsOpd H l size (.m b i sc far seg)) (q:Q (.int (placeV σ b i sc far seg)) H):W scr (k + 5) 592 [.ref L.s,.ref l] H Q:=by
 have hm':=hm
 obtain ⟨hs,_,sc0,sc1,vb,vi,e,hb,hi⟩:=hm
 refine sp_go (i:=i_State_place) rfl e_c_State_place rfl ?_
 refine at_ok e rfl rfl ?_
 have fin:∀ t:Int,t = segV σ seg→vSs (TT scr) (W scr (k + 4)) (c_State_place.drop 1) [some (.ref L.s),some (.ref l),some (.int t)] H (fun _ H=>Q .none H) Q:=fun t ht=>by
  subst ht
  exact ⟨look_i M.hS rfl rfl,meth_i M.hS rfl (offset_ok M hl hm' (wrap_ok (by decide) (by decide) q))⟩
 rcases hs with rfl | rfl | rfl
 ·exact fin _ rfl
 ·exact at_ok M.hS rfl rfl (at_ok e rfl rfl (gi_s M.hG rfl (fin _ rfl)))
 ·exact at_ok M.hS rfl rfl (at_ok e rfl rfl (gi_s M.hG rfl (fin _ rfl)))
end
end Mine
end
section
open PySem PySem.W PyProof.Rows Hd
namespace Mine
noncomputable def insO (nm:Str) (a b:Nat):O:=.inst 827 [(11,.str nm),(12,.tup [.ref a,.ref b]),(44,.str sEmpty)]
section
variable {scr:Addr→Option (List V)} {k:Nat} {H:AH} {Q:KV} {L:L7} {σ:Mst}
theorem sizeof_ok {nm:Str} {l a b li:Nat} {size:Int} {op:Opd} (M:Mch H L σ) (hz:0 < size) (ho:IsOpd H l size op) (hi:H.get li = some (insO nm a b)) (q:∀ H',Kp [] H H'→Q (.int size) H'):W scr (k + 1) 599 [.ref L.s,.ref l,.ref li] H Q:=by
 refine sp_go (i:=i_State_size_of) rfl e_c_State_size_of rfl ?_
 refine new_ok M.wf fun l₁ H₁ k₁ n₁ e₁=>at_ok (k₁.kp _ _ hi (by simp)) rfl rfl ⟨by simp,new_ok k₁.wf fun l₂ H₂ k₂ n₂ e₂=>⟨_,_,k₂.kp _ _ e₁ (by simp),e₂,by simp,new_ok k₂.wf fun l₃ H₃ k₃ n₃ e₃=>?_⟩⟩
 have k13:Kp [] H H₃:=(k₁.trans k₂).trans k₃
 have ho:=ho.kp k13 Soft.nil
 refine .inl ⟨_,e₃,by simp,e₃,?_⟩
 cases op with
 | r n =>
  obtain ⟨_,_,lr,nm,x1,x2⟩:=ho
  exact at_ok x1 rfl rfl ((at_ok x1 rfl rfl (at_ok x2 rfl rfl (q _ k13))))
 | h n =>
  obtain ⟨_,_,rfl,lr,nm,x1,x2⟩:=ho
  exact at_ok x1 rfl rfl ((at_ok x1 rfl rfl (at_ok x2 rfl rfl (q _ k13))))
 | m b i sc far seg =>
  obtain ⟨_,_,_,_,vb,vi,x1,_,_⟩:=ho
  exact at_ok x1 rfl rfl ((at_ok x1 rfl rfl ((at_ok x1 rfl rfl (br_t (decide_eq_true hz) (at_ok x1 rfl rfl (q _ k13)))))))
theorem sz_facts {n:Int} (h:Sz n):0 < n∧n≤64∧(n / 8).toNat≤8∧n.fdiv 8 = ((n / 8).toNat:Int)∧8 * (n / 8).toNat = n.toNat:=by
 rcases h with rfl | rfl | rfl | rfl <;> decide
theorem read_ok {l:Nat} {size:Int} {op:Opd} (hz:Sz size) (M:Mch H L σ) (hl:σ.rg.length = 16) (hc:Oct σ.mm) (ho:IsOpd H l size op) (q:Q (.int (rdV σ size op)) H):W scr (k + 6) 606 [.ref L.s,.ref l,.int size] H Q:=by
 obtain ⟨z0,z1,z2,z3,z4⟩:=sz_facts hz
 refine sp_go (i:=i_State_read) rfl e_c_State_read rfl ?_
 cases op with
 | r n =>
  obtain ⟨a,b,lr,nm,x1,x2⟩:=ho
  refine at_ok x1 rfl rfl (⟨look_i M.hS rfl rfl,at_ok x1 rfl rfl (meth_i M.hS rfl (get_gpr M hl x2 a (by lia) (by lia) z1 (wrap_ok (by lia) z1 ?_)))⟩)
  rw [Int.emod_emod_of_dvd _ (Int.dvd_refl _)]; exact q
 | h n =>
  obtain ⟨a,b,rfl,lr,nm,x1,x2⟩:=ho
  refine at_ok x1 rfl rfl (⟨look_i M.hS rfl rfl,at_ok x1 rfl rfl (meth_i M.hS rfl (get_high M hl x2 (by lia) (by lia) (wrap_ok (by lia) z1 ?_)))⟩)
  have e8:(2:Int) ^ (8:Int).toNat = 256:=by decide
  rw [e8,Int.emod_emod_of_dvd _ (Int.dvd_refl _),show 4 + n - 4 = n by lia]; exact q
 | m b i sc far seg =>
  have ho':=ho
  obtain ⟨_,_,_,_,vb,vi,x1,_,_⟩:=ho
  refine at_ok x1 rfl rfl ((at_ok x1 rfl rfl ((at_ok M.hS rfl rfl ⟨look_i M.hM rfl rfl,look_i M.hS rfl rfl,meth_i M.hS rfl (place_ok M hl ho' ⟨by decide,?_,meth_i M.hM rfl ?_⟩)⟩))))
  ·rcases hz with rfl | rfl | rfl | rfl <;> decide
  ·rw [z3]; exact mread_ok M hc (by lia) q
theorem put_low_ok {lr:Nat} {nm kd:Str} {num rsz size wo:Int} (M:Mch H L σ) (hr:H.get lr = some (regO nm kd num rsz)) (hk:sbeq kd S225 = false) (q:W scr (k + 4) 566 [.ref L.s,.ref lr,.int wo] H fun _ H=>Q .none H) :
  W scr (k + 5) 573 [.ref L.s,.ref lr,.int size,.int wo] H Q:=by
 refine sp_go (i:=i_State_put_low) rfl e_c_State_put_low rfl ?_
 exact at_ok hr rfl rfl (br_f (by rw [hk]; rfl) (⟨look_i M.hS rfl rfl,meth_i M.hS rfl q⟩))
theorem write_ok {l:Nat} {size wo:Int} {op:Opd} (hz:Sz size) (M:Mch H L σ) (hl:σ.rg.length = 16) (hn:σ.mm.length≤900) (ho:IsOpd H l size op) (q:∀ H',Kp [L.r,L.d] H H'→Mch H' L (wrV σ size wo op)→Q .none H') :
  W scr (k + 6) 613 [.ref L.s,.ref l,.int size,.int wo] H Q:=by
 obtain ⟨z0,z1,z2,z3,z4⟩:=sz_facts hz
 refine sp_go (i:=i_State_write) rfl e_c_State_write rfl ?_
 cases op with
 | r n =>
  obtain ⟨a,b,lr,nm,x1,x2⟩:=ho
  refine at_ok x1 rfl rfl (⟨look_i M.hS rfl rfl,at_ok x1 rfl rfl (meth_i M.hS rfl (put_low_ok M x2 rfl (put_gpr M hl x2 a (by lia) (by lia) z1 fun H' k' M'=>q H' (k'.mono (by simp)) M')))⟩)
 | h n =>
  obtain ⟨a,b,rfl,lr,nm,x1,x2⟩:=ho
  refine at_ok x1 rfl rfl (⟨look_i M.hS rfl rfl,at_ok x1 rfl rfl (meth_i M.hS rfl (put_low_ok M x2 rfl (put_high M hl x2 (by lia) (by lia) fun H' k' M'=>q H' (k'.mono (by simp)) ?_)))⟩)
  rw [show 4 + n - 4 = n by lia] at M'; exact M'
 | m b i sc far seg =>
  have ho':=ho
  obtain ⟨_,_,_,_,vb,vi,x1,_,_⟩:=ho
  refine at_ok x1 rfl rfl ((at_ok x1 rfl rfl ((at_ok M.hS rfl rfl ⟨look_i M.hM rfl rfl,look_i M.hS rfl rfl,meth_i M.hS rfl (place_ok M hl ho' ⟨by decide,?_,meth_i M.hM rfl ?_⟩)⟩))))
  ·rcases hz with rfl | rfl | rfl | rfl <;> decide
  ·rw [z3]; exact mwrite_ok M (by lia) (by lia) fun H' k' M'=>q H' (k'.mono (by simp)) M'
end
end Mine
end
section
open PySem PySem.W PyProof.Rows Hd
namespace Mine
noncomputable def isM:Opd→Bool
 | .m ..=>true
 | _=>false
theorem joinV_len {σ:Mst} {size wo:Int} {op:Opd}:(wrV σ size wo op).rg.length = σ.rg.length:=by cases op <;> simp [wrV]
theorem mput_oct {mm:List (Int × Int)} (h:Oct mm) {k v:Int} (hv:0≤v∧v < 256):Oct (mput k v mm):=by
 induction mm with
 | nil=>intro p hp; simp [mput] at hp; rw [hp]; exact hv
 | cons a r ih =>
  intro p hp
  rw [mput] at hp
  split at hp
  ·rcases List.mem_cons.mp hp with e | e
   ·rw [e]; exact hv
   ·exact h p (.tail _ e)
  ·rcases List.mem_cons.mp hp with e | e
   ·rw [e]; exact h a (.head _)
   ·exact ih (fun q hq=>h q (.tail _ hq)) p e
theorem mwr_oct {mm:List (Int × Int)} (h:Oct mm) {p wo:Int}:∀ n,Oct (mwr mm p wo n)
 | 0=>h
 | n + 1=>mput_oct (mwr_oct h n) ⟨Int.emod_nonneg _ (by decide),Int.emod_lt_of_pos _ (by decide)⟩
theorem wrV_oct {σ:Mst} {size wo:Int} {op:Opd} (h:Oct σ.mm):Oct (wrV σ size wo op).mm:=by cases op <;> first | exact h | exact mwr_oct h _
theorem wrV_mm {σ:Mst} {size wo:Int} {op:Opd} (hz:Sz size):(wrV σ size wo op).mm.length≤σ.mm.length + 8:=by
 cases op with
 | m b i sc far seg=>have:=mwr_len σ.mm (placeV σ b i sc far seg) wo (size / 8).toNat; have:=(sz_facts hz).2.2.1; show (mwr _ _ _ _).length≤_; lia
 | _=>exact Nat.le_add_right _ _
noncomputable def xchgV (σ:Mst) (size:Int) (o₁ o₂:Opd):Mst :=
 if isM o₂ then wrV (wrV σ size (rdV σ size o₁) o₂) size (rdV σ size o₂) o₁ else wrV (wrV σ size (rdV σ size o₂) o₁) size (rdV σ size o₁) o₂
section
variable {scr:Addr→Option (List V)} {k:Nat} {H:AH} {Q:KV} {L:L7} {σ:Mst}
theorem Mch.softRD (M:Mch H L σ):Soft H [L.r,L.d]:=fun x hx C fs h=>by
 simp only [List.mem_cons,List.not_mem_nil,or_false] at hx
 rcases hx with rfl | rfl
 ·rw [M.hR] at h; cases h
 ·rw [M.hD] at h; cases h
theorem Mch.softRDF (M:Mch H L σ):Soft H [L.r,L.d,L.f]:=fun x hx C fs h=>by
 simp only [List.mem_cons,List.not_mem_nil,or_false] at hx
 rcases hx with rfl | rfl | rfl
 ·rw [M.hR] at h; cases h
 ·rw [M.hD] at h; cases h
 ·rw [M.hF] at h; cases h; rfl
theorem kind_ok {l:Nat} {size:Int} {op:Opd} (h:IsOpd H l size op) {P:V→AH→Prop} (q:P (.str (if isM op then sMem else sReg)) H):opAttr (TT scr) (.ref l) 19 H P:=by
 cases op with
 | r n=>obtain ⟨_,_,lr,nm,e,_⟩:=h; exact at_ok e rfl rfl q
 | h n=>obtain ⟨_,_,_,lr,nm,e,_⟩:=h; exact at_ok e rfl rfl q
 | m b i sc far seg=>obtain ⟨_,_,_,_,vb,vi,e,_,_⟩:=h; exact at_ok e rfl rfl q
theorem exchange_ok {a b:Nat} {size:Int} {o₁ o₂:Opd} (hz:Sz size) (M:Mch H L σ) (hl:σ.rg.length = 16) (hn:σ.mm.length≤800) (hc:Oct σ.mm) (h₁:IsOpd H a size o₁) (h₂:IsOpd H b size o₂)
  (q:∀ H',Kp [L.r,L.d] H H'→Mch H' L (xchgV σ size o₁ o₂)→Q .none H'):W scr (k + 7) 28 [.ref L.s,.ref a,.ref b,.int size] H Q:=by
 refine sp_go (i:=i_exchange) rfl e_c_exchange rfl ?_
 have go:∀ (x y:Nat) (p r:Opd),IsOpd H x size p→IsOpd H y size r→(∀ H',Kp [L.r,L.d] H H'→Mch H' L (wrV (wrV σ size (rdV σ size r) p) size (rdV σ size p) r)→Q .none H') →
   vSs (TT scr) (W scr (k + 6)) (c_exchange.drop 1) [some (.ref L.s),some (.ref x),some (.ref y),some (.int size),none,none] H (fun _ H=>Q .none H) Q:=fun x y p r hp hr q=>by
  refine ⟨look_i M.hS rfl rfl,meth_i M.hS rfl (read_ok hz M hl hc hp ⟨look_i M.hS rfl rfl,meth_i M.hS rfl (read_ok hz M hl hc hr ?_)⟩)⟩
  refine ⟨look_i M.hS rfl rfl,meth_i M.hS rfl (write_ok hz M hl (by lia) hp fun H₁ k₁ M₁=>?_)⟩
  refine ⟨look_i M₁.hS rfl rfl,meth_i M₁.hS rfl (write_ok hz M₁ (by rw [joinV_len]; exact hl) ?_ (hr.kp k₁ M.softRD) fun H₂ k₂ M₂=>q H₂ (k₁.trans k₂) M₂)⟩
  have:=wrV_mm (σ:=σ) (wo:=rdV σ size r) (op:=p) hz
  lia
 refine kind_ok h₂ ?_
 unfold xchgV at q
 cases hm:isM o₂ with
 | true =>
  rw [hm] at q
  exact go b a o₂ o₁ h₂ h₁ q
 | false =>
  rw [hm] at q
  exact go a b o₁ o₂ h₁ h₂ q
end
end Mine
end
section
open PySem PySem.W PyProof.Rows Hd
namespace Mine
theorem mrd_bd {mm:List (Int × Int)} (h:Oct mm) (p:Int):∀ n,0≤mrd mm p n∧mrd mm p n < 2 ^ (8 * n)
 | 0=>⟨Int.le_refl 0,by show (0:Int) < 2 ^ 0; decide⟩
 | n + 1=>by
  obtain ⟨a,b⟩:=mrd_bd h p n
  obtain ⟨c,d⟩:=mget_oct h ((p + n) % 2 ^ 64)
  have e:(2:Int) ^ (8 * (n + 1)) = 2 ^ (8 * n) * 256:=by rw [Nat.mul_succ,Int.pow_add]; rfl
  rw [mrd,e]
  generalize (2:Int) ^ (8 * n) = P at b ⊢
  generalize mget ((p + n) % 2 ^ 64) mm = x at c d ⊢
  have h1:0≤x * P:=Int.mul_nonneg c (by lia)
  have h2:x * P≤255 * P:=Int.mul_le_mul_of_nonneg_right (by lia) (by lia)
  lia
theorem rdV_bd {H:AH} {l:Nat} {σ:Mst} {size:Int} {op:Opd} (hz:Sz size) (hc:Oct σ.mm) (h:IsOpd H l size op):0≤rdV σ size op∧rdV σ size op < 2 ^ size.toNat:=by
 cases op with
 | r n=>exact ⟨Int.emod_nonneg _ (Int.ne_of_gt (Int.pow_pos (by decide))),Int.emod_lt_of_pos _ (Int.pow_pos (by decide))⟩
 | h n=>obtain ⟨_,_,rfl,_⟩:=h; exact ⟨Int.emod_nonneg _ (by decide),Int.emod_lt_of_pos _ (by decide)⟩
 | m b i sc far seg=>have:=mrd_bd hc (placeV σ b i sc far seg) (size / 8).toNat; rw [(sz_facts hz).2.2.2.2] at this; exact this
noncomputable def addFl (σ:Mst) (a b n:Int):Mst:={ σ with
 c:=(a + b) / 2 ^ n.toNat,p:=par ((a + b) % 2 ^ n.toNat),a:=(a % 16 + b % 16) / 16,z:=b01 (decide ((a + b) % 2 ^ n.toNat = 0)),s:=(a + b) % 2 ^ n.toNat / 2 ^ (n - 1).toNat % 2,
 o:=Builtin.bitAnd (Builtin.bitXor a ((a + b) % 2 ^ n.toNat)) (Builtin.bitXor b ((a + b) % 2 ^ n.toNat)) / 2 ^ (n - 1).toNat % 2 }
noncomputable def subFl (σ:Mst) (a b n:Int):Mst:={ σ with
 c:=b01 (decide (a - b < 0)),p:=par ((a - b) % 2 ^ n.toNat),a:=b01 (decide (a % 16 - b % 16 < 0)),z:=b01 (decide ((a - b) % 2 ^ n.toNat = 0)),s:=(a - b) % 2 ^ n.toNat / 2 ^ (n - 1).toNat % 2,
 o:=Builtin.bitAnd (Builtin.bitXor a b) (Builtin.bitXor a ((a - b) % 2 ^ n.toNat)) / 2 ^ (n - 1).toNat % 2 }
noncomputable def xaddV (σ:Mst) (size:Int) (o₁ o₂:Opd):Mst :=
 let f:=addFl σ (rdV σ size o₁) (rdV σ size o₂) size
 let r:=(rdV σ size o₁ + rdV σ size o₂) % 2 ^ size.toNat
 if isM o₁ then wrV (wrV f size r o₁) size (rdV σ size o₁) o₂ else wrV (wrV f size (rdV σ size o₁) o₂) size r o₁
noncomputable def cmpxV (σ:Mst) (size:Int) (o₁ o₂:Opd):Mst :=
 let f:=subFl σ (rdV σ size (.r 0)) (rdV σ size o₁) size
 if (rdV σ size (.r 0) - rdV σ size o₁) % 2 ^ size.toNat = 0 then wrV f size (rdV σ size o₂) o₁ else wrV f size (rdV σ size o₁) (.r 0)
section
variable {scr:Addr→Option (List V)} {k:Nat} {H:AH} {Q:KV} {L:L7} {σ:Mst}
theorem moved_lea {li a b:Nat} {size n b' i sc far:Int} {seg:Str} (hz:Sz size) (M:Mch H L σ) (hl:σ.rg.length = 16) (hi:H.get li = some (insO t_lea a b)) (h₁:IsOpd H a size (.r n)) (h₂:IsOpd H b size (.m b' i sc far seg))
  (q:∀ H',Kp [L.r,L.d,L.f] H H'→Mch H' L (wrV σ size (offV σ b' i sc far) (.r n))→Q (.bool true) H'):W scr (k + 9) 35 [.ref L.s,.ref li] H Q:=by
 refine sp_go (i:=i_move_deed) rfl e_c_move_deed rfl ?_
 refine at_ok hi rfl rfl (((((at_ok hi rfl rfl ?_)))))
 refine at_ok hi rfl rfl ⟨look_i M.hS rfl rfl,meth_i M.hS rfl (sizeof_ok M (sz_facts hz).1 h₁ hi fun H₁ k₁=>?_)⟩
 have M₁:=M.kp0 k₁
 have h₂:=h₂.kp k₁ Soft.nil
 obtain ⟨n0,n1,lr,nm,x1,x2⟩:=h₁.kp k₁ Soft.nil
 refine ⟨look_i M₁.hS rfl rfl,at_ok x1 rfl rfl ⟨look_i M₁.hS rfl rfl,meth_i M₁.hS rfl (offset_ok M₁ hl h₂ (meth_i M₁.hS rfl (put_gpr M₁ hl x2 n0 (by lia) (by have:=sz_facts hz; lia) (sz_facts hz).2.1 fun H₂ k₂ M₂=>?_)))⟩⟩
 exact q H₂ ((k₁.nil).trans (k₂.mono (by simp))) M₂
theorem moved_mov {li a b:Nat} {size:Int} {o₁ o₂:Opd} (hz:Sz size) (M:Mch H L σ) (hl:σ.rg.length = 16) (hn:σ.mm.length≤800) (hc:Oct σ.mm) (hi:H.get li = some (insO t_mov a b)) (h₁:IsOpd H a size o₁) (h₂:IsOpd H b size o₂)
  (q:∀ H',Kp [L.r,L.d,L.f] H H'→Mch H' L (wrV σ size (rdV σ size o₂) o₁)→Q (.bool true) H'):W scr (k + 9) 35 [.ref L.s,.ref li] H Q:=by
 refine sp_go (i:=i_move_deed) rfl e_c_move_deed rfl ?_
 refine at_ok hi rfl rfl ((((at_ok hi rfl rfl ?_))))
 refine at_ok hi rfl rfl ⟨look_i M.hS rfl rfl,meth_i M.hS rfl (sizeof_ok M (sz_facts hz).1 h₁ hi fun H₁ k₁=>?_)⟩
 have M₁:=M.kp0 k₁
 have h₂:=h₂.kp k₁ Soft.nil
 have h₁:=h₁.kp k₁ Soft.nil
 refine ⟨look_i M₁.hS rfl rfl,look_i M₁.hS rfl rfl,meth_i M₁.hS rfl (read_ok hz M₁ hl hc h₂ (meth_i M₁.hS rfl (write_ok hz M₁ hl (by lia) h₁ fun H₂ k₂ M₂=>?_)))⟩
 exact q H₂ ((k₁.nil).trans (k₂.mono (by simp))) M₂
theorem moved_xchg {li a b:Nat} {size:Int} {o₁ o₂:Opd} (hz:Sz size) (M:Mch H L σ) (hl:σ.rg.length = 16) (hn:σ.mm.length≤800) (hc:Oct σ.mm) (hi:H.get li = some (insO t_xchg a b)) (h₁:IsOpd H a size o₁) (h₂:IsOpd H b size o₂)
  (q:∀ H',Kp [L.r,L.d,L.f] H H'→Mch H' L (xchgV σ size o₁ o₂)→Q (.bool true) H'):W scr (k + 9) 35 [.ref L.s,.ref li] H Q:=by
 refine sp_go (i:=i_move_deed) rfl e_c_move_deed rfl ?_
 refine at_ok hi rfl rfl (((((at_ok hi rfl rfl ?_)))))
 refine at_ok hi rfl rfl ⟨look_i M.hS rfl rfl,meth_i M.hS rfl (sizeof_ok M (sz_facts hz).1 h₁ hi fun H₁ k₁=>?_)⟩
 have M₁:=M.kp0 k₁
 have h₂:=h₂.kp k₁ Soft.nil
 have h₁:=h₁.kp k₁ Soft.nil
 refine exchange_ok hz M₁ hl hn hc h₁ h₂ fun H₂ k₂ M₂=>?_
 exact q H₂ ((k₁.nil).trans (k₂.mono (by simp))) M₂
theorem xadd_ok {li a b:Nat} {nm:Str} {size:Int} {o₁ o₂:Opd} (hz:Sz size) (M:Mch H L σ) (hl:σ.rg.length = 16) (hn:σ.mm.length≤800) (hc:Oct σ.mm) (hi:H.get li = some (insO nm a b)) (h₁:IsOpd H a size o₁) (h₂:IsOpd H b size o₂)
  (q:∀ H',Kp [L.r,L.d,L.f] H H'→Mch H' L (xaddV σ size o₁ o₂)→Q .none H'):W scr (k + 8) 402 [.ref L.s,.ref li] H Q:=by
 obtain ⟨z0,z1,z2,z3,z4⟩:=sz_facts hz
 refine sp_go (i:=i_xadd_deed) rfl e_c_xadd_deed rfl ?_
 refine at_ok hi rfl rfl (at_ok hi rfl rfl ?_)
 refine ⟨look_i M.hS rfl rfl,meth_i M.hS rfl (sizeof_ok M z0 h₁ hi fun H₁ k₁=>?_)⟩
 have M₁:=M.kp0 k₁
 have h₂:=h₂.kp k₁ Soft.nil
 have h₁:=h₁.kp k₁ Soft.nil
 refine ⟨look_i M₁.hS rfl rfl,meth_i M₁.hS rfl (read_ok hz M₁ hl hc h₁ ⟨look_i M₁.hS rfl rfl,meth_i M₁.hS rfl (read_ok hz M₁ hl hc h₂ ?_)⟩)⟩
 obtain ⟨a0,a1⟩:=rdV_bd hz hc h₁
 obtain ⟨b0,b1⟩:=rdV_bd hz hc h₂
 refine at_ok M₁.hS rfl rfl (addf_ok M₁.wf (by lia) z1 a0 a1 b0 b1 M₁.hF fun H₂ r hr k₂ e₂=>?_)
 subst hr
 have M₂:=M₁.setF k₂ e₂
 have s₂:Soft H₁ [L.f]:=fun x hx C fs h=>M₁.softRDF x (by simp at hx; simp [hx]) C fs h
 have h₁:=h₁.kp k₂ s₂
 have h₂:=h₂.kp k₂ s₂
 have kk:Kp [L.r,L.d,L.f] H H₂:=(k₁.nil).trans (k₂.mono (by simp))
 refine kind_ok h₁ ?_
 unfold xaddV at q
 cases hm:isM o₁ with
 | true =>
  rw [hm] at q
  refine ⟨look_i M₂.hS rfl rfl,meth_i M₂.hS rfl (write_ok hz M₂ hl (show σ.mm.length≤900 by lia) h₁ fun H₃ k₃ M₃=>?_)⟩
  refine ⟨look_i M₃.hS rfl rfl,meth_i M₃.hS rfl (write_ok hz M₃ (by rw [joinV_len]; exact hl) (Nat.le_trans (wrV_mm hz) (show σ.mm.length + 8≤900 by lia)) (h₂.kp k₃ M₂.softRD) fun H₄ k₄ M₄=>?_)⟩
  exact q H₄ (kk.trans ((k₃.trans k₄).mono (by simp))) M₄
 | false =>
  rw [hm] at q
  refine ⟨look_i M₂.hS rfl rfl,meth_i M₂.hS rfl (write_ok hz M₂ hl (show σ.mm.length≤900 by lia) h₂ fun H₃ k₃ M₃=>?_)⟩
  refine ⟨look_i M₃.hS rfl rfl,meth_i M₃.hS rfl (write_ok hz M₃ (by rw [joinV_len]; exact hl) (Nat.le_trans (wrV_mm hz) (show σ.mm.length + 8≤900 by lia)) (h₁.kp k₃ M₂.softRD) fun H₄ k₄ M₄=>?_)⟩
  exact q H₄ (kk.trans ((k₃.trans k₄).mono (by simp))) M₄
theorem cmpx_ok {li a b:Nat} {nm:Str} {size:Int} {o₁ o₂:Opd} (hz:Sz size) (M:Mch H L σ) (hl:σ.rg.length = 16) (hn:σ.mm.length≤800) (hc:Oct σ.mm) (hi:H.get li = some (insO nm a b)) (h₁:IsOpd H a size o₁) (h₂:IsOpd H b size o₂)
  (q:∀ H',Kp [L.r,L.d,L.f] H H'→Mch H' L (cmpxV σ size o₁ o₂)→Q .none H'):W scr (k + 8) 409 [.ref L.s,.ref li] H Q:=by
 obtain ⟨z0,z1,z2,z3,z4⟩:=sz_facts hz
 refine sp_go (i:=i_cmpxchg_deed) rfl e_c_cmpxchg_deed rfl ?_
 refine at_ok hi rfl rfl (at_ok hi rfl rfl ?_)
 refine ⟨look_i M.hS rfl rfl,meth_i M.hS rfl (sizeof_ok M z0 h₁ hi fun H₁ k₁=>?_)⟩
 have M₁:=M.kp0 k₁
 have h₂:=h₂.kp k₁ Soft.nil
 have h₁:=h₁.kp k₁ Soft.nil
 refine gpr_ok hz (by decide) (by decide) M₁.wf fun la H₂ nm' k₂ _ ea=>?_
 have M₂:=M₁.kp0 k₂
 have h₂:=h₂.kp k₂ Soft.nil
 have h₁:=h₁.kp k₂ Soft.nil
 refine ⟨look_i M₂.hS rfl rfl,meth_i M₂.hS rfl (get_gpr M₂ hl ea (by decide) (by decide) (by lia) z1 ?_)⟩
 refine ⟨look_i M₂.hS rfl rfl,meth_i M₂.hS rfl (read_ok hz M₂ hl hc h₁ ⟨look_i M₂.hS rfl rfl,meth_i M₂.hS rfl (read_ok hz M₂ hl hc h₂ ?_)⟩)⟩
 have h0:IsOpd H₂ la size (.r 0)→True:=fun _=>trivial
 have a0:0≤rdV σ size (.r 0):=Int.emod_nonneg _ (Int.ne_of_gt (Int.pow_pos (by decide)))
 have a1:rdV σ size (.r 0) < 2 ^ size.toNat:=Int.emod_lt_of_pos _ (Int.pow_pos (by decide))
 obtain ⟨b0,b1⟩:=rdV_bd hz hc h₁
 refine at_ok M₂.hS rfl rfl (subf_ok M₂.wf (by lia) z1 a0 a1 b0 b1 M₂.hF fun H₃ r hr k₃ e₃=>?_)
 subst hr
 have M₃:=M₂.setF k₃ e₃
 have s₃:Soft H₂ [L.f]:=fun x hx C fs h=>M₂.softRDF x (by simp at hx; simp [hx]) C fs h
 have h₁:=h₁.kp k₃ s₃
 have h₂:=h₂.kp k₃ s₃
 have ea:=k₃.kp _ _ ea (s₃.not ea (by decide))
 have kk:Kp [L.r,L.d,L.f] H H₃:=(k₁.nil).trans ((k₂.nil).trans (k₃.mono (by simp)))
 refine at_ok M₃.hS rfl rfl (at_ok M₃.hF rfl rfl ?_)
 unfold cmpxV at q
 by_cases hr:(rdV σ size (.r 0) - rdV σ size o₁) % 2 ^ size.toNat = 0
 ·rw [if_pos hr] at q
  refine br_t (by show (false ^^ decide (b01 (decide ((rdV σ size (.r 0) - rdV σ size o₁) % 2 ^ size.toNat = 0)) = 1)) = true; rw [hr]; rfl) ?_
  refine ⟨look_i M₃.hS rfl rfl,meth_i M₃.hS rfl (write_ok hz M₃ hl (show σ.mm.length≤900 by lia) h₁ fun H₄ k₄ M₄=>?_)⟩
  exact q H₄ (kk.trans (k₄.mono (by simp))) M₄
 ·rw [if_neg hr] at q
  refine br_f (by show (false ^^ decide (b01 (decide ((rdV σ size (.r 0) - rdV σ size o₁) % 2 ^ size.toNat = 0)) = 1)) = false; rw [decide_eq_false hr]; rfl) ?_
  refine ⟨look_i M₃.hS rfl rfl,meth_i M₃.hS rfl (put_gpr M₃ hl ea (by decide) (by decide) (by lia) z1 fun H₄ k₄ M₄=>?_)⟩
  exact q H₄ (kk.trans (k₄.mono (by simp))) M₄
theorem arith_xadd {li a b:Nat} {size:Int} {o₁ o₂:Opd} (hz:Sz size) (M:Mch H L σ) (hl:σ.rg.length = 16) (hn:σ.mm.length≤800) (hc:Oct σ.mm) (hi:H.get li = some (insO t_xadd a b)) (h₁:IsOpd H a size o₁) (h₂:IsOpd H b size o₂)
  (q:∀ H',Kp [L.r,L.d,L.f] H H'→Mch H' L (xaddV σ size o₁ o₂)→Q (.bool true) H'):W scr (k + 9) 437 [.ref L.s,.ref li] H Q:=by
 refine sp_go (i:=i_arith_deed) rfl e_c_arith_deed rfl ?_
 exact at_ok hi rfl rfl ⟨false,by decide +kernel,by decide +kernel,⟨false,by decide +kernel,by decide +kernel,xadd_ok hz M hl hn hc hi h₁ h₂ q⟩⟩
theorem arith_cmpx {li a b:Nat} {size:Int} {o₁ o₂:Opd} (hz:Sz size) (M:Mch H L σ) (hl:σ.rg.length = 16) (hn:σ.mm.length≤800) (hc:Oct σ.mm) (hi:H.get li = some (insO t_cmpxchg a b)) (h₁:IsOpd H a size o₁) (h₂:IsOpd H b size o₂)
  (q:∀ H',Kp [L.r,L.d,L.f] H H'→Mch H' L (cmpxV σ size o₁ o₂)→Q (.bool true) H'):W scr (k + 9) 437 [.ref L.s,.ref li] H Q:=by
 refine sp_go (i:=i_arith_deed) rfl e_c_arith_deed rfl ?_
 exact at_ok hi rfl rfl ⟨false,by decide +kernel,by decide +kernel,⟨false,by decide +kernel,by decide +kernel,cmpx_ok hz M hl hn hc hi h₁ h₂ q⟩⟩
end
end Mine
end
section
open PySem PySem.W PyProof.Rows Hd
namespace Mine
structure W4 where
 (w q b e:Nat)
 av:List Nat
noncomputable def worldO (L:W4) (rip:Int) (a:Nat):O:=.ds [(S223,.ref L.q),(S150,.int rip),(S218,.ref L.b),(S222,.ref L.e),(S116,.ref a)]
noncomputable def flV (σ:Mst):List V:=[.int σ.c,.int σ.p,.int σ.a,.int σ.z,.int σ.s,.int σ.o]
structure Wch (H:AH) (L:W4) (σ:Mst):Prop where
 wf:WF H
 hW:∃ a,H.get L.w = some (worldO L σ.rip a)∧H.get a = some (.list (flV σ))∧a ∉ L.av
 hQ:H.get L.q = some (.list (σ.rg.map .int))
 hB:H.get L.b = some (sgO σ.fs σ.gs)
 hE:H.get L.e = some (.di (mV σ.mm))
 wb:L.w≠L.b
 qa:L.q∈L.av
 al:∀ y∈L.av,H.get y≠none
noncomputable def RgOK (rg:List Int):Prop:=rg.length = 16∧∀ x∈rg,0≤x∧x < 2 ^ 64
theorem RgOK.at {rg:List Int} (h:RgOK rg) (i:Int):0≤rgAt rg i∧rgAt rg i < 2 ^ 64:=by
 rw [rgAt,List.getD_eq_getElem?_getD]
 cases e:rg[i.toNat]? with
 | none=>exact ⟨Int.le_refl 0,by decide⟩
 | some x=>exact h.2 x (List.mem_of_getElem? e)
noncomputable def OpdOK (size:Int):Opd→Prop
 | .r n=>0≤n∧n < 8
 | .h n=>0≤n∧n < 4∧size = 8
 | .m b i sc far seg=>(b < 0∨b = 16∨(0≤b∧b < 8))∧(i < 0∨(0≤i∧i < 8))∧0≤sc∧sc≤8∧SegOK seg
noncomputable def toldV (size:Int):Opd→V
 | .r n=>.tup [.str t_r,.int n,.int size]
 | .h n=>.tup [.str t_h,.int n,.int size]
 | .m b i sc far seg=>.tup [.str t_m,.int b,.int i,.int sc,.int far,.str seg,.int size]
theorem fmod_pos {a b:Int} (h:0 < b):a.fmod b = a % b:=Int.fmod_eq_emod_of_nonneg _ (Int.le_of_lt h)
theorem fdiv_pos {a b:Int} (h:0 < b):a.fdiv b = a / b:=Int.fdiv_eq_ediv_of_nonneg _ (Int.le_of_lt h)
theorem p2 (n:Nat):(0:Int) < 2 ^ n:=Int.pow_pos (by decide)
theorem pow_fits {b:Int} {n:Nat} (hb:b.natAbs < 2 ^ 9) (hn:n≤1000):(Builtin.Int.intBits b:Int) * (n:Int)≤2 ^ 27:=by
 have h1:Builtin.Int.intBits b≤9:=intBits_le_iff.mpr hb
 have h2:Builtin.Int.intBits b * n≤9 * 1000:=Nat.mul_le_mul h1 hn
 have e:(2:Int) ^ 27 = 134217728:=by decide
 have h3:((Builtin.Int.intBits b * n:Nat):Int) = (Builtin.Int.intBits b:Int) * (n:Int):=by push_cast; rfl
 lia
section
variable {scr:Addr→Option (List V)} {k:Nat} {H:AH} {Q:KV} {L:W4} {σ:Mst}
theorem Wch.kp {H':AH} {X:List Nat} (M:Wch H L σ) (h:Kp X H H') (n:∀ y∈X,H.get y = none∨∀ a,H.get L.w = some (worldO L σ.rip a)→y≠L.w∧y≠a∧y≠L.q∧y≠L.b∧y≠L.e):Wch H' L σ:=by
 obtain ⟨a,e1,e2,e3⟩:=M.hW
 have kp:∀ y o,H.get y = some o→(y = L.w∨y = a∨y = L.q∨y = L.b∨y = L.e)→H'.get y = some o:=fun y o e hy=>h.kp _ _ e fun q=>by
  rcases n y q with z | z
  ·rw [z] at e; cases e
  ·obtain ⟨z1,z2,z3,z4,z5⟩:=z a e1
   rcases hy with hy | hy | hy | hy | hy
   ·exact z1 hy
   ·exact z2 hy
   ·exact z3 hy
   ·exact z4 hy
   ·exact z5 hy
 exact ⟨h.wf,⟨a,kp _ _ e1 (.inl rfl),kp _ _ e2 (.inr (.inl rfl)),e3⟩,kp _ _ M.hQ (.inr (.inr (.inl rfl))),kp _ _ M.hB (.inr (.inr (.inr (.inl rfl)))),kp _ _ M.hE (.inr (.inr (.inr (.inr rfl)))),M.wb,M.qa,fun y hy=>h.th y (M.al y hy)⟩
theorem Wch.kp0 {H':AH} (M:Wch H L σ) (h:Kp [] H H'):Wch H' L σ:=M.kp h fun _ q=>by simp at q
theorem Wch.setQ {H':AH} (M:Wch H L σ) {rg:List Int} (h:Kp [L.q] H H') (e:H'.get L.q = some (.list (rg.map .int))):Wch H' L { σ with rg:=rg }:=by
 obtain ⟨a,e1,e2,e3⟩:=M.hW
 exact ⟨h.wf,⟨a,h.kp _ _ e1 (not1 (get_ne e1 M.hQ (fun q=>by cases q))),h.kp _ _ e2 (not1 fun e=>e3 (e ▸ M.qa)),e3⟩,e,h.kp _ _ M.hB (not1 (get_ne M.hB M.hQ (fun q=>by cases q))),h.kp _ _ M.hE (not1 (get_ne M.hE M.hQ (fun q=>by cases q))),M.wb,M.qa,fun y hy=>h.th y (M.al y hy)⟩
theorem Wch.setE {H':AH} (M:Wch H L σ) {mm:List (Int × Int)} (h:Kp [L.e] H H') (e:H'.get L.e = some (.di (mV mm))):Wch H' L { σ with mm:=mm }:=by
 obtain ⟨a,e1,e2,e3⟩:=M.hW
 exact ⟨h.wf,⟨a,h.kp _ _ e1 (not1 (get_ne e1 M.hE (fun q=>by cases q))),h.kp _ _ e2 (not1 (get_ne e2 M.hE (fun q=>by cases q))),e3⟩,h.kp _ _ M.hQ (not1 (get_ne M.hQ M.hE (fun q=>by cases q))),h.kp _ _ M.hB (not1 (get_ne M.hB M.hE (fun q=>by cases q))),e,M.wb,M.qa,fun y hy=>h.th y (M.al y hy)⟩
theorem Wch.setW {H':AH} (M:Wch H L σ) {a:Nat} {c p f z s o:Int} (h:Kp [L.w] H H') (ha:H.get a = some (.list [.int c,.int p,.int f,.int z,.int s,.int o])) (hq:a ∉ L.av) (e:H'.get L.w = some (worldO L σ.rip a)) :
  Wch H' L { σ with c:=c,p:=p,a:=f,z:=z,s:=s,o:=o }:=by
 obtain ⟨_,e1,_,_⟩:=M.hW
 exact ⟨h.wf,⟨a,e,h.kp _ _ ha (not1 (get_ne ha e1 (fun q=>by cases q))),hq⟩,h.kp _ _ M.hQ (not1 (get_ne M.hQ e1 (fun q=>by cases q))),h.kp _ _ M.hB (not1 (Ne.symm M.wb)),h.kp _ _ M.hE (not1 (get_ne M.hE e1 (fun q=>by cases q))),M.wb,M.qa,fun y hy=>h.th y (M.al y hy)⟩
theorem gs_ {l:Nat} {i:Str} {es:List (Str × V)} {v:V} (h:H.get l = some (.ds es)) (e:sget i es = some v) (q:Q v H) :
  OpItem H Q (.ref l) (.str i):=.ds h e q
theorem gi_n {l:Nat} {i:Int} {vs:List V} {v:V} (h:H.get l = some (.list vs)) (h0:0≤i) (h2:i < 2 ^ 62) (e:vs[i.toNat]? = some v) (q:Q v H) :
  OpItem H Q (.ref l) (.int i):=.list h h0 h2 e q
noncomputable def lplaceV (σ:Mst) (plain:Bool) (b i sc far:Int) (seg:Str):Int:=if plain then offV σ b i sc far else placeV σ b i sc far seg
noncomputable def reg17 (σ:Mst) (n:Int):Int:=if n < 0 then 0 else if n = 16 then σ.rip else rgAt σ.rg n
theorem lplace_eq (h:RgOK σ.rg) (plain:Bool) (b i sc far:Int) (seg:Str) :
  (far + (if plain then 0 else segV σ seg) + reg17 σ b * 1 + reg17 σ i * sc) % 2 ^ 64 = lplaceV σ plain b i sc far seg:=by
 have e:∀ n,baseV σ n = reg17 σ n:=fun n=>by
  unfold baseV reg17
  rw [Int.emod_eq_of_lt (h.at n).1 (h.at n).2]
 unfold lplaceV placeV offV
 rw [e,e]
 generalize reg17 σ b = x
 generalize reg17 σ i * sc = y
 cases plain
 ·simp only [Bool.false_eq_true,if_false]
  generalize segV σ seg = z
  lia
 ·simp only [if_true]
  lia
theorem reg17_get (hl:σ.rg.length = 16) {n:Int} (hn:n = 16∨(0≤n∧n < 8)):(σ.rg.map V.int++[V.int σ.rip])[n.toNat]? = some (.int (reg17 σ n)):=by
 rcases hn with rfl | ⟨a,b⟩
 ·rw [List.getElem?_append_right (by simp [hl]),List.length_map,hl]
  rfl
 ·rw [List.getElem?_append_left (by simp [hl]; lia),rg_get hl a (by lia),reg17,if_neg (by lia),if_neg (by lia)]
theorem lplace_ok {size b i sc far:Int} {seg:Str} {plain:Bool} (M:Wch H L σ) (hr:RgOK σ.rg) (ho:OpdOK size (.m b i sc far seg)) (q:∀ H',Kp [] H H'→Q (.int (lplaceV σ plain b i sc far seg)) H') :
  W scr (k + 1) 885 [.ref L.w,toldV size (.m b i sc far seg),.bool plain] H Q:=by
 obtain ⟨hb,hi,sc0,sc1,hs⟩:=ho
 refine sp_go (i:=i_law_place) rfl e_c_law_place rfl ?_
 obtain ⟨a,e1,_,_⟩:=M.hW
 refine gs_ e1 rfl (gs_ e1 rfl (new_ok M.wf fun l₁ H₁ k₁ n₁ g₁=>⟨_,_,k₁.kp _ _ M.hQ (by simp),g₁,by simp [hr.1],new_ok k₁.wf fun l₂ H₂ k₂ n₂ g₂=>?_⟩))
 have k12:=k₁.trans k₂
 have M₂:=M.kp0 k12
 have e2:=k12.kp _ _ e1 (by simp)
 refine gs_ e2 rfl ⟨.ds M₂.hB rfl,?_⟩
 have fin:∀ z:Int,z = (if plain then 0 else segV σ seg)→vSs (TT scr) (W scr k) (c_law_place.drop 2) [some (.ref L.w),some (toldV size (.m b i sc far seg)),some (.bool plain),some (.ref l₂),some (.int (far + z)),none,none] H₂ (fun _ H=>Q .none H) Q:=fun z hz=>by
  subst hz
  refine new_ok k₂.wf fun l₃ H₃ k₃ n₃ g₃=>.inl ⟨_,g₃,by simp,?_⟩
  have g2:=k₃.kp _ _ g₂ (by simp)
  have step:∀ (n t u:Int) (loc:Loc) (K':Loc→AH→Prop),(n < 0∨n = 16∨(0≤n∧n < 8))→0≤u→u≤8→(loc = [some (.ref L.w),some (toldV size (.m b i sc far seg)),some (.bool plain),some (.ref l₂),some (.int t),some (.int n),some (.int u)]) →
    K' [some (.ref L.w),some (toldV size (.m b i sc far seg)),some (.bool plain),some (.ref l₂),some (.int (t + reg17 σ n * u)),some (.int n),some (.int u)] H₃ →
    vSs (TT scr) (W scr k) [.asg (.var 4) (.bin .Add (.var 4) (.ite (.cmp .GtE (.var 5) (.lit (.int 0))) (.bin .Mult (.item (.var 3) (.var 5)) (.var 6)) (.lit (.int 0))))] loc H₃ K' Q:=fun n t u loc K' hn u0 u1 hloc hk=>by
   subst hloc
   refine br_c (fun h=>?_) fun h=>?_
   ·have h:0≤n:=of_decide_eq_true h
    refine gi_l g2 h (by lia) (reg17_get hr.1 (by lia)) ⟨IntMulOk.of_right (intBits_le_iff.mpr (by lia)),hk⟩
   ·have h:¬ 0≤n:=of_decide_eq_false h
    rw [show reg17 σ n = 0 from if_pos (by lia),Int.zero_mul] at hk
    exact hk
  refine ⟨g₃,step b _ 1 _ _ hb (by decide) (by decide) rfl ⟨g₃,step i _ sc _ _ (by lia) sc0 sc1 rfl ⟨g₃,?_⟩⟩⟩
  refine ⟨by decide,pow_fits (by decide) (by decide),by decide,?_⟩
  rw [fmod_pos (by decide)]
  have:=q H₃ (k12.trans k₃)
  rw [← lplace_eq hr] at this
  exact this
 cases plain with
 | true =>
  refine OpMeth.ds rfl M₂.hB M₂.hB (fin _ rfl)
 | false =>
  refine OpMeth.ds rfl M₂.hB M₂.hB ?_
  rcases hs with rfl | rfl | rfl <;> exact fin _ rfl
end
end Mine
end
section
open PySem PySem.W PyProof.Rows Hd
namespace Mine
theorem rngV_get {n i:Nat} {v:V} (h:(rngV n)[i]? = some v):i < n∧v = .int (i:Int):=by
 unfold rngV at h
 rw [List.getElem?_map] at h
 rcases Nat.lt_or_ge i n with hi | hi
 ·rw [List.getElem?_range hi] at h; cases h; exact ⟨hi,rfl⟩
 ·rw [List.getElem?_eq_none (by simpa using hi)] at h; cases h
theorem rngV_len {n:Nat}:(rngV n).length = n:=by simp [rngV]
theorem allInts_map:∀ ns:List Int,allInts (ns.map .int) = some ns
 | []=>rfl
 | n::r=>by rw [List.map_cons,allInts,allInts_map r]; rfl
theorem e256 (n:Nat):(256:Int) ^ n = 2 ^ (8 * n):=by rw [Int.pow_mul]; rfl
section
variable {scr:Addr→Option (List V)} {k:Nat} {H:AH} {Q:KV} {L:W4} {σ:Mst}
theorem compN {elt:V→AH→KV→Prop} {cnd:V→AH→KB→Prop} {K:List V→AH→Prop} (n:Nat) (f:Nat→Int) (w:WF H) (hc:∀ v H P,P true H→cnd v H P)
  (hs:∀ i H' Q,i < n→Kp [] H H'→(∀ H'',Kp [] H H''→Q (.int (f i)) H'')→elt (.int i) H' Q) (hK:∀ H',Kp [] H H'→K (((List.range n).map f).map .int) H') :
  compL cnd elt (fun _=>True) (rngV n) [] H K:=by
 refine compG (rngV n) (fun i acc H'=>Kp [] H H'∧acc = ((List.range i).map f).map .int) hc (fun _ _ _ _=>trivial) ?_ ?_ ⟨Kp.refl w,rfl⟩
 ·rintro i v acc H' Q hv ⟨k',rfl⟩ hq
  obtain ⟨hi,rfl⟩:=rngV_get hv
  refine hs i H' Q hi k' fun H'' k''=>hq _ _ ⟨k'',?_⟩
  rw [List.range_succ,List.map_append,List.map_append]; rfl
 ·rintro acc H' ⟨k',rfl⟩
  rw [rngV_len]; exact hK H' k'
theorem mrd_sum (mm:List (Int × Int)) (p:Int):∀ n,((List.range n).map fun i=>mget ((p + (i:Nat)) % 2 ^ 64) mm * 256 ^ i).sum = mrd mm p n
 | 0=>rfl
 | n + 1=>by rw [List.range_succ,List.map_append,List.sum_append,mrd_sum mm p n,mrd,List.map_singleton,List.sum_singleton,e256]
theorem lget_ok {size p:Int} {op:Opd} (hz:Sz size) (M:Wch H L σ) (hr:RgOK σ.rg) (hc:Oct σ.mm) (ho:OpdOK size op) (hp:∀ b i sc far seg,op = .m b i sc far seg→p = placeV σ b i sc far seg)
  (q:∀ H',Kp [] H H'→Q (.int (rdV σ size op)) H'):W scr (k + 1) 890 [.ref L.w,toldV size op,.int p,.int size] H Q:=by
 obtain ⟨a,e1,_,_⟩:=M.hW
 obtain ⟨z0,z1,z2,z3,z4⟩:=sz_facts hz
 refine sp_go (i:=i_law_get) rfl e_c_law_get rfl ?_
 cases op with
 | m b i sc far seg =>
  obtain rfl:=hp _ _ _ _ _ rfl
  refine ⟨by decide,by rcases hz with rfl | rfl | rfl | rfl <;> decide,?_⟩
  rw [z3]
  refine ⟨by lia,by lia,compN (size / 8).toNat (fun j=>mget ((placeV σ b i sc far seg + (j:Nat)) % 2 ^ 64) σ.mm * 256 ^ j) M.wf (fun _ _ _ h=>h) ?_ ?_⟩
  ·intro j H' Q' hj k' hq
   have M':=M.kp0 k'
   have b:=mget_oct hc ((placeV σ b i sc far seg + (j:Nat)) % 2 ^ 64)
   refine gs_ (k'.kp _ _ e1 (by simp)) rfl ⟨.di M'.hE rfl,by decide,pow_fits (by decide) (by decide),by decide,OpMeth.di rfl M'.hE M'.hE ?_⟩
   rw [mget_V,fmod_pos (by decide),e64]
   exact ⟨by lia,pow_fits (by decide) (by lia),IntMulOk.of_left (intBits_le_iff.mpr (by show (mget _ _).natAbs < 2 ^ 64; lia)),hq H' k'⟩
  ·intro H' k'
   refine new_ok k'.wf fun l H₂ k₂ n₂ g₂=>⟨_,g₂,by simp; lia,_,allInts_map _,?_⟩
   rw [mrd_sum]; exact q H₂ (k'.trans k₂)
 | r n =>
  have hn:n < 16:=by have:=ho.2; lia
  refine gs_ e1 rfl (gi_l M.hQ ho.1 (by lia) (rg_get hr.1 ho.1 hn) (⟨by decide,rfl,?_⟩))
  refine ⟨by lia,?_,by have:=p2 size.toNat; lia,?_⟩
  ·have:=pow_fits (b:=2) (n:=size.toNat) (by decide) (by lia); rw [show ((size.toNat:Nat):Int) = size by lia] at this; exact this
  ·rw [fmod_pos (p2 _),fdiv_pos (by decide),Int.ediv_one]; exact q H (Kp.refl M.wf)
 | h n =>
  obtain ⟨n0,n1,rfl⟩:=ho
  refine gs_ e1 rfl (gi_l M.hQ n0 (by lia) (rg_get hr.1 n0 (by lia)) (⟨by decide,rfl,?_⟩))
  refine ⟨by lia,pow_fits (n:=8) (by decide) (by decide),by decide,?_⟩
  rw [fmod_pos (by decide),fdiv_pos (by decide)]; exact q H (Kp.refl M.wf)
end
end Mine
end
section
open PySem PySem.W PyProof.Rows Hd
namespace Mine
theorem noPy {a b:Int} (h:b.natAbs < 2 ^ 1000):Builtin.divisionGoesByPylong a b = false:=by
 unfold Builtin.divisionGoesByPylong
 have:¬ (if (b == 0) = true then 0 else b.natAbs.log2 / 30 + 1) > 300:=by
  split
  ·lia
  ·rename_i hb
   have hb:b.natAbs≠0:=by simpa using hb
   have:=(Nat.log2_lt hb).mpr h
   lia
 simp only [decide_eq_false this,Bool.false_and]
noncomputable def wrP (σ:Mst) (size wo:Int) (op:Opd) (p:Int):Mst:=match op with
 | .m ..=>{ σ with mm:=mwr σ.mm p wo (size / 8).toNat }
 | _=>wrV σ size wo op
theorem list_set_mem {l:List Int} {i:Nat} {v x:Int} (h:x∈l.set i v):x = v∨x∈l:=by
 rcases List.mem_or_eq_of_mem_set h with h | h
 ·exact .inr h
 ·exact .inl h
theorem wrV_rg {σ:Mst} {size wo:Int} {op:Opd} (hz:Sz size) (h:RgOK σ.rg) (w0:0≤wo) (w1:wo < 2 ^ size.toNat):RgOK (wrV σ size wo op).rg:=by
 refine ⟨by rw [joinV_len]; exact h.1,?_⟩
 cases op with
 | m b i sc far seg=>exact h.2
 | r n =>
  intro x hx
  rcases list_set_mem hx with rfl | hx
  ·have:=h.at n
   rw [Int.emod_eq_of_lt w0 w1,joinV]
   rcases hz with rfl | rfl | rfl | rfl
   ·rw [if_neg (by decide)]; have e:(2:Int) ^ (8:Int).toNat = 256:=by decide
    rw [e] at w1 ⊢; lia
   ·rw [if_neg (by decide)]; have e:(2:Int) ^ (16:Int).toNat = 65536:=by decide
    rw [e] at w1 ⊢; lia
   ·rw [if_pos (by decide)]; have e:(2:Int) ^ (32:Int).toNat = 4294967296:=by decide
    rw [e] at w1; lia
   ·rw [if_pos (by decide)]; exact ⟨w0,w1⟩
  ·exact h.2 x hx
 | h n =>
  intro x hx
  rcases list_set_mem hx with rfl | hx
  ·have:=h.at n
   lia
  ·exact h.2 x hx
section
variable {scr:Addr→Option (List V)} {k:Nat} {H:AH} {Q:KV} {L:W4} {σ:Mst}
theorem gi_d {S:Spec} {P:AH→Prop}:P H→P H:=fun h=>h
theorem lput_ok {size p wo:Int} {op:Opd} (hz:Sz size) (M:Wch H L σ) (hr:RgOK σ.rg) (hn:σ.mm.length≤800) (ho:OpdOK size op) (w0:0≤wo) (w1:wo < 2 ^ size.toNat)
  (q:∀ H',Kp [L.q,L.e] H H'→Wch H' L (wrP σ size wo op p)→Q .none H'):W scr (k + 1) 897 [.ref L.w,toldV size op,.int p,.int size,.int wo] H Q:=by
 obtain ⟨a,e1,_,_⟩:=M.hW
 obtain ⟨z0,z1,z2,z3,z4⟩:=sz_facts hz
 have pz:((2:Int).natAbs < 2 ^ 9):=by decide
 have fz:(Builtin.Int.intBits 2:Int) * size≤2 ^ 27:=by have:=pow_fits (b:=2) (n:=size.toNat) (by decide) (by lia); rw [show ((size.toNat:Nat):Int) = size by lia] at this; exact this
 refine sp_go (i:=i_law_put) rfl e_c_law_put rfl ?_
 cases op with
 | m b i sc far seg =>
  refine ⟨by decide,by rcases hz with rfl | rfl | rfl | rfl <;> decide,?_⟩
  rw [z3]
  refine ⟨by lia,by lia,?_⟩
  refine forR (fun j loc H'=>j≤(size / 8).toNat∧Kp [L.q,L.e] H H'∧Wch H' L { σ with mm:=mwr σ.mm p wo j } ∧
   ∃ x,loc = [some (.ref L.w),some (toldV size (.m b i sc far seg)),some (.int p),some (.int size),some (.int wo),x,none,none]) (size / 8).toNat ?_ ?_ ⟨Nat.zero_le _,Kp.refl M.wf,M,_,rfl⟩
  ·rintro j _ H₁ K' hj ⟨_,k₁,M₁,x,rfl⟩ hk
   obtain ⟨a₁,g1,_,_⟩:=M₁.hW
   have hp:(0:Int) < 256 ^ j:=Int.pow_pos (by decide)
   refine ⟨trivial,by lia,pow_fits (by decide) (by lia),by show (256:Int) ^ j≠0; lia,noPy ?_,by decide,gs_ g1 rfl ⟨by decide,pow_fits (n:=64) (by decide) (by decide),by decide,?_⟩⟩
   ·show ((256:Int) ^ j).natAbs < 2 ^ 1000
    rw [e256,Int.natAbs_pow]
    exact Nat.pow_lt_pow_right (by decide) (by lia)
   refine si_d M₁.wf M₁.hE (by rw [mV,List.length_map]; have:=mwr_len σ.mm p wo j; show (mwr σ.mm p wo j).length≤1000; lia) fun H₂ k₂ g₂=>?_
   refine hk _ _ ⟨hj,k₁.trans (k₂.mono (by simp)),M₁.setE k₂ ?_,_,rfl⟩
   rw [mput_V,fmod_pos (by decide),fmod_pos (by decide),fdiv_pos (show (0:Int) < 256 ^ ((j:Int)).toNat from hp),show ((j:Int)).toNat = j from rfl,e256,e64] at g₂
   exact g₂
  ·rintro _ H₁ ⟨_,k₁,M₁,x,rfl⟩
   exact ⟨trivial,q _ k₁ M₁⟩
 | r n =>
  have hn:n < 16:=by have:=ho.2; lia
  refine gs_ e1 rfl (gi_l M.hQ ho.1 (by lia) (rg_get hr.1 ho.1 hn) ?_)
  have fin:∀ v:Int,v = joinV (rgAt σ.rg n) (wo % 2 ^ size.toNat) size→∀ H',Kp [L.q] H H'→H'.get L.q = some (.list ((σ.rg.map V.int).set n.toNat (.int v)))→Q .none H':=fun v hv H' k' e=>by
   subst hv
   rw [set_map] at e
   exact q H' (k'.mono (by simp)) (M.setQ k' e)
  rw [Int.emod_eq_of_lt w0 w1] at fin
  refine br_c (fun h=>?_) fun h=>?_
  ·have h:32≤size:=of_decide_eq_true h
   refine gs_ e1 rfl (si_l M.wf M.hQ ho.1 (by rw [List.length_map,hr.1]; lia) (by lia) fun H' k' e=>fin _ (by rw [joinV,if_pos h]) H' k' e)
  ·have h:¬ 32≤size:=of_decide_eq_false h
   refine ⟨by decide,rfl,by lia,fz,by have:=p2 size.toNat; lia,IntMulOk.of_right (intBits_le_iff.mpr (by decide)),gs_ e1 rfl ?_⟩
   refine si_l M.wf M.hQ ho.1 (by rw [List.length_map,hr.1]; lia) (by lia) fun H' k' e=>fin _ ?_ H' k' e
   rw [joinV,if_neg h,fmod_pos (p2 _),fdiv_pos (by decide),Int.ediv_one]
   lia
 | h n =>
  obtain ⟨n0,n1,rfl⟩:=ho
  refine gs_ e1 rfl (gi_l M.hQ n0 (by lia) (rg_get hr.1 n0 (by lia)) ?_)
  refine ⟨by decide,rfl,by decide,pow_fits (n:=8) (by decide) (by decide),by decide,IntMulOk.of_right (intBits_le_iff.mpr (by decide)),gs_ e1 rfl ?_⟩
  refine si_l M.wf M.hQ n0 (by rw [List.length_map,hr.1]; lia) (by lia) fun H' k' e=>?_
  have e8:(2:Int) ^ (8:Int).toNat = 256:=by decide
  rw [set_map,fmod_pos (by decide),fdiv_pos (by decide),e8] at e
  refine q H' (k'.mono (by simp)) ?_
  have M':=M.setQ k' e
  rw [← Int.emod_eq_of_lt w0 (show wo < 256 from w1)] at M'
  exact M'
end
end Mine
end
section
open PySem PySem.W PyProof.Rows Hd
namespace Mine
theorem bitAt (N m:Nat):((N:Int) / 2 ^ m % 2) = b01 (N.testBit m):=by
 rw [Nat.testBit_eq_decide_div_mod_eq,show (2:Int) ^ m = ((2 ^ m:Nat):Int) by simp,← Int.natCast_ediv,show (2:Int) = ((2:Nat):Int) from rfl,← Int.natCast_emod]
 have:=Nat.mod_two_eq_zero_or_one (N / 2 ^ m)
 rcases this with h | h <;> rw [h] <;> rfl
theorem xor_and_nat (x:Nat):∀ y:Nat,(x ^^^ y) + 2 * (x &&& y) = x + y:=by
 induction x using Nat.strongRecOn with
 | ind x ih =>
  intro y
  by_cases hx:x = 0
  ·subst hx; simp
  ·have h:=ih (x / 2) (by lia) (y / 2)
   rw [← Nat.xor_div_two,← Nat.and_div_two] at h
   have a:=Nat.xor_mod_two_pow (a:=x) (b:=y) (n:=1)
   have b:=Nat.and_mod_two_pow (a:=x) (b:=y) (n:=1)
   rw [Nat.pow_one] at a b
   rcases Nat.mod_two_eq_zero_or_one x with hx2 | hx2 <;> rcases Nat.mod_two_eq_zero_or_one y with hy2 | hy2 <;> rw [hx2,hy2] at a b <;> simp only [Nat.zero_xor,Nat.xor_zero,Nat.xor_self,Nat.zero_and,Nat.and_zero,Nat.and_self] at a b <;> lia
theorem xorNat {x y:Int} (hx:0≤x) (hy:0≤y):Builtin.bitXor x y = ((x.toNat ^^^ y.toNat:Nat):Int):=by
 rw [bitXor_and,bitAnd_pp hx hy]
 have h:=xor_and_nat x.toNat y.toNat
 lia
theorem top_bits {x y r:Int} {m:Nat} (hx:0≤x) (hy:0≤y) (hr:0≤r) (y':Int) (hy':0≤y') :
  Builtin.bitAnd (Builtin.bitXor x r) (Builtin.bitXor y y') / 2 ^ m % 2 = b01 ((decide (x / 2 ^ m % 2 = 1) != decide (r / 2 ^ m % 2 = 1)) && (decide (y / 2 ^ m % 2 = 1) != decide (y' / 2 ^ m % 2 = 1))):=by
 have e:∀ {v:Int},0≤v→decide (v / 2 ^ m % 2 = 1) = v.toNat.testBit m:=fun {v} hv=>by
  have h:v / 2 ^ m % 2 = b01 (v.toNat.testBit m):=by
   have:=bitAt v.toNat m
   rwa [show ((v.toNat:Nat):Int) = v by lia] at this
  rw [h]
  cases v.toNat.testBit m <;> rfl
 rw [e hx,e hr,e hy,e hy',xorNat hx hr,xorNat hy hy',bitAnd_pp (Int.natCast_nonneg _) (Int.natCast_nonneg _),bitAt,Int.toNat_natCast,Int.toNat_natCast,Nat.testBit_and,Nat.testBit_xor,Nat.testBit_xor]
theorem par_eq:∀ x,x < 256→(1 - (popc 8 x:Int) % 2) = b01 (decide (((((List.range 8).map fun i=>(x:Int) / 2 ^ i % 2).sum) % 2) = 0)):=by decide +kernel
theorem par_law {r:Int} (h:0≤r):par r = b01 (decide ((((List.range 8).map fun i=>r / 2 ^ i % 2).sum) % 2 = 0)):=by
 have e:(List.range 8).map (fun i=>r / 2 ^ i % 2) = (List.range 8).map fun i=>((r % 256).toNat:Int) / 2 ^ i % 2:=by
  have:((r % 256).toNat:Int) = r % 256:=by lia
  rw [this]
  simp only [List.range,List.range.loop,List.map_cons,List.map_nil]
  have p0:(2:Int) ^ 0 = 1:=rfl
  have p1:(2:Int) ^ 1 = 2:=rfl
  have p2':(2:Int) ^ 2 = 4:=rfl
  have p3:(2:Int) ^ 3 = 8:=rfl
  have p4:(2:Int) ^ 4 = 16:=rfl
  have p5:(2:Int) ^ 5 = 32:=rfl
  have p6:(2:Int) ^ 6 = 64:=rfl
  have p7:(2:Int) ^ 7 = 128:=rfl
  rw [p0,p1,p2',p3,p4,p5,p6,p7]
  congr 1
  ·lia
  congr 1
  ·lia
  congr 1
  ·lia
  congr 1
  ·lia
  congr 1
  ·lia
  congr 1
  ·lia
  congr 1
  ·lia
  congr 1
  lia
 rw [e,← par_eq _ (by lia)]
 rfl
end Mine
end
section
open PySem PySem.W PyProof.Rows Hd
namespace Mine
noncomputable def many8 (r:Int):Int:=((List.range 8).map fun i=>r / 2 ^ i % 2).sum
noncomputable def sgn (x M:Int):Int:=if 2 * x ≥ M then x - M else x
noncomputable def lhalf (a b g:Int):Int:=a % 16 + g * (b % 16)
noncomputable def lfar (a b g M:Int):Int:=sgn a M + g * sgn b M
section
variable {scr:Addr→Option (List V)} {k:Nat} {H:AH} {Q:KV}
theorem vor_ok {T:Tab} {S:Spec} {a b:X} {loc:Loc} {c d:Bool} (ha:∀ P:KV,P (.bool c) H→vE T S a loc H P) (hb:∀ P:KV,P (.bool d) H→vE T S b loc H P) (q:Q (.bool (c || d)) H):vE T S (.or a b) loc H Q:=by
 refine ha _ ?_
 cases c with
 | true=>exact q
 | false=>exact hb _ q
theorem compG2 {elt:V→AH→KV→Prop} {cnd:V→AH→KB→Prop} {still:AH→Prop} {K:List V→AH→Prop} (vs:List V) (f:V→V) (w:WF H) (hc:∀ v H P,P true H→cnd v H P) (hst:∀ H',Kp [] H H'→still H')
  (hs:∀ v∈vs,∀ H' Q,Kp [] H H'→(∀ H'',Kp [] H H''→Q (f v) H'')→elt v H' Q) (hK:∀ H',Kp [] H H'→K (vs.map f) H') :
  compL cnd elt still vs [] H K:=by
 refine compG vs (fun i acc H'=>Kp [] H H'∧acc = (vs.take i).map f) hc (fun _ _ _ h=>hst _ h.1) ?_ ?_ ⟨Kp.refl w,rfl⟩
 ·rintro i v acc H' Q hv ⟨k',rfl⟩ hq
  refine hs v (List.mem_of_getElem? hv) H' Q k' fun H'' k''=>hq _ _ ⟨k'',?_⟩
  obtain ⟨hi,e⟩:=List.getElem?_eq_some_iff.mp hv
  rw [List.take_succ_eq_append_getElem hi,List.map_append,e]; rfl
 ·rintro acc H' ⟨k',rfl⟩
  rw [List.take_length]; exact hK H' k'
set_option maxHeartbeats 1000000 in
theorem added_ok {a b g n:Int} (hz:Sz n) (w:WF H) (hg:g = 1∨g = -1) (a0:0≤a) (a1:a < 2 ^ n.toNat) (b0:0≤b) (b1:b < 2 ^ n.toNat)
  (q:∀ H' l r,r = (a + g * b) % 2 ^ n.toNat→Kp [] H H'→H.get l = none→H'.get l = some (.list [.int (b01 (decide (a + g * b≠r))),.int (b01 (decide (many8 r % 2 = 0))),.int (b01 (decide (lhalf a b g < 0) || decide (lhalf a b g > 15))),
    .int (b01 (decide (r = 0))),.int (b01 (decide (2 * r ≥ 2 ^ n.toNat))),.int (b01 (decide (2 * lfar a b g (2 ^ n.toNat) < -2 ^ n.toNat) || decide (2 * lfar a b g (2 ^ n.toNat) ≥ 2 ^ n.toNat)))])→Q (.tup [.int r,.ref l]) H') :
  W scr (k + 1) 902 [.int a,.int b,.int g,.int n] H Q:=by
 obtain ⟨z0,z1,z2,z3,z4⟩:=sz_facts hz
 have fz:(Builtin.Int.intBits 2:Int) * n≤2 ^ 27:=by have:=pow_fits (b:=2) (n:=n.toNat) (by decide) (by lia); rw [show ((n.toNat:Nat):Int) = n by lia] at this; exact this
 have hM:(0:Int) < 2 ^ n.toNat:=p2 _
 have hg9:∀ x,IntMulOk g x:=fun x=>IntMulOk.of_left (intBits_le_iff.mpr (by lia))
 have h29:∀ x,IntMulOk 2 x:=fun x=>IntMulOk.of_left (intBits_le_iff.mpr (by decide))
 refine sp_go (i:=i_law_added) rfl e_c_law_added rfl ?_
 refine ⟨hg9 b,by lia,fz,by lia,?_⟩
 rw [fmod_pos hM]
 generalize hr:(a + g * b) % 2 ^ n.toNat = r at q
 generalize hMM:(2:Int) ^ n.toNat = M at hM q hr a1 b1 ⊢
 have elt:∀ (x:Int) (P:KV) (H':AH),P (.int (sgn x M)) H'→vE (TT scr) (W scr k) (.ite (.cmp .GtE (.bin .Mult (.lit (.int 2)) (.var 0)) (.var 1)) (.bin .Sub (.var 0) (.var 1)) (.var 0)) [some (.int x),some (.int M)] H' P:=fun x P H' hp=>by
  refine ⟨h29 x,br_c (fun h=>?_) fun h=>?_⟩
  ·have h:2 * x ≥ M:=of_decide_eq_true h
   rw [sgn,if_pos h] at hp; exact hp
  ·have h:¬ 2 * x ≥ M:=of_decide_eq_false h
   rw [sgn,if_neg h] at hp; exact hp
 refine ⟨by simp,trivial,elt a _ _ ⟨trivial,elt b _ _ ⟨trivial,new_ok w fun l₁ H₁ k₁ n₁ g₁=>⟨_,g₁,rfl,?_⟩⟩⟩⟩
 refine ⟨hg9 _,by decide,by decide,hg9 _,?_⟩
 rw [fmod_pos (by decide),fmod_pos (by decide)]
 refine ⟨by decide,by decide,compN 8 (fun i=>r / 2 ^ i % 2) k₁.wf (fun _ _ _ h=>h) ?_ ?_⟩
 ·intro i H' Q' hi k' hq
  refine ⟨by lia,pow_fits (by decide) (by lia),by have:=p2 i; show (2:Int) ^ i≠0; lia,noPy ?_,by decide,?_⟩
  ·show ((2:Int) ^ i).natAbs < 2 ^ 1000
   rw [Int.natAbs_pow]
   exact Nat.pow_lt_pow_right (by decide) (by lia)
  ·rw [fmod_pos (by decide),fdiv_pos (show (0:Int) < 2 ^ ((i:Int)).toNat from p2 i)]
   exact hq H' k'
 ·intro H₂ k₂
  refine new_ok k₂.wf fun l₃ H₃ k₃ n₃ g₃=>⟨_,g₃,by simp,(List.range 8).map fun i=>r / 2 ^ i % 2,allInts_map _,?_⟩
  generalize hm:((List.range 8).map fun i=>r / 2 ^ i % 2).sum = m
  have hm:many8 r = m:=hm
  replace q:=fun H' l=>q H' l r rfl
  rw [hm] at q
  clear hm g₃
  show vSs (TT scr) (W scr k) (c_law_added.drop 5) [some (.int a),some (.int b),some (.int g),some (.int n),some (.int (a + g * b)),some (.int M),some (.int r),some (.int (sgn a M)),some (.int (sgn b M)),some (.int (lfar a b g M)),some (.int (lhalf a b g)),some (.int m),none] H₃ (fun _ H=>Q .none H) Q
  refine ⟨by decide,vor_ok (c:=decide (lhalf a b g < 0)) (d:=decide (lhalf a b g > 15)) (fun P hp=>hp) (fun P hp=>hp) ⟨h29 r,new_ok k₃.wf fun l₄ H₄ k₄ n₄ g₄=>?_⟩⟩
  rw [fmod_pos (by decide)] at g₄
  show vSs (TT scr) (W scr k) (c_law_added.drop 6) [some (.int a),some (.int b),some (.int g),some (.int n),some (.int (a + g * b)),some (.int M),some (.int r),some (.int (sgn a M)),some (.int (sgn b M)),some (.int (lfar a b g M)),some (.int (lhalf a b g)),some (.int m),some (.ref l₄)] H₄ (fun _ H=>Q .none H) Q
  refine vor_ok (c:=decide (2 * lfar a b g M < -M)) (d:=decide (2 * lfar a b g M ≥ M)) (fun P hp=>⟨h29 _,hp⟩) (fun P hp=>⟨h29 _,hp⟩) (new_ok k₄.wf fun l₅ H₅ k₅ n₅ g₅=>⟨_,_,k₅.kp _ _ g₄ (by simp),g₅,by simp,new_ok k₅.wf fun l₆ H₆ k₆ n₆ g₆=>.inl ⟨_,g₆,by simp,?_⟩⟩)
  refine compG2 _ (fun v=>match v with | .bool c=>.int (b01 c) | v=>v) k₆.wf (fun _ _ _ h=>h) (fun H' k'=>k'.kp _ _ g₆ (by simp)) ?_ ?_
  ·intro v hv H' Q' k' hq
   simp only [List.mem_append,List.mem_cons,List.not_mem_nil,or_false] at hv
   obtain ⟨c,rfl⟩:∃ c,v = .bool c:=by
    rcases hv with (rfl | rfl | rfl | rfl | rfl) | rfl <;> exact ⟨_,rfl⟩
   exact hq H' k'
  ·intro H₇ k₇
   have kk:Kp [] H H₇:=(((((k₁.trans k₂).trans k₃).trans k₄).trans k₅).trans k₆).trans k₇
   refine new_ok k₇.wf fun l₈ H₈ k₈ n₈ g₈=>q H₈ l₈ (kk.trans k₈) (fresh_back kk n₈ (by simp)) ?_
   rw [g₈]
   have e:(true ^^ decide (a + g * b = r)) = decide (a + g * b≠r):=by by_cases h:a + g * b = r <;> simp [h]
   have e2:∀ c,(false ^^ c) = c:=fun c=>by cases c <;> rfl
   show some (O.list [.int (b01 (true ^^ decide (a + g * b = r))),.int (b01 (false ^^ decide (m % 2 = 0))),.int (b01 (decide (lhalf a b g < 0) || decide (lhalf a b g > 15))),.int (b01 (false ^^ decide (r = 0))),.int (b01 (decide (M≤2 * r))),.int (b01 (decide (2 * lfar a b g M < -M) || decide (2 * lfar a b g M ≥ M)))]) = _
   rw [e,e2,e2]
theorem dv {x P:Int} (hP:0 < P) (h0:0≤x) (h1:x < 2 * P):x / P = b01 (decide (P≤x)):=by
 have a:=@Int.le_ediv_iff_mul_le 1 x P hP
 have b:=@Int.ediv_lt_iff_lt_mul x 2 P hP
 have c:=Int.ediv_nonneg h0 (Int.le_of_lt hP)
 by_cases h:P≤x
 ·rw [decide_eq_true h]; show x / P = 1; lia
 ·rw [decide_eq_false h]; show x / P = 0; lia
theorem tb {x P:Int} (hP:0 < P) (h0:0≤x) (h1:x < 2 * P):decide (x / P % 2 = 1) = decide (P≤x):=by
 rw [dv hP h0 h1]
 by_cases h:P≤x
 ·rw [decide_eq_true h]; rfl
 ·rw [decide_eq_false h]; rfl
theorem halves {n:Int} (hz:Sz n):∃ P:Int,0 < P∧(2:Int) ^ n.toNat = 2 * P∧(2:Int) ^ (n - 1).toNat = P:=by
 rcases hz with rfl | rfl | rfl | rfl <;> exact ⟨_,by decide,rfl,rfl⟩
theorem b01_eq {c d:Bool} (h:(c = true) ↔ (d = true)):V.int (b01 c) = V.int (b01 d):=by rw [Bool.eq_iff_iff.mpr h]
theorem dne {p q:Prop} [Decidable p] [Decidable q]:((decide p != decide q) = true) ↔ ¬ (p ↔ q):=by by_cases h:p <;> by_cases g:q <;> simp [h,g]
theorem add_marks {σ:Mst} {a b n:Int} (hz:Sz n) (a0:0≤a) (a1:a < 2 ^ n.toNat) (b0:0≤b) (b1:b < 2 ^ n.toNat) :
  [.int (b01 (decide (a + 1 * b≠(a + 1 * b) % 2 ^ n.toNat))),.int (b01 (decide (many8 ((a + 1 * b) % 2 ^ n.toNat) % 2 = 0))),.int (b01 (decide (lhalf a b 1 < 0) || decide (lhalf a b 1 > 15))),
    .int (b01 (decide ((a + 1 * b) % 2 ^ n.toNat = 0))),.int (b01 (decide (2 * ((a + 1 * b) % 2 ^ n.toNat) ≥ 2 ^ n.toNat))),.int (b01 (decide (2 * lfar a b 1 (2 ^ n.toNat) < -2 ^ n.toNat) || decide (2 * lfar a b 1 (2 ^ n.toNat) ≥ 2 ^ n.toNat)))] = flV (addFl σ a b n):=by
 have hM:(0:Int) < 2 ^ n.toNat:=p2 _
 obtain ⟨P,hP,e1,e2⟩:=halves hz
 rw [e1] at a1 b1 hM
 have hr0:0≤(a + b) % (2 * P):=Int.emod_nonneg _ (by lia)
 have hr1:(a + b) % (2 * P) < 2 * P:=Int.emod_lt_of_pos _ hM
 simp only [flV,addFl,Int.one_mul]
 rw [e1,e2]
 have tbs:=top_bits (m:=(n - 1).toNat) a0 b0 hr0 _ hr0
 rw [e2] at tbs
 rw [par_law hr0,tbs]
 have hr:(a + b) % (2 * P) = if 2 * P≤a + b then a + b - 2 * P else a + b:=by
  split
  ·rw [← Int.sub_emod_right,Int.emod_eq_of_lt (by lia) (by lia)]
  ·exact Int.emod_eq_of_lt (by lia) (by lia)
 generalize (a + b) % (2 * P) = r at *
 rw [tb hP a0 (by lia),tb hP b0 (by lia),tb hP hr0 hr1,dv (show (0:Int) < 2 * P by lia) (by lia) (by lia),dv hP hr0 hr1]
 have x1:V.int (b01 (decide (a + b≠r))) = V.int (b01 (decide (2 * P≤a + b))):=b01_eq (by rw [decide_eq_true_eq,decide_eq_true_eq]; split at hr <;> lia)
 have x3:V.int (b01 (decide (lhalf a b 1 < 0) || decide (lhalf a b 1 > 15))) = V.int ((a % 16 + b % 16) / 16):=by
  unfold lhalf
  by_cases h:a % 16 + 1 * (b % 16) > 15
  ·rw [decide_eq_true h,Bool.or_true]; show V.int 1 = _; congr 1; lia
  ·rw [decide_eq_false h,Bool.or_false,decide_eq_false (by lia)]; show V.int 0 = _; congr 1; lia
 have x5:V.int (b01 (decide (2 * r ≥ 2 * P))) = V.int (b01 (decide (P≤r)) % 2):=by
  by_cases h:P≤r
  ·rw [decide_eq_true h,decide_eq_true (by lia)]; rfl
  ·rw [decide_eq_false h,decide_eq_false (by lia)]; rfl
 have x6:V.int (b01 (decide (2 * lfar a b 1 (2 * P) < -(2 * P)) || decide (2 * lfar a b 1 (2 * P) ≥ 2 * P))) = V.int (b01 ((decide (P≤a) != decide (P≤r)) && (decide (P≤b) != decide (P≤r)))):=b01_eq (by
  rw [Bool.or_eq_true,Bool.and_eq_true,dne,dne,decide_eq_true_eq,decide_eq_true_eq]
  unfold lfar sgn
  split at hr <;> split <;> split <;> lia)
 rw [x1,x3,x5,x6]
 rfl
theorem sub_marks {σ:Mst} {a b n:Int} (hz:Sz n) (a0:0≤a) (a1:a < 2 ^ n.toNat) (b0:0≤b) (b1:b < 2 ^ n.toNat) :
  [.int (b01 (decide (a + -1 * b≠(a + -1 * b) % 2 ^ n.toNat))),.int (b01 (decide (many8 ((a + -1 * b) % 2 ^ n.toNat) % 2 = 0))),.int (b01 (decide (lhalf a b (-1) < 0) || decide (lhalf a b (-1) > 15))),
    .int (b01 (decide ((a + -1 * b) % 2 ^ n.toNat = 0))),.int (b01 (decide (2 * ((a + -1 * b) % 2 ^ n.toNat) ≥ 2 ^ n.toNat))),.int (b01 (decide (2 * lfar a b (-1) (2 ^ n.toNat) < -2 ^ n.toNat) || decide (2 * lfar a b (-1) (2 ^ n.toNat) ≥ 2 ^ n.toNat)))] = flV (subFl σ a b n):=by
 have hM:(0:Int) < 2 ^ n.toNat:=p2 _
 rw [show a + -1 * b = a - b by lia]
 obtain ⟨P,hP,e1,e2⟩:=halves hz
 rw [e1] at a1 b1 hM
 have hr0:0≤(a - b) % (2 * P):=Int.emod_nonneg _ (by lia)
 have hr1:(a - b) % (2 * P) < 2 * P:=Int.emod_lt_of_pos _ hM
 simp only [flV,subFl]
 rw [e1,e2]
 have tbs:=top_bits (m:=(n - 1).toNat) a0 a0 b0 _ hr0
 rw [e2] at tbs
 rw [par_law hr0,tbs]
 have hr:(a - b) % (2 * P) = if a - b < 0 then a - b + 2 * P else a - b:=by
  split
  ·rw [← Int.add_emod_right,Int.emod_eq_of_lt (by lia) (by lia)]
  ·exact Int.emod_eq_of_lt (by lia) (by lia)
 generalize (a - b) % (2 * P) = r at *
 rw [tb hP a0 (by lia),tb hP b0 (by lia),tb hP hr0 hr1,dv hP hr0 hr1]
 have x1:V.int (b01 (decide (a - b≠r))) = V.int (b01 (decide (a - b < 0))):=b01_eq (by rw [decide_eq_true_eq,decide_eq_true_eq]; split at hr <;> lia)
 have x3:V.int (b01 (decide (lhalf a b (-1) < 0) || decide (lhalf a b (-1) > 15))) = V.int (b01 (decide (a % 16 - b % 16 < 0))):=b01_eq (by
  rw [Bool.or_eq_true,decide_eq_true_eq,decide_eq_true_eq,decide_eq_true_eq]; unfold lhalf; lia)
 have x5:V.int (b01 (decide (2 * r ≥ 2 * P))) = V.int (b01 (decide (P≤r)) % 2):=by
  by_cases h:P≤r
  ·rw [decide_eq_true h,decide_eq_true (by lia)]; rfl
  ·rw [decide_eq_false h,decide_eq_false (by lia)]; rfl
 have x6:V.int (b01 (decide (2 * lfar a b (-1) (2 * P) < -(2 * P)) || decide (2 * lfar a b (-1) (2 * P) ≥ 2 * P))) = V.int (b01 ((decide (P≤a) != decide (P≤b)) && (decide (P≤a) != decide (P≤r)))):=b01_eq (by
  rw [Bool.or_eq_true,Bool.and_eq_true,dne,dne,decide_eq_true_eq,decide_eq_true_eq]
  unfold lfar sgn
  split at hr <;> split <;> split <;> lia)
 rw [x1,x3,x5,x6]
 rfl
end
end Mine
end
section
open PySem PySem.W PyProof.Rows Hd
namespace Mine
noncomputable def plc (σ:Mst) (plain:Bool):Opd→Int
 | .m b i sc far seg=>lplaceV σ plain b i sc far seg
 | _=>0
section
variable {scr:Addr→Option (List V)} {k:Nat} {H:AH} {Q:KV} {L:W4} {σ:Mst}
theorem Kp.keepL {H H':AH} {L:W4} {σ:Mst} {ls:Nat} {x y:V} (M:Wch H L σ) (h:H.get ls = some (.list [x,y])) (hq:ls≠L.q) (k:Kp [L.q,L.e,L.w] H H'):H'.get ls = some (.list [x,y]):=by
 obtain ⟨a,e1,_,_⟩:=M.hW
 refine k.kp _ _ h fun q=>?_
 simp only [List.mem_cons,List.not_mem_nil,or_false] at q
 rcases q with q | q | q
 ·exact hq q
 ·exact get_ne h M.hE (fun q=>by cases q) q
 ·exact get_ne h e1 (fun q=>by cases q) q
theorem place_elt {nm:Str} {size:Int} {o:Opd} {P:KV} {plain:Bool} (hpl:(false ^^ sbeq nm t_lea) = plain) (M:Wch H L σ) (hr:RgOK σ.rg) (ho:OpdOK size o) (q:∀ H',Kp [] H H'→P (.int (plc σ plain o)) H') :
  vE (TT scr) (W scr (k + 1)) (.ite (.cmp .Eq (.item (.var 0) (.lit (.int 0))) (.lit (.str t_m))) (.call (.glob 885) [(.var 2),.var 0,(.cmp .Eq (.var 1) (.lit (.str t_lea)))]) (.lit (.int 0)))
   [some (toldV size o),some (.str nm),some (.ref L.w)] H P:=by
 cases o with
 | r n=>exact q H (Kp.refl M.wf)
 | h n=>exact q H (Kp.refl M.wf)
 | m b i sc far seg =>
  show W scr (k + 1) 885 [.ref L.w,toldV size (.m b i sc far seg),.bool (false ^^ sbeq nm t_lea)] H P
  rw [hpl]
  exact lplace_ok M hr ho q
theorem do_head {nm:Str} {size:Int} {o₁ o₂:Opd} {ls:Nat} {plain:Bool} (hpl:(false ^^ sbeq nm t_lea) = plain) (M:Wch H L σ) (hr:RgOK σ.rg) (h₁:OpdOK size o₁) (h₂:OpdOK size o₂) (hl:H.get ls = some (.list [toldV size o₁,toldV size o₂]))
  (q:∀ H' lp,Kp [] H H'→H.get lp = none→H'.get lp = some (.list [.int (plc σ plain o₁),.int (plc σ plain o₂)]) →
   vSs (TT scr) (W scr (k + 1)) (c_law_do.drop 2) [some (.ref L.w),some (.tup [.str nm,.int size,.ref ls]),some (.str nm),some (.int size),some (.ref ls),some (.ref lp),none,none,none,none,none] H' (fun _ H=>Q .none H) Q) :
  W scr (k + 2) 907 [.ref L.w,.tup [.str nm,.int size,.ref ls]] H Q:=by
 refine sp_go (i:=i_law_do) rfl e_c_law_do rfl ?_
 refine .inl ⟨_,hl,by simp,hl,place_elt hpl M hr h₁ fun H₁ k₁=>⟨k₁.kp _ _ hl (by simp),place_elt hpl (M.kp0 k₁) hr h₂ fun H₂ k₂=>⟨k₂.kp _ _ (k₁.kp _ _ hl (by simp)) (by simp),new_ok k₂.wf fun lp H₃ k₃ n₃ g₃=>?_⟩⟩⟩
 have kk:=k₁.trans k₂
 exact q H₃ lp (kk.trans k₃) (fresh_back kk n₃ (by simp)) g₃
theorem do_lea {size n b i sc far:Int} {seg:Str} {ls:Nat} (hz:Sz size) (M:Wch H L σ) (hr:RgOK σ.rg) (hn:σ.mm.length≤800) (h₁:OpdOK size (.r n)) (h₂:OpdOK size (.m b i sc far seg))
  (hl:H.get ls = some (.list [toldV size (.r n),toldV size (.m b i sc far seg)])) (hq:ls≠L.q) (q:∀ H',Kp [L.q,L.e,L.w] H H'→Wch H' L (wrV σ size (offV σ b i sc far) (.r n))→Q .none H') :
  W scr (k + 2) 907 [.ref L.w,.tup [.str t_lea,.int size,.ref ls]] H Q:=by
 obtain ⟨z0,z1,z2,z3,z4⟩:=sz_facts hz
 have fz:(Builtin.Int.intBits 2:Int) * size≤2 ^ 27:=by have:=pow_fits (b:=2) (n:=size.toNat) (by decide) (by lia); rw [show ((size.toNat:Nat):Int) = size by lia] at this; exact this
 refine do_head (plain:=true) rfl M hr h₁ h₂ hl fun H₁ lp k₁ n₁ g₁=>?_
 have M₁:=M.kp0 k₁
 have hl₁:=k₁.kp _ _ hl (by simp)
 refine gi_n hl₁ (by decide) (by decide) rfl (gi_n g₁ (by decide) (by decide) rfl ⟨by lia,fz,by have:=p2 size.toNat; lia,?_⟩)
 show W scr (k + 1) 897 [.ref L.w,toldV size (.r n),.int 0,.int size,.int ((offV σ b i sc far).fmod (2 ^ size.toNat))] H₁ _
 rw [fmod_pos (p2 _)]
 refine lput_ok hz M₁ hr hn h₁ (Int.emod_nonneg _ (Int.ne_of_gt (p2 _))) (Int.emod_lt_of_pos _ (p2 _)) fun H₂ k₂ M₂=>q H₂ ((k₁.nil).trans (k₂.mono (by simp))) ?_
 have e:wrP σ size (offV σ b i sc far % 2 ^ size.toNat) (.r n) 0 = wrV σ size (offV σ b i sc far) (.r n):=by
  rw [show wrP σ size (offV σ b i sc far % 2 ^ size.toNat) (.r n) 0 = wrV σ size (offV σ b i sc far % 2 ^ size.toNat) (.r n) from rfl]
  simp only [wrV]
  rw [Int.emod_emod_of_dvd _ (Int.dvd_refl _)]
 rw [← e]; exact M₂
theorem plc_m {p:Int} {o:Opd} (hp:p = plc σ false o):∀ b i sc far seg,o = .m b i sc far seg→p = placeV σ b i sc far seg:=fun b i sc far seg e=>by subst e; exact hp
theorem lrdV_bd {size:Int} {op:Opd} (hz:Sz size) (hc:Oct σ.mm) (h:OpdOK size op):0≤rdV σ size op∧rdV σ size op < 2 ^ size.toNat:=by
 cases op with
 | r n=>exact ⟨Int.emod_nonneg _ (Int.ne_of_gt (p2 _)),Int.emod_lt_of_pos _ (p2 _)⟩
 | h n=>obtain ⟨_,_,rfl⟩:=h; exact ⟨Int.emod_nonneg _ (by decide),Int.emod_lt_of_pos _ (by decide)⟩
 | m b i sc far seg=>have:=mrd_bd hc (placeV σ b i sc far seg) (size / 8).toNat; rw [(sz_facts hz).2.2.2.2] at this; exact this
theorem do_two {nm:Str} {size:Int} {o₁ o₂:Opd} {ls:Nat} (hz:Sz size) (hpl:sbeq nm t_lea = false) (M:Wch H L σ) (hr:RgOK σ.rg) (hc:Oct σ.mm) (h₁:OpdOK size o₁) (h₂:OpdOK size o₂) (hl:H.get ls = some (.list [toldV size o₁,toldV size o₂]))
  (q:∀ H' lp,Kp [] H H'→H.get lp = none→H'.get lp = some (.list [.int (plc σ false o₁),.int (plc σ false o₂)]) →
   vSs (TT scr) (W scr (k + 1)) (c_law_do.drop 4) [some (.ref L.w),some (.tup [.str nm,.int size,.ref ls]),some (.str nm),some (.int size),some (.ref ls),some (.ref lp),some (.int (rdV σ size o₁)),some (.int (rdV σ size o₂)),none,none,none] H' (fun _ H=>Q .none H) Q) :
  W scr (k + 2) 907 [.ref L.w,.tup [.str nm,.int size,.ref ls]] H Q:=by
 refine do_head (plain:=false) (by rw [hpl]; rfl) M hr h₁ h₂ hl fun H₁ lp k₁ n₁ g₁=>?_
 have M₁:=M.kp0 k₁
 have hl₁:=k₁.kp _ _ hl (by simp)
 refine br_f (by rw [hpl]; rfl) (gi_n hl₁ (by decide) (by decide) rfl (gi_n g₁ (by decide) (by decide) rfl ?_))
 refine lget_ok hz M₁ hr hc h₁ (plc_m rfl) fun H₂ k₂=>?_
 have M₂:=M₁.kp0 k₂
 refine gi_n (k₂.kp _ _ hl₁ (by simp)) (by decide) (by decide) rfl (gi_n (k₂.kp _ _ g₁ (by simp)) (by decide) (by decide) rfl ?_)
 refine lget_ok hz M₂ hr hc h₂ (plc_m rfl) fun H₃ k₃=>?_
 exact q H₃ lp ((k₁.trans k₂).trans k₃) n₁ (k₃.kp _ _ (k₂.kp _ _ g₁ (by simp)) (by simp))
theorem si_s' {l:Nat} {i:Str} {es:List (Str × V)} {v:V} {P:AH→Prop} (w:WF H) (h:H.get l = some (.ds es)) (h1:Nat.ble es.length 1000 = true)
  (q:∀ H',Kp [l] H H'→H'.get l = some (.ds (sput i v es))→P H'):opSetItem (.ref l) (.str i) v H P:=si_s w h h1 q
theorem one_put {size p wo:Int} {o:Opd} {ls lp:Nat} {x₁ x₂ y₁ y₂:V} {P:V→AH→Prop} {H₀:AH} {τ:Mst} (hz:Sz size) (M:Wch H L τ) (hr:RgOK τ.rg) (hn:τ.mm.length≤800) (ho:OpdOK size o) (w0:0≤wo) (w1:wo < 2 ^ size.toNat)
  (hl:H.get ls = some (.list [x₁,x₂])) (hp:H.get lp = some (.list [y₁,y₂])) (hq:ls≠L.q) (hq':lp≠L.q)
  (q:∀ H',Kp [L.q,L.e,L.w] H H'→Wch H' L (wrP τ size wo o p)→H'.get ls = some (.list [x₁,x₂])→H'.get lp = some (.list [y₁,y₂])→P .none H'):W scr (k + 1) 897 [.ref L.w,toldV size o,.int p,.int size,.int wo] H P :=
 lput_ok hz M hr hn ho w0 w1 fun H' k' M'=>have k':Kp [L.q,L.e,L.w] H H':=k'.mono (by simp)
  q H' k' M' (Kp.keepL M hl hq k') (Kp.keepL M hp hq' k')
theorem wrP_eq {σ τ:Mst} {size wo:Int} {o:Opd} (h:isM o = false∨(σ.rg = τ.rg∧σ.rip = τ.rip∧σ.fs = τ.fs∧σ.gs = τ.gs)):wrP τ size wo o (plc σ false o) = wrV τ size wo o:=by
 cases o with
 | m b i sc far seg =>
  rcases h with h | ⟨h1,h2,h3,h4⟩
  ·cases h
  ·show { τ with mm:=mwr τ.mm (placeV σ b i sc far seg) wo (size / 8).toNat } = { τ with mm:=mwr τ.mm (placeV τ b i sc far seg) wo (size / 8).toNat }
   have:placeV σ b i sc far seg = placeV τ b i sc far seg:=by unfold placeV offV baseV segV; rw [h1,h2,h3,h4]
   rw [this]
 | _=>rfl
theorem swapV {σ τ:Mst} {size u v:Int} {o₁ o₂:Opd} (h₁:isM o₁ = false) (h₂:isM o₂ = true) (e:σ.rg = τ.rg∧σ.rip = τ.rip∧σ.fs = τ.fs∧σ.gs = τ.gs):wrP (wrV τ size u o₁) size v o₂ (plc σ false o₂) = wrV (wrV τ size v o₂) size u o₁:=by
 obtain ⟨e1,e2,e3,e4⟩:=e
 cases o₂ with
 | m b i sc far seg =>
  have:placeV σ b i sc far seg = placeV τ b i sc far seg:=by unfold placeV offV baseV segV; rw [e1,e2,e3,e4]
  cases o₁ with
  | m=>cases h₁
  | r n=>show ({ τ with rg:=_,mm:=mwr τ.mm (placeV σ b i sc far seg) v (size / 8).toNat }:Mst) = { τ with rg:=_,mm:=mwr τ.mm (placeV τ b i sc far seg) v (size / 8).toNat }; rw [this]; rfl
  | h n=>show ({ τ with rg:=_,mm:=mwr τ.mm (placeV σ b i sc far seg) v (size / 8).toNat }:Mst) = { τ with rg:=_,mm:=mwr τ.mm (placeV τ b i sc far seg) v (size / 8).toNat }; rw [this]; rfl
 | _=>cases h₂
theorem do_mov {size:Int} {o₁ o₂:Opd} {ls:Nat} (hz:Sz size) (M:Wch H L σ) (hr:RgOK σ.rg) (hc:Oct σ.mm) (hn:σ.mm.length≤800) (h₁:OpdOK size o₁) (h₂:OpdOK size o₂) (hl:H.get ls = some (.list [toldV size o₁,toldV size o₂])) (hq:ls≠L.q)
  (q:∀ H',Kp [L.q,L.e,L.w] H H'→Wch H' L (wrV σ size (rdV σ size o₂) o₁)→Q .none H'):W scr (k + 2) 907 [.ref L.w,.tup [.str t_mov,.int size,.ref ls]] H Q:=by
 refine do_two hz rfl M hr hc h₁ h₂ hl fun H₁ lp k₁ n₁ g₁=>?_
 have M₁:=M.kp0 k₁
 have hl₁:=k₁.kp _ _ hl (by simp)
 have hq':lp≠L.q:=fun e=>by rw [e,M.hQ] at n₁; cases n₁
 obtain ⟨b0,b1⟩:=lrdV_bd hz hc h₂
 refine gi_n hl₁ (by decide) (by decide) rfl (gi_n g₁ (by decide) (by decide) rfl ?_)
 refine one_put (H₀:=H) hz M₁ hr hn h₁ b0 b1 hl₁ g₁ hq hq' fun H₂ k₂ M₂ _ _=>q H₂ ((k₁.nil).trans k₂) ?_
 rw [wrP_eq (.inr ⟨rfl,rfl,rfl,rfl⟩)] at M₂; exact M₂
theorem do_xchg {size:Int} {o₁ o₂:Opd} {ls:Nat} (hz:Sz size) (M:Wch H L σ) (hr:RgOK σ.rg) (hc:Oct σ.mm) (hn:σ.mm.length≤700) (h₁:OpdOK size o₁) (h₂:OpdOK size o₂) (hm:isM o₁ = false∨isM o₂ = false) (hl:H.get ls = some (.list [toldV size o₁,toldV size o₂])) (hq:ls≠L.q)
  (q:∀ H',Kp [L.q,L.e,L.w] H H'→Wch H' L (xchgV σ size o₁ o₂)→Q .none H'):W scr (k + 2) 907 [.ref L.w,.tup [.str t_xchg,.int size,.ref ls]] H Q:=by
 refine do_two hz rfl M hr hc h₁ h₂ hl fun H₁ lp k₁ n₁ g₁=>?_
 have M₁:=M.kp0 k₁
 have hl₁:=k₁.kp _ _ hl (by simp)
 have hq':lp≠L.q:=fun e=>by rw [e,M.hQ] at n₁; cases n₁
 obtain ⟨a0,a1⟩:=lrdV_bd hz hc h₁
 obtain ⟨b0,b1⟩:=lrdV_bd hz hc h₂
 refine gi_n hl₁ (by decide) (by decide) rfl (gi_n g₁ (by decide) (by decide) rfl ?_)
 refine one_put (H₀:=H) hz M₁ hr (by lia) h₁ b0 b1 hl₁ g₁ hq hq' fun H₂ k₂ M₂ hl₂ g₂=>?_
 rw [wrP_eq (.inr ⟨rfl,rfl,rfl,rfl⟩)] at M₂
 refine gi_n hl₂ (by decide) (by decide) rfl (gi_n g₂ (by decide) (by decide) rfl ?_)
 refine one_put (H₀:=H) hz M₂ (wrV_rg hz hr b0 b1) (Nat.le_trans (wrV_mm hz) (by lia)) h₂ a0 a1 hl₂ g₂ hq hq' fun H₃ k₃ M₃ _ _=>q H₃ ((k₁.nil).trans (k₂.trans k₃)) ?_
 unfold xchgV
 cases e2:isM o₂ with
 | true =>
  have e1:isM o₁ = false:=by rcases hm with h | h; exact h; rw [e2] at h; cases h
  rw [if_pos rfl,← swapV (σ:=σ) e1 e2 ⟨rfl,rfl,rfl,rfl⟩]
  exact M₃
 | false =>
  rw [wrP_eq (.inl e2)] at M₃
  exact M₃
theorem do_xadd {size:Int} {o₁ o₂:Opd} {ls:Nat} (hz:Sz size) (M:Wch H L σ) (hr:RgOK σ.rg) (hc:Oct σ.mm) (hn:σ.mm.length≤700) (h₁:OpdOK size o₁) (h₂:OpdOK size o₂) (hm:isM o₂ = false) (hl:H.get ls = some (.list [toldV size o₁,toldV size o₂])) (hq:ls≠L.q)
  (q:∀ H',Kp [L.q,L.e,L.w] H H'→Wch H' L (xaddV σ size o₁ o₂)→Q .none H'):W scr (k + 2) 907 [.ref L.w,.tup [.str t_xadd,.int size,.ref ls]] H Q:=by
 refine do_two hz rfl M hr hc h₁ h₂ hl fun H₁ lp k₁ n₁ g₁=>?_
 have M₁:=M.kp0 k₁
 have hl₁:=k₁.kp _ _ hl (by simp)
 have hq':lp≠L.q:=fun e=>by rw [e,M.hQ] at n₁; cases n₁
 obtain ⟨a0,a1⟩:=lrdV_bd hz hc h₁
 obtain ⟨b0,b1⟩:=lrdV_bd hz hc h₂
 refine added_ok hz M₁.wf (.inl rfl) a0 a1 b0 b1 fun H₂ la r hrr k₂ n₂ g₂=>?_
 subst hrr
 rw [add_marks (σ:=σ) hz a0 a1 b0 b1] at g₂
 have M₂:=M₁.kp0 k₂
 obtain ⟨a,e1,_,_⟩:=M₂.hW
 refine si_s' M₂.wf e1 rfl fun H₃ k₃ g₃=>?_
 have hqa:la ∉ L.av:=fun e=>M₁.al _ e n₂
 have M₃:Wch H₃ L (addFl σ (rdV σ size o₁) (rdV σ size o₂) size):=M₂.setW k₃ g₂ hqa g₃
 have kk:Kp [L.q,L.e,L.w] H H₃:=(k₁.nil).trans ((k₂.nil).trans (k₃.mono (by simp)))
 have kk₁:Kp [L.q,L.e,L.w] H₁ H₃:=(k₂.nil).trans (k₃.mono (by simp))
 have hl₃:=Kp.keepL M₁ hl₁ hq kk₁
 have g₃':=Kp.keepL M₁ g₁ hq' kk₁
 have r0:0≤(rdV σ size o₁ + rdV σ size o₂) % 2 ^ size.toNat:=Int.emod_nonneg _ (Int.ne_of_gt (p2 _))
 have r1:(rdV σ size o₁ + rdV σ size o₂) % 2 ^ size.toNat < 2 ^ size.toNat:=Int.emod_lt_of_pos _ (p2 _)
 rw [Int.one_mul]
 refine gi_n hl₃ (by decide) (by decide) rfl (gi_n g₃' (by decide) (by decide) rfl ?_)
 refine one_put (H₀:=H) hz M₃ hr (by show σ.mm.length≤800; lia) h₂ a0 a1 hl₃ g₃' hq hq' fun H₄ k₄ M₄ hl₄ g₄=>?_
 rw [wrP_eq (.inl hm)] at M₄
 refine gi_n hl₄ (by decide) (by decide) rfl (gi_n g₄ (by decide) (by decide) rfl ?_)
 refine one_put (H₀:=H) hz M₄ (wrV_rg hz (σ:=addFl σ _ _ _) hr a0 a1) (Nat.le_trans (wrV_mm hz) (by show σ.mm.length + 8≤800; lia)) h₁ r0 r1 hl₄ g₄ hq hq' fun H₅ k₅ M₅ _ _=>q H₅ (kk.trans (k₄.trans k₅)) ?_
 unfold xaddV
 cases e1:isM o₁ with
 | true =>
  have:=swapV (σ:=σ) (τ:=addFl σ (rdV σ size o₁) (rdV σ size o₂) size) (size:=size) (u:=rdV σ size o₁) (v:=(rdV σ size o₁ + rdV σ size o₂) % 2 ^ size.toNat) hm e1 ⟨rfl,rfl,rfl,rfl⟩
  rw [this] at M₅; exact M₅
 | false =>
  rw [wrP_eq (.inl e1)] at M₅
  exact M₅
theorem do_cmpx {size:Int} {o₁ o₂:Opd} {ls:Nat} (hz:Sz size) (M:Wch H L σ) (hr:RgOK σ.rg) (hc:Oct σ.mm) (hn:σ.mm.length≤700) (h₁:OpdOK size o₁) (h₂:OpdOK size o₂) (hl:H.get ls = some (.list [toldV size o₁,toldV size o₂])) (hq:ls≠L.q)
  (q:∀ H',Kp [L.q,L.e,L.w] H H'→Wch H' L (cmpxV σ size o₁ o₂)→Q .none H'):W scr (k + 2) 907 [.ref L.w,.tup [.str t_cmpxchg,.int size,.ref ls]] H Q:=by
 obtain ⟨z0,z1,z2,z3,z4⟩:=sz_facts hz
 have fz:(Builtin.Int.intBits 2:Int) * size≤2 ^ 27:=by have:=pow_fits (b:=2) (n:=size.toNat) (by decide) (by lia); rw [show ((size.toNat:Nat):Int) = size by lia] at this; exact this
 refine do_two hz rfl M hr hc h₁ h₂ hl fun H₁ lp k₁ n₁ g₁=>?_
 have M₁:=M.kp0 k₁
 have hl₁:=k₁.kp _ _ hl (by simp)
 have hq':lp≠L.q:=fun e=>by rw [e,M.hQ] at n₁; cases n₁
 obtain ⟨a0,a1⟩:=lrdV_bd hz hc h₁
 obtain ⟨b0,b1⟩:=lrdV_bd hz hc h₂
 obtain ⟨wa,we,_,_⟩:=M₁.hW
 have h0:OpdOK size (.r 0):=⟨by decide,by decide⟩
 obtain ⟨c0,c1⟩:=lrdV_bd (σ:=σ) hz hc h0
 refine gs_ we rfl (gi_n M₁.hQ (by decide) (by decide) (rg_get hr.1 (by decide) (by decide)) ⟨by lia,fz,by have:=p2 size.toNat; lia,?_⟩)
 rw [fmod_pos (p2 _),show rgAt σ.rg 0 % 2 ^ size.toNat = rdV σ size (.r 0) from rfl]
 refine added_ok hz M₁.wf (.inr rfl) c0 c1 a0 a1 fun H₂ la r hrr k₂ n₂ g₂=>?_
 subst hrr
 rw [sub_marks (σ:=σ) hz c0 c1 a0 a1] at g₂
 rw [show rdV σ size (.r 0) + -1 * rdV σ size o₁ = rdV σ size (.r 0) - rdV σ size o₁ by lia]
 have M₂:=M₁.kp0 k₂
 obtain ⟨a,e1,_,_⟩:=M₂.hW
 refine si_s' M₂.wf e1 rfl fun H₃ k₃ g₃=>?_
 have hqa:la ∉ L.av:=fun e=>M₁.al _ e n₂
 have M₃:Wch H₃ L (subFl σ (rdV σ size (.r 0)) (rdV σ size o₁) size):=M₂.setW k₃ g₂ hqa g₃
 have kk:Kp [L.q,L.e,L.w] H H₃:=(k₁.nil).trans ((k₂.nil).trans (k₃.mono (by simp)))
 have kk₁:Kp [L.q,L.e,L.w] H₁ H₃:=(k₂.nil).trans (k₃.mono (by simp))
 have hl₃:=Kp.keepL M₁ hl₁ hq kk₁
 have g₃':=Kp.keepL M₁ g₁ hq' kk₁
 unfold cmpxV at q
 by_cases hr0:(rdV σ size (.r 0) - rdV σ size o₁) % 2 ^ size.toNat = 0
 ·rw [if_pos hr0] at q
  refine br_t (by show (false ^^ decide ((rdV σ size (.r 0) - rdV σ size o₁) % 2 ^ size.toNat = 0)) = true; rw [hr0]; rfl) (gi_n hl₃ (by decide) (by decide) rfl (gi_n g₃' (by decide) (by decide) rfl ?_))
  refine one_put (H₀:=H) hz M₃ hr (by show σ.mm.length≤800; lia) h₁ b0 b1 hl₃ g₃' hq hq' fun H₄ k₄ M₄ hl₄ g₄=>q H₄ (kk.trans k₄) ?_
  rw [wrP_eq (σ:=σ) (τ:=subFl σ (rdV σ size (.r 0)) (rdV σ size o₁) size) (.inr ⟨rfl,rfl,rfl,rfl⟩)] at M₄; exact M₄
 ·rw [if_neg hr0] at q
  refine br_f (by show (false ^^ decide ((rdV σ size (.r 0) - rdV σ size o₁) % 2 ^ size.toNat = 0)) = false; rw [decide_eq_false hr0]; rfl) ?_
  exact one_put (o:=.r 0) (H₀:=H) hz M₃ hr (by show σ.mm.length≤800; lia) h0 a0 a1 hl₃ g₃' hq hq' fun H₄ k₄ M₄ hl₄ g₄=>q H₄ (kk.trans k₄) M₄
end
end Mine
end
section
open PySem PySem.W PyProof.Rows Hd
namespace Mine
section
variable {scr:Addr→Option (List V)} {k:Nat} {H:AH} {Q:KV}
theorem opinit_ok {l C:Nat} {s:Str} (w:WF H) (h:H.get l = some (.inst C [])) (p:(TT scr).plain C 19 = true) (q:∀ H',Kp [l] H H'→H'.get l = some (.inst C [(19,.str s)])→Q .none H'):W scr (k + 1) 662 [.ref l,.str s] H Q:=by
 refine sp_go (i:=i_Operand_init) rfl e_c_Operand_init rfl ?_
 exact sa_ok w h p rfl fun H' k' e=>q H' k' e
theorem reg_obj {lr:Nat} (w:WF H) (q:∀ l H',Kp [] H H'→H.get l = none→H'.get l = some (opdO lr)→Q (.ref l) H'):opCall (TT scr) (W scr (k + 2)) (.glob 721) [.ref lr] H Q:=by
 show W scr (k + 2) 704 [.ref H.next,.ref lr] (H.alloc (.inst 721 [])) _
 have k₀:Kp [H.next] H (H.alloc (.inst 721 [])):=Kp.alloc w
 have n₀:H.get H.next = none:=w.none (Nat.le_refl _)
 refine sp_go (i:=i_Reg_init) rfl e_c_Reg_init rfl ?_
 exact opinit_ok k₀.wf AH.get_alloc rfl fun H₁ k₁ e₁=>sa_ok k₁.wf e₁ rfl rfl fun H₂ k₂ e₂=>q _ _ ((k₀.trans k₁).trans k₂ |>.fresh n₀) n₀ e₂
theorem mem_obj {vb vi:V} {sc far size:Int} {seg:Str} (w:WF H) (q:∀ l H',Kp [] H H'→H.get l = none→H'.get l = some (memO vb vi sc far size seg)→Q (.ref l) H') :
  opCall (TT scr) (W scr (k + 2)) (.glob 774) [vb,vi,.int sc,.int far,.int size,.str seg] H Q:=by
 show W scr (k + 2) 738 [.ref H.next,vb,vi,.int sc,.int far,.int size,.str seg] (H.alloc (.inst 774 [])) _
 have k₀:Kp [H.next] H (H.alloc (.inst 774 [])):=Kp.alloc w
 have n₀:H.get H.next = none:=w.none (Nat.le_refl _)
 refine sp_go (i:=i_Mem_init) rfl e_c_Mem_init rfl ?_
 exact (opinit_ok k₀.wf AH.get_alloc rfl fun H₁ k₁ e₁=>(sa_ok k₁.wf e₁ rfl rfl fun H₂ k₂ e₂=>(sa_ok k₂.wf e₂ rfl rfl fun H₃ k₃ e₃=>(sa_ok k₃.wf e₃ rfl rfl fun H₄ k₄ e₄ =>
  (sa_ok k₄.wf e₄ rfl rfl fun H₅ k₅ e₅=>(sa_ok k₅.wf e₅ rfl rfl fun H₆ k₆ e₆=>(sa_ok k₆.wf e₆ rfl rfl fun H₇ k₇ e₇=>(sa_ok k₇.wf e₇ rfl rfl fun H₈ k₈ e₈ =>
   (q _ _ ((((((((k₀.trans k₁).trans k₂).trans k₃).trans k₄).trans k₅).trans k₆).trans k₇).trans k₈ |>.fresh n₀) n₀ e₈)))))))))
theorem base_br {b:Int} (hb:b < 0∨(0≤b∧b < 8)) (w:WF H) (q:∀ v H',Kp [] H H'→IsBase H' v b→Q v H'):branch (decide (b < 0)) (Q .none H) (W scr (k + 3) 360 [.int b,.int 64] H Q):=by
 refine br_c (fun h=>q .none H (Kp.refl w) (.inl ⟨of_decide_eq_true h,rfl⟩)) fun h=>?_
 have h:¬ b < 0:=of_decide_eq_false h
 exact gpr_ok (.inr (.inr (.inr rfl))) (by lia) (by lia) w fun l H' nm k' n' e'=>q _ _ k' (.inr (.inr ⟨by lia,by lia,l,nm,rfl,e'⟩))
theorem base_ok {b:Int} {loc:Loc} {i:Nat} (hb:b < 0∨(0≤b∧b < 8)) (hl:loc[i]? = some (some (.int b))) (w:WF H) (q:∀ v H',Kp [] H H'→IsBase H' v b→Q v H') :
  vE (TT scr) (W scr (k + 3)) (.ite (.cmp .Lt (.var i) (.lit (.int 0))) (.lit .none) (.call (.glob 360) [.var i,.lit (.int 64)])) loc H Q:=by
 show GetV loc[i]? fun x=>int2 x (.int 0) fun a c=>branch (decide (a < c)) (Q .none H) (GetV loc[i]? fun y=>W scr (k + 3) 360 [y,.int 64] H Q)
 rw [hl]
 exact base_br hb w q
theorem operand_ok {size:Int} {op:Opd} (hz:Sz size) (w:WF H) (ho:OpdOK size op) (q:∀ l H',Kp [] H H'→H.get l = none→IsOpd H' l size op→Q (.ref l) H'):W scr (k + 4) 878 [toldV size op] H Q:=by
 refine sp_go (i:=i_law_operand) rfl e_c_law_operand rfl ?_
 cases op with
 | r n =>
  refine gpr_ok hz ho.1 ho.2 w fun lr H₁ nm k₁ n₁ e₁=>reg_obj k₁.wf fun l H₂ k₂ n₂ e₂=>q l H₂ (k₁.trans k₂) (fresh_back k₁ n₂ (by simp)) ⟨ho.1,ho.2,lr,nm,e₂,k₂.kp _ _ e₁ (by simp)⟩
 | h n =>
  obtain ⟨n0,n1,rfl⟩:=ho
  refine high_ok (by lia) (by lia) w fun lr H₁ nm k₁ n₁ e₁=>reg_obj k₁.wf fun l H₂ k₂ n₂ e₂=>q l H₂ (k₁.trans k₂) (fresh_back k₁ n₂ (by simp)) ⟨n0,n1,rfl,lr,nm,e₂,k₂.kp _ _ e₁ (by simp)⟩
 | m b i sc far seg =>
  obtain ⟨hb,hi,sc0,sc1,hs⟩:=ho
  have fin:∀ vb H₁,Kp [] H H₁→IsBase H₁ vb b→vSs (TT scr) (W scr (k + 3)) (c_law_operand.drop 4) [some (toldV size (.m b i sc far seg)),some (.str t_m),some (.int b),some (.int i),some (.int sc),some (.int far),some (.str seg),some (.int size),some vb] H₁ (fun _ H=>Q .none H) Q:=fun vb H₁ k₁ hvb=>by
   refine base_br (Q:=fun vi H₂=>opCall (TT scr) (W scr (k + 3)) (.glob 774) [vb,vi,.int sc,.int far,.int size,.str seg] H₂ Q) hi k₁.wf fun vi H₂ k₂ hvi=>?_
   refine mem_obj k₂.wf fun l H₃ k₃ n₃ e₃=>q l H₃ ((k₁.trans k₂).trans k₃) (fresh_back (k₁.trans k₂) n₃ (by simp)) ⟨hs,by lia,sc0,sc1,vb,vi,e₃,(hvb.kp k₂ Soft.nil).kp k₃ Soft.nil,hvi.kp k₃ Soft.nil⟩
  refine br_c (fun h=>?_) fun h=>?_
  ·have h:(false ^^ decide (b = 16)) = true:=h
   have h:b = 16:=by simpa using h
   exact rip_ok w fun lr H₁ k₁ n₁ e₁=>fin _ H₁ k₁ (.inr (.inl ⟨h,lr,_,rfl,e₁⟩))
  ·have h:(false ^^ decide (b = 16)) = false:=h
   have h:¬ b = 16:=by simpa using h
   exact base_ok (by lia) rfl w fun vb H₁ k₁ hvb=>fin vb H₁ k₁ hvb
theorem ins_obj {nm:Str} {a b lo:Nat} (w:WF H) (hl:H.get lo = some (.list [.ref a,.ref b])) (q:∀ l H',Kp [] H H'→H.get l = none→H'.get l = some (insO nm a b)→Q (.ref l) H') :
  opCall (TT scr) (W scr (k + 2)) (.glob 827) [.str nm,.ref lo] H Q:=by
 show W scr (k + 2) 791 [.ref H.next,.str nm,.ref lo] (H.alloc (.inst 827 [])) _
 have k₀:Kp [H.next] H (H.alloc (.inst 827 [])):=Kp.alloc w
 have n₀:H.get H.next = none:=w.none (Nat.le_refl _)
 have ne:lo≠H.next:=fun e=>by rw [e,n₀] at hl; cases hl
 refine sp_go (i:=i_Instruction_init) rfl e_c_Instruction_init rfl ?_
 refine (sa_ok k₀.wf AH.get_alloc rfl rfl fun H₁ k₁ e₁=>(⟨_,k₁.kp _ _ (k₀.kp _ _ hl (not1 ne)) (not1 ne),by simp,sa_ok k₁.wf e₁ rfl rfl fun H₂ k₂ e₂=>(sa_ok k₂.wf e₂ rfl rfl fun H₃ k₃ e₃ =>
  (q _ _ (((k₀.trans k₁).trans k₂).trans k₃ |>.fresh n₀) n₀ e₃))⟩))
end
end Mine
end
section
open PySem PySem.W PyProof.Rows Hd
namespace Mine
theorem toDs_ints:∀ ns:List Int,toDs (ns.map .int) = some (ns.map .int)
 | []=>rfl
 | n::r=>by rw [List.map_cons,toDs,toDs_ints r]; rfl
theorem toDs_pairs:∀ ps:List (Int × Int),toDs (ps.map fun p=>.tup [.int p.1,.int p.2]) = some (ps.map fun p=>.tuple [.int p.1,.int p.2])
 | []=>rfl
 | n::r=>by rw [List.map_cons,toDs,toDs_pairs r]; rfl
theorem can_ints:∀ ns:List Int,PyData.canLayAll0 (ns.map .int) = true
 | []=>rfl
 | n::r=>by rw [List.map_cons,PyData.canLayAll0,can_ints r]; rfl
theorem can_pairs:∀ ps:List (Int × Int),PyData.canLayAll0 (ps.map fun p=>.tuple [.int p.1,.int p.2]) = true
 | []=>rfl
 | n::r=>by rw [List.map_cons,PyData.canLayAll0,can_pairs r]; rfl
theorem dep_ints:∀ ns:List Int,PyData.depthAll (ns.map .int) = 0
 | []=>rfl
 | n::r=>by rw [List.map_cons,PyData.depthAll,dep_ints r]; rfl
theorem dep_pairs:∀ ps:List (Int × Int),PyData.depthAll (ps.map fun p=>.tuple [.int p.1,.int p.2])≤1
 | []=>Nat.zero_le _
 | n::r=>by rw [List.map_cons,PyData.depthAll]; exact Nat.max_le.mpr ⟨Nat.le_refl _,dep_pairs r⟩
theorem shaped_ints (ns:List Int):SeqAt.shaped (.list (ns.map .int)) = true:=by
 rw [SeqAt.shaped,PyData.canLay0,can_ints,PyData.depth,dep_ints]; rfl
theorem shaped_tints (ns:List Int):SeqAt.shaped (.tuple (ns.map .int)) = true:=by
 rw [SeqAt.shaped,PyData.canLay0,can_ints,PyData.depth,dep_ints]; rfl
theorem shaped_pairs (ps:List (Int × Int)):SeqAt.shaped (.list (ps.map fun p=>.tuple [.int p.1,.int p.2])) = true:=by
 rw [SeqAt.shaped,PyData.canLay0,can_pairs,PyData.depth,Bool.true_and,decide_eq_true_eq]
 have:=dep_pairs ps
 lia
theorem eqL_same {H:AH} {Q:KV} {neg:Bool} {a b:Nat} {xs:List V} {ds:List PyData} (ha:H.get a = some (.list xs)) (hb:H.get b = some (.list xs)) (hd:toDs xs = some ds) (hs:SeqAt.shaped (.list ds) = true) (q:Q (.bool (neg ^^ true)) H) :
  eqV neg (.ref a) (.ref b) H Q:=by
 refine ⟨xs,xs,ha,hb,.inr ⟨ds,ds,hd,hd,hs,hs,?_⟩⟩
 rw [SeqAt.eqvAll_refl ds (by have:=SeqAt.canLay_of_shaped hs; exact this)]
 exact q
inductive Ln where
 | lea (n b i sc far:Int) (seg:Str)
 | mov (o₁ o₂:Opd)
 | xchg (o₁ o₂:Opd)
 | xadd (o₁ o₂:Opd)
 | cmpx (o₁ o₂:Opd)
noncomputable def Ln.nm:Ln→Str
 | .lea ..=>t_lea | .mov ..=>t_mov | .xchg ..=>t_xchg | .xadd ..=>t_xadd | .cmpx ..=>t_cmpxchg
noncomputable def Ln.o1:Ln→Opd
 | .lea n ..=>.r n | .mov o _ | .xchg o _ | .xadd o _ | .cmpx o _=>o
noncomputable def Ln.o2:Ln→Opd
 | .lea _ b i sc far seg=>.m b i sc far seg | .mov _ o | .xchg _ o | .xadd _ o | .cmpx _ o=>o
noncomputable def Ln.ok (l:Ln) (size:Int):Prop:=Sz size∧OpdOK size l.o1∧OpdOK size l.o2∧match l with
 | .xchg o₁ o₂=>isM o₁ = false∨isM o₂ = false
 | .xadd _ o₂=>isM o₂ = false
 | _=>True
noncomputable def Ln.step (σ:Mst) (size:Int):Ln→Mst
 | .lea n b i sc far _=>wrV σ size (offV σ b i sc far) (.r n)
 | .mov o₁ o₂=>wrV σ size (rdV σ size o₂) o₁
 | .xchg o₁ o₂=>xchgV σ size o₁ o₂
 | .xadd o₁ o₂=>xaddV σ size o₁ o₂
 | .cmpx o₁ o₂=>cmpxV σ size o₁ o₂
end Mine
end
section
open PySem PySem.W PyProof.Rows Hd
namespace Mine
structure Inv (σ:Mst) (N:Nat):Prop where
 rg:RgOK σ.rg
 oc:Oct σ.mm
 len:σ.mm.length≤N
 nd:(σ.mm.map (·.1)).Nodup
theorem mput_key {k v:Int}:∀ {mm:List (Int × Int)} {x:Int},x∈(mput k v mm).map (·.1)→x = k∨x∈mm.map (·.1)
 | [],x,h=>by simp [mput] at h; exact .inl h
 | (a,w)::r,x,h=>by
  rw [mput] at h
  split at h
  ·exact .inr (by simpa using h)
  ·rw [List.map_cons,List.mem_cons] at h
   rcases h with h | h
   ·exact .inr (by rw [h]; exact .head _)
   ·rcases mput_key h with h | h
    ·exact .inl h
    ·exact .inr (.tail _ h)
theorem mput_nd {k v:Int}:∀ {mm:List (Int × Int)},(mm.map (·.1)).Nodup→((mput k v mm).map (·.1)).Nodup
 | [],_=>by simp [mput]
 | (a,w)::r,h=>by
  rw [List.map_cons,List.nodup_cons] at h
  rw [mput]
  split
  ·rw [List.map_cons,List.nodup_cons]; exact h
  ·rename_i e
   rw [List.map_cons,List.nodup_cons]
   refine ⟨fun q=>?_,mput_nd h.2⟩
   rcases mput_key q with z | z
   ·exact e z
   ·exact h.1 z
theorem mwr_nd {p wo:Int} {mm:List (Int × Int)} (h:(mm.map (·.1)).Nodup):∀ n,((mwr mm p wo n).map (·.1)).Nodup
 | 0=>h
 | n + 1=>mput_nd (mwr_nd h n)
theorem wrV_nd {σ:Mst} {size wo:Int} {op:Opd} (h:(σ.mm.map (·.1)).Nodup):((wrV σ size wo op).mm.map (·.1)).Nodup:=by cases op <;> first | exact h | exact mwr_nd h _
theorem wrV_same {σ:Mst} {size wo:Int} {op:Opd} (h:isM op = false):(wrV σ size wo op).mm = σ.mm:=by cases op <;> first | rfl | cases h
theorem Inv.wr {σ:Mst} {N:Nat} {size wo:Int} {op:Opd} (h:Inv σ N) (hz:Sz size) (w0:0≤wo) (w1:wo < 2 ^ size.toNat):Inv (wrV σ size wo op) (N + 8) :=
 ⟨wrV_rg hz h.rg w0 w1,wrV_oct h.oc,Nat.le_trans (wrV_mm hz) (Nat.add_le_add_right h.len 8),wrV_nd h.nd⟩
theorem Inv.wrR {σ:Mst} {N:Nat} {size wo:Int} {op:Opd} (h:Inv σ N) (hz:Sz size) (w0:0≤wo) (w1:wo < 2 ^ size.toNat) (hm:isM op = false):Inv (wrV σ size wo op) N :=
 ⟨wrV_rg hz h.rg w0 w1,wrV_oct h.oc,by rw [wrV_same hm]; exact h.len,wrV_nd h.nd⟩
theorem Inv.up {σ:Mst} {N:Nat} (h:Inv σ N):Inv σ (N + 8):=⟨h.rg,h.oc,Nat.le_trans h.len (Nat.le_add_right _ _),h.nd⟩
theorem Inv.step {σ:Mst} {N:Nat} {size:Int} {l:Ln} (h:Inv σ N) (hok:l.ok size):Inv (l.step σ size) (N + 8):=by
 obtain ⟨hz,h₁,h₂,hm⟩:=hok
 cases l with
 | lea n b i sc far seg =>
  have e:wrV σ size (offV σ b i sc far) (.r n) = wrV σ size (offV σ b i sc far % 2 ^ size.toNat) (.r n):=by
   simp only [wrV]; rw [Int.emod_emod_of_dvd _ (Int.dvd_refl _)]
  show Inv (wrV σ size (offV σ b i sc far) (.r n)) _
  rw [e]
  exact h.wr hz (Int.emod_nonneg _ (Int.ne_of_gt (p2 _))) (Int.emod_lt_of_pos _ (p2 _))
 | mov o₁ o₂=>obtain ⟨a,b⟩:=lrdV_bd hz h.oc h₂; exact h.wr hz a b
 | xchg o₁ o₂ =>
  obtain ⟨a0,a1⟩:=lrdV_bd hz h.oc h₁
  obtain ⟨b0,b1⟩:=lrdV_bd hz h.oc h₂
  show Inv (xchgV σ size o₁ o₂) _
  unfold xchgV
  cases e2:isM o₂ with
  | true =>
   have e1:isM o₁ = false:=by rcases hm with h | h; exact h; rw [e2] at h; cases h
   exact (h.wr hz a0 a1).wrR hz b0 b1 e1
  | false=>exact (h.wr hz b0 b1).wrR hz a0 a1 e2
 | xadd o₁ o₂ =>
  obtain ⟨a0,a1⟩:=lrdV_bd hz h.oc h₁
  have r0:0≤(rdV σ size o₁ + rdV σ size o₂) % 2 ^ size.toNat:=Int.emod_nonneg _ (Int.ne_of_gt (p2 _))
  have r1:(rdV σ size o₁ + rdV σ size o₂) % 2 ^ size.toNat < 2 ^ size.toNat:=Int.emod_lt_of_pos _ (p2 _)
  have hf:Inv (addFl σ (rdV σ size o₁) (rdV σ size o₂) size) N:=⟨h.rg,h.oc,h.len,h.nd⟩
  show Inv (xaddV σ size o₁ o₂) _
  unfold xaddV
  cases isM o₁ with
  | true=>exact (hf.wr hz r0 r1).wrR hz a0 a1 hm
  | false=>exact (hf.wrR hz a0 a1 hm).wr hz r0 r1
 | cmpx o₁ o₂ =>
  obtain ⟨a0,a1⟩:=lrdV_bd hz h.oc h₁
  obtain ⟨b0,b1⟩:=lrdV_bd hz h.oc h₂
  have hf:Inv (subFl σ (rdV σ size (.r 0)) (rdV σ size o₁) size) N:=⟨h.rg,h.oc,h.len,h.nd⟩
  show Inv (cmpxV σ size o₁ o₂) _
  unfold cmpxV
  split
  ·exact hf.wr hz b0 b1
  ·exact hf.wr hz a0 a1
section
variable {scr:Addr→Option (List V)} {k:Nat} {H:AH} {Q:KV} {L:L7} {L':W4} {σ:Mst}
noncomputable def callX:X:=.ite (.cmp .In (.item (.var 12) (.lit (.int 0))) (.tup [(.lit (.str t_xchg)),.lit (.str t_mov),(.lit (.str t_lea))])) (.call (.glob 35) [(.var 8),(.var 13)]) (.call (.glob 437) [(.var 8),(.var 13)])
theorem prog_ok {l:Ln} {size:Int} {N li a b:Nat} {P:KB} (hok:l.ok size) (M:Mch H L σ) (I:Inv σ N) (hN:N≤600) (hi:H.get li = some (insO l.nm a b)) (h₁:IsOpd H a size l.o1) (h₂:IsOpd H b size l.o2)
  (q:∀ H',Kp [L.r,L.d,L.f] H H'→Mch H' L (l.step σ size)→P true H') :
  inV (.str l.nm) (.tup [.str t_xchg,.str t_mov,.str t_lea]) H fun z H=>truthyV z H fun c H=>branch c (W scr (k + 9) 35 [.ref L.s,.ref li] H fun v H=>truthyV v H P) (W scr (k + 9) 437 [.ref L.s,.ref li] H fun v H=>truthyV v H P):=by
 obtain ⟨hz,g₁,g₂,hm⟩:=hok
 have hl:=I.rg.1
 have hn:σ.mm.length≤800:=by have:=I.len; omega
 cases l with
 | lea n b' i sc far seg=>exact ⟨true,show PyData.strOk t_lea = true by decide +kernel,show anyEq t_lea [.str t_xchg,.str t_mov,.str t_lea] = some true by decide +kernel,moved_lea hz M hl hi h₁ h₂ q⟩
 | mov o₁ o₂=>exact ⟨true,show PyData.strOk t_mov = true by decide +kernel,show anyEq t_mov [.str t_xchg,.str t_mov,.str t_lea] = some true by decide +kernel,moved_mov hz M hl hn I.oc hi h₁ h₂ q⟩
 | xchg o₁ o₂=>exact ⟨true,show PyData.strOk t_xchg = true by decide +kernel,show anyEq t_xchg [.str t_xchg,.str t_mov,.str t_lea] = some true by decide +kernel,moved_xchg hz M hl hn I.oc hi h₁ h₂ q⟩
 | xadd o₁ o₂=>exact ⟨false,show PyData.strOk t_xadd = true by decide +kernel,show anyEq t_xadd [.str t_xchg,.str t_mov,.str t_lea] = some false by decide +kernel,arith_xadd hz M hl hn I.oc hi h₁ h₂ q⟩
 | cmpx o₁ o₂=>exact ⟨false,show PyData.strOk t_cmpxchg = true by decide +kernel,show anyEq t_cmpxchg [.str t_xchg,.str t_mov,.str t_lea] = some false by decide +kernel,arith_cmpx hz M hl hn I.oc hi h₁ h₂ q⟩
theorem lawdo_ok {l:Ln} {size:Int} {N ls:Nat} (hok:l.ok size) (M:Wch H L' σ) (I:Inv σ N) (hN:N≤600) (hl:H.get ls = some (.list [toldV size l.o1,toldV size l.o2])) (hq:ls≠L'.q)
  (q:∀ H',Kp [L'.q,L'.e,L'.w] H H'→Wch H' L' (l.step σ size)→Q .none H'):W scr (k + 2) 907 [.ref L'.w,.tup [.str l.nm,.int size,.ref ls]] H Q:=by
 obtain ⟨hz,g₁,g₂,hm⟩:=hok
 have hn:σ.mm.length≤700:=by have:=I.len; omega
 cases l with
 | lea n b' i sc far seg=>exact do_lea hz M I.rg (by omega) g₁ g₂ hl hq q
 | mov o₁ o₂=>exact do_mov hz M I.rg I.oc (by omega) g₁ g₂ hl hq q
 | xchg o₁ o₂=>exact do_xchg hz M I.rg I.oc hn g₁ g₂ hm hl hq q
 | xadd o₁ o₂=>exact do_xadd hz M I.rg I.oc hn g₁ g₂ hm hl hq q
 | cmpx o₁ o₂=>exact do_cmpx hz M I.rg I.oc hn g₁ g₂ hl hq q
end
end Mine
end
section
open PySem PySem.W PyProof.Rows Hd
namespace Mine
structure Both (H:AH) (L:L7) (L':W4) (σ:Mst):Prop where
 M:Mch H L σ
 W:Wch H L' σ
 av:L'.av = [L'.q,L.r,L.x]
 qr:L'.q≠L.r
 qx:L'.q≠L.x
 de:L.d≠L'.e
 gw:L.g≠L'.w
noncomputable abbrev X6 (L:L7) (L':W4):List Nat:=[L.r,L.d,L.f,L'.q,L'.e,L'.w]
noncomputable def lineB:List St:=[.asg (.var 13) (.call (.glob 827) [(.item (.var 12) (.lit (.int 0))),(.comp (.call (.glob 878) [(.var 0)]) 0 0 (.item (.var 12) (.lit (.int 2))) (.lit (.bool true)) [none])]),.iff (.un .Not callX) [.ret (.lit (.bool false))] [],
 .ex (.call (.glob 907) [(.var 11),(.var 12)]),.iff (.cmp .NotEq (.attr (.var 8) 2) (.item (.var 11) (.lit (.str S223)))) [.ret (.lit (.bool false))] []]
section
variable {scr:Addr→Option (List V)} {k:Nat} {H H':AH} {Q:KV} {L:L7} {L':W4} {σ τ:Mst}
theorem Both.prog (B:Both H L L' σ) (k:Kp [L.r,L.d,L.f] H H'):Wch H' L' σ:=by
 refine B.W.kp k fun y hy=>.inr fun a ha=>?_
 obtain ⟨a',e1,e2,e3⟩:=B.W.hW
 rw [ha] at e1
 cases e1
 have ar:L.r≠a:=fun e=>e3 (by rw [B.av,← e]; exact .tail _ (.head _))
 simp only [List.mem_cons,List.not_mem_nil,or_false] at hy
 rcases hy with rfl | rfl | rfl
 ·exact ⟨get_ne B.M.hR ha (fun q=>by cases q),ar,Ne.symm B.qr,get_ne B.M.hR B.W.hB (fun q=>by cases q),get_ne B.M.hR B.W.hE (fun q=>by cases q)⟩
 ·exact ⟨get_ne B.M.hD ha (fun q=>by cases q),get_ne B.M.hD e2 (fun q=>by cases q),get_ne B.M.hD B.W.hQ (fun q=>by cases q),get_ne B.M.hD B.W.hB (fun q=>by cases q),B.de⟩
 ·exact ⟨get_ne B.M.hF ha (fun q=>by cases q),get_ne B.M.hF e2 (fun q=>by cases q),get_ne B.M.hF B.W.hQ (fun q=>by cases q),get_ne B.M.hF B.W.hB (fun q=>by cases q),get_ne B.M.hF B.W.hE (fun q=>by cases q)⟩
theorem law_keep (M:Mch H L τ) (W:Wch H L' σ) (qr:L'.q≠L.r) (qx:L'.q≠L.x) (de:L.d≠L'.e) (gw:L.g≠L'.w) (k:Kp [L'.q,L'.e,L'.w] H H'):Mch H' L τ:=by
 refine M.kp k fun y hy=>?_
 obtain ⟨a,e1,e2,e3⟩:=W.hW
 simp only [List.mem_cons,List.not_mem_nil,or_false] at hy
 rcases hy with rfl | rfl | rfl
 ·exact ⟨get_ne W.hQ M.hS (fun q=>by cases q),qr,qx,get_ne W.hQ M.hF (fun q=>by cases q),get_ne W.hQ M.hM (fun q=>by cases q),get_ne W.hQ M.hD (fun q=>by cases q),get_ne W.hQ M.hG (fun q=>by cases q)⟩
 ·exact ⟨get_ne W.hE M.hS (fun q=>by cases q),get_ne W.hE M.hR (fun q=>by cases q),get_ne W.hE M.hX (fun q=>by cases q),get_ne W.hE M.hF (fun q=>by cases q),get_ne W.hE M.hM (fun q=>by cases q),Ne.symm de,get_ne W.hE M.hG (fun q=>by cases q)⟩
 ·exact ⟨get_ne e1 M.hS (fun q=>by cases q),get_ne e1 M.hR (fun q=>by cases q),get_ne e1 M.hX (fun q=>by cases q),get_ne e1 M.hF (fun q=>by cases q),get_ne e1 M.hM (fun q=>by cases q),get_ne e1 M.hD (fun q=>by cases q),Ne.symm gw⟩
theorem call2 {T:Tab} {S:Spec} {f:V} {ex ey:X} {loc:Loc} (h:vE T S ex loc H fun x H=>vE T S ey loc H fun y H=>opCall T S f [x,y] H Q):vE T S (.call f [ex,ey]) loc H Q:=h
theorem call1_ {T:Tab} {S:Spec} {f:V} {ex:X} {loc:Loc} (h:vE T S ex loc H fun x H=>opCall T S f [x] H Q):vE T S (.call f [ex]) loc H Q:=h
theorem asg_ {T:Tab} {S:Spec} {t:Tg} {e:X} {r:List St} {loc:Loc} {K:Loc→AH→Prop} {R:KV} (h:vE T S e loc H fun v H=>vTg T S t v loc H fun loc H=>vSs T S r loc H K R):vSs T S (.asg t e::r) loc H K R:=h
noncomputable def opsX:X:=.comp (.call (.glob 878) [(.var 0)]) 0 0 (.item (.var 12) (.lit (.int 2))) (.lit (.bool true)) [none]
theorem opnd_elt {size:Int} {op:Opd} (hz:Sz size) (w:WF H) (ho:OpdOK size op) (q:∀ l H',Kp [] H H'→H.get l = none→IsOpd H' l size op→Q (.ref l) H') :
  vE (TT scr) (W scr (k + 4)) (.call (.glob 878) [(.var 0)]) [some (toldV size op)] H Q:=(operand_ok hz w ho q)
theorem ops_ok {size:Int} {nm:Str} {ls:Nat} {o₁ o₂:Opd} {x0 x1 x2 x3 x4 x5 x6 x7 x8 x9 x10 x11 x13:Option V} (hz:Sz size) (w:WF H) (g₁:OpdOK size o₁) (g₂:OpdOK size o₂) (hl:H.get ls = some (.list [toldV size o₁,toldV size o₂]))
  (q:∀ H' a b lo,Kp [] H H'→H'.get lo = some (.list [.ref a,.ref b])→IsOpd H' a size o₁→IsOpd H' b size o₂→Q (.ref lo) H'):vE (TT scr) (W scr (k + 4)) opsX [x0,x1,x2,x3,x4,x5,x6,x7,x8,x9,x10,x11,some (.tup [.str nm,.int size,.ref ls]),x13] H Q:=by
 refine .inl ⟨_,hl,by simp,?_⟩
 generalize ha:toldV size o₁ = t₁ at hl ⊢
 generalize hb:toldV size o₂ = t₂ at hl ⊢
 refine ⟨hl,?_⟩
 subst ha
 refine opnd_elt hz w g₁ fun a H₁ k₁ n₁ o₁'=>⟨k₁.kp _ _ hl (by simp),?_⟩
 subst hb
 refine opnd_elt hz k₁.wf g₂ fun b H₂ k₂ n₂ o₂'=>⟨k₂.kp _ _ (k₁.kp _ _ hl (by simp)) (by simp),new_ok k₂.wf fun lo H₃ k₃ n₃ e₃=>?_⟩
 exact q H₃ a b lo ((k₁.trans k₂).trans k₃) e₃ ((o₁'.kp k₂ Soft.nil).kp k₃ Soft.nil) (o₂'.kp k₃ Soft.nil)
set_option maxHeartbeats 1000000 in
theorem body_ok {l:Ln} {size:Int} {N ls:Nat} {x0 x1 x2 x3 x4 x5 x6 x7 x9 x10 x13:Option V} {K:Loc→AH→Prop} {R:KV} (hok:l.ok size) (B:Both H L L' σ) (I:Inv σ N) (hN:N≤600)
  (hl:H.get ls = some (.list [toldV size l.o1,toldV size l.o2])) (h1:ls≠L.r) (h2:ls≠L'.q)
  (hK:∀ H' y,Kp (X6 L L') H H'→Both H' L L' (l.step σ size)→K [x0,x1,x2,x3,x4,x5,x6,x7,some (.ref L.s),x9,x10,some (.ref L'.w),some (.tup [.str l.nm,.int size,.ref ls]),y] H') :
  vSs (TT scr) (W scr (k + 9)) lineB [x0,x1,x2,x3,x4,x5,x6,x7,some (.ref L.s),x9,x10,some (.ref L'.w),some (.tup [.str l.nm,.int size,.ref ls]),x13] H K R:=by
 obtain ⟨hz,g₁,g₂,hm⟩:=hok
 refine asg_ (call2 ?_)
 refine ops_ok (k:=k + 5) hz B.M.wf g₁ g₂ hl fun H₃ a b lo k₃ e₃ o₁ o₂=>?_
 refine ins_obj (k:=k + 7) k₃.wf e₃ fun li H₄ k₄ n₄ e₄=>?_
 have k04:Kp [] H H₄:=k₃.trans k₄
 have o₁':=o₁.kp k₄ Soft.nil
 have o₂':=o₂.kp k₄ Soft.nil
 have hl₄:=k04.kp _ _ hl (by simp)
 have B₄:Both H₄ L L' σ:=⟨B.M.kp0 k04,B.W.kp0 k04,B.av,B.qr,B.qx,B.de,B.gw⟩
 show vT (TT scr) (W scr (k + 9)) callX [x0,x1,x2,x3,x4,x5,x6,x7,some (.ref L.s),x9,x10,some (.ref L'.w),some (.tup [.str l.nm,.int size,.ref ls]),some (.ref li)] H₄ _
 refine prog_ok ⟨hz,g₁,g₂,hm⟩ B₄.M I hN e₄ o₁' o₂' fun H₅ k₅ M₅=>?_
 have W₅:=B₄.prog k₅
 have hl₅:H₅.get ls = _:=k₅.kp _ _ hl₄ (by
  simp only [List.mem_cons,List.not_mem_nil,or_false,not_or]
  exact ⟨h1,get_ne hl₄ B₄.M.hD (fun q=>by cases q),get_ne hl₄ B₄.M.hF (fun q=>by cases q)⟩)
 refine lawdo_ok (k:=k + 7) ⟨hz,g₁,g₂,hm⟩ W₅ I hN hl₅ h2 fun H₆ k₆ W₆=>?_
 have M₆:=law_keep M₅ W₅ B.qr B.qx B.de B.gw k₆
 obtain ⟨a',e6,_,_⟩:=W₆.hW
 refine at_ok M₆.hS rfl rfl (gs_ e6 rfl (eqL_same M₆.hR W₆.hQ (toDs_ints _) (shaped_ints _) ((hK H₆ _ ?_ ⟨M₆,W₆,B.av,B.qr,B.qx,B.de,B.gw⟩))))
 exact (k04.nil).trans ((k₅.mono (by simp)).trans (k₆.mono (by simp)))
end
end Mine
end
section
open PySem PySem.W PyProof.Rows Hd
namespace Mine
structure PenAt (H:AH) (lp:Nat) (n:Int):Prop where
 ex:∃ lc cells spot great,H.get lp = some (.list [.ref lc,.int spot,.int great])∧H.get lc = some (.list (List.map V.int cells))∧List.length cells≤40∧0≤spot∧spot≤n∧0≤great∧lc + 1 = lp
section
variable {scr:Addr→Option (List V)} {k:Nat} {H:AH} {Q:KV}
theorem PenAt.kp {H':AH} {X:List Nat} {lp:Nat} {n:Int} (P:PenAt H lp n) (h:Kp X H H') (hx:∀ y∈X,∀ vs,H.get y≠some (.list vs)):PenAt H' lp n:=by
 obtain ⟨lc,cells,spot,great,e1,e2,r⟩:=P.ex
 exact ⟨lc,cells,spot,great,h.kp _ _ e1 fun q=>hx _ q _ e1,h.kp _ _ e2 fun q=>hx _ q _ e2,r⟩
theorem PenAt.kp0 {H':AH} {lp:Nat} {n:Int} (P:PenAt H lp n) (h:Kp [] H H'):PenAt H' lp n:=P.kp h fun _ q=>by simp at q
theorem lt_bits {a:Int} {m:Nat} (h0:0≤a) (h:a < 2 ^ m):Builtin.Int.intBits a≤m:=intBits_le_iff.mpr (by
 have:((a.natAbs:Nat):Int) < ((2 ^ m:Nat):Int):=by simpa [Int.natAbs_of_nonneg h0] using h
 exact Int.ofNat_lt.mp this)
theorem small_mul {a b:Int} (h0:0≤a) (h:a < 2 ^ 64):IntMulOk a b:=IntMulOk.of_left (lt_bits h0 h)
set_option maxHeartbeats 1000000 in
theorem ldraw_ok {lp:Nat} {n m:Int} (w:WF H) (P:PenAt H lp n) (hn:n≤1000000) (m0:1≤m) (m1:m≤2 ^ 64) (q:∀ H' d,Kp [lp] H H'→PenAt H' lp (n + 1)→0≤d→d < m→Q (.int d) H') :
  W scr (k + 1) 843 [.ref lp,.int m] H Q:=by
 obtain ⟨lc,cells,spot,great,e1,e2,hc,s0,s1,g0,gl⟩:=P.ex
 have ne:lc≠lp:=fun e=>by
  rw [e,e1] at e2
  have e2:=Option.some.inj e2
  injection e2 with e2
  cases cells <;> simp at e2
 have hm:(0:Int) < m:=by lia
 have pym:∀ a,Builtin.divisionGoesByPylong a m = false:=fun a=>noPy (by
  have:(2:Int) ^ 64 = 18446744073709551616:=by decide
  have:m.natAbs≤2 ^ 64:=by lia
  exact Nat.lt_of_le_of_lt this (Nat.pow_lt_pow_right (by decide) (by decide)))
 refine sp_go (i:=i_law_draw) rfl e_c_law_draw rfl ?_
 refine gi_n e1 (by decide) (by decide) rfl (br_c (fun h=>?_) fun h=>?_)
 ·have h:0 < great:=of_decide_eq_true h
  refine asg_ (gi_n e1 (by decide) (by decide) rfl ⟨by lia,?_⟩)
  refine gi_n e1 (by decide) (by decide) rfl ⟨by lia,pym _,?_⟩
  refine si_l w e1 (by decide) (by simp) (by decide) fun H₁ k₁ h₁=>?_
  rw [fmod_pos hm]
  refine q H₁ _ k₁ ⟨lc,cells,spot,great / m,?_,k₁.kp _ _ e2 (not1 ne),hc,s0,by lia,Int.ediv_nonneg g0 (by lia),gl⟩ (Int.emod_nonneg _ (by lia)) (Int.emod_lt_of_pos _ hm)
  rw [h₁,fdiv_pos hm]; rfl
 ·refine asg_ (gi_n e1 (by decide) (by decide) rfl ?_)
  refine asg_ (si_l w e1 (by decide) (by simp) (by decide) fun H₁ k₁ h₁=>?_)
  have e1:H₁.get lp = some (.list [.ref lc,.int (spot + 1),.int great]):=h₁
  have e2:=k₁.kp _ _ e2 (not1 ne)
  have eA:(2:Int) ^ 27 = 134217728:=by decide
  refine asg_ ⟨small_mul (by decide) (by decide),gi_n e1 (by decide) (by decide) rfl (.list e2 (by decide) (by rw [List.length_map]; lia) (new_ok k₁.wf fun l₂ H₂ k₂ n₂ g₂=>⟨_,g₂,by simp; lia,cells.take 1,by rw [← List.map_take]; exact allInts_map _,by decide,?_⟩))⟩
  have e1:=k₂.kp _ _ e1 (by simp)
  have e2:=k₂.kp _ _ e2 (by simp)
  have k02:Kp [lp] H H₂:=k₁.trans k₂.nil
  have P':∀ H' g,Kp [lp] H H'→H'.get lp = some (.list [.ref lc,.int (spot + 1),.int g])→H'.get lc = some (.list (List.map V.int cells))→0≤g→PenAt H' lp (n + 1):=fun H' g _ a b c=>⟨lc,cells,spot + 1,g,a,b,hc,by lia,by lia,c,gl⟩
  have tail:∀ (c:Int) H₃,Kp [lp] H H₃→H₃.get lp = some (.list [.ref lc,.int (spot + 1),.int great])→H₃.get lc = some (.list (List.map V.int cells)) →
    vSs (TT scr) (W scr k) (c_law_draw.drop 5) [some (.ref lp),some (.int m),none,some (.int spot),some (.int c),none,none] H₃ (fun _ H=>Q .none H) Q:=fun c H₃ k₃ e1 e2=>by
   have last:vSs (TT scr) (W scr k) (c_law_draw.drop 6) [some (.ref lp),some (.int m),none,some (.int spot),some (.int c),none,none] H₃ (fun _ H=>Q .none H) Q:=by
    have b0:0≤c % 2147483587:=Int.emod_nonneg _ (by decide)
    have b1:c % 2147483587 < 2147483587:=Int.emod_lt_of_pos _ (by decide)
    refine asg_ ⟨by decide,small_mul (by decide) (by decide),by decide,?_,by decide,?_⟩
    ·rw [fmod_pos (by decide)]
     have:=lt_bits (m:=38) (show 0≤c % 2147483587 + 52361 * spot + 4027 by lia) (by have:(2:Int) ^ 38 = 274877906944:=(by decide); lia)
     lia
    rw [fmod_pos (by decide),fmod_pos (by decide)]
    generalize hx:(c % 2147483587 + 52361 * spot + 4027) ^ (5:Int).toNat % 2147483629 = x
    have x0:0≤x:=by rw [← hx]; exact Int.emod_nonneg _ (by decide)
    have x1:x < 2147483629:=by rw [← hx]; exact Int.emod_lt_of_pos _ (by decide)
    refine asg_ ⟨small_mul (by decide) (by decide),small_mul x0 (by lia),small_mul (by decide) (by decide),small_mul (by lia) (by lia),by decide,?_,by decide,?_⟩
    ·have s2:spot * spot≤1000000 * 1000000:=Int.mul_le_mul (by lia) (by lia) s0 (by decide)
     have s3:0≤spot * spot:=Int.mul_nonneg s0 s0
     have s4:x * (2 * spot + 7561)≤2147483629 * 2007561:=Int.mul_le_mul (by lia) (by lia) (by lia) (by decide)
     have s5:0≤x * (2 * spot + 7561):=Int.mul_nonneg x0 (by lia)
     have s6:52361 * spot * spot = 52361 * (spot * spot):=Int.mul_assoc ..
     have:=lt_bits (m:=60) (show 0≤x * (2 * spot + 7561) + 52361 * spot * spot + 67 by lia) (by have:(2:Int) ^ 60 = 1152921504606846976:=(by decide); lia)
     lia
    refine ⟨by decide,noPy (by decide),by lia,?_⟩
    rw [fmod_pos hm]
    exact q H₃ _ k₃ (P' H₃ great k₃ e1 e2 g0) (Int.emod_nonneg _ (by lia)) (Int.emod_lt_of_pos _ hm)
   refine gi_n e1 (by decide) (by decide) rfl ⟨_,e2,by rw [List.length_map]; lia,br_c (fun h=>?_) fun h=>last⟩
   refine ⟨by decide,by have:=lt_bits (a:=10) (m:=4) (by decide) (by decide); lia,br_c (fun h=>?_) fun h=>last⟩
   generalize ha:(if c < 0 then -c else c) = a at h
   have h:(10:Int) ^ (18:Int).toNat≤a:=of_decide_eq_true h
   have stepG:∀ (G:Int) (K':Loc→AH→Prop),0≤G→vSs (TT scr) (W scr k) [.asg (.item (.var 0) (.lit (.int 2))) (.bin .FloorDiv (.call (.bf .int) [(.var 5)]) (.var 1)),.ret (.bin .Mod (.call (.bf .int) [(.var 5)]) (.var 1))]
     [some (.ref lp),some (.int m),none,some (.int spot),some (.int c),some (.int G),none] H₃ K' Q:=fun G K' G0=>by
    refine asg_ ⟨by lia,pym _,si_l k₃.wf e1 (by decide) (by simp) (by decide) fun H₄ k₄ h₄=>⟨by lia,?_⟩⟩
    rw [fmod_pos hm]
    rw [fdiv_pos hm] at h₄
    exact q H₄ _ (k₃.trans k₄) (P' H₄ _ (k₃.trans k₄) h₄ (k₄.kp _ _ e2 (not1 ne)) (Int.ediv_nonneg G0 (by lia))) (Int.emod_nonneg _ (by lia)) (Int.emod_lt_of_pos _ hm)
   subst ha
   exact asg_ ⟨by decide,by have:=lt_bits (a:=10) (m:=4) (by decide) (by decide); lia,small_mul (by decide) (by decide),stepG _ _ (by split <;> lia)⟩
  refine gi_n e1 (by decide) (by decide) rfl (new_ok k₂.wf fun l₃ H₃ k₃ n₃ g₃=>?_)
  have e1':=k₃.kp _ _ e1 (by simp)
  have e2':=k₃.kp _ _ e2 (by simp)
  have k03:Kp [lp] H H₃:=k02.trans k₃.nil
  cases hcs:cells with
  | nil =>
   subst hcs
   refine ⟨_,_,e2',g₃,.inr ⟨[],[],rfl,rfl,rfl,rfl,?_⟩⟩
   exact tail _ H₃ k03 e1' e2'
  | cons c0 cr =>
   refine ⟨_,_,e2',g₃,.inl ⟨by rw [hcs]; simp,?_⟩⟩
   have hlen:0 < cells.length:=by rw [hcs]; simp
   refine asg_ (gi_n e1' (by decide) (by decide) rfl (gi_n e1' (by decide) (by decide) rfl ⟨_,e2',by rw [List.length_map]; lia,by rw [List.length_map]; lia,?_⟩))
   rw [List.length_map]
   have ef:spot.fmod (cells.length:Int) = spot % (cells.length:Int):=fmod_pos (by lia)
   have i0:0≤spot.fmod (cells.length:Int):=by rw [ef]; exact Int.emod_nonneg _ (by lia)
   have i1:spot.fmod (cells.length:Int) < cells.length:=by rw [ef]; exact Int.emod_lt_of_pos _ (by lia)
   refine gi_l e2' i0 (by lia) (by rw [List.getElem?_map,List.getElem?_eq_getElem (show (spot.fmod (cells.length:Int)).toNat < cells.length by lia)]; rfl) (tail _ H₃ k03 e1' e2')
end
end Mine
end
section
open PySem PySem.W PyProof.Rows Hd
namespace Mine
theorem PenAt.le {H:AH} {lp:Nat} {n m:Int} (P:PenAt H lp n) (h:n≤m):PenAt H lp m:=by
 obtain ⟨lc,cells,spot,great,e1,e2,hc,s0,s1,g0,gl⟩:=P.ex
 exact ⟨lc,cells,spot,great,e1,e2,hc,s0,by lia,g0,gl⟩
theorem PenAt.there {H:AH} {lp:Nat} {n:Int} (P:PenAt H lp n):H.get lp≠none:=by
 obtain ⟨lc,cells,spot,great,e1,_⟩:=P.ex
 rw [e1]; exact Option.some_ne_none _
section
variable {scr:Addr→Option (List V)} {k:Nat} {H:AH} {Q:KV}
theorem pick_ok {lp ll:Nat} {n:Int} {vs:List V} (w:WF H) (P:PenAt H lp n) (hn:n≤1000000) (hl:H.get ll = some (.list vs)) (hne:ll≠lp) (h0:1≤vs.length) (h1:vs.length≤1000)
  (q:∀ H' v,Kp [lp] H H'→PenAt H' lp (n + 1)→v∈vs→Q v H'):W scr (k + 2) 850 [.ref lp,.ref ll] H Q:=by
 refine sp_go (i:=i_law_pick) rfl e_c_law_pick rfl ?_
 refine ⟨_,hl,h1,?_⟩
 refine ldraw_ok w P hn (by lia) (by have:(2:Int) ^ 64 = 18446744073709551616:=(by decide); lia) fun H' d k' P' d0 d1=>?_
 have hd:d.toNat < vs.length:=by lia
 exact gi_l (k'.kp _ _ hl (not1 hne)) d0 (by lia) (List.getElem?_eq_getElem hd) (q H' _ k' P' (List.getElem_mem hd))
theorem pick_new {lp:Nat} {n:Int} {vs:List V} (w:WF H) (P:PenAt H lp n) (hn:n≤1000000) (h0:1≤vs.length) (h1:vs.length≤1000)
  (q:∀ H' v,Kp [lp] H H'→PenAt H' lp (n + 1)→v∈vs→Q v H'):Nw (fun x H=>opCall (TT scr) (W scr (k + 2)) (.glob 850) [.ref lp,x] H Q) H (.list vs) :=
 new_ok w fun l H' k' n' e'=>pick_ok k'.wf (P.kp0 k') hn e' (fun e=>P.there (e ▸ n')) h0 h1 fun H'' v k'' P'' hv=>q H'' v (k'.nil.trans k'') P'' hv
theorem call2n {T:Tab} {S:Spec} {f:V} {ex:X} {es:List X} {loc:Loc} (h:vE T S ex loc H fun x H=>vEs T S es loc H fun vs H=>Nw (fun y H=>opCall T S f [x,y] H Q) H (.list vs)):vE T S (.call f [ex,.list es]) loc H Q:=h
theorem reg_ok {lp:Nat} {n size:Int} (hz:Sz size) (w:WF H) (P:PenAt H lp n) (hn:n≤999999) (q:∀ H' op,Kp [lp] H H'→PenAt H' lp (n + 2)→OpdOK size op→isM op = false→(size≠8→∃ i,op = .r i)→Q (toldV size op) H') :
  W scr (k + 3) 857 [.ref lp,.int size] H Q:=by
 refine sp_go (i:=i_law_reg) rfl e_c_law_reg rfl ?_
 refine asg_ (pick_new w P (by lia) (by decide) (by decide) fun H₁ v k₁ P₁ hv=>?_)
 obtain ⟨x,rfl,x0,x1⟩:∃ x,v = .int x∧0≤x∧x < 8:=by
  simp only [List.mem_cons,List.not_mem_nil,or_false] at hv
  rcases hv with rfl | rfl | rfl | rfl <;> exact ⟨_,rfl,by decide,by decide⟩
 have isR:∀ H',Kp [lp] H H'→PenAt H' lp (n + 2)→Q (.tup [.str t_r,.int x,.int size]) H':=fun H' k' P'=>q H' (.r x) k' P' ⟨x0,x1⟩ rfl fun _=>⟨x,rfl⟩
 show vT (TT scr) (W scr (k + 2)) (.and (.cmp .Eq (.var 1) (.lit (.int 8))) (.and (.cmp .Lt (.var 2) (.lit (.int 4))) (.cmp .Eq (.call (.glob 843) [(.var 0),(.lit (.int 3))]) (.lit (.int 2))))) [some (.ref lp),some (.int size),some (.int x)] H₁ _
 refine br_c (fun h=>?_) fun h=>isR H₁ k₁ (P₁.le (by lia))
 have h:size = 8:=by
  have h:(false ^^ decide (size = 8)) = true:=h
  simpa using h
 refine br_c (fun h'=>?_) fun h=>isR H₁ k₁ (P₁.le (by lia))
 have h':x < 4:=of_decide_eq_true h'
 refine ldraw_ok k₁.wf P₁ (by lia) (by decide) (by decide) fun H₂ d k₂ P₂ d0 d1=>?_
 refine br_c (fun h₂=>(q H₂ (.h x) (k₁.trans k₂) (P₂.le (by lia)) ⟨x0,h',h⟩ rfl fun e=>absurd h e)) fun h₂=>isR H₂ (k₁.trans k₂) (P₂.le (by lia))
end
end Mine
end
section
open PySem PySem.W PyProof.Rows Hd
namespace Mine
section
variable {scr:Addr→Option (List V)} {k:Nat} {H:AH} {Q:KV}
theorem lmem_ok {lp:Nat} {n size:Int} (w:WF H) (P:PenAt H lp n) (hn:n≤999000) (q:∀ H' op,Kp [lp] H H'→PenAt H' lp (n + 7)→OpdOK size op→(∃ b i sc far seg,op = .m b i sc far seg)→Q (toldV size op) H') :
  W scr (k + 3) 864 [.ref lp,.int size] H Q:=by
 refine sp_go (i:=i_law_mem) rfl e_c_law_mem rfl ?_
 refine pick_new (k:=k) w P (by lia) (by decide) (by decide) fun H₁ v k₁ P₁ hv=>?_
 obtain ⟨b,rfl,hb⟩:∃ x,v = .int x∧(x < 0∨x = 16∨(0≤x∧x < 8)):=by
  simp only [List.mem_cons,List.not_mem_nil,or_false] at hv
  rcases hv with rfl | rfl | rfl | rfl | rfl | rfl | rfl <;> exact ⟨_,rfl,by decide⟩
 refine pick_new (k:=k) k₁.wf P₁ (by lia) (by decide) (by decide) fun H₂ v k₂ P₂ hv=>?_
 obtain ⟨i,rfl,hi⟩:∃ x,v = .int x∧(x < 0∨(0≤x∧x < 8)):=by
  simp only [List.mem_cons,List.not_mem_nil,or_false] at hv
  rcases hv with rfl | rfl | rfl | rfl | rfl | rfl <;> exact ⟨_,rfl,by decide⟩
 have k12:=k₁.trans k₂
 have s5:∀ (i sc far:Int) H₃,Kp [lp] H H₃→PenAt H₃ lp (n + 6)→(i < 0∨(0≤i∧i < 8))→0≤sc→sc≤8→vSs (TT scr) (W scr (k + 2)) (c_law_mem.drop 4) [some (.ref lp),some (.int size),some (.int b),some (.int i),some (.int sc),some (.int far)] H₃ (fun _ H=>Q .none H) Q:=fun i sc far H₃ k₃ P₃ hi sc0 sc1=>by
  refine pick_new (k:=k) k₃.wf P₃ (by lia) (by decide) (by decide) fun H₄ v k₄ P₄ hv=>?_
  obtain ⟨seg,rfl,hs⟩:∃ s,v = .str s∧SegOK s:=by
   simp only [List.mem_cons,List.not_mem_nil,or_false] at hv
   rcases hv with rfl | rfl | rfl | rfl
   ·exact ⟨_,rfl,.inl rfl⟩
   ·exact ⟨_,rfl,.inr (.inl rfl)⟩
   ·exact ⟨_,rfl,.inl rfl⟩
   ·exact ⟨_,rfl,.inr (.inr rfl)⟩
  exact q H₄ (.m b i sc far seg) (k₃.trans k₄) (P₄.le (by lia)) ⟨hb,hi,sc0,sc1,hs⟩ ⟨_,_,_,_,_,rfl⟩
 have s4:∀ (i sc:Int) H₃,Kp [lp] H H₃→PenAt H₃ lp (n + 3)→(i < 0∨(0≤i∧i < 8))→0≤sc→sc≤8→vSs (TT scr) (W scr (k + 2)) (c_law_mem.drop 3) [some (.ref lp),some (.int size),some (.int b),some (.int i),some (.int sc),none] H₃ (fun _ H=>Q .none H) Q:=fun i sc H₃ k₃ P₃ hi sc0 sc1=>by
  refine asg_ (call2n (ldraw_ok k₃.wf P₃ (by lia) (by decide) (by decide) fun H₄ d k₄ P₄ d0 d1=>ldraw_ok k₄.wf P₄ (by lia) (by decide) (by decide) fun H₅ e k₅ P₅ e0 e1=>?_))
  refine pick_new (k:=k) k₅.wf P₅ (by lia) (by simp) (by simp) fun H₆ v k₆ P₆ hv=>?_
  obtain ⟨far,rfl⟩:∃ x,v = .int x:=by
   simp only [List.mem_cons,List.not_mem_nil,or_false] at hv
   rcases hv with rfl | rfl | rfl | rfl <;> exact ⟨_,rfl⟩
  exact setv_ (s5 i sc far H₆ (((k₃.trans k₄).trans k₅).trans k₆) (P₆.le (by lia)) hi sc0 sc1)
 have s3:∀ (i:Int),(i < 0∨(0≤i∧i < 8))→vSs (TT scr) (W scr (k + 2)) (c_law_mem.drop 2) [some (.ref lp),some (.int size),some (.int b),some (.int i),none,none] H₂ (fun _ H=>Q .none H) Q:=fun i hi=>by
  refine br_c (fun h=>?_) fun h=>lit_ (setv_ (s4 i 1 H₂ k12 (P₂.le (by lia)) hi (by decide) (by decide)))
  refine pick_new (k:=k) k12.wf P₂ (by lia) (by decide) (by decide) fun H₃ v k₃ P₃ hv=>?_
  obtain ⟨sc,rfl,s0,s1⟩:∃ x,v = .int x∧0≤x∧x≤8:=by
   simp only [List.mem_cons,List.not_mem_nil,or_false] at hv
   rcases hv with rfl | rfl | rfl | rfl <;> exact ⟨_,rfl,by decide,by decide⟩
  exact setv_ (s4 i sc H₃ (k12.trans k₃) (P₃.le (by lia)) hi s0 s1)
 show vSs (TT scr) (W scr (k + 2)) (c_law_mem.drop 1) [some (.ref lp),some (.int size),some (.int b),some (.int i),none,none] H₂ (fun _ H=>Q .none H) Q
 refine br_c (fun h=>neg_ (setv_ (s3 (-1) (.inl (by decide))))) fun h=>var_ rfl (setv_ (s3 i hi))
end
end Mine
end
section
open PySem PySem.W PyProof.Rows Hd
namespace Mine
section
variable {scr:Addr→Option (List V)} {k:Nat} {H:AH} {Q:KV}
noncomputable def lineV (l:Ln) (size:Int) (ls:Nat):V:=.tup [.str l.nm,.int size,.ref ls]
theorem line_fin {lp:Nat} {n:Int} {l:Ln} {size:Int} {H₁:AH} (k₁:Kp [lp] H H₁) (P₁:PenAt H₁ lp (n + 20)) (hp:H.get lp≠none) (hok:l.ok size)
  (q:∀ H' l ls,Kp [lp] H H'→PenAt H' lp (n + 20)→Ln.ok l size→H.get ls = none→H'.get ls = some (.list [toldV size l.o1,toldV size l.o2])→Q (lineV l size ls) H') :
  Nw (fun y H=>Q (.tup [.str l.nm,.int size,y]) H) H₁ (.list [toldV size l.o1,toldV size l.o2]) :=
 new_ok k₁.wf fun ls H₂ k₂ n₂ e₂=>q H₂ l ls (k₁.trans k₂.nil) (P₁.kp0 k₂) hok (fresh_back k₁ n₂ fun z=>k₁.th _ hp ((List.mem_singleton.mp z) ▸ n₂)) e₂
theorem retl_ {T:Tab} {S:Spec} {a b:X} {es:List X} {r:List St} {loc:Loc} {K:Loc→AH→Prop} {R:KV} (h:vE T S a loc H fun x H=>vE T S b loc H fun y H=>vEs T S es loc H fun vs H=>Nw (fun z H=>R (.tup [x,y,z]) H) H (.list vs)):vSs T S (.ret (.tup [a,b,.list es])::r) loc H K R:=h
theorem line_end {lp:Nat} {n size:Int} {s:Str} {mk:Opd→Opd→Ln} {bi:Bool} {reg mem:Opd} {way:Int} {H₁:AH} (hz:Sz size) (hnm:∀ a b,(mk a b).nm = s) (h1:∀ a b,(mk a b).o1 = a) (h2:∀ a b,(mk a b).o2 = b) (hs:sbeq s t_lea = false) (ho:PyData.strOk s = true)
  (hi:anyEq s [.str t_xchg,.str t_mov] = some bi) (k1:bi = true→∀ a b,OpdOK size a→OpdOK size b→isM a = false→(mk a b).ok size) (k2:∀ a b,OpdOK size a→OpdOK size b→isM b = false→(mk a b).ok size)
  (hp:H.get lp≠none) (k₁:Kp [lp] H H₁) (P₁:PenAt H₁ lp (n + 12)) (hn:n≤990000) (hr:OpdOK size reg) (hrm:isM reg = false) (hm:OpdOK size mem)
  (q:∀ H' l ls,Kp [lp] H H'→PenAt H' lp (n + 20)→Ln.ok l size→H.get ls = none→H'.get ls = some (.list [toldV size l.o1,toldV size l.o2])→Q (lineV l size ls) H') :
  vSs (TT scr) (W scr (k + 3)) (c_law_line.drop 3) [some (.ref lp),some (.str s),some (.int size),some (toldV size reg),some (toldV size mem),some (.int way)] H₁ (fun _ H=>Q .none H) Q:=by
 have fin:∀ a b H₂,Kp [lp] H H₂→PenAt H₂ lp (n + 20)→(mk a b).ok size→Nw (fun y H=>Q (.tup [.str s,.int size,y]) H) H₂ (.list [toldV size a,toldV size b]):=fun a b H₂ k₂ P₂ hok=>by
  have:=line_fin k₂ P₂ hp hok q
  rw [hnm,h1,h2] at this
  exact this
 have P₁':PenAt H₁ lp (n + 20):=P₁.le (by lia)
 have last:vSs (TT scr) (W scr (k + 3)) (c_law_line.drop 5) [some (.ref lp),some (.str s),some (.int size),some (toldV size reg),some (toldV size mem),some (.int way)] H₁ (fun _ H=>Q .none H) Q :=
  retl_ (fin _ _ _ k₁ P₁' (k2 _ _ hm hr hrm))
 have two:vSs (TT scr) (W scr (k + 3)) [.ret (.tup [(.var 1),.var 2,(.list [(.var 3),(.call (.glob 857) [(.var 0),(.var 2)])])])] [some (.ref lp),some (.str s),some (.int size),some (toldV size reg),some (toldV size mem),some (.int way)] H₁ (fun loc H=>vSs (TT scr) (W scr (k + 3)) (c_law_line.drop 5) loc H (fun _ H=>Q .none H) Q) Q:=by
  refine retl_ ?_
  exact reg_ok (k:=k) hz k₁.wf P₁ (by lia) fun H₂ op k₂ P₂ ho hm' _=>fin _ _ _ (k₁.trans k₂) (P₂.le (by lia)) (k2 _ _ hr ho hm')
 have mid:vSs (TT scr) (W scr (k + 3)) (c_law_line.drop 4) [some (.ref lp),some (.str s),some (.int size),some (toldV size reg),some (toldV size mem),some (.int way)] H₁ (fun _ H=>Q .none H) Q:=by
  refine br_c (fun h=>?_) fun h=>last
  refine br_c (fun h=>two) fun h=>br_c (fun h=>two) fun h=>last
 refine br_f (by show (false ^^ sbeq s t_lea) = false; rw [hs]; rfl) ?_
 refine br_c (fun h=>?_) fun h=>mid
 refine ⟨bi,ho,hi,br_c (fun h=>?_) fun h=>mid⟩
 exact retl_ (fin _ _ _ k₁ P₁' (k1 h _ _ hr hm hrm))
end
end Mine
end
section
open PySem PySem.W PyProof.Rows Hd
namespace Mine
section
variable {scr:Addr→Option (List V)} {k:Nat} {H:AH} {Q:KV}
theorem name_cases {v:V} (h:v∈[V.str t_xchg,.str t_xadd,.str t_cmpxchg,.str t_mov,.str t_xchg,.str t_lea]):v = .str t_lea∨∃ (s:Str) (mk:Opd→Opd→Ln) (bi:Bool),v = .str s∧(∀ a b,(mk a b).nm = s)∧(∀ a b,(mk a b).o1 = a)∧(∀ a b,(mk a b).o2 = b)∧sbeq s t_lea = false∧PyData.strOk s = true ∧
  anyEq s [.str t_xchg,.str t_mov] = some bi∧∀ size,Sz size→(bi = true→∀ a b,OpdOK size a→OpdOK size b→isM a = false→(mk a b).ok size)∧(∀ a b,OpdOK size a→OpdOK size b→isM b = false→(mk a b).ok size):=by
 simp only [List.mem_cons,List.not_mem_nil,or_false] at h
 have x:∃ (s:Str) (mk:Opd→Opd→Ln) (bi:Bool),V.str t_xchg = .str s∧(∀ a b,(mk a b).nm = s)∧(∀ a b,(mk a b).o1 = a)∧(∀ a b,(mk a b).o2 = b)∧sbeq s t_lea = false∧PyData.strOk s = true ∧
  anyEq s [.str t_xchg,.str t_mov] = some bi∧∀ size,Sz size→(bi = true→∀ a b,OpdOK size a→OpdOK size b→isM a = false→(mk a b).ok size)∧(∀ a b,OpdOK size a→OpdOK size b→isM b = false→(mk a b).ok size) :=
  ⟨t_xchg,.xchg,true,rfl,fun _ _=>rfl,fun _ _=>rfl,fun _ _=>rfl,rfl,by decide +kernel,by decide +kernel,fun size hz=>⟨fun _ a b ha hb hm=>⟨hz,ha,hb,.inl hm⟩,fun a b ha hb hm=>⟨hz,ha,hb,.inr hm⟩⟩⟩
 rcases h with rfl | rfl | rfl | rfl | rfl | rfl
 ·exact .inr x
 ·exact .inr ⟨t_xadd,.xadd,false,rfl,fun _ _=>rfl,fun _ _=>rfl,fun _ _=>rfl,rfl,by decide +kernel,by decide +kernel,fun size hz=>⟨fun e=>(nomatch e),fun a b ha hb hm=>⟨hz,ha,hb,hm⟩⟩⟩
 ·exact .inr ⟨t_cmpxchg,.cmpx,false,rfl,fun _ _=>rfl,fun _ _=>rfl,fun _ _=>rfl,rfl,by decide +kernel,by decide +kernel,fun size hz=>⟨fun e=>(nomatch e),fun a b ha hb hm=>⟨hz,ha,hb,trivial⟩⟩⟩
 ·exact .inr ⟨t_mov,.mov,true,rfl,fun _ _=>rfl,fun _ _=>rfl,fun _ _=>rfl,rfl,by decide +kernel,by decide +kernel,fun size hz=>⟨fun _ a b ha hb hm=>⟨hz,ha,hb,trivial⟩,fun a b ha hb hm=>⟨hz,ha,hb,trivial⟩⟩⟩
 ·exact .inr x
 ·exact .inl rfl
theorem unp2_ {T:Tab} {S:Spec} {i j:Nat} {a b:V} {loc:Loc} {K:Loc→AH→Prop} (q:K (setLoc (setLoc loc i a) j b) H):vEs T S [] loc H fun vs H=>unpV (.tup (a::b::vs)) H 2 fun vs=>vTgs T S [.var i,.var j] vs loc H K:=q
theorem unp3_ {T:Tab} {S:Spec} {i j l:Nat} {a b c:V} {loc:Loc} {K:Loc→AH→Prop} (q:K (setLoc (setLoc (setLoc loc i a) j b) l c) H):vEs T S [] loc H fun vs H=>unpV (.tup (a::b::c::vs)) H 3 fun vs=>vTgs T S [.var i,.var j,.var l] vs loc H K:=q
theorem lea_max {T:Tab} {S:Spec} {size:Int} {x a b c:Option V} (q:Q (.int (if (16:Int) > size then 16 else size)) H) :
  vE T S (.ite (.cmp .Eq (.var 1) (.lit (.str t_lea))) (.call (.bf .max) [.var 2,.lit (.int 16)]) (.var 2)) [x,some (.str t_lea),some (.int size),a,b,c] H Q:=q
theorem not_max {T:Tab} {S:Spec} {size:V} {s:Str} {x a b c:Option V} (h:sbeq s t_lea = false) (q:Q size H) :
  vE T S (.ite (.cmp .Eq (.var 1) (.lit (.str t_lea))) (.call (.bf .max) [.var 2,.lit (.int 16)]) (.var 2)) [x,some (.str s),some size,a,b,c] H Q:=by
 show branch (false ^^ sbeq s t_lea) _ (Q size H)
 rw [h]; exact q
theorem lea_if {T:Tab} {S:Spec} {y:X} {a b r:List St} {x:Option V} {loc:Loc} {K:Loc→AH→Prop} {R:KV} (q:vSs T S a (x::some (.str t_lea)::loc) H (fun loc H=>vSs T S r loc H K R) R) :
  vSs T S (.iff (.or (.cmp .Eq (.var 1) (.lit (.str t_lea))) y) a b::r) (x::some (.str t_lea)::loc) H K R:=q
theorem lline_ok {lp:Nat} {n:Int} (w:WF H) (P:PenAt H lp n) (hn:n≤990000)
  (q:∀ H' l size ls,Kp [lp] H H'→PenAt H' lp (n + 20)→Ln.ok l size→H.get ls = none→H'.get ls = some (.list [toldV size l.o1,toldV size l.o2])→Q (lineV l size ls) H'):W scr (k + 4) 871 [.ref lp] H Q:=by
 refine sp_go (i:=i_law_line) rfl e_c_law_line rfl ?_
 refine pick_new (k:=k + 1) w P (by lia) (by decide) (by decide) fun H₁ nm k₁ P₁ hnm=>?_
 refine pick_new (k:=k + 1) k₁.wf P₁ (by lia) (by decide) (by decide) fun H₂ v k₂ P₂ hv=>?_
 obtain ⟨size,rfl,hz⟩:∃ x,v = .int x∧Sz x:=by
  simp only [List.mem_cons,List.not_mem_nil,or_false] at hv
  rcases hv with rfl | rfl | rfl | rfl <;> exact ⟨_,rfl,by unfold Sz; decide⟩
 have k12:=k₁.trans k₂
 have hp:=P.there
 have three:∀ (s:Str) (z:Int),Sz z→(∀ reg mem way H₃,Kp [lp] H H₃→PenAt H₃ lp (n + 12)→OpdOK z reg→isM reg = false→(z≠8→∃ i,reg = .r i)→OpdOK z mem→(∃ b i sc far seg,mem = .m b i sc far seg) →
   vSs (TT scr) (W scr (k + 3)) (c_law_line.drop 3) [some (.ref lp),some (.str s),some (.int z),some (toldV z reg),some (toldV z mem),some (.int way)] H₃ (fun _ H=>Q .none H) Q) →
   vSs (TT scr) (W scr (k + 3)) (c_law_line.drop 2) [some (.ref lp),some (.str s),some (.int z),none,none,none] H₂ (fun _ H=>Q .none H) Q:=fun s z hz r=>by
  refine reg_ok (k:=k) hz k₂.wf P₂ (by lia) fun H₃ reg k₃ P₃ hr hrm hr8=>?_
  refine lmem_ok (k:=k) k₃.wf P₃ (by lia) fun H₄ mem k₄ P₄ hm hmm=>?_
  refine ldraw_ok k₄.wf P₄ (by lia) (by decide) (by decide) fun H₅ d k₅ P₅ d0 d1=>?_
  exact unp3_ (r reg mem d H₅ (((k12.trans k₃).trans k₄).trans k₅) (P₅.le (by lia)) hr hrm hr8 hm hmm)
 rcases name_cases hnm with rfl | ⟨s,mk,bi,rfl,h0,h1,h2,h3,h4,h5,h6⟩
 ·refine unp2_ (asg_ (lea_max (setv_ ?_)))
  have hz':Sz (if (16:Int) > size then 16 else size)∧(if (16:Int) > size then 16 else size)≠8:=by
   rcases hz with rfl | rfl | rfl | rfl
   ·exact ⟨.inr (.inl rfl),by decide⟩
   ·exact ⟨.inr (.inl rfl),by decide⟩
   ·exact ⟨.inr (.inr (.inl rfl)),by decide⟩
   ·exact ⟨.inr (.inr (.inr rfl)),by decide⟩
  refine three t_lea _ hz'.1 fun reg mem way H₃ k₃ P₃ hr hrm hr8 hm hmm=>?_
  generalize hzz:(if (16:Int) > size then 16 else size) = z at hz' hr hr8 hm ⊢
  obtain ⟨i,rfl⟩:=hr8 hz'.2
  obtain ⟨b,i',sc,far,seg,rfl⟩:=hmm
  refine lea_if (retl_ ?_)
  exact line_fin (l:=.lea i b i' sc far seg) k₃ (P₃.le (by lia)) hp ⟨hz'.1,hr,hm,trivial⟩ fun H' l ls a b c d e=>q H' l z ls a b c d e
 ·refine unp2_ (asg_ (not_max h3 (setv_ ?_)))
  refine three s size hz fun reg mem way H₃ k₃ P₃ hr hrm hr8 hm hmm=>?_
  exact line_end (k:=k) hz h0 h1 h2 h3 h4 h5 (h6 size hz).1 (h6 size hz).2 hp k₃ P₃ hn hr hrm hm fun H' l ls a b c d e=>q H' l size ls a b c d e
end
end Mine
end
section
open PySem PySem.W PyProof.Rows Hd
namespace Mine
section
variable {scr:Addr→Option (List V)} {k:Nat} {H:AH} {Q:KV}
theorem new_at {P:KV} {o:O} (w:WF H) (q:∀ H',Kp [] H H'→H'.next = H.next + 1→H'.get H.next = some o→P (.ref H.next) H'):Nw P H o :=
 ⟨q _ (Kp.alloc w) rfl AH.get_alloc⟩
theorem lpen_ok {a:Nat} {ns:List Int} (w:WF H) (hs:scr a = some (ns.map .int)) (hn:ns.length≤63) (q:∀ lp H',Kp [] H H'→H.get lp = none→PenAt H' lp 0→Q (.ref lp) H'):W scr (k + 1) 836 [.glob a] H Q:=by
 refine sp_go (i:=i_law_pen) rfl e_c_law_pen rfl ?_
 refine OpUpto.scr hs (by decide) (by rw [List.length_map]; lia) (new_ok w fun l₁ H₁ k₁ n₁ e₁=>?_)
 have e40:(40:Int).toNat = 40:=rfl
 rw [e40,← List.map_take] at e₁
 generalize hm:ns.take 40 = ms at e₁
 have hml:ms.length≤40:=by rw [← hm]; exact List.length_take_le _ _
 refine .inl ⟨_,e₁,by rw [List.length_map]; lia,?_⟩
 refine compG2 (ms.map V.int) id k₁.wf (fun v H P p=>p) (fun H' k'=>k'.kp _ _ e₁ (by simp)) (fun v hv H' Q k' r=>?_) fun H₂ k₂=>?_
 ·obtain ⟨x,_,rfl⟩:=List.mem_map.mp hv
  exact r _ k'
 ·rw [List.map_id]
  refine new_at k₂.wf fun H₃ k₃ n₃ e₃=>new_at k₃.wf fun H₄ k₄ n₄ e₄=>?_
  refine q _ H₄ (((k₁.trans k₂).trans k₃).trans k₄) (fresh_back ((k₁.trans k₂).trans k₃) (k₃.wf.none (Nat.le_refl _)) (by simp)) ⟨_,ms,0,0,e₄,k₄.kp _ _ e₃ (by simp),hml,by decide,by decide,by decide,n₃.symm⟩
theorem rep_ok {S:Spec} {n:Int} {loc:Loc} (w:WF H) (n0:0≤n) (n1:n≤1000) (q:∀ l H',Kp [] H H'→H.get l = none→H'.get l = some (.list (List.replicate n.toNat (.int 0)))→Q (.ref l) H') :
  vE (TT scr) S (.bin .Mult (.list [.lit (.int 0)]) (.lit (.int n))) loc H Q:=by
 refine new_ok w fun l₁ H₁ k₁ n₁ e₁=>⟨_,e₁,n0,n1,by simp,new_ok k₁.wf fun l₂ H₂ k₂ n₂ e₂=>q l₂ H₂ (k₁.trans k₂) (fresh_back k₁ n₂ (by simp)) ?_⟩
 rw [List.flatten_replicate_singleton] at e₂
 exact e₂
theorem flags_new (w:WF H) (q:∀ l H',Kp [] H H'→H.get l = none→H'.get l = some (flO 0 0 0 0 0 0)→Q (.ref l) H'):opCall (TT scr) (W scr (k + 1)) (.glob 202) [] H Q:=by
 show W scr (k + 1) 143 [.ref H.next] (H.alloc (.inst 202 [])) _
 have k₀:Kp [H.next] H (H.alloc (.inst 202 [])):=Kp.alloc w
 have n₀:H.get H.next = none:=w.none (Nat.le_refl _)
 refine sp_go (i:=i_Flags_init) rfl e_c_Flags_init rfl ?_
 exact (sa_ok k₀.wf AH.get_alloc rfl rfl fun H₁ k₁ e₁=>(sa_ok k₁.wf e₁ rfl rfl fun H₂ k₂ e₂=>(sa_ok k₂.wf e₂ rfl rfl fun H₃ k₃ e₃=>(sa_ok k₃.wf e₃ rfl rfl fun H₄ k₄ e₄ =>
  (sa_ok k₄.wf e₄ rfl rfl fun H₅ k₅ e₅=>(sa_ok k₅.wf e₅ rfl rfl fun H₆ k₆ e₆=>(sa_ok k₆.wf e₆ rfl rfl fun H₇ k₇ e₇ =>
   (q _ _ (((((((k₀.trans k₁).trans k₂).trans k₃).trans k₄).trans k₅).trans k₆).trans k₇ |>.fresh n₀) n₀ e₇))))))))
theorem memory_new (w:WF H) (q:∀ l d H',Kp [] H H'→H.get l = none→H.get d = none→H'.get l = some (.inst 527 [(28,.ref d)])→H'.get d = some (.di [])→Q (.ref l) H'):opCall (TT scr) (W scr (k + 1)) (.glob 527) [] H Q:=by
 show W scr (k + 1) 451 [.ref H.next] (H.alloc (.inst 527 [])) _
 have k₀:Kp [H.next] H (H.alloc (.inst 527 [])):=Kp.alloc w
 have n₀:H.get H.next = none:=w.none (Nat.le_refl _)
 refine sp_go (i:=i_Memory_init) rfl e_c_Memory_init rfl ?_
 refine new_ok k₀.wf fun d H₁ k₁ n₁ e₁=>sa_ok k₁.wf (k₁.kp _ _ AH.get_alloc (by simp)) rfl rfl fun H₂ k₂ e₂=>q _ d _ ((k₀.trans k₁.nil).trans k₂ |>.fresh n₀) n₀ (fresh_back k₀ n₁ (not1 ?_)) e₂ (k₂.kp _ _ e₁ (not1 ?_))
 all_goals
  intro e
  rw [e,AH.get_alloc] at n₁
  cases n₁
theorem none_ne {H:AH} {a b:Nat} {o:O} (h:H.get a = none) (h':H.get b = some o):a≠b:=fun e=>by
 rw [e,h'] at h
 cases h
theorem call0_ {T:Tab} {S:Spec} {f:V} {loc:Loc} (h:opCall T S f [] H Q):vE T S (.call f []) loc H Q:=h
theorem state_new (w:WF H) (q:∀ (L:L7) H',Kp [] H H'→(H.get L.s = none∧H.get L.r = none∧H.get L.x = none∧H.get L.f = none∧H.get L.m = none∧H.get L.d = none∧H.get L.g = none)→Mch H' L ⟨List.replicate 16 0,[],0,0,0,0,0,0,0,0,0⟩→Q (.ref L.s) H') :
  opCall (TT scr) (W scr (k + 2)) (.glob 644) [.none] H Q:=by
 show W scr (k + 2) 552 [.ref H.next,.none] (H.alloc (.inst 644 [])) _
 have k₀:Kp [H.next] H (H.alloc (.inst 644 [])):=Kp.alloc w
 have n₀:H.get H.next = none:=w.none (Nat.le_refl _)
 generalize hs:H.next = s at k₀ n₀ ⊢
 have s₀:(H.alloc (.inst 644 [])).get s = some (.inst 644 []):=hs ▸ AH.get_alloc
 generalize H.alloc (.inst 644 []) = H₀ at k₀ s₀ ⊢
 refine sp_go (i:=i_State_init) rfl e_c_State_init rfl ?_
 refine sa_ok k₀.wf s₀ rfl rfl fun H₁ k₁ s₁=>?_
 refine asg_ (rep_ok k₁.wf (by decide) (by decide) fun r H₂ k₂ r₁ r₂=>?_)
 refine sa_ok k₂.wf (k₂.kp _ _ s₁ (by simp)) rfl rfl fun H₃ k₃ s₃=>?_
 refine asg_ (rep_ok k₃.wf (by decide) (by decide) fun x H₄ k₄ x₃ x₄=>?_)
 refine sa_ok k₄.wf (k₄.kp _ _ s₃ (by simp)) rfl rfl fun H₅ k₅ s₅=>?_
 refine asg_ (call0_ (flags_new (k:=k) k₅.wf fun f H₆ k₆ f₅ f₆=>?_))
 refine sa_ok k₆.wf (k₆.kp _ _ s₅ (by simp)) rfl rfl fun H₇ k₇ s₇=>?_
 refine asg_ (call0_ (memory_new (k:=k) k₇.wf fun m d H₈ k₈ m₇ d₇ m₈ d₈=>?_))
 refine sa_ok k₈.wf (k₈.kp _ _ s₇ (by simp)) rfl rfl fun H₉ k₉ s₉=>?_
 refine sa_ok k₉.wf s₉ rfl rfl fun Ha ka sa=>?_
 refine sa_ok ka.wf sa rfl rfl fun Hb kb sb=>?_
 refine new_ok kb.wf fun g Hc kc gb gc=>?_
 refine sa_ok kc.wf (kc.kp _ _ sb (by simp)) rfl rfl fun Hd kd sd=>?_
 refine sa_ok kd.wf sd rfl rfl fun He ke se=>?_
 have k03:=(k₀.trans k₁).trans (k₂.nil.trans k₃)
 have k05:=k03.trans (k₄.nil.trans k₅)
 have k07:=k05.trans (k₆.nil.trans k₇)
 have k0b:=((k07.trans (k₈.nil.trans k₉)).trans ka).trans kb
 have kde:=kd.trans ke
 have kbe:=kc.nil.trans kde
 have k8e:=((k₉.trans ka).trans kb).trans kbe
 have k6e:=k₇.trans (k₈.nil.trans k8e)
 have k4e:=k₅.trans (k₆.nil.trans k6e)
 have k2e:=k₃.trans (k₄.nil.trans k4e)
 have k0e:=k0b.trans kbe
 have rs:=none_ne r₁ s₁
 have xs:=none_ne x₃ s₃
 have fs:=none_ne f₅ s₅
 have ms:=none_ne m₇ s₇
 have ds:=none_ne d₇ s₇
 have gs:=none_ne gb sb
 refine q ⟨s,r,x,f,m,d,g⟩ He (k0e.fresh n₀) ⟨n₀,fresh_back (k₀.trans k₁) r₁ (not1 rs),fresh_back k03 x₃ (not1 xs),fresh_back k05 f₅ (not1 fs),fresh_back k07 m₇ (not1 ms),fresh_back k07 d₇ (not1 ds),fresh_back k0b gb (not1 gs)⟩
  ⟨ke.wf,se,?_,?_,k6e.kp _ _ f₆ (not1 fs),k8e.kp _ _ m₈ (not1 ms),k8e.kp _ _ d₈ (not1 ds),kde.kp _ _ gc (not1 gs),?_⟩
 ·exact k2e.kp _ _ r₂ (not1 rs)
 ·exact k4e.kp _ _ x₄ (not1 xs)
 ·exact Ne.symm (none_ne x₃ (k₃.kp _ _ r₂ (not1 rs)))
end
end Mine
end
section
open PySem PySem.W PyProof.Rows Hd
namespace Mine
noncomputable def nz (mm:List (Int × Int)):List (Int × Int):=mm.filter fun p=>!decide (p.2 = 0)
noncomputable def pairsV (ps:List (Int × Int)):List V:=ps.map fun p=>.tup [.int p.1,.int p.2]
theorem intPairs_V:∀ ps,intPairs (pairsV ps) = some ps
 | []=>rfl
 | p::r=>by
  show intPairs (.tup [.int p.1,.int p.2]::pairsV r) = _
  rw [intPairs,intPairs_V r]; rfl
theorem iget_nd:∀ {mm:List (Int × Int)},(mm.map (·.1)).Nodup→∀ p∈mm,iget p.1 (mV mm) = some (.int p.2)
 | [],_,p,h=>by simp at h
 | (a,v)::r,nd,p,h=>by
  show (if a = p.1 then some (V.int v) else iget p.1 (mV r)) = _
  rw [List.map_cons,List.nodup_cons] at nd
  rcases List.mem_cons.mp h with rfl | h
  ·rw [if_pos rfl]
  ·rw [if_neg fun e:a = p.1=>nd.1 (by rw [e]; exact List.mem_map_of_mem (f:=(·.1)) h)]
   exact iget_nd nd.2 p h
theorem nz_nd {mm:List (Int × Int)} (h:(mm.map (·.1)).Nodup):((nz mm).map (·.1)).Nodup:=h.sublist (List.filter_sublist.map _)
section
variable {scr:Addr→Option (List V)} {k:Nat} {H H':AH} {Q:KV} {L:L7} {L':W4} {σ τ:Mst}
theorem comp_nz {cnd:V→AH→KB→Prop} {elt:V→AH→KV→Prop} {still:AH→Prop} {K:List V→AH→Prop} (hst:still H):∀ (mm:List (Int × Int)) (acc:List V),(∀ p∈mm,∀ P:KB,P (true ^^ decide (p.2 = 0)) H→cnd (.int p.1) H P)→(∀ p∈mm,∀ P:KV,P (.tup [.int p.1,.int p.2]) H→elt (.int p.1) H P) →
  K (acc++pairsV (nz mm)) H→compL cnd elt still ((mV mm).map fun p=>.int p.1) acc H K
 | [],acc,_,_,q=>⟨hst,by simpa [nz,pairsV] using q⟩
 | p::r,acc,hc,he,q=>by
  have hx:(true ^^ decide (p.2 = 0)) = !decide (p.2 = 0):=by cases decide (p.2 = 0) <;> rfl
  refine ⟨hst,hc p (.head _) _ (hx ▸ br_c (fun h=>he p (.head _) _ ?_) fun h=>?_)⟩
  ·refine comp_nz hst r _ (fun p hp=>hc p (.tail _ hp)) (fun p hp=>he p (.tail _ hp)) ?_
   have e:nz (p::r) = p::nz r:=List.filter_cons_of_pos h
   rw [e] at q
   simpa [pairsV] using q
  ·refine comp_nz hst r _ (fun p hp=>hc p (.tail _ hp)) (fun p hp=>he p (.tail _ hp)) ?_
   have e:nz (p::r) = nz r:=List.filter_cons_of_neg (by rw [h]; decide)
   rw [e] at q
   exact q
noncomputable def srtV (mm:List (Int × Int)):List V:=pairsV (theSrt (nz mm))
theorem sorted_ok {mm:List (Int × Int)} {l:Nat} (w:WF H) (h:H.get l = some (.list (pairsV (nz mm)))) (nd:(mm.map (·.1)).Nodup) (hl:mm.length≤100) (q:∀ l H',Kp [] H H'→H.get l = none→H'.get l = some (.list (srtV mm))→Q (.ref l) H') :
  opBlt (TT scr) .sorted [.ref l] H Q:=by
 have hn:(nz mm).length≤100:=Nat.le_trans (List.length_filter_le _ _) hl
 exact ⟨_,h,by rw [pairsV,List.length_map]; lia,_,intPairs_V _,nz_nd nd,hn,new_ok w q⟩
theorem written_ok (M:Mch H L σ) (nd:(σ.mm.map (·.1)).Nodup) (hl:σ.mm.length≤100) (q:∀ l H',Kp [] H H'→H.get l = none→H'.get l = some (.list (srtV σ.mm))→Q (.ref l) H'):W scr (k + 1) 496 [.ref L.m] H Q:=by
 refine sp_go (i:=i_Memory_written) rfl e_c_Memory_written rfl ?_
 refine at_ok M.hM rfl rfl (.inr ⟨_,M.hD,by rw [mV,List.length_map]; lia,?_⟩)
 refine comp_nz ⟨M.hD,rfl⟩ σ.mm [] (fun p hp P h=>?_) (fun p hp P h=>?_) ?_
 ·exact at_ok M.hM rfl rfl (OpItem.di M.hD (iget_nd nd p hp) h)
 ·exact at_ok M.hM rfl rfl (OpItem.di M.hD (iget_nd nd p hp) h)
 ·exact new_ok M.wf fun l₁ H₁ k₁ n₁ e₁=>sorted_ok k₁.wf e₁ nd hl fun l₂ H₂ k₂ n₂ e₂=>q l₂ H₂ (k₁.trans k₂) (fresh_back k₁ n₂ (by simp)) e₂
theorem told_ok (M:Mch H L σ) (q:Q (.tup (flV σ++[.int 0])) H):W scr (k + 1) 150 [.ref L.f] H Q:=by
 refine sp_go (i:=i_Flags_told) rfl e_c_Flags_told rfl ?_
 exact at_ok M.hF rfl rfl (at_ok M.hF rfl rfl (at_ok M.hF rfl rfl (at_ok M.hF rfl rfl (at_ok M.hF rfl rfl (at_ok M.hF rfl rfl (at_ok M.hF rfl rfl q))))))
end
end Mine
end
section
open PySem PySem.W PyProof.Rows Hd
namespace Mine
section
variable {scr:Addr→Option (List V)} {k:Nat} {H H':AH} {Q:KV} {L:L7} {L':W4} {σ τ:Mst}
theorem Both.kp0 (B:Both H L L' σ) (h:Kp [] H H'):Both H' L L' σ:=⟨B.M.kp0 h,B.W.kp0 h,B.av,B.qr,B.qx,B.de,B.gw⟩
theorem eqT_same {neg:Bool} {xs:List V} {ds:List PyData} (hd:toDs xs = some ds) (hs:SeqAt.shaped (.tuple ds) = true) (q:Q (.bool (neg ^^ true)) H):eqV neg (.tup xs) (.tup xs) H Q:=by
 refine ⟨ds,ds,hd,hd,hs,hs,?_⟩
 rw [SeqAt.eqvAll_refl ds (by have:=SeqAt.canLay_of_shaped hs; exact this)]
 exact q
noncomputable abbrev AllT:KV:=fun v _=>v = .bool true
theorem law_end3 {lf:Nat} {x0 x1 x2 x3 x4 x5 x6 x9 x10 x12 x13:Option V} {K:Loc→AH→Prop} (B:Both H L L' σ) (hf:H.get lf = some (.list [.int σ.fs,.int σ.gs])) :
  vSs (TT scr) (W scr (k + 9)) (c_law.drop 16) [x0,x1,x2,x3,x4,x5,x6,some (.ref lf),some (.ref L.s),x9,x10,some (.ref L'.w),x12,x13] H K AllT:=by
 refine at_ok B.M.hS rfl rfl (gs_ B.M.hG rfl (at_ok B.M.hS rfl rfl (gs_ B.M.hG rfl (new_ok B.M.wf fun l₁ H₁ k₁ n₁ e₁=>?_))))
 have hf₁:=k₁.kp _ _ hf (by simp)
 have M₁:=B.M.kp0 k₁
 refine var_ rfl (eqL_same e₁ hf₁ (toDs_ints [σ.fs,σ.gs]) (shaped_ints _) ?_)
 refine at_ok M₁.hS rfl rfl (rep_ok M₁.wf (by decide) (by decide) fun l₂ H₂ k₂ n₂ e₂=>?_)
 exact eqL_same (k₂.kp _ _ M₁.hX (by simp)) e₂ (toDs_ints (List.replicate 16 0)) (shaped_ints _) rfl
theorem law_end2 {lf:Nat} {x0 x1 x2 x3 x4 x5 x6 x10 x12 x13:Option V} {K:Loc→AH→Prop} (B:Both H L L' σ) (hf:H.get lf = some (.list [.int σ.fs,.int σ.gs])) :
  vSs (TT scr) (W scr (k + 9)) (c_law.drop 15) [x0,x1,x2,x3,x4,x5,x6,some (.ref lf),some (.ref L.s),some (.int σ.rip),x10,some (.ref L'.w),x12,x13] H K AllT:=by
 obtain ⟨a,w1,w2,_⟩:=B.W.hW
 refine at_ok B.M.hS rfl rfl ⟨look_i B.M.hF rfl rfl,meth_i B.M.hF rfl (told_ok (k:=k + 8) B.M (gs_ w1 rfl (new_ok B.M.wf fun l₁ H₁ k₁ n₁ e₁=>?_)))⟩
 have w2₁:=k₁.kp _ _ w2 (by simp)
 refine ⟨_,_,w2₁,e₁,Nat.le_of_ble_eq_true rfl,new_ok k₁.wf fun l₂ H₂ k₂ n₂ e₂=>⟨_,e₂,Nat.le_of_ble_eq_true rfl,?_⟩⟩
 have B₂:=(B.kp0 k₁).kp0 k₂
 refine eqT_same (toDs_ints [σ.c,σ.p,σ.a,σ.z,σ.s,σ.o,0]) (shaped_tints _) ?_
 refine at_ok B₂.M.hS rfl rfl (br_f ?_ (law_end3 B₂ (k₂.kp _ _ (k₁.kp _ _ hf (by simp)) (by simp))))
 show (true ^^ decide (σ.rip = σ.rip)) = false
 simp
theorem law_end1 {lf:Nat} {x0 x1 x2 x3 x4 x5 x6 x12 x13:Option V} {K:Loc→AH→Prop} (B:Both H L L' σ) (nd:(σ.mm.map (·.1)).Nodup) (hl:σ.mm.length≤100) (hf:H.get lf = some (.list [.int σ.fs,.int σ.gs])) :
  vSs (TT scr) (W scr (k + 9)) (c_law.drop 14) [x0,x1,x2,x3,x4,x5,x6,some (.ref lf),some (.ref L.s),some (.int σ.rip),some (.ref L'.e),some (.ref L'.w),x12,x13] H K AllT:=by
 refine at_ok B.M.hS rfl rfl ⟨look_i B.M.hM rfl rfl,meth_i B.M.hM rfl (written_ok (k:=k + 8) B.M nd hl fun l₁ H₁ k₁ n₁ e₁=>?_)⟩
 have B₁:=B.kp0 k₁
 refine .inr ⟨_,B₁.W.hE,by rw [mV,List.length_map]; lia,?_⟩
 refine comp_nz ⟨B₁.W.hE,rfl⟩ σ.mm [] (fun p hp P h=>?_) (fun p hp P h=>?_) ?_
 ·exact OpItem.di B₁.W.hE (iget_nd nd p hp) h
 ·exact OpItem.di B₁.W.hE (iget_nd nd p hp) h
 ·refine new_ok B₁.M.wf fun l₂ H₂ k₂ n₂ e₂=>sorted_ok k₂.wf e₂ nd hl fun l₃ H₃ k₃ n₃ e₃=>?_
  refine eqL_same (k₃.kp _ _ (k₂.kp _ _ e₁ (by simp)) (by simp)) e₃ (toDs_pairs _) (shaped_pairs _) ?_
  exact law_end2 ((B₁.kp0 k₂).kp0 k₃) (k₃.kp _ _ (k₂.kp _ _ (k₁.kp _ _ hf (by simp)) (by simp)) (by simp))
end
end Mine
end
section
open PySem PySem.W PyProof.Rows Hd
namespace Mine
noncomputable def LnAt (H:AH) (v:V):Prop:=∃ l size ls,v = lineV l size ls∧Ln.ok l size∧H.get ls = some (.list [toldV size l.o1,toldV size l.o2])
theorem LnAt.kp {H H':AH} {X:List Nat} {v:V} (h:LnAt H v) (k:Kp X H H') (n:∀ y∈X,∀ vs,H.get y = some (.list vs)→vs.length≠2):LnAt H' v:=by
 obtain ⟨l,size,ls,e1,e2,e3⟩:=h
 exact ⟨l,size,ls,e1,e2,k.kp _ _ e3 fun q=>n _ q _ e3 rfl⟩
theorem step_keeps {σ:Mst} {size:Int} {l:Ln}:(l.step σ size).rip = σ.rip∧(l.step σ size).fs = σ.fs∧(l.step σ size).gs = σ.gs:=by
 have w:∀ (σ:Mst) (wo:Int) (op:Opd),(wrV σ size wo op).rip = σ.rip∧(wrV σ size wo op).fs = σ.fs∧(wrV σ size wo op).gs = σ.gs:=fun σ wo op=>by cases op <;> exact ⟨rfl,rfl,rfl⟩
 have w2:∀ (σ:Mst) (wo wo':Int) (op op':Opd),(wrV (wrV σ size wo op) size wo' op').rip = σ.rip∧(wrV (wrV σ size wo op) size wo' op').fs = σ.fs∧(wrV (wrV σ size wo op) size wo' op').gs = σ.gs:=fun σ wo wo' op op'=>by cases op <;> cases op' <;> exact ⟨rfl,rfl,rfl⟩
 cases l with
 | lea=>exact w _ _ _
 | mov=>exact w _ _ _
 | xchg o₁ o₂=>show (xchgV σ size o₁ o₂).rip = _∧(xchgV σ size o₁ o₂).fs = _∧(xchgV σ size o₁ o₂).gs = _; unfold xchgV; split <;> exact w2 _ _ _ _ _
 | xadd o₁ o₂=>show (xaddV σ size o₁ o₂).rip = _∧(xaddV σ size o₁ o₂).fs = _∧(xaddV σ size o₁ o₂).gs = _; unfold xaddV; split <;> exact w2 (addFl σ _ _ _) _ _ _ _
 | cmpx o₁ o₂=>show (cmpxV σ size o₁ o₂).rip = _∧(cmpxV σ size o₁ o₂).fs = _∧(cmpxV σ size o₁ o₂).gs = _; unfold cmpxV; split <;> exact w (subFl σ _ _ _) _ _
section
variable {scr:Addr→Option (List V)} {k:Nat} {H H':AH} {Q:KV} {L:L7} {L':W4} {σ τ:Mst}
theorem x6_len (B:Both H L L' σ) (hr:RgOK σ.rg):∀ y∈X6 L L',∀ vs,H.get y = some (.list vs)→vs.length = 16:=by
 obtain ⟨a,w1,w2,_⟩:=B.W.hW
 intro y hy vs e
 simp only [List.mem_cons,List.not_mem_nil,or_false] at hy
 have r16:(σ.rg.map V.int).length = 16:=by rw [List.length_map]; exact hr.1
 rcases hy with rfl | rfl | rfl | rfl | rfl | rfl
 ·rw [B.M.hR] at e; cases e; exact r16
 ·rw [B.M.hD] at e; cases e
 ·rw [B.M.hF] at e; cases e
 ·rw [B.W.hQ] at e; cases e; exact r16
 ·rw [B.W.hE] at e; cases e
 ·rw [w1] at e; cases e
theorem x6_not (B:Both H L L' σ) (hr:RgOK σ.rg) {y:Nat} {vs:List V} (e:H.get y = some (.list vs)) (h:vs.length≠16):y ∉ X6 L L':=fun q=>h (x6_len B hr y q vs e)
theorem loop_ok {ll:Nat} {vs:List V} {x0 x1 x2 x3 x4 x5 x6 x7 x9 x10:Option V} {K:Loc→AH→Prop} {R:KV} (hv:vs.length≠16):∀ (us:List V) (N:Nat) (σ:Mst) (H:AH) (x12 x13:Option V),Both H L L' σ→Inv σ N→N + 8 * us.length≤600→(∀ v∈us,LnAt H v)→H.get ll = some (.list vs) →
  (∀ H' σ' x12 x13,Both H' L L' σ'→Inv σ' (N + 8 * us.length)→σ'.rip = σ.rip→σ'.fs = σ.fs→σ'.gs = σ.gs→(∀ y ws,H.get y = some (.list ws)→ws.length≠16→H'.get y = some (.list ws))→K [x0,x1,x2,x3,x4,x5,x6,x7,some (.ref L.s),x9,x10,some (.ref L'.w),x12,x13] H') →
  forL (fun v loc H K=>H.get ll = some (.list vs)∧vSs (TT scr) (W scr (k + 9)) lineB (setLoc loc 12 v) H K R) us [x0,x1,x2,x3,x4,x5,x6,x7,some (.ref L.s),x9,x10,some (.ref L'.w),x12,x13] H (fun loc H=>H.get ll = some (.list vs)∧K loc H)
 | [],N,σ,H,x12,x13,B,I,hN,hl,hll,q=>⟨hll,q H σ x12 x13 B I rfl rfl rfl fun _ _ e _=>e⟩
 | v::us,N,σ,H,x12,x13,B,I,hN,hl,hll,q=>by
  rw [List.length_cons] at hN q
  refine ⟨hll,?_⟩
  obtain ⟨l,size,ls,rfl,hok,hls⟩:=hl v (.head _)
  have nl:ls ∉ X6 L L':=x6_not B I.rg hls (by simp)
  refine body_ok hok B I (by lia) hls (fun e=>nl (e ▸ .head _)) (fun e=>nl (e ▸ .tail _ (.tail _ (.tail _ (.head _))))) fun H₁ y k₁ B₁=>?_
  refine loop_ok hv us (N + 8) _ H₁ _ _ B₁ (I.step hok) (by lia) (fun v hv'=>(hl v (.tail _ hv')).kp k₁ fun y hy ws e=>by rw [x6_len B I.rg y hy ws e]; decide) (k₁.kp _ _ hll (x6_not B I.rg hll hv)) fun H₂ σ' a b B₂ I₂ e1 e2 e3 kk=>?_
  obtain ⟨s1,s2,s3⟩:=step_keeps (σ:=σ) (size:=size) (l:=l)
  exact q H₂ σ' a b B₂ (by rw [show N + 8 * (us.length + 1) = N + 8 + 8 * us.length by lia]; exact I₂) (e1.trans s1) (e2.trans s2) (e3.trans s3) fun y ws e hn=>kk y ws (k₁.kp _ _ e (x6_not B I.rg e hn)) hn
theorem law_loop {lf ll:Nat} {vs:List V} {x0 x1 x3 x4 x5 x6 x12 x13:Option V} {K:Loc→AH→Prop} (B:Both H L L' σ) (I:Inv σ 48) (hv:vs.length≤4) (hl:∀ v∈vs,LnAt H v) (hll:H.get ll = some (.list vs)) (hf:H.get lf = some (.list [.int σ.fs,.int σ.gs])) :
  vSs (TT scr) (W scr (k + 9)) (c_law.drop 13) [x0,x1,some (.ref ll),x3,x4,x5,x6,some (.ref lf),some (.ref L.s),some (.int σ.rip),some (.ref L'.e),some (.ref L'.w),x12,x13] H K AllT:=by
 refine .inl ⟨_,hll,by lia,?_⟩
 refine loop_ok (by lia) vs 48 σ H _ _ B I (by lia) hl hll fun H₁ σ' a b B₁ I₁ e1 e2 e3 kk=>?_
 rw [← e1]
 refine law_end1 B₁ I₁.nd (by have:=I₁.len; lia) ?_
 rw [e2,e3]
 exact kk _ _ hf (by simp)
end
end Mine
end
section
open PySem PySem.W PyProof.Rows Hd
namespace Mine
noncomputable def mmOf (ps:List (Int × Int)) (mm:List (Int × Int)):List (Int × Int):=ps.foldl (fun mm p=>mput p.1 p.2 mm) mm
theorem mmOf_V:∀ (ps mm:List (Int × Int)),ps.foldl (fun es p=>iput p.1 (.int p.2) es) (mV mm) = mV (mmOf ps mm)
 | [],_=>rfl
 | p::r,mm=>by
  rw [List.foldl_cons,mput_V,mmOf_V r]; rfl
theorem mmOf_nd:∀ (ps:List (Int × Int)) {mm:List (Int × Int)},(mm.map (·.1)).Nodup→((mmOf ps mm).map (·.1)).Nodup
 | [],_,h=>h
 | _::r,_,h=>mmOf_nd r (mput_nd h)
theorem mmOf_len:∀ (ps mm:List (Int × Int)),(mmOf ps mm).length≤mm.length + ps.length
 | [],_=>Nat.le_refl _
 | p::r,mm=>by
  have:=mmOf_len r (mput p.1 p.2 mm)
  have:=mput_len p.1 p.2 mm
  show (mmOf r (mput p.1 p.2 mm)).length≤_
  rw [List.length_cons]; lia
theorem mmOf_oct:∀ (ps:List (Int × Int)) {mm:List (Int × Int)},Oct mm→Oct ps→Oct (mmOf ps mm)
 | [],_,h,_=>h
 | p::r,mm,h,g=>mmOf_oct r (mput_oct h (g p (.head _))) fun q hq=>g q (.tail _ hq)
noncomputable def octPs (os:List Int):List (Int × Int):=(List.range 48).map fun (i:Nat)=>(16384 + (i:Int),os.getD i 0)
theorem octPs_oct {os:List Int} (h:∀ x∈os,0≤x∧x < 256):Oct (octPs os):=by
 intro p hp
 obtain ⟨i,_,rfl⟩:=List.mem_map.mp hp
 show 0≤os.getD i 0∧os.getD i 0 < 256
 rw [List.getD_eq_getElem?_getD]
 cases e:os[i]? with
 | none=>exact ⟨by decide,by decide⟩
 | some x=>exact h x (List.mem_of_getElem? e)
noncomputable def mm0 (os:List Int):List (Int × Int):=mmOf (octPs os) []
theorem octPs_len {os:List Int}:(octPs os).length = 48:=by rw [octPs,List.length_map,List.length_range]
theorem mm0_len {os:List Int}:(mm0 os).length≤48:=by
 have h:=mmOf_len (octPs os) []
 rw [octPs_len] at h
 exact Nat.le_trans h (by simp)
theorem mm0_nd {os:List Int}:((mm0 os).map (·.1)).Nodup:=mmOf_nd (octPs os) (mm:=[]) List.nodup_nil
theorem mm0_oct {os:List Int} (h:∀ x∈os,0≤x∧x < 256):Oct (mm0 os):=mmOf_oct (octPs os) (mm:=[]) (fun p hp=>by simp at hp) (octPs_oct h)
theorem mm0_inv {mm:List (Int × Int)} {os rg:List Int} {c p a z s o rip fs gs:Int} (e:mm0 os = mm) (hr:RgOK rg) (h:∀ x∈os,0≤x∧x < 256):Inv ⟨rg,mm,c,p,a,z,s,o,rip,fs,gs⟩ 48:=by
 have a:=mm0_oct h
 have b:=mm0_len (os:=os)
 have d:=mm0_nd (os:=os)
 rw [e] at a b d
 exact ⟨hr,a,b,d⟩
section
variable {scr:Addr→Option (List V)} {k:Nat} {H H':AH} {Q:KV} {L:L7} {L':W4} {σ τ:Mst}
theorem law_12 {lf ll ld lr:Nat} {vs:List V} {rg:List Int} {mm:List (Int × Int)} {rip fs gs:Int} {x0 x1 x4 x5 x6 x12 x13:Option V} {K:Loc→AH→Prop} (M:Mch H L ⟨rg,mm,0,0,0,0,0,0,rip,fs,gs⟩) (I:Inv ⟨rg,mm,0,0,0,0,0,0,rip,fs,gs⟩ 48)
  (hv:vs.length≤4) (hl:∀ v∈vs,LnAt H v) (hll:H.get ll = some (.list vs)) (hf:H.get lf = some (.list [.int fs,.int gs])) (hr:H.get lr = some (.list (rg.map .int))) (rr:lr≠L.r) (rx:lr≠L.x) (hd:H.get ld = some (.di (mV mm))) (dd:L.d≠ld) :
  vSs (TT scr) (W scr (k + 9)) (c_law.drop 12) [x0,x1,some (.ref ll),some (.ref lr),x4,x5,x6,some (.ref lf),some (.ref L.s),some (.int rip),some (.ref ld),none,x12,x13] H K AllT:=by
 refine gi_n hf (by decide) (by decide) rfl (gi_n hf (by decide) (by decide) rfl (new_ok M.wf fun b H₁ k₁ n₁ e₁=>?_))
 refine rep_ok k₁.wf (by decide) (by decide) fun a H₂ k₂ n₂ e₂=>new_ok k₂.wf fun w H₃ k₃ n₃ e₃=>?_
 have k02:=k₁.trans k₂
 have k03:=k02.trans k₃
 have M₃:=M.kp0 k03
 have up:∀ {y:Nat} {o:O},H.get y = some o→H₃.get y = some o:=fun e=>k03.kp _ _ e (by simp)
 have a₃:=k₃.kp _ _ e₂ (by simp)
 have an:∀ {y:Nat} {o:O},H.get y = some o→a≠y:=fun e=>none_ne n₂ (k₁.kp _ _ e (by simp))
 have wn:∀ {y:Nat} {o:O},H.get y = some o→w≠y:=fun e=>none_ne n₃ (k02.kp _ _ e (by simp))
 refine law_loop (L':=⟨w,lr,b,ld,[lr,L.r,L.x]⟩) ⟨M₃,⟨k₃.wf,⟨a,e₃,a₃,?_⟩,up hr,k₃.kp _ _ (k₂.kp _ _ e₁ (by simp)) (by simp),up hd,none_ne n₃ (k₂.kp _ _ e₁ (by simp)),.head _,?_⟩,rfl,rr,rx,dd,?_⟩ I hv (fun v h=>(hl v h).kp k03 (fun y h=>by simp at h)) (up hll) (up hf)
 ·simp only [List.mem_cons,List.not_mem_nil,or_false,not_or]
  exact ⟨an hr,an M.hR,an M.hX⟩
 ·intro y hy
  simp only [List.mem_cons,List.not_mem_nil,or_false] at hy
  rcases hy with rfl | rfl | rfl
  ·rw [up hr]; exact Option.some_ne_none _
  ·rw [up M.hR]; exact Option.some_ne_none _
  ·rw [up M.hX]; exact Option.some_ne_none _
 ·exact Ne.symm (wn M.hG)
end
end Mine
end
section
open PySem PySem.W PyProof.Rows Hd
namespace Mine
section
variable {scr:Addr→Option (List V)} {k:Nat} {H H':AH} {Q:KV} {L:L7} {L':W4} {σ τ:Mst}
noncomputable def ofI (os:List Int):V→V
 | .int i=>.tup [.int (16384 + i),.int (os.getD i.toNat 0)]
 | v=>v
theorem octPs_V {os:List Int}:(rngV 48).map (ofI os) = pairsV (octPs os):=by
 rw [rngV,pairsV,octPs,List.map_map,List.map_map]
 rfl
theorem memory_made {lo:Nat} {os:List Int} {loc:Loc} (w:WF H) (h6:loc[6]? = some (some (.ref lo))) (ho:H.get lo = some (.list (os.map .int))) (hl:os.length = 48) (q:∀ l H',Kp [] H H'→H.get l = none→H'.get l = some (.di (mV (mm0 os)))→Q (.ref l) H') :
  vE (TT scr) (W scr (k + 9)) (.call (.bf .dict) [(.comp (.tup [(.bin .Add (.lit (.int 16384)) (.var 0)),(.item (.var 1) (.var 0))]) 0 1 (.lit (.int 48)) (.lit (.bool true)) [none,some 6])]) loc H Q:=by
 refine call1_ ⟨by decide,by decide,?_⟩
 refine compG2 (rngV 48) (ofI os) w (fun v H P p=>p) (fun _ _=>trivial) (fun v hv H' Q k' r=>?_) fun H₁ k₁=>?_
 ·obtain ⟨i,hi,rfl⟩:=List.mem_map.mp hv
  have hi:i < os.length:=by rw [hl]; exact List.mem_range.mp hi
  rw [show capLoc [none,some 6] loc = [none,some (.ref lo)] by simp [capLoc,h6]]
  refine gi_l (k'.kp _ _ ho (by simp)) (by lia) (by lia) ?_ (r _ k')
  rw [List.getElem?_map,show ((i:Int)).toNat = i from rfl,List.getElem?_eq_getElem hi]
  show some (V.int os[i]) = some (.int (os.getD i 0))
  rw [List.getD_eq_getElem?_getD,List.getElem?_eq_getElem hi]; rfl
 ·rw [octPs_V]
  have h48:(pairsV (octPs os)).length = 48:=by rw [pairsV,List.length_map,octPs_len]
  refine new_ok k₁.wf fun l₂ H₂ k₂ n₂ e₂=>⟨_,e₂,by lia,_,intPairs_V _,new_ok k₂.wf fun l₃ H₃ k₃ n₃ e₃=>q l₃ H₃ ((k₁.trans k₂).trans k₃) (fresh_back (k₁.trans k₂) n₃ (by simp)) ?_⟩
  rw [show ([]:List (Int × V)) = mV [] from rfl,mmOf_V] at e₃
  exact e₃
theorem law_11 {lf ll lo lr:Nat} {vs:List V} {rg os:List Int} {mm:List (Int × Int)} {rip fs gs:Int} {x0 x1 x4 x5 x12 x13:Option V} {K:Loc→AH→Prop} (em:mm0 os = mm) (M:Mch H L ⟨rg,mm,0,0,0,0,0,0,rip,fs,gs⟩) (I:Inv ⟨rg,mm,0,0,0,0,0,0,rip,fs,gs⟩ 48)
  (hv:vs.length≤4) (hl:∀ v∈vs,LnAt H v) (hll:H.get ll = some (.list vs)) (hf:H.get lf = some (.list [.int fs,.int gs])) (hr:H.get lr = some (.list (rg.map .int))) (rr:lr≠L.r) (rx:lr≠L.x) (ho:H.get lo = some (.list (os.map .int))) (hol:os.length = 48) :
  vSs (TT scr) (W scr (k + 9)) (c_law.drop 11) [x0,x1,some (.ref ll),some (.ref lr),x4,x5,some (.ref lo),some (.ref lf),some (.ref L.s),some (.int rip),none,none,x12,x13] H K AllT:=by
 refine asg_ (memory_made M.wf rfl ho hol fun ld H₁ k₁ n₁ e₁=>?_)
 rw [em] at e₁
 exact law_12 (M.kp0 k₁) I hv (fun v h=>(hl v h).kp k₁ (fun y h=>by simp at h)) (k₁.kp _ _ hll (by simp)) (k₁.kp _ _ hf (by simp)) (k₁.kp _ _ hr (by simp)) rr rx e₁ (Ne.symm (none_ne n₁ M.hD))
end
end Mine
end
section
open PySem PySem.W PyProof.Rows Hd
namespace Mine
noncomputable def idxPs:List Int→Nat→List (Int × Int)
 | [],_=>[]
 | u::r,i=>(16384 + (i:Int),u)::idxPs r (i + 1)
theorem idxPs_len:∀ (us:List Int) (i:Nat),(idxPs us i).length = us.length
 | [],_=>rfl
 | _::r,i=>by rw [idxPs,List.length_cons,List.length_cons,idxPs_len r]
theorem idxPs_get:∀ (us:List Int) (i j:Nat) (h:j < us.length),(idxPs us i)[j]? = some (16384 + ((i + j:Nat):Int),us[j])
 | u::r,i,0,_=>rfl
 | u::r,i,j + 1,h=>by
  show (idxPs r (i + 1))[j]? = some (_,r[j]'(by simpa using h))
  rw [idxPs_get r (i + 1) j (by simpa using h),show i + 1 + j = i + (j + 1) by lia]
theorem idxPs_octPs {os:List Int} (h:os.length = 48):idxPs os 0 = octPs os:=by
 apply List.ext_getElem?
 intro j
 by_cases hj:j < 48
 ·rw [idxPs_get os 0 j (by lia),octPs,List.getElem?_map,List.getElem?_range hj]
  show some (16384 + ((0 + j:Nat):Int),os[j]) = some (16384 + (j:Int),os.getD j 0)
  rw [List.getD_eq_getElem?_getD,List.getElem?_eq_getElem (by lia),Nat.zero_add]; rfl
 ·rw [List.getElem?_eq_none (by rw [idxPs_len]; lia),List.getElem?_eq_none (by rw [octPs_len]; lia)]
section
variable {scr:Addr→Option (List V)} {k:Nat} {H H':AH} {Q:KV} {L:L7} {L':W4} {σ τ:Mst}
theorem load_loop {b:Array UInt8} {K:Loc→AH→Prop} {R:KV}:∀ (us:List Int) (i:Nat) (σ:Mst) (H:AH) (x3 x4:Option V),Mch H L σ→σ.mm.length + us.length≤1000→(∀ u∈us,0≤u∧u < 256)→i + us.length≤48 →
  (∀ H' x3 x4,Kp [L.d] H H'→Mch H' L { σ with mm:=mmOf (idxPs us i) σ.mm }→K [some (.ref L.m),some (.int 16384),some (.byt b),x3,x4] H') →
  forL (fun v loc H K=>True∧pairV v fun x y=>vSs (TT scr) (W scr (k + 3)) [.ex (.meth (.var 0) 30 [(.bin .Add (.var 1) (.var 3)),(.var 4)])] (setLoc (setLoc loc 3 x) 4 y) H K R) (((us.map octetOf).zipIdx i).map fun p=>V.tup [V.int (p.2:Int),V.int (p.1.toNat:Int)])
   [some (.ref L.m),some (.int 16384),some (.byt b),x3,x4] H K
 | [],i,σ,H,x3,x4,M,hl,hu,hi,q=>q H x3 x4 (Kp.refl M.wf) M
 | u::us,i,σ,H,x3,x4,M,hl,hu,hi,q=>by
  rw [List.length_cons] at hl hi
  obtain ⟨u0,u1⟩:=hu u (.head _)
  have hb:((octetOf u).toNat:Int) = u:=by
   rw [octetOf,UInt8.toNat_ofNat']; lia
  rw [List.map_cons,List.zipIdx_cons,List.map_cons]
  refine ⟨trivial,?_⟩
  show vSs (TT scr) (W scr (k + 3)) _ [some (.ref L.m),some (.int 16384),some (.byt b),some (.int (i:Int)),some (.int ((octetOf u).toNat:Int))] H _ R
  rw [hb]
  refine ⟨look_i M.hM rfl rfl,meth_i M.hM rfl (set_octet_ok (k:=k) M (by lia) fun H₁ k₁ M₁=>?_)⟩
  have e:(16384 + (i:Int)) % 2 ^ 64 = 16384 + (i:Int):=Int.emod_eq_of_lt (by lia) (by have:(2:Int) ^ 64 = 18446744073709551616:=(by decide); lia)
  rw [e] at M₁
  refine load_loop us (i + 1) _ H₁ _ _ M₁ (by have:=mput_len (16384 + (i:Int)) u σ.mm; show (mput (16384 + (i:Int)) u σ.mm).length + _≤_; lia) (fun v h=>hu v (.tail _ h)) (by lia) fun H₂ a c k₂ M₂=>q H₂ a c (k₁.trans k₂) M₂
theorem load_ok {os:List Int} (M:Mch H L σ) (hm:σ.mm = []) (ho:∀ x∈os,0≤x∧x < 256) (hl:os.length = 48) (q:∀ H',Kp [L.d] H H'→Mch H' L { σ with mm:=mm0 os }→Q .none H') :
  W scr (k + 4) 486 [.ref L.m,.int 16384,.byt (os.map octetOf).toArray] H Q:=by
 refine sp_go (i:=i_Memory_load) rfl e_c_Memory_load rfl ?_
 refine ⟨by show (os.map octetOf).toArray.size≤1000; rw [List.size_toArray,List.length_map]; lia,?_⟩
 refine load_loop os 0 σ H _ _ M (by rw [hm,hl]; decide) ho (by lia) fun H₁ a c k₁ M₁=>⟨trivial,q H₁ k₁ ?_⟩
 rw [idxPs_octPs hl,hm] at M₁
 exact M₁
theorem law_10 {lf ll lo lr:Nat} {vs:List V} {rg os:List Int} {rip fs gs:Int} {x0 x1 x4 x5 x12 x13:Option V} {K:Loc→AH→Prop} (M:Mch H L ⟨rg,[],0,0,0,0,0,0,rip,fs,gs⟩) (hrg:RgOK rg) (hos:∀ x∈os,0≤x∧x < 256)
  (hv:vs.length≤4) (hl:∀ v∈vs,LnAt H v) (hll:H.get ll = some (.list vs)) (hf:H.get lf = some (.list [.int fs,.int gs])) (hr:H.get lr = some (.list (rg.map .int))) (rr:lr≠L.r) (rx:lr≠L.x) (ho:H.get lo = some (.list (os.map .int))) (hol:os.length = 48) :
  vSs (TT scr) (W scr (k + 9)) (c_law.drop 10) [x0,x1,some (.ref ll),some (.ref lr),x4,x5,some (.ref lo),some (.ref lf),some (.ref L.s),some (.int rip),none,none,x12,x13] H K AllT:=by
 refine at_ok M.hS rfl rfl ⟨look_i M.hM rfl rfl,⟨_,ho,by rw [List.length_map]; lia,os,allInts_map _,hos,meth_i M.hM rfl (load_ok (k:=k + 5) M rfl hos hol fun H₁ k₁ M₁=>?_)⟩⟩
 have nd:∀ {y:Nat} {vs:List V},H.get y = some (.list vs)→H₁.get y = some (.list vs):=fun e=>k₁.kp _ _ e (not1 (get_ne e M.hD fun q=>by cases q))
 exact law_11 rfl M₁ (mm0_inv rfl hrg hos) hv (fun v h=>(hl v h).kp k₁ (fun y h vs e=>by rw [List.mem_singleton.mp h,M.hD] at e; cases e)) (nd hll) (nd hf) (nd hr) rr rx (nd ho) hol
end
end Mine
end
section
open PySem PySem.W PyProof.Rows Hd
namespace Mine
section
variable {scr:Addr→Option (List V)} {k:Nat} {H H':AH} {Q:KV} {L:L7} {L':W4} {σ τ:Mst}
theorem Mch.setG (M:Mch H L σ) {fs gs:Int} (h:Kp [L.g] H H') (e:H'.get L.g = some (sgO fs gs)):Mch H' L { σ with fs:=fs,gs:=gs } :=
 ⟨h.wf,h.kp _ _ M.hS (not1 (get_ne M.hS M.hG (fun q=>by cases q))),h.kp _ _ M.hR (not1 (get_ne M.hR M.hG (fun q=>by cases q))),h.kp _ _ M.hX (not1 (get_ne M.hX M.hG (fun q=>by cases q))),h.kp _ _ M.hF (not1 (get_ne M.hF M.hG (fun q=>by cases q))),
  h.kp _ _ M.hM (not1 (get_ne M.hM M.hG (fun q=>by cases q))),h.kp _ _ M.hD (not1 (get_ne M.hD M.hG (fun q=>by cases q))),e,M.rx⟩
theorem Mch.setS (M:Mch H L σ) {r:Nat} {rip:Int} {rg:List Int} (h:Kp [L.s] H H') (e:H'.get L.s = some (stO { L with r:=r } rip)) (er:H.get r = some (.list (rg.map .int))) (rx:r≠L.x):Mch H' { L with r:=r } { σ with rg:=rg,rip:=rip } :=
 ⟨h.wf,e,h.kp _ _ er (not1 (get_ne er M.hS (fun q=>by cases q))),h.kp _ _ M.hX (not1 (get_ne M.hX M.hS (fun q=>by cases q))),h.kp _ _ M.hF (not1 (get_ne M.hF M.hS (fun q=>by cases q))),
  h.kp _ _ M.hM (not1 (get_ne M.hM M.hS (fun q=>by cases q))),h.kp _ _ M.hD (not1 (get_ne M.hD M.hS (fun q=>by cases q))),h.kp _ _ M.hG (not1 (get_ne M.hG M.hS (fun q=>by cases q))),rx⟩
theorem law_9 {lf ll lo lr:Nat} {vs:List V} {rg os:List Int} {rip fs gs:Int} {x0 x1 x4 x5 x12 x13:Option V} {K:Loc→AH→Prop} (M:Mch H L ⟨rg,[],0,0,0,0,0,0,rip,0,0⟩) (hrg:RgOK rg) (hos:∀ x∈os,0≤x∧x < 256)
  (hv:vs.length≤4) (hl:∀ v∈vs,LnAt H v) (hll:H.get ll = some (.list vs)) (hf:H.get lf = some (.list [.int fs,.int gs])) (hr:H.get lr = some (.list (rg.map .int))) (rr:lr≠L.r) (rx:lr≠L.x) (ho:H.get lo = some (.list (os.map .int))) (hol:os.length = 48) :
  vSs (TT scr) (W scr (k + 9)) (c_law.drop 9) [x0,x1,some (.ref ll),some (.ref lr),x4,x5,some (.ref lo),some (.ref lf),some (.ref L.s),some (.int rip),none,none,x12,x13] H K AllT:=by
 refine gi_n hf (by decide) (by decide) rfl (gi_n hf (by decide) (by decide) rfl ?_)
 refine at_ok M.hS rfl rfl (si_s' M.wf M.hG rfl fun H₁ k₁ e₁=>?_)
 have M₁:Mch H₁ L ⟨rg,[],0,0,0,0,0,0,rip,fs,0⟩:=M.setG k₁ e₁
 refine at_ok M₁.hS rfl rfl (si_s' M₁.wf M₁.hG rfl fun H₂ k₂ e₂=>?_)
 have M₂:Mch H₂ L ⟨rg,[],0,0,0,0,0,0,rip,fs,gs⟩:=M₁.setG k₂ e₂
 have k12:=k₁.trans k₂
 have nd:∀ {y:Nat} {vs:List V},H.get y = some (.list vs)→H₂.get y = some (.list vs):=fun e=>k12.kp _ _ e (not1 (get_ne e M.hG fun q=>by cases q))
 exact law_10 M₂ hrg hos hv (fun v h=>(hl v h).kp k12 (fun y h vs e=>by rw [List.mem_singleton.mp h,M.hG] at e; cases e)) (nd hll) (nd hf) (nd hr) rr rx (nd ho) hol
theorem law_8 {lf ll lo lr:Nat} {vs:List V} {rg rg0 os:List Int} {rip rip0 fs gs:Int} {x0 x1 x4 x5 x12 x13:Option V} {K:Loc→AH→Prop} (M:Mch H L ⟨rg0,[],0,0,0,0,0,0,rip0,0,0⟩) (hrg:RgOK rg) (hos:∀ x∈os,0≤x∧x < 256)
  (hv:vs.length≤4) (hl:∀ v∈vs,LnAt H v) (hll:H.get ll = some (.list vs)) (hf:H.get lf = some (.list [.int fs,.int gs])) (hr:H.get lr = some (.list (rg.map .int))) (rx:lr≠L.x) (ho:H.get lo = some (.list (os.map .int))) (hol:os.length = 48) :
  vSs (TT scr) (W scr (k + 9)) (c_law.drop 8) [x0,x1,some (.ref ll),some (.ref lr),x4,x5,some (.ref lo),some (.ref lf),some (.ref L.s),some (.int rip),none,none,x12,x13] H K AllT:=by
 refine ⟨_,hr,by rw [List.length_map,hrg.1]; decide,new_ok M.wf fun r H₁ k₁ n₁ e₁=>?_⟩
 have M₁:=M.kp0 k₁
 refine sa_ok M₁.wf M₁.hS rfl rfl fun H₂ k₂ e₂=>?_
 refine sa_ok k₂.wf e₂ rfl rfl fun H₃ k₃ e₃=>?_
 have k23:=k₂.trans k₃
 have M₃:Mch H₃ { L with r:=r } ⟨rg,[],0,0,0,0,0,0,rip,0,0⟩:=M₁.setS k23 e₃ e₁ (none_ne n₁ M.hX)
 have k13:Kp [L.s] H H₃:=k₁.nil.trans k23
 have nd:∀ {y:Nat} {vs:List V},H.get y = some (.list vs)→H₃.get y = some (.list vs):=fun e=>k13.kp _ _ e (not1 (get_ne e M.hS fun q=>by cases q))
 exact law_9 (L:={ L with r:=r }) M₃ hrg hos hv (fun v h=>(hl v h).kp k13 (fun y h vs e=>by rw [List.mem_singleton.mp h,M.hS] at e; cases e)) (nd hll) (nd hf) (nd hr) (Ne.symm (none_ne n₁ hr)) rx (nd ho) hol
theorem state_v {loc:Loc} (w:WF H) (q:∀ (L:L7) H',Kp [] H H'→(H.get L.s = none∧H.get L.r = none∧H.get L.x = none∧H.get L.f = none∧H.get L.m = none∧H.get L.d = none∧H.get L.g = none)→Mch H' L ⟨List.replicate 16 0,[],0,0,0,0,0,0,0,0,0⟩→Q (.ref L.s) H') :
  vE (TT scr) (W scr (k + 2)) (.call (.glob 644) [.lit .none]) loc H Q:=call1_ (state_new w q)
theorem unp_pair {T:Tab} {S:Spec} {a b:X} {i j:Nat} {r:List St} {loc:Loc} {K:Loc→AH→Prop} {R:KV} (h:vE T S a loc H fun x H=>vE T S b loc H fun y H=>vSs T S r (setLoc (setLoc loc i x) j y) H K R):vSs T S (.unp [.var i,.var j] (.tup [a,b])::r) loc H K R:=h
theorem bin_lit {T:Tab} {S:Spec} {op:Operator} {v:V} {e:X} {loc:Loc} (h:vE T S e loc H fun y H=>opBin op v y H Q):vE T S (.bin op (.lit v) e) loc H Q:=h
theorem sub_ {a b:Int} (q:Q (.int (a - b)) H):opBin .Sub (.int a) (.int b) H Q:=q
theorem law_7 {lp lf ll lo lr:Nat} {n:Int} {vs:List V} {rg os:List Int} {fs gs:Int} {x0 x4 x5 x12 x13:Option V} {K:Loc→AH→Prop} (w:WF H) (P:PenAt H lp n) (hn:n≤900000) (hrg:RgOK rg) (hos:∀ x∈os,0≤x∧x < 256)
  (hv:vs.length≤4) (hl:∀ v∈vs,LnAt H v) (hll:H.get ll = some (.list vs)) (hf:H.get lf = some (.list [.int fs,.int gs])) (hr:H.get lr = some (.list (rg.map .int))) (ho:H.get lo = some (.list (os.map .int))) (hol:os.length = 48)
  (pn:ll≠lp∧lf≠lp∧lr≠lp∧lo≠lp) :
  vSs (TT scr) (W scr (k + 9)) (c_law.drop 7) [x0,some (.ref lp),some (.ref ll),some (.ref lr),x4,x5,some (.ref lo),some (.ref lf),none,none,none,none,x12,x13] H K AllT:=by
 refine unp_pair (state_v (k:=k + 7) w fun L H₁ k₁ nn M₁=>bin_lit (ldraw_ok k₁.wf (P.kp0 k₁) (by lia) (by decide) (by decide) fun H₂ d k₂ P₂ d0 d1=>sub_ ?_))
 have lpn:∀ {y:Nat},H.get y = none→lp≠y:=fun e q=>P.there (q ▸ e)
 have M₂:=M₁.kp k₂ fun y hy=>by
  rw [List.mem_singleton.mp hy]
  obtain ⟨a1,a2,a3,a4,a5,a6,a7⟩:=nn
  exact ⟨lpn a1,lpn a2,lpn a3,lpn a4,lpn a5,lpn a6,lpn a7⟩
 have k12:Kp [lp] H H₂:=k₁.nil.trans k₂
 exact law_8 M₂ hrg hos hv (fun v h=>(hl v h).kp k12 (fun y h vs e=>by
  rw [List.mem_singleton.mp h] at e
  obtain ⟨lc,cells,spot,great,e1,_⟩:=P.ex
  rw [e1] at e; cases e; simp)) (k12.kp _ _ hll (not1 pn.1)) (k12.kp _ _ hf (not1 pn.2.1)) (k12.kp _ _ hr (not1 pn.2.2.1)) (Ne.symm (none_ne nn.2.2.1 hr)) (k12.kp _ _ ho (not1 pn.2.2.2)) hol
end
end Mine
end
section
open PySem PySem.W PyProof.Rows Hd
namespace Mine
theorem ints_of':∀ {acc:List V} {p:Int→Prop},(∀ v∈acc,∃ x,v = .int x∧p x)→∃ xs:List Int,acc = xs.map .int∧∀ x∈xs,p x
 | [],_,_=>⟨[],rfl,fun x h=>by simp at h⟩
 | v::r,p,h=>by
  obtain ⟨x,rfl,hx⟩:=h v (.head _)
  obtain ⟨xs,rfl,hxs⟩:=ints_of' fun v hv=>h v (.tail _ hv)
  exact ⟨x::xs,rfl,fun y hy=>by
   rcases List.mem_cons.mp hy with rfl | hy
   ·exact hx
   ·exact hxs y hy⟩
section
variable {scr:Addr→Option (List V)} {k:Nat} {H H':AH} {Q:KV} {L:L7} {L':W4} {σ τ:Mst}
theorem draw64_v {lp:Nat} {n:Int} (w:WF H) (P:PenAt H lp n) (hn:n≤1000000) (q:∀ H' d,Kp [lp] H H'→PenAt H' lp (n + 1)→0≤d→d < 2 ^ 64→Q (.int d) H') :
  opBin .Pow (.int 2) (.int 64) H fun y H=>W scr (k + 1) 843 [.ref lp,y] H Q :=
 ⟨by decide,pow_fits (n:=64) (by decide) (by decide),ldraw_ok w P hn (by decide) (by decide) q⟩
theorem compP {elt:V→AH→KV→Prop} {cnd:V→AH→KB→Prop} {still:AH→Prop} {K:List V→AH→Prop} {lp:Nat} {n c:Int} (m:Nat) (p:AH→V→Prop) (w:WF H) (P:PenAt H lp n) (hc:∀ v H P,P true H→cnd v H P) (hst:∀ H',still H')
  (hp:∀ H' H'' n v,PenAt H' lp n→Kp [lp] H' H''→p H' v→p H'' v)
  (hs:∀ (i:Nat) H' Q,i < m→Kp [lp] H H'→PenAt H' lp (n + c * i)→(∀ v H'',Kp [lp] H' H''→PenAt H'' lp (n + c * i + c)→p H'' v→Q v H'')→elt (.int i) H' Q)
  (hK:∀ acc H',Kp [lp] H H'→PenAt H' lp (n + c * m)→acc.length = m→(∀ v∈acc,p H' v)→K acc H'):compL cnd elt still (rngV m) [] H K:=by
 have len:(rngV m).length = m:=by rw [rngV,List.length_map,List.length_range]
 refine compG (rngV m) (fun i acc H'=>Kp [lp] H H'∧PenAt H' lp (n + c * (i:Nat))∧acc.length = i∧∀ v∈acc,p H' v) hc (fun _ _ _ _=>hst _) ?_ ?_ ⟨Kp.refl w,by simpa using P,rfl,fun v h=>by simp at h⟩
 ·rintro i v acc H' Q hv ⟨k',P',hl,hv'⟩ hq
  have hi:i < m:=by
   rcases Nat.lt_or_ge i m with h | h
   ·exact h
   ·rw [List.getElem?_eq_none (by lia)] at hv; cases hv
  have e:v = .int (i:Int):=by
   rw [rngV,List.getElem?_map,List.getElem?_range hi] at hv
   exact (Option.some.inj hv).symm
  subst e
  refine hs i H' Q hi k' P' fun v H'' k'' P'' hp'=>hq v H'' ⟨k'.trans k'',?_,by rw [List.length_append,hl]; rfl,fun u hu=>?_⟩
  ·rw [show n + c * ((i + 1:Nat):Int) = n + c * i + c by rw [Int.natCast_succ,Int.mul_add]; lia]
   exact P''
  ·rcases List.mem_append.mp hu with hu | hu
   ·exact hp _ _ _ _ P' k'' (hv' u hu)
   ·rw [List.mem_singleton.mp hu]; exact hp'
 ·rintro acc H' ⟨k',P',hl,hv'⟩
  rw [len] at hl P'
  exact hK acc H' k' P' hl hv'
theorem PenAt.ne {lp y:Nat} {n:Int} {vs:List V} (P:PenAt H lp n) (h:H.get y = some (.list vs)) (hl:vs.length≠3):y≠lp:=fun e=>by
 obtain ⟨lc,cells,spot,great,e1,_⟩:=P.ex
 rw [e,e1] at h
 cases h
 simp at hl
theorem LnAt.pen {lp:Nat} {n:Int} {v:V} (h:LnAt H v) (P:PenAt H lp n) (k:Kp [lp] H H'):LnAt H' v:=h.kp k fun y hy vs e=>by
 obtain ⟨lc,cells,spot,great,e1,_⟩:=P.ex
 rw [List.mem_singleton.mp hy,e1] at e; cases e; simp
theorem feet_made {lp:Nat} {n:Int} {loc:Loc} (w:WF H) (P:PenAt H lp n) (hn:n≤900000) (h1:loc[1]? = some (some (.ref lp)))
  (q:∀ l f0 f1 H',Kp [lp] H H'→PenAt H' lp (n + 4)→H'.get l = some (.list [.int f0,.int f1])→Q (.ref l) H') :
  vE (TT scr) (W scr (k + 9)) (.comp (.call (.glob 850) [(.var 1),(.list [(.lit (.int 0)),.lit (.int 8),.bin .Sub (.bin .Pow (.lit (.int 2)) (.lit (.int 64))) (.lit (.int 8)),(.call (.glob 843) [(.var 1),(.bin .Pow (.lit (.int 2)) (.lit (.int 64)))])])]) 0 1 (.lit (.int 2)) (.lit (.bool true)) [none,some 1]) loc H Q:=by
 refine ⟨by decide,by decide,compP (c:=2) 2 (fun _ v=>∃ x,v = .int x∧True) w P (fun v H P p=>p) (fun _=>trivial) (fun _ _ _ _ _ _ h=>h) (fun i H' Q hi k' P' r=>?_) fun acc H₁ k₁ P₁ hl hv=>?_⟩
 ·rw [show capLoc [none,some 1] loc = [none,some (.ref lp)] by simp [capLoc,h1]]
  refine call2n ⟨by decide,pow_fits (n:=64) (by decide) (by decide),draw64_v k'.wf P' (by lia) fun H₂ d k₂ P₂ d0 d1=>?_⟩
  refine pick_new (k:=k + 7) k₂.wf P₂ (by lia) (by simp) (by simp) fun H₃ v k₃ P₃ hv=>r v H₃ (k₂.trans k₃) (P₃.le (by lia)) ?_
  simp only [List.mem_cons,List.not_mem_nil,or_false] at hv
  rcases hv with rfl | rfl | rfl | rfl <;> exact ⟨_,rfl,trivial⟩
 ·obtain ⟨xs,rfl,_⟩:=ints_of' hv
  rw [List.length_map] at hl
  match xs,hl with
  | [f0,f1],_=>exact new_ok k₁.wf fun l H₂ k₂ n₂ e₂=>q l f0 f1 H₂ (k₁.trans k₂.nil) ((P₁.kp0 k₂).le (by lia)) e₂
end
end Mine
end
section
open PySem PySem.W PyProof.Rows Hd
namespace Mine
section
variable {scr:Addr→Option (List V)} {k:Nat} {H H':AH} {Q:KV} {L:L7} {L':W4} {σ τ:Mst}
theorem PenAt.neL {lp ll:Nat} {n:Int} {vs:List V} (P:PenAt H lp n) (h:H.get ll = some (.list vs)) (hl:∀ v∈vs,LnAt H v):ll≠lp:=fun e=>by
 obtain ⟨lc,cells,spot,great,e1,_⟩:=P.ex
 rw [e,e1] at h
 cases h
 obtain ⟨l,size,ls,e2,_⟩:=hl _ (.head _)
 cases e2
theorem int1c {T:Tab} {S:Spec} {ex:X} {loc:Loc} {z:Int} {P:KV} (h:∀ R:KV,R (.int z) H→vE T S ex loc H R) (q:P (.int z) H):vE T S (.call (.bf .int) [ex]) loc H P:=h _ q
theorem octets_made {lw:Nat} {ws:List Int} {loc:Loc} (w:WF H) (h5:loc[5]? = some (some (.ref lw))) (hw:H.get lw = some (.list (ws.map .int))) (hl:ws.length≤100)
  (q:∀ l os H',Kp [] H H'→H'.get l = some (.list (List.map V.int os))→List.length os = 48→(∀ x∈os,0≤x∧x < 256)→Q (.ref l) H') :
  vE (TT scr) (W scr (k + 9)) (.comp (.bin .Mod (.call (.bf .int) [(.bin .FloorDiv (.call (.bf .sum) [(.var 1)]) (.bin .Pow (.lit (.int 256)) (.var 0)))]) (.lit (.int 256))) 0 1 (.lit (.int 48)) (.lit (.bool true)) [none,some 5]) loc H Q:=by
 refine ⟨by decide,by decide,compN 48 (fun i=>(ws.sum.fdiv (256 ^ i)).fmod 256) w (fun v H P p=>p) (fun i H' Q hi k' r=>?_) fun H₁ k₁=>?_⟩
 ·rw [show capLoc [none,some 5] loc = [none,some (.ref lw)] by simp [capLoc,h5]]
  refine ⟨_,k'.kp _ _ hw (by simp),by rw [List.length_map]; lia,ws,allInts_map _,?_⟩
  have hb:((256:Int) ^ i).natAbs < 2 ^ 1000:=by
   rw [e256,Int.natAbs_pow]
   exact Nat.pow_lt_pow_right (by decide) (by lia)
  refine ⟨by lia,pow_fits (n:=i) (by decide) (by lia),Int.ne_of_gt (Int.pow_pos (by decide)),noPy hb,?_⟩
  exact ⟨by decide,r _ k'⟩
 ·refine new_ok k₁.wf fun l H₂ k₂ n₂ e₂=>q l _ H₂ (k₁.trans k₂) e₂ (by rw [List.length_map,List.length_range]) fun x hx=>?_
  obtain ⟨i,_,rfl⟩:=List.mem_map.mp hx
  show 0≤(ws.sum.fdiv (256 ^ i)).fmod 256∧(ws.sum.fdiv (256 ^ i)).fmod 256 < 256
  rw [fmod_pos (by decide)]
  exact ⟨Int.emod_nonneg _ (by decide),Int.emod_lt_of_pos _ (by decide)⟩
theorem words_made {lp:Nat} {n:Int} {loc:Loc} (w:WF H) (P:PenAt H lp n) (hn:n≤900000) (h1:loc[1]? = some (some (.ref lp)))
  (q:∀ l ws H',Kp [lp] H H'→PenAt H' lp (n + 6)→H'.get l = some (.list (List.map V.int ws))→List.length ws≤100→Q (.ref l) H') :
  vE (TT scr) (W scr (k + 9)) (.comp (.bin .Mult (.bin .Mod (.call (.bf .int) [(.bin .Mult (.call (.glob 843) [(.var 1),(.bin .Pow (.lit (.int 2)) (.lit (.int 64)))]) (.bin .Add (.bin .Pow (.lit (.int 2)) (.lit (.int 38))) (.lit (.int 1))))]) (.bin .Pow (.lit (.int 2)) (.lit (.int 64)))) (.bin .Pow (.lit (.int 2)) (.bin .Mult (.lit (.int 64)) (.var 0)))) 0 1 (.lit (.int 6)) (.lit (.bool true)) [none,some 1]) loc H Q:=by
 refine ⟨by decide,by decide,compP (c:=1) 6 (fun _ v=>∃ x,v = .int x∧True) w P (fun v H P p=>p) (fun _=>trivial) (fun _ _ _ _ _ _ h=>h) (fun i H' Q hi k' P' r=>?_) fun acc H₁ k₁ P₁ hl hv=>?_⟩
 ·rw [show capLoc [none,some 1] loc = [none,some (.ref lp)] by simp [capLoc,h1]]
  refine draw64_v k'.wf P' (by lia) fun H₂ d k₂ P₂ d0 d1=>?_
  refine ⟨by decide,pow_fits (n:=38) (by decide) (by decide),small_mul d0 d1,?_⟩
  refine ⟨by decide,pow_fits (n:=64) (by decide) (by decide),by decide,?_⟩
  have e:(64:Int) * (i:Int) = ((64 * i:Nat):Int):=by push_cast; rfl
  have pf:=pow_fits (b:=2) (n:=64 * i) (by decide) (by lia)
  rw [← e] at pf
  refine ⟨small_mul (by decide) (by decide),by lia,pf,?_⟩
  refine ⟨?_,r _ H₂ k₂ P₂ ⟨_,rfl,trivial⟩⟩
  rw [fmod_pos (Int.pow_pos (by decide))]
  exact small_mul (Int.emod_nonneg _ (Int.ne_of_gt (Int.pow_pos (by decide)))) (Int.emod_lt_of_pos _ (Int.pow_pos (by decide)))
 ·obtain ⟨xs,rfl,_⟩:=ints_of' hv
  rw [List.length_map] at hl
  exact new_ok k₁.wf fun l H₂ k₂ n₂ e₂=>q l xs H₂ (k₁.trans k₂.nil) ((P₁.kp0 k₂).le (by lia)) e₂ (by lia)
end
end Mine
end
section
open PySem PySem.W PyProof.Rows Hd
namespace Mine
section
variable {scr:Addr→Option (List V)} {k:Nat} {H H':AH} {Q:KV} {L:L7} {L':W4} {σ τ:Mst}
theorem law_6 {lp ll lo lr:Nat} {n:Int} {vs:List V} {rg os:List Int} {x0 x4 x5 x12 x13:Option V} {K:Loc→AH→Prop} (w:WF H) (P:PenAt H lp n) (hn:n≤800000) (hrg:RgOK rg) (hos:∀ x∈os,0≤x∧x < 256)
  (hv:vs.length≤4) (hl:∀ v∈vs,LnAt H v) (hll:H.get ll = some (.list vs)) (hr:H.get lr = some (.list (rg.map .int))) (ho:H.get lo = some (.list (os.map .int))) (hol:os.length = 48) :
  vSs (TT scr) (W scr (k + 9)) (c_law.drop 6) [x0,some (.ref lp),some (.ref ll),some (.ref lr),x4,x5,some (.ref lo),none,none,none,none,none,x12,x13] H K AllT:=by
 refine asg_ (feet_made w P (by lia) rfl fun lf f0 f1 H₁ k₁ P₁ hf=>?_)
 have nr:lr≠lp:=P.ne hr (by rw [List.length_map,hrg.1]; decide)
 have no:lo≠lp:=P.ne ho (by rw [List.length_map,hol]; decide)
 have nl:ll≠lp:=P.neL hll hl
 exact law_7 k₁.wf P₁ (by lia) hrg hos hv (fun v h=>(hl v h).pen P k₁) (k₁.kp _ _ hll (not1 nl)) hf (k₁.kp _ _ hr (not1 nr)) (k₁.kp _ _ ho (not1 no)) hol ⟨nl,P₁.ne hf (by simp),nr,no⟩
theorem law_5 {lp ll lw lr:Nat} {n:Int} {vs:List V} {rg ws:List Int} {x0 x4 x12 x13:Option V} {K:Loc→AH→Prop} (w:WF H) (P:PenAt H lp n) (hn:n≤800000) (hrg:RgOK rg)
  (hv:vs.length≤4) (hl:∀ v∈vs,LnAt H v) (hll:H.get ll = some (.list vs)) (hr:H.get lr = some (.list (rg.map .int))) (hw:H.get lw = some (.list (ws.map .int))) (hwl:ws.length≤100) :
  vSs (TT scr) (W scr (k + 9)) (c_law.drop 5) [x0,some (.ref lp),some (.ref ll),some (.ref lr),x4,some (.ref lw),none,none,none,none,none,none,x12,x13] H K AllT:=by
 refine asg_ (octets_made w rfl hw hwl fun lo os H₁ k₁ ho hol hos=>?_)
 exact law_6 k₁.wf (P.kp0 k₁) hn hrg hos hv (fun v h=>(hl v h).kp k₁ fun y h=>by simp at h) (k₁.kp _ _ hll (by simp)) (k₁.kp _ _ hr (by simp)) ho hol
theorem law_4 {lp ll lr:Nat} {n:Int} {vs:List V} {rg:List Int} {x0 x4 x12 x13:Option V} {K:Loc→AH→Prop} (w:WF H) (P:PenAt H lp n) (hn:n≤700000) (hrg:RgOK rg)
  (hv:vs.length≤4) (hl:∀ v∈vs,LnAt H v) (hll:H.get ll = some (.list vs)) (hr:H.get lr = some (.list (rg.map .int))) :
  vSs (TT scr) (W scr (k + 9)) (c_law.drop 4) [x0,some (.ref lp),some (.ref ll),some (.ref lr),x4,none,none,none,none,none,none,none,x12,x13] H K AllT:=by
 refine asg_ (words_made w P (by lia) rfl fun lw ws H₁ k₁ P₁ hw hwl=>?_)
 have nr:lr≠lp:=P.ne hr (by rw [List.length_map,hrg.1]; decide)
 have nl:ll≠lp:=P.neL hll hl
 exact law_5 k₁.wf P₁ (by lia) hrg hv (fun v h=>(hl v h).pen P k₁) (k₁.kp _ _ hll (not1 nl)) (k₁.kp _ _ hr (not1 nr)) hw hwl
theorem RgOK.set {rg:List Int} {i:Nat} {x:Int} (h:RgOK rg) (x0:0≤x) (x1:x < 2 ^ 64):RgOK (rg.set i x) :=
 ⟨by rw [List.length_set]; exact h.1,fun y hy=>by
  rcases List.mem_or_eq_of_mem_set hy with hy | rfl
  ·exact h.2 y hy
  ·exact ⟨x0,x1⟩⟩
noncomputable def regB:List St:=[.asg (.item (.var 3) (.var 4)) (.call (.glob 850) [(.var 1),(.list [(.bin .Add (.lit (.int 16384)) (.call (.glob 843) [(.var 1),(.lit (.int 24))])),.call (.glob 843) [(.var 1),(.lit (.int 4))],.call (.glob 843) [(.var 1),(.bin .Pow (.lit (.int 2)) (.lit (.int 64)))],(.bin .Sub (.bin .Pow (.lit (.int 2)) (.lit (.int 64))) (.lit (.int 1)))])])]
theorem regs_loop {lp lr ls:Nat} {lv:List V} {x0 x2 x5 x6 x7 x8 x9 x10 x11 x12 x13:Option V} {K:Loc→AH→Prop} {R:KV} (hlv:lv.length = 5) (hne:lr + 1≠lp):∀ (us:List Int) (n:Int) (rg:List Int) (H:AH) (x4:Option V),(∀ u∈us,0≤u∧u < 16)→WF H→PenAt H lp n→n + 4 * us.length≤500000→RgOK rg→H.get lr = some (.list (rg.map .int))→H.get ls = some (.list lv) →
  (∀ H' rg' x4,Kp [lp,lr] H H'→PenAt H' lp (n + 4 * us.length)→RgOK rg'→H'.get lr = some (.list (rg'.map .int))→K [x0,some (.ref lp),x2,some (.ref lr),x4,x5,x6,x7,x8,x9,x10,x11,x12,x13] H') →
  forL (fun v loc H K=>H.get ls = some (.list lv)∧vSs (TT scr) (W scr (k + 9)) regB (setLoc loc 4 v) H K R) (us.map .int) [x0,some (.ref lp),x2,some (.ref lr),x4,x5,x6,x7,x8,x9,x10,x11,x12,x13] H (fun loc H=>H.get ls = some (.list lv)∧K loc H)
 | [],n,rg,H,x4,hu,w,P,hn,hrg,hr,hs,q=>⟨hs,q H rg x4 (Kp.refl w) (by simpa using P) hrg hr⟩
 | u::us,n,rg,H,x4,hu,w,P,hn,hrg,hr,hs,q=>by
  rw [List.length_cons] at hn q
  obtain ⟨u0,u1⟩:=hu u (.head _)
  have nr:lr≠lp:=P.ne hr (by rw [List.length_map,hrg.1]; decide)
  have ns:ls≠lp:=P.ne hs (by rw [hlv]; decide)
  have sr:ls≠lr:=get_ne hs hr fun e=>by
   injection e with e
   have:=congrArg List.length e
   rw [hlv,List.length_map,hrg.1] at this
   cases this
  refine ⟨hs,?_⟩
  show vSs (TT scr) (W scr (k + 9)) regB [x0,some (.ref lp),x2,some (.ref lr),some (.int u),x5,x6,x7,x8,x9,x10,x11,x12,x13] H _ R
  refine asg_ (call2n (ldraw_ok w P (by lia) (by decide) (by decide) fun H₁ d₁ k₁ P₁ a0 a1=>ldraw_ok k₁.wf P₁ (by lia) (by decide) (by decide) fun H₂ d₂ k₂ P₂ b0 b1=>draw64_v k₂.wf P₂ (by lia) fun H₃ d₃ k₃ P₃ c0 c1=>?_))
  refine ⟨by decide,pow_fits (n:=64) (by decide) (by decide),?_⟩
  refine pick_new (k:=k + 7) k₃.wf P₃ (by lia) (by simp) (by simp) fun H₄ v k₄ P₄ hv=>?_
  have k04:=((k₁.trans k₂).trans k₃).trans k₄
  have e64:(2:Int) ^ 64 = 18446744073709551616:=by decide
  obtain ⟨x,rfl,z0,z1⟩:∃ x,v = .int x∧0≤x∧x < 2 ^ 64:=by
   simp only [List.mem_cons,List.not_mem_nil,or_false] at hv
   rcases hv with rfl | rfl | rfl | rfl
   ·exact ⟨_,rfl,by lia,by lia⟩
   ·exact ⟨_,rfl,by lia,by lia⟩
   ·exact ⟨_,rfl,c0,c1⟩
   ·exact ⟨_,rfl,by decide,by decide⟩
  have hr₄:=k04.kp _ _ hr (not1 nr)
  refine si_l k₄.wf hr₄ u0 (by rw [List.length_map,hrg.1]; lia) (by lia) fun H₅ k₅ e₅=>?_
  rw [← List.map_set] at e₅
  have P₅:PenAt H₅ lp (n + 4):=by
   obtain ⟨lc,cells,spot,great,e1,e2,hc,s0,s1,g0,gl⟩:=P₄.ex
   exact ⟨lc,cells,spot,great,k₅.kp _ _ e1 (not1 (Ne.symm nr)),k₅.kp _ _ e2 (not1 fun e=>hne (by rw [← e]; exact gl)),hc,s0,by lia,g0,gl⟩
  have k05:Kp [lp,lr] H H₅:=(k04.mono (by simp)).trans (k₅.mono (by simp))
  have ns5:ls ∉ [lp,lr]:=by simp only [List.mem_cons,List.not_mem_nil,or_false,not_or]; exact ⟨ns,sr⟩
  refine regs_loop hlv hne us (n + 4) (rg.set u.toNat x) H₅ _ (fun v h=>hu v (.tail _ h)) k₅.wf P₅ (by lia) (hrg.set z0 z1) e₅ (k05.kp _ _ hs ns5) fun H₆ rg' x4 k₆ P₆ hrg' hr'=>?_
  refine q H₆ rg' x4 (k05.trans k₆) ?_ hrg' hr'
  rw [show n + 4 * ((us.length + 1:Nat):Int) = n + 4 + 4 * us.length by push_cast; lia]
  exact P₆
end
end Mine
end
section
open PySem PySem.W PyProof.Rows Hd
namespace Mine
section
variable {scr:Addr→Option (List V)} {k:Nat} {H H':AH} {Q:KV} {L:L7} {L':W4} {σ τ:Mst}
theorem law_3 {lp ll lr:Nat} {n:Int} {vs:List V} {rg:List Int} {x0 x12 x13:Option V} {K:Loc→AH→Prop} (w:WF H) (P:PenAt H lp n) (hn:n≤400000) (hrg:RgOK rg) (hne:lr + 1≠lp)
  (hv:vs.length≤4) (hl:∀ v∈vs,LnAt H v) (hll:H.get ll = some (.list vs)) (hr:H.get lr = some (.list (rg.map .int))) :
  vSs (TT scr) (W scr (k + 9)) (c_law.drop 3) [x0,some (.ref lp),some (.ref ll),some (.ref lr),none,none,none,none,none,none,none,none,x12,x13] H K AllT:=by
 refine new_ok w fun ls H₁ k₁ n₁ e₁=>.inl ⟨_,e₁,by simp,?_⟩
 have P₁:=P.kp0 k₁
 have hr₁:=k₁.kp _ _ hr (by simp)
 have hll₁:=k₁.kp _ _ hll (by simp)
 have hl₁:∀ v∈vs,LnAt H₁ v:=fun v h=>(hl v h).kp k₁ fun y h=>by simp at h
 refine regs_loop (lv:=[.int 0,.int 1,.int 3,.int 6,.int 4]) rfl hne [0,1,3,6,4] n rg H₁ none (by decide) k₁.wf P₁ (by simp; lia) hrg hr₁ e₁ fun H₂ rg' x4 k₂ P₂ hrg' hr'=>?_
 have r16:(rg.map V.int).length = 16:=by rw [List.length_map]; exact hrg.1
 refine law_4 k₂.wf P₂ (by simp; lia) hrg' hv (fun v h=>(hl₁ v h).kp k₂ fun y hy ws e=>?_) (k₂.kp _ _ hll₁ ?_) hr'
 ·simp only [List.mem_cons,List.not_mem_nil,or_false] at hy
  rcases hy with rfl | rfl
  ·obtain ⟨lc,cells,spot,great,e1,_⟩:=P₁.ex
   rw [e1] at e; cases e; simp
  ·rw [hr₁] at e; cases e; rw [r16]; decide
 ·simp only [List.mem_cons,List.not_mem_nil,or_false,not_or]
  refine ⟨P.neL hll hl,get_ne hll hr fun e=>?_⟩
  injection e with e
  rw [e,r16] at hv
  lia
theorem law_2 {lp ll:Nat} {n:Int} {vs:List V} {x0 x12 x13:Option V} {K:Loc→AH→Prop} (w:WF H) (P:PenAt H lp n) (hn:n≤400000)
  (hv:vs.length≤4) (hl:∀ v∈vs,LnAt H v) (hll:H.get ll = some (.list vs)) :
  vSs (TT scr) (W scr (k + 9)) (c_law.drop 2) [x0,some (.ref lp),some (.ref ll),none,none,none,none,none,none,none,none,none,x12,x13] H K AllT:=by
 refine asg_ (rep_ok w (by decide) (by decide) fun lr H₁ k₁ n₁ e₁=>?_)
 have hne:lr + 1≠lp:=fun e=>by
  obtain ⟨lc,cells,spot,great,e1,e2,hc,s0,s1,g0,gl⟩:=P.ex
  exact none_ne n₁ e2 (by lia)
 refine law_3 (rg:=List.replicate 16 0) k₁.wf (P.kp0 k₁) hn ⟨by simp,fun x hx=>by rw [List.eq_of_mem_replicate hx]; decide⟩ hne hv (fun v h=>(hl v h).kp k₁ fun y h=>by simp at h) (k₁.kp _ _ hll (by simp)) e₁
theorem law_1 {lp:Nat} {n:Int} {x0 x12 x13:Option V} {K:Loc→AH→Prop} (w:WF H) (P:PenAt H lp n) (hn:n≤300000) :
  vSs (TT scr) (W scr (k + 9)) (c_law.drop 1) [x0,some (.ref lp),none,none,none,none,none,none,none,none,none,none,x12,x13] H K AllT:=by
 refine ldraw_ok w P (by lia) (by decide) (by decide) fun H₁ d k₁ P₁ d0 d1=>?_
 obtain ⟨m,rfl⟩:∃ m:Nat,d = (m:Int):=⟨d.toNat,by lia⟩
 refine ⟨by lia,by lia,?_⟩
 rw [show (1 + (m:Int)).toNat = 1 + m by lia]
 refine compP (c:=20) (1 + m) LnAt k₁.wf P₁ (fun v H P p=>p) (fun _=>trivial) (fun H' H'' n v P k h=>h.pen P k) (fun i H' Q hi k' P' r=>?_) fun vs H₂ k₂ P₂ hl hv=>?_
 ·refine lline_ok (k:=k + 5) k'.wf P' (by lia) fun H₃ l size ls k₃ P₃ hok _ e₃=>r _ H₃ k₃ P₃ ⟨l,size,ls,rfl,hok,e₃⟩
 ·refine new_ok k₂.wf fun ll H₃ k₃ n₃ e₃=>?_
  exact law_2 k₃.wf (P₂.kp0 k₃) (by lia) (by lia) (fun v h=>(hv v h).kp k₃ fun y h=>by simp at h) e₃
theorem plain:Plain:=fun a ns hn=>by
 have w:WF H0:=fun l o h=>by cases h
 refine sp_go (k:=19) (i:=i_law) rfl e_c_law rfl ?_
 refine asg_ ?_
 refine lpen_ok (k:=18) (ns:=ns) w (by show (if a = a then _ else none) = _; rw [if_pos rfl]) hn fun lp H₁ k₁ n₁ P₁=>?_
 exact law_1 (k:=10) k₁.wf P₁ (by decide)
end
end Mine
end
section
open PySem PySem.W PyProof.Rows
namespace Mine
section
variable {g:Gd} {w:Wd} {H:AH} {s:Shared} {A:Around}
theorem allInts_are {vs:List V} {ws:List Value} {ns:List Int} (r:VRs w vs ws) (h:allInts vs = some ns):IntsAre ws ns:=by
 obtain ⟨xs,rfl,rfl⟩:=allInts_items r h
 clear r h
 induction xs with
 | nil=>exact .nil
 | cons p xs ih=>exact .cons _ _ ih
theorem blt_bytes {T:Tab} {args:List V} {vals:List Value} {Q:KV} {d:Nat} (R:Room A d) (K:Kn g w H s) (hx:VRs w args vals) (h:opBlt T .bytes args H Q) :
  wpAny (model g.prog g.wd) A (call (B.bytes).val vals) (PE g w s Q) noE s:=by
 obtain ⟨x,rfl,h⟩:=one_inv h
 obtain ⟨y,rfl,a⟩:=hx.one
 obtain ⟨l,vs,rfl,h1,h0,ns,h2,h3,h4⟩:=onL_inv h
 obtain rfl:=a.refI
 obtain ⟨ws,m,i1,v1,_⟩:=isL K h1
 have e:(ns.map octetOf).toArray = byteArr ns:=rfl
 rw [e] at h4
 exact call_bytes_ints (vs:=ws.toList) (IsL.list i1) (allInts_are v1 h2) h3 (by rw [Array.length_toList,← v1.lenA,sizeLine_eq]; lia) R.hh fun h' t k hk=>.junk K hk ⟨rfl,rfl,rfl⟩ (.byt _ _) h4
end
end Mine
end
section
open PySem PySem.W PyProof.Rows
namespace Mine
section
variable {g:Gd} {w:Wd} {H:AH} {s:Shared} {A:Around}
theorem dl_plain:plainId "dict.update.loop" = true:=by decide +kernel
theorem dl_entry:entryFor table "dict.update.loop" = some Builtin.«dict.update.loop»:=by first | exact entryFor_of_fast (by kernel_rfl) | exact entryFor_of_tree (by kernel_rfl)
theorem dl_keys:typeLookup (.type "list") "keys" = pure none:=by rw [typeLookup_type,builtinLookup_eq_fast]; kernel_rfl
theorem list_no_keys {prog:Program} {wd:World} {E:Value→Shared→Prop} {a:Addr} {xs:Array Value} {k:Nat} {Q:Option Value→Shared→Prop} (hA:A.handled = none) (hx:s.heap.get? a = some (listOf xs k))
  (h:∀ h' tk,(∀ b o,s.heap.get? b = some o→h'.get? b = some o)→Q none { s with heap:=h',toks:=tk }):wpAny (model prog wd) A (getAttr? (.ref a) "keys") Q E s:=by
 obtain ⟨hp,g,d,tk,os⟩:=s
 have hT:∀ tk',(⟨hp,g,d,tk',os⟩:Shared).TypeIs (.ref a) "list":=fun _=>⟨_,hx,rfl⟩
 have f1:=sub_AttributeError
 have f3:=F.slot_list_getattribute.lookup
 have f4:=F.slot_list_getattribute.bind (.ref a)
 have f5:=am_list_getattr_none
 unfold getAttr? getAttrBy? getAttrBy
 repeat (any_goals (first | assumption | exact hT _ | ((with_reducible show wpAny _ _ (call (Value.builtin "list.__getattribute__") _ _) _ _ _); refine call_meets F.slot_list_getattribute (hT _) am_entry_list_getattribute (F.args_list_getattribute_2 _ _) (meets_getattribute_miss_list a xs k _ _ _ dl_keys (by decide +kernel)) ⟨hx,hA,fun h' tk' e hx'=>?_⟩) | wp_step))
 obtain ⟨t',u',he⟩:=hx'.there
 have hT':∀ tk'',(⟨h',g,d,tk'',os⟩:Shared).TypeIs (.ref e) "AttributeError":=fun _=>⟨_,he,rfl⟩
 show wpAny _ _ (getattributeRaised _ _ _ _ _ _ _) _ _ _
 unfold getattributeRaised
 repeat (any_goals (first | assumption | exact hT' _ | wp_step))
 exact h h' tk' hx'.keeps
end
end Mine
end
section
open PySem PySem.W PyProof.Rows
namespace Mine
section
variable {g:Gd} {w:Wd} {H:AH} {s:Shared} {A:Around}
theorem pairO_inv {vs:List V} {p:Int × Int} (h:pairO vs = some p):vs = [.int p.1,.int p.2]:=by
 match vs with
 | [a,b] =>
  obtain ⟨x,h1,h⟩:=Option.bind_eq_some_iff.mp h
  obtain ⟨y,h2,rfl⟩:=Option.map_eq_some_iff.mp h
  rw [getI_inv h1,getI_inv h2]
theorem pair_inv {v:V} {r:List V} {ps:List (Int × Int)} (h:intPairs (v::r) = some ps):∃ a b ps',v = .tup [.int a,.int b]∧intPairs r = some ps'∧ps = (a,b)::ps':=by
 obtain ⟨p,h1,h⟩:=Option.bind_eq_some_iff.mp h
 obtain ⟨c,h2,e⟩:=Option.map_eq_some_iff.mp h
 obtain ⟨vs,h3,h1⟩:=Option.bind_eq_some_iff.mp h1
 exact ⟨p.1,p.2,c,by rw [getT_inv h3,pairO_inv h1],h2,e.symm⟩
theorem iput_len {k:Int} {v:V}:∀ {es:List (Int × V)},(iput k v es).length≤es.length + 1
 | []=>Nat.le_refl _
 | (a,x)::r=>by
  rw [iput]
  split
  ·simp
  ·have:=iput_len (k:=k) (v:=v) (es:=r); simp; lia
set_option maxHeartbeats 1000000 in
theorem dl_loop {h₀:Heap} {l D I:Addr} {ws:Array Value} {m:Nat} {R:Result→Shared→Prop} (hh:A.handled = none) (hl:h₀.get? l = some (listOf ws m)) (hD:h₀.get? D = none) (hI:h₀.get? I = none) (hDI:D≠I) (tw:∀ a o,w.T a = some o→h₀.get? a = some o) :
  ∀ (us:List V) (ps:List (Int × Int)) (i:Nat) (es:List (Int × V)) (kvs:List (Int × Value)) (s:Shared),intPairs us = some ps→VRs w us (ws.toList.drop i)→(∀ b o,h₀.get? b = some o→s.heap.get? b = some o)→s.heap.IsListIter I l i→s.heap.DictOf (intKind g.prog g.wd) D kvs→KVs w es kvs →
   es.length + us.length≤1000→(∀ h' tk kvs',(∀ b o,h₀.get? b = some o→h'.get? b = some o)→h'.DictOf (intKind g.prog g.wd) D kvs'→KVs w (ps.foldl (fun es p=>iput p.1 (.int p.2) es) es) kvs'→R (.ok (.ret .none)) { s with heap:=h',toks:=tk }) →
   codeAny (model g.prog g.wd) A (.builtin "dict.update.loop" ⟨[.ref D,.ref I,.int (i:Int) 0,.none],[]⟩) R s
 | [],ps,i,es,kvs,s,hp,hv,k₀,hit,hd,kv,hz,q=>by
  have hlen:ws.size≤i:=by
   have:=hv.length
   simp only [List.length_nil,List.length_drop,Array.length_toList] at this
   lia
  simp only [intPairs,Option.some.injEq] at hp
  subst hp
  refine codeAny_builtin dl_entry ?_
  rw [Around.under_plainId dl_plain _]
  have hL:s.heap.IsList l ws:=⟨_,k₀ _ _ hl,rfl,_,rfl⟩
  show wpAny _ A.in1 (pyNext (.ref I) >>= _) _ _ s
  refine wpAny_bind (wpAny_pyNext_list_end hh hit hL (by simp [hlen]) fun h' he=>?_)
  show wpAny _ _ (Builtin.Dict.addKeywords D [] >>= _) _ _ _
  refine wpAny_bind (wpAny_pure (wpAny_pure (q h' _ kvs (fun b o e=>he b o (fun z=>by rw [z,hI] at e; cases e) (k₀ b o e)) (hd.extBut he hDI) kv)))
 | v::us,ps,i,es,kvs,s,hp,hv,k₀,hit,hd,kv,hz,q=>by
  obtain ⟨a,b,ps',rfl,hp',rfl⟩:=pair_inv hp
  have hlt:i < ws.size:=by
   have:=hv.length
   simp only [List.length_cons,List.length_drop,Array.length_toList] at this
   lia
  obtain ⟨_,_,e,hv1,hv2⟩:=hv.inv
  rw [List.drop_eq_getElem_cons (by simpa using hlt)] at e
  obtain ⟨rfl,rfl⟩:=List.cons.inj e
  obtain ⟨xs,ad,m',ex,hT,hxs⟩:=hv1.tupI
  obtain ⟨x1,x2,rfl,h1,h2⟩:=hxs.two
  obtain ⟨t1,rfl⟩:=h1.intI
  obtain ⟨t2,rfl⟩:=h2.intI
  refine codeAny_builtin dl_entry ?_
  rw [Around.under_plainId dl_plain _]
  have hL:s.heap.IsList l ws:=⟨_,k₀ _ _ hl,rfl,_,rfl⟩
  have hx:ws[i]? = some (.ref ad):=by rw [← Array.getElem?_toList,List.getElem?_eq_getElem (by simpa using hlt),ex]
  show wpAny _ A.in1 (pyNext (.ref I) >>= _) _ _ s
  refine wpAny_bind (wpAny_pyNext_list_item hit hL hx fun h₁ hit₁ hs₁=>?_)
  have k₁:∀ b o,h₀.get? b = some o→h₁.get? b = some o:=fun b o e=>(hs₁.2 b fun z=>by rw [z,hI] at e; cases e).trans (k₀ b o e)
  have hd₁:h₁.DictOf (intKind g.prog g.wd) D kvs:=Heap.DictOf.extBut hd hs₁.extBut hDI
  have gt:h₁.get? ad = some (tupOf (List.toArray [Value.int a t1,Value.int b t2]) m'):=k₁ _ _ (tw _ _ hT)
  refine wpAny_bind (wpAny_holding (wpAny_bind (wpAny_tryCatch ?_)))
  unfold Builtin.Dict.pairItems
  refine wpAny_bind (wpAny_typeOf (T:="tuple") ⟨_,gt,rfl⟩ ?_)
  rw [if_pos (by decide)]
  refine wpAny_bind (wpAny_seqItems gt rfl (wpAny_pure ?_))
  show wpAny _ _ (holding [.int a t1,.int b t2] (dictSet D (.int a t1) (.int b t2))) _ _ _
  rw [List.length_cons] at hz
  have il:(iput a (.int b) es).length≤es.length + 1:=iput_len
  refine wpAny_holding (wpAny_dictSet_pairs (intKind_is _ _ _ _) hd₁ (fun h₂ hd₂ hs₂=>?_) (by rw [← kv.length,sizeLine_eq]; lia))
  have k₂:∀ b o,h₀.get? b = some o→h₂.get? b = some o:=fun b o e=>(hs₂.2 b fun z=>by rw [z,hD] at e; cases e).trans (k₁ b o e)
  obtain ⟨_,_,_,_,_,_,_,_,nd⟩:=id hd
  refine wpAny_pure ⟨plainId_quiet dl_plain _,?_⟩
  exact dl_loop hh hl hD hI hDI tw us ps' (i + 1) (iput a (.int b) es) (stored kvs a (.int b t2)) { s with heap:=h₂,toks:=s.toks + 1 } hp' hv2 k₂ (hit₁.extBut hs₂.extBut (Ne.symm hDI)) hd₂ (kv.iput h2 nd) (by lia) q
end
end Mine
end
section
open PySem PySem.W PyProof.Rows
namespace Mine
section
variable {g:Gd} {w:Wd} {H:AH} {s:Shared} {A:Around}
theorem blt_dict {T:Tab} {args:List V} {vals:List Value} {Q:KV} {d:Nat} (R:Room A d) (K:Kn g w H s) (hx:VRs w args vals) (h:opBlt T .dict args H Q) :
  wpAny (model g.prog g.wd) A (call (B.dict).val vals) (PE g w s Q) noE s:=by
 obtain ⟨x,rfl,h⟩:=one_inv h
 obtain ⟨y,rfl,a⟩:=hx.one
 obtain ⟨l,vs,rfl,h1,h0,ps,h2,h4⟩:=onL_inv h
 obtain rfl:=a.refI
 obtain ⟨ws,m,i1,v1,_⟩:=isL K h1
 refine callType_codes (Q₁:=fun obj s₁=>obj = .ref s.heap.objs.size∧s₁ = { s with heap:=s.heap.push { cls:=.type "dict",data:=.dict #[] } }) F.kt_called_dict (F.kt_typeCall_dict_1 _) F.entry_dict_init (kt_code_dict_new _ ⟨rfl,rfl⟩) ?_
 rintro obj s₁ ⟨rfl,rfl⟩
 have hnew:(s.heap.push { cls:=.type "dict",data:=.dict #[] }).DictOf (intKind g.prog g.wd) s.heap.objs.size []:=Heap.DictOf.new s.heap
 refine ⟨hnew.typeIs,F.args_dict_init_2 _ _,?_⟩
 unfold Builtin.«dict.__init__»
 refine wpAny_bind ?_
 unfold Builtin.Dict.selfAndRest
 refine wpAny_bind (wpAny_notOrdered_dict hnew.typeIs ?_)
 show wpAny _ _ (pure (s.heap.objs.size,[Value.ref (w.σ l)])) _ _ _
 refine wpAny_pure ?_
 show wpAny _ _ (Builtin.Dict.updateFrom "dict.__init__" s.heap.objs.size (.ref (w.σ l)) [] .none) _ _ _
 have iL:(s.heap.push { cls:=.type "dict",data:=.dict #[] }).get? (w.σ l) = some (listOf ws m):=Heap.get?_push_of_some _ i1
 have hL:(s.heap.push { cls:=.type "dict",data:=.dict #[] }).IsList (w.σ l) ws:=⟨_,iL,rfl,_,rfl⟩
 have hT:({ s with heap:=s.heap.push { cls:=.type "dict",data:=.dict #[] } }:Shared).TypeIs (.ref (w.σ l)) "list":=⟨_,iL,rfl⟩
 unfold Builtin.Dict.updateFrom
 refine wpAny_bind (wpAny_typeOf hT ?_)
 rw [if_pos (by decide)]
 refine wpAny_bind (list_no_keys R.hh iL fun h₁ tk₁ k₁=>?_)
 refine bm_if_true rfl ?_
 refine wpAny_bind (wpAny_rule ?_)
 have kk:∀ b o,s.heap.get? b = some o→h₁.get? b = some o:=fun b o e=>k₁ b o (Heap.get?_push_of_some _ e)
 have hL₁:h₁.IsList (w.σ l) ws:=⟨_,kk _ _ i1,rfl,_,rfl⟩
 refine wpAny_bind (wpAny_pyIter_list hL₁ ?_)
 refine wpAny_pure ⟨plainId_quiet dl_plain _,?_⟩
 have hD₁:h₁.get? s.heap.objs.size = some { cls:=.type "dict",data:=.dict #[] }:=k₁ _ _ (Heap.get?_push_size _ rfl)
 have hDI:s.heap.objs.size≠h₁.objs.size:=Nat.ne_of_lt (Heap.lt_size hD₁)
 have hI:s.heap.get? h₁.objs.size = none:=by
  cases e:s.heap.get? h₁.objs.size with
  | none=>rfl
  | some o=>have:=kk _ _ e; rw [not_there] at this; cases this
 have hd₁:h₁.DictOf (intKind g.prog g.wd) s.heap.objs.size []:=by
  obtain ⟨o,es,ep,ho,r⟩:=hnew
  exact ⟨o,es,ep,k₁ _ _ ho,r⟩
 refine dl_loop (g:=g) (A:=A.in1) R.hh i1 (not_there _) hI hDI (fun a o e=>(K.tw a o e).1) vs ps 0 [] [] { heap:=h₁.push { cls:=.type "list_iterator",data:=.fields #[.ref (w.σ l),.int 0 0] },gens:=s.gens,drawn:=s.drawn,toks:=tk₁,os:=s.os } h2 v1 (fun b o e=>Heap.get?_push_of_some _ (kk b o e)) ⟨_,Heap.get?_push_size _ rfl,rfl,rfl⟩ (hd₁.push _) .nil (by simpa using h0) fun h' tk kvs' k' hd' kv'=>?_
 obtain ⟨o',ho',hdo⟩:=Heap.dictOf_iff.mp hd'
 exact ⟨rfl,.ref H.next,_,_,Ext.one K (not_there _) k' _ ⟨rfl,rfl,rfl⟩,K.one (not_there _) k' _ ho' rfl (OK.newDi K _ hdo kv'),VR.newRef K _ _,h4.h⟩
end
end Mine
end
section
open PySem PySem.W PyProof.Rows
namespace Mine
section
variable {prog:Program} {w:World} {A:Around} {E:Value→Shared→Prop} {s:Shared} {b:Array UInt8} {t:Tok}
theorem alive_ok {a:Addr} {Q:Option Obj→Shared→Prop} (h:Q (s.heap.get? a) s):wpAny (model prog w) A (loadIfAlive a) Q E s:=fun _ _ _=>h
theorem nextOf_bytes_item {it:Addr} {i:Nat} {c:UInt8} {Q:Value→Shared→Prop} (hit:KBw.IsBytesIter s.heap it b t i) (hx:b[i]? = some c)
  (hQ:∀ h',KBw.IsBytesIter h' it b t (i + 1)→Heap.SameBut it s.heap h'→Q (.int (c.toNat:Int) s.toks) { s with heap:=h',toks:=s.toks + 1 }):wpAny (model prog w) A (Builtin.SmallTypes.nextOf (.ref it)) Q E s:=by
 obtain ⟨o,ho,hc,hd⟩:=id hit
 unfold Builtin.SmallTypes.nextOf
 refine wpAny_bind (wpAny_callSpecial?_slot (name:=PySem.Str.ofString "__next__") (KBw.iter_typeIs hit) KBw.slot_next
  (wpAny_call_entry KBw.slot_next (KBw.iter_typeIs hit) KBw.entry_next ?_ (KBw.args_next _)))
 show wpAny _ _ (field (.ref it) 0 >>= _) _ _ s
 refine wpAny_bind (wpAny_field ho hd (x:=.bytes b t) rfl ?_)
 show wpAny _ _ (if (Value.bytes b t == Value.none) = true then _ else _) _ _ s
 rw [if_neg (show ¬ ((Value.bytes b t == Value.none) = true) from Bool.false_ne_true)]
 show wpAny _ _ (field (.ref it) 1 >>= _) _ _ s
 refine wpAny_bind (wpAny_field ho hd (x:=.int i 0) rfl ?_)
 refine wpAny_bind (wpAny_of_eq (a:=b) rfl ?_)
 simp only [Int.toNat_natCast,hx]
 refine wpAny_bind (wpAny_setField ho hd (by simp) (wpAny_bind (wpAny_mkInt (wpAny_pure ⟨_,rfl,wpAny_pure (hQ _ ?_ (Heap.SameBut.update ..))⟩))))
 exact ⟨_,Heap.get?_update_self _ ho (Obj.isFreed_of_fields (Obj.data_mapFields hd _)),(Obj.cls_mapFields ..).trans hc,by
  rw [Obj.data_mapFields hd]; simp [rawInt]⟩
theorem nextOf_bytes_end {it:Addr} {i:Nat} {Q:Value→Shared→Prop} (hh:A.handled = none) (hit:KBw.IsBytesIter s.heap it b t i) (hx:b[i]? = none)
  (hE:∀ h' e,Heap.ExtBut it s.heap h'→(∃ o,h'.get? e = some o∧o.cls = .type "StopIteration")→E (.ref e) { s with heap:=h' }):wpAny (model prog w) A (Builtin.SmallTypes.nextOf (.ref it)) Q E s:=by
 obtain ⟨o,ho,hc,hd⟩:=id hit
 unfold Builtin.SmallTypes.nextOf
 refine wpAny_bind (wpAny_callSpecial?_slot (name:=PySem.Str.ofString "__next__") (KBw.iter_typeIs hit) KBw.slot_next
  (wpAny_call_entry KBw.slot_next (KBw.iter_typeIs hit) KBw.entry_next ?_ (KBw.args_next _)))
 show wpAny _ _ (field (.ref it) 0 >>= _) _ _ s
 refine wpAny_bind (wpAny_field ho hd (x:=.bytes b t) rfl ?_)
 show wpAny _ _ (if (Value.bytes b t == Value.none) = true then _ else _) _ _ s
 rw [if_neg (show ¬ ((Value.bytes b t == Value.none) = true) from Bool.false_ne_true)]
 show wpAny _ _ (field (.ref it) 1 >>= _) _ _ s
 refine wpAny_bind (wpAny_field ho hd (x:=.int i 0) rfl ?_)
 refine wpAny_bind (wpAny_of_eq (a:=b) rfl ?_)
 simp only [Int.toNat_natCast,hx]
 refine wpAny_bind (wpAny_rule (wpAny_bind (wpAny_setField ho hd (by simp) ?_)))
 show wpAny _ _ (newExc (.type "StopIteration") [] >>= _) _ _ _
 refine wpAny_bind ?_
 simp only [newExc,newTuple]
 refine wpAny_bind (wpAny_newObj_type ?_ (by size_fits))
 refine wpAny_bind (m:=firstArgMember _ _) (wpAny_of_eq (a:=Value.none) (by first | rfl | (simp only [firstArgMember]; rfl)) ?_)
 refine wpAny_newObj_type ?_ (by size_fits)
 simp only [raiseNew]
 refine wpAny_bind (wpAny_handled ?_)
 first | rw [show A.in1.handled = none from hh] | rw [hh]
 refine wpAny_bind (wpAny_pure (wpAny_throw ?_))
 exact hE _ _ (((Heap.SameBut.update ..).extBut.push _).push _) ⟨_,Heap.get?_push_size _ rfl,rfl⟩
end
end Mine
end
section
open PySem PySem.W PyProof.Rows
namespace Mine
section
variable {prog:Program} {w:World} {A:Around} {E:Value→Shared→Prop} {s:Shared} {b:Array UInt8} {t:Tok}
noncomputable def EnAt (h:Heap) (e it:Addr) (i:Int):Prop:=∃ f0 f1 old,(f0 = .none∨∃ a:Nat,f0 = rawInt a)∧h.get? e = some { cls:=.type "enumerate",dict:=none,data:=.fields #[f0,f1,.ref it,rawInt i,.none,old],slots:=#[] }
theorem EnAt.is {e it:Addr} {i:Int} (h:EnAt s.heap e it i):s.TypeIs (.ref e) "enumerate":=by
 obtain ⟨f0,f1,old,_,he⟩:=h
 exact ⟨_,he,rfl⟩
theorem en_free {e it T:Addr} {i:Int} {f0 f1 old:Value} {x:Value} {Q:Value→Shared→Prop} (hf:f0 = .none∨∃ a:Nat,f0 = rawInt a) (he:s.heap.get? e = some { cls:=.type "enumerate",dict:=none,data:=.fields #[f0,f1,.ref it,rawInt i,.none,old],slots:=#[] })
  (hQ:∀ h',EnAt h' e it i→Heap.SameBut e s.heap h'→Q (.ref T) { s with heap:=h' }) :
  wpAny (model prog w) A (do
   if ← Builtin.SmallTypes.ownedTupleIsFree (.ref e) then
    rule "enumerate.__next__.owned-tuple-again"
    let old ← field (.ref e) 5
    setField (.ref e) 5 x
    Builtin.SmallTypes.ownedTupleHandOut (.ref e) (.ref T)
    letGo [old] [.ref T]
   ret (.ref T)) (fun fin s'=>∃ v,fin = .done (.ret v)∧Q v s') E s:=by
 have yes:∀ (f0 f1:Value) (s:Shared),s.heap.get? e = some { cls:=.type "enumerate",dict:=none,data:=.fields #[f0,f1,.ref it,rawInt i,.none,old],slots:=#[] }→(∀ h',EnAt h' e it i→Heap.SameBut e s.heap h'→Q (.ref T) { s with heap:=h' }) →
   wpAny (model prog w) A (do
    if true then
     rule "enumerate.__next__.owned-tuple-again"
     let old ← field (.ref e) 5
     setField (.ref e) 5 x
     Builtin.SmallTypes.ownedTupleHandOut (.ref e) (.ref T)
     letGo [old] [.ref T]
    ret (.ref T)) (fun fin s'=>∃ v,fin = .done (.ret v)∧Q v s') E s:=fun f0 f1 s he hQ=>by
  simp only [if_true]
  refine wpAny_bind (wpAny_rule ?_)
  refine wpAny_bind (wpAny_field he rfl (x:=old) rfl ?_)
  refine wpAny_bind (wpAny_setField_rec he (by simp) fun h₅ he₅ hs₅=>?_)
  replace hs₅:Heap.SameBut e s.heap h₅:=hs₅
  refine wpAny_bind ?_
  unfold Builtin.SmallTypes.ownedTupleHandOut
  refine wpAny_bind (wpAny_setField_rec he₅ (by simp) fun h₆ he₆ hs₆=>?_)
  replace hs₆:Heap.SameBut e h₅ h₆:=hs₆
  refine wpAny_setField_rec he₆ (by simp) fun h₇ he₇ hs₇=>?_
  replace hs₇:Heap.SameBut e h₆ h₇:=hs₇
  refine wpAny_bind (wpAny_letGo (wpAny_pure ⟨_,rfl,hQ h₇ ⟨_,_,_,.inr ⟨T,rfl⟩,he₇⟩ ((hs₅.trans hs₆).trans hs₇)⟩))
 refine wpAny_bind ?_
 unfold Builtin.SmallTypes.ownedTupleIsFree
 rcases hf with rfl | ⟨a,rfl⟩
 ·refine wpAny_bind (wpAny_field he rfl (x:=.none) rfl (wpAny_pure ?_))
  exact yes _ _ s he hQ
 ·refine wpAny_bind (wpAny_field he rfl (x:=rawInt a) rfl ?_)
  show wpAny _ _ (loadIfAlive ((a:Int).toNat) >>= _) _ _ _
  refine wpAny_bind (alive_ok ?_)
  cases s.heap.get? ((a:Int).toNat) with
  | none =>
   refine wpAny_pure ?_
   exact yes _ _ s he hQ
  | some o =>
   refine bm_if_false rfl ?_
   refine wpAny_bind (wpAny_field he rfl (x:=f1) rfl ?_)
   cases hb:(f1 != Value.bool true) with
   | true =>
    refine bm_if_true rfl ?_
    refine wpAny_bind (wpAny_setField_rec he (by simp) fun h₅ he₅ hs₅=>wpAny_pure ?_)
    exact wpAny_pure ⟨_,rfl,hQ h₅ ⟨_,_,_,.inr ⟨a,rfl⟩,he₅⟩ hs₅⟩
   | false =>
    refine bm_if_false (by decide) (wpAny_pure ?_)
    exact wpAny_pure ⟨_,rfl,hQ s.heap ⟨_,_,_,.inr ⟨a,rfl⟩,he⟩ (Heap.SameBut.refl ..)⟩
end
end Mine
end
section
open PySem PySem.W PyProof.Rows
set_option backward.match.sparseCases true
namespace Mine
section
variable {prog:Program} {w:World} {A:Around} {E:Value→Shared→Prop} {s:Shared} {b:Array UInt8} {t:Tok}
theorem en_next {e it:Addr} {i:Nat} {c:UInt8} {Q:Value→Shared→Prop} (he:EnAt s.heap e it i) (hit:KBw.IsBytesIter s.heap it b t i) (hx:b[i]? = some c) (hne:e≠it)
  (hQ:∀ h' tk tk' tk'',EnAt h' e it ((i + 1:Nat):Int)→KBw.IsBytesIter h' it b t (i + 1)→h'.get? s.heap.objs.size = some { cls:=.type "tuple",data:=.seq #[.int i tk,.int (c.toNat:Int) tk'] } →
   (∀ b o,b≠e→b≠it→s.heap.get? b = some o→h'.get? b = some o)→Q (.ref s.heap.objs.size) { s with heap:=h',toks:=tk'' }) :
  wpAny (model prog w) A (Builtin.«enumerate.__next__» ⟨[.ref e],[]⟩) (fun fin s'=>∃ v,fin = .done (.ret v)∧Q v s') E s:=by
 obtain ⟨hp,g,d,tk₀,os⟩:=s
 obtain ⟨f0,f1,old,hf,he⟩:=he
 show wpAny _ _ (field (.ref e) 2 >>= _) _ _ _
 refine wpAny_bind (wpAny_field he rfl (x:=.ref it) rfl ?_)
 refine wpAny_bind (nextOf_bytes_item hit hx fun h₁ hit₁ hs₁=>?_)
 replace hs₁:Heap.SameBut it hp h₁:=hs₁
 have he₁:=(hs₁.2 e hne).trans he
 show wpAny _ _ (field (.ref e) 3 >>= _) _ _ ⟨h₁,g,d,tk₀ + 1,os⟩
 refine wpAny_bind (wpAny_field he₁ rfl (x:=rawInt i) rfl ?_)
 show wpAny _ _ (field (.ref e) 4 >>= _) _ _ ⟨h₁,g,d,tk₀ + 1,os⟩
 refine wpAny_bind (wpAny_field he₁ rfl (x:=.none) rfl ?_)
 show wpAny _ _ (mkInt i >>= _) _ _ ⟨h₁,g,d,tk₀ + 1,os⟩
 refine wpAny_bind (wpAny_mkInt ?_)
 show wpAny _ _ (setField (.ref e) 3 (rawInt ((i:Int) + 1)) >>= _) _ _ ⟨h₁,g,d,tk₀ + 1 + 1,os⟩
 refine wpAny_bind (wpAny_setField_rec he₁ (by simp) fun h₂ he₂ hs₂=>?_)
 replace hs₂:Heap.SameBut e h₁ h₂:=hs₂
 show wpAny _ _ (setField (.ref e) 4 .none >>= _) _ _ ⟨h₂,g,d,tk₀ + 1 + 1,os⟩
 refine wpAny_bind (wpAny_setField_rec he₂ (by simp) fun h₃ he₃ hs₃=>?_)
 replace hs₃:Heap.SameBut e h₂ h₃:=hs₃
 show wpAny _ _ (newTuple [.int i (tk₀ + 1),.int (c.toNat:Int) tk₀] >>= _) _ _ ⟨h₃,g,d,tk₀ + 1 + 1,os⟩
 refine wpAny_bind (wpAny_newTuple ?_)
 have he₄:=Heap.get?_push_of_some { cls:=.type "tuple",data:=.seq #[.int i (tk₀ + 1),.int (c.toNat:Int) tk₀] } he₃
 have hsz:h₃.objs.size = hp.objs.size:=by rw [hs₃.1,hs₂.1,hs₁.1]
 have hel:e < hp.objs.size:=Heap.lt_size he
 have hil:it < hp.objs.size:=by obtain ⟨o,ho,_⟩:=hit; exact Heap.lt_size ho
 refine en_free (s:=⟨h₃.push { cls:=.type "tuple",data:=.seq #[.int i (tk₀ + 1),.int (c.toNat:Int) tk₀] },g,d,tk₀ + 1 + 1,os⟩) (e:=e) (it:=it) (i:=((i:Int) + 1)) (f0:=f0) (f1:=f1) (old:=old) hf he₄ fun h₅ he₅ hs₅=>?_
 show Q (.ref h₃.objs.size) ⟨h₅,g,d,tk₀ + 1 + 1,os⟩
 rw [hsz]
 have kk:∀ b o,b≠e→b≠it→hp.get? b = some o→h₅.get? b = some o:=fun b o hbe hbi hb=>hs₅.extBut b o hbe (Heap.get?_push_of_some _ (hs₃.extBut b o hbe (hs₂.extBut b o hbe (hs₁.extBut b o hbi hb))))
 refine hQ h₅ (tk₀ + 1) tk₀ _ he₅ ?_ ?_ kk
 ·obtain ⟨o,ho,r⟩:=hit₁
  exact ⟨o,hs₅.extBut _ _ (Ne.symm hne) (Heap.get?_push_of_some _ (hs₃.extBut _ _ (Ne.symm hne) (hs₂.extBut _ _ (Ne.symm hne) ho))),r⟩
 ·refine hs₅.extBut _ _ (Nat.ne_of_gt hel) ?_
  rw [← hsz]; exact Heap.get?_push_size _ rfl
theorem en_done {e it:Addr} {i:Nat} {Q:Option Value→Shared→Prop} (hh:A.handled = none) (he:EnAt s.heap e it i) (hit:KBw.IsBytesIter s.heap it b t i) (hx:b[i]? = none)
  (hQ:∀ h',Heap.ExtBut it s.heap h'→Q none { s with heap:=h' }):wpAny (model prog w) A (pyNext (.ref e)) Q E s:=by
 have hT:=he.is
 obtain ⟨f0,f1,old,hf,he⟩:=he
 unfold pyNext
 refine wpAny_bind (wpAny_attempt (wpAny_callSpecial?_slot (name:=PySem.Str.ofString "__next__") hT F.slot_enumerate_next
  (wpAny_call_entry F.slot_enumerate_next hT F.entry_enumerate_next ?_ (F.args_enumerate_next_1 _))))
 show wpAny _ _ (field (.ref e) 2 >>= _) _ _ _
 refine wpAny_bind (wpAny_field he rfl (x:=.ref it) rfl ?_)
 refine wpAny_bind (nextOf_bytes_end hh hit hx fun h' x he' hx'=>?_)
 obtain ⟨o,ho,hc⟩:=hx'
 refine wpAny_bind (wpAny_isInstance (T:="StopIteration") (b:=true) ⟨o,ho,hc⟩ isSubtype_stop ?_)
 exact wpAny_pure (hQ _ he')
theorem en_item {e it:Addr} {i:Nat} {c:UInt8} {Q:Option Value→Shared→Prop} (he:EnAt s.heap e it i) (hit:KBw.IsBytesIter s.heap it b t i) (hx:b[i]? = some c) (hne:e≠it)
  (hQ:∀ h' tk tk' tk'',EnAt h' e it ((i + 1:Nat):Int)→KBw.IsBytesIter h' it b t (i + 1)→h'.get? s.heap.objs.size = some { cls:=.type "tuple",data:=.seq #[.int i tk,.int (c.toNat:Int) tk'] } →
   (∀ b o,b≠e→b≠it→s.heap.get? b = some o→h'.get? b = some o)→Q (some (.ref s.heap.objs.size)) { s with heap:=h',toks:=tk'' }) :
  wpAny (model prog w) A (pyNext (.ref e)) Q E s:=by
 have hT:=he.is
 unfold pyNext
 exact wpAny_bind (wpAny_attempt (wpAny_callSpecial?_slot (name:=PySem.Str.ofString "__next__") hT F.slot_enumerate_next
  (wpAny_call_entry F.slot_enumerate_next hT F.entry_enumerate_next
   (en_next he hit hx hne fun h' tk tk' tk'' a b c d=>wpAny_pure (hQ h' tk tk' tk'' a b c d)) (F.args_enumerate_next_1 _))))
theorem en_iter {e it:Addr} {i:Int} {Q:Value→Shared→Prop} (he:EnAt s.heap e it i) (h:Q (.ref e) s):wpAny (model prog w) A (pyIter (.ref e)) Q E s:=by
 have hT:=he.is
 refine wpAny_pyIter_slot hT F.slot_enumerate_iter (wpAny_call_entry F.slot_enumerate_iter hT F.entry_enumerate_iter ?_ (F.args_enumerate_iter_1 _))
 show wpAny _ _ (ret (.ref e)) _ _ s
 exact wpAny_pure ⟨_,rfl, "enumerate",_,hT,F.slot_enumerate_next.lookup,h⟩
theorem en_own {e it:Addr} {i:Int} {target:Expr} {x:Value} {Q:Unit→Shared→Prop} (he:EnAt s.heap e it i) (hQ:∀ h',EnAt h' e it i→Heap.SameBut e s.heap h'→Q () { s with heap:=h' }) :
  wpAny (model prog w) A (letOwnedTupleGo target (.ref e) x) Q E s:=by
 have same:Q () s:=hQ s.heap he (Heap.SameBut.refl ..)
 obtain ⟨f0,f1,old,hf,he⟩:=he
 have body:∀ a:Addr,wpAny (model prog w) A (do
   let o ← load e
   match o.cls,o.data with
   | .type n,.fields vs =>
    if ["enumerate", "zip", "dict_itemiterator", "dict_reverseitemiterator", "odict_iterator", "itertools.zip_longest", "itertools.pairwise"].contains n && vs[0]? == some (rawInt a) then
     rule "for.unpacks-the-owned-tuple"
     updateField e 0 .none
   | _,_=>pure ():Sem Unit) Q E s:=fun a=>by
  refine wpAny_bind (wpAny_load he ?_)
  show wpAny _ A (if (["enumerate", "zip", "dict_itemiterator", "dict_reverseitemiterator", "odict_iterator", "itertools.zip_longest", "itertools.pairwise"].contains "enumerate" &&
   (#[f0,f1,.ref it,rawInt i,.none,old]:Array Value)[0]? == some (rawInt a)) = true then _ else _) Q E s
  cases hb:(["enumerate", "zip", "dict_itemiterator", "dict_reverseitemiterator", "odict_iterator", "itertools.zip_longest", "itertools.pairwise"].contains "enumerate" &&
   (#[f0,f1,.ref it,rawInt i,.none,old]:Array Value)[0]? == some (rawInt a)) with
  | true =>
   refine bm_if_true rfl ?_
   refine wpAny_bind (wpAny_rule ?_)
   show wpAny _ A (setField (.ref e) 0 .none) Q E s
   exact wpAny_setField_rec he (by simp) fun h' he' hs'=>hQ h' ⟨_,_,_,.inl rfl,he'⟩ hs'
  | false=>exact bm_if_false (by decide) (wpAny_pure same)
 have tup:wpAny (model prog w) A (letOwnedTupleGo (.List [] default) (.ref e) x) Q E s:=by cases x <;> first | exact wpAny_pure same | exact body _
 cases target with
 | Tuple _ _ _=>exact tup
 | List _ _=>exact tup
 | _=>exact wpAny_pure same
end
end Mine
end
section
open PySem PySem.W PyProof.Rows
namespace Mine
section
variable {g:Gd} {w:Wd} {H:AH} {s s':Shared} {a:Addr} {X:Addr→Prop}
theorem Kn.tupF (K:Kn g w H s) (hf:s.heap.get? a = none) (k:∀ b o,s.heap.get? b = some o→¬ X b→s'.heap.get? b = some o) (hB:∀ b,X b→g.B.get? b = none) (hN:∀ b,X b→w.N b = none) (hT:∀ b,X b→w.T b = none)
  {ws:Array Value} {m:Nat} (ha:s'.heap.get? a = some (tupOf ws m)):Kn g (w.tup a (tupOf ws m)) H s' where
 top b o h:=k _ _ (K.top b o h) fun x=>by rw [hB b x] at h; cases h
 nw a o h:=⟨k _ _ (K.nw a o h).1 fun x=>by exact absurd ((hN _ x).symm.trans h) (by simp),(K.nw a o h).2⟩
 tw b o h:=by
  have h':(if b = a then some (tupOf ws m) else w.T b) = some o:=h
  by_cases e:b = a
  ·rw [if_pos e] at h'; cases h'; rw [e]; exact ⟨ha,rfl⟩
  ·rw [if_neg e] at h'; exact ⟨k _ _ (K.tw b o h').1 fun x=>by exact absurd ((hT _ x).symm.trans h') (by simp),(K.tw b o h').2⟩
 nn:=K.nn
 mu:=K.mu
 lt:=K.lt
 kn l o h:=(K.kn l o h).mono (Wd.tup_le K hf _) (K.nn ▸ K.lt l o h) (fun _ _ q=>q) rfl
 i1:=K.i1
 i2:=K.i2
 i3:=K.i3
theorem Ext.tupF (K:Kn g w H s) (hf:s.heap.get? a = none) (k:∀ b o,s.heap.get? b = some o→¬ X b→s'.heap.get? b = some o) (hth:∀ b,X b→s'.heap.get? b≠none) (o:Obj) (sm:Same s s'):Ext X w s (w.tup a o) s' :=
 ⟨Wd.tup_le K hf _,fun b o h _ x=>k b o h x,(fun b h=>by
  cases e:s.heap.get? b with
  | none=>exact absurd e h
  | some o=>
   by_cases x:X b
   ·exact hth b x
   ·rw [k b o e x]; exact Option.some_ne_none _),fun _ h=>.inl h,(fun b h=>by
  by_cases e:b = a
  ·exact .inr (e ▸ hf)
  ·have h':(if b = a then some o else w.T b)≠none:=h
   rw [if_neg e] at h'; exact .inl h'),sm.gens,sm.drawn,sm.os,Nat.le_refl _,fun _ _ _ h=>h⟩
noncomputable def TwoF (e it:Addr) (b:Addr):Prop:=b = e∨b = it
theorem Nx.enum (e it:Addr) (b:Array UInt8) (t:Tok) (hne:e≠it):Nx g e (TwoF e it) (enumV b) (fun _=>True) (fun w i s=>Jk g w e s∧Jk g w it s∧EnAt s.heap e it (i:Int)∧KBw.IsBytesIter s.heap it b t i) where
 frame:=fun {w w' s s' i X} h ex hx=>by
  obtain ⟨j₁,j₂,⟨f0,f1,old,hf,he⟩,⟨o,ho,hr⟩⟩:=h
  exact ⟨j₁.ext ex,j₂.ext ex,⟨f0,f1,old,hf,ex.kept _ _ he j₁.N (hx e (.inl rfl))⟩,⟨o,ex.kept _ o ho j₂.N (hx it (.inr rfl)),hr⟩⟩
 out:=fun h q=>by
  rcases q with rfl | rfl
  ·exact ⟨h.1.N,h.1.T,h.1.B,h.1.th⟩
  ·exact ⟨h.2.1.N,h.2.1.T,h.2.1.B,h.2.1.th⟩
 item:=fun {w H s i d A v} R K st h hv=>by
  obtain ⟨j₁,j₂,he,hit⟩:=h
  obtain ⟨c,hc,rfl⟩:∃ c,b[i]? = some c∧v = .tup [.int (i:Int),.int (c.toNat:Int)]:=by
   unfold enumV at hv
   rw [List.getElem?_map] at hv
   obtain ⟨p,hp,rfl⟩:=Option.map_eq_some_iff.mp hv
   rw [List.getElem?_zipIdx] at hp
   obtain ⟨c,hc,rfl⟩:=Option.map_eq_some_iff.mp hp
   exact ⟨c,by rw [← Array.getElem?_toList]; exact hc,by simp⟩
  refine en_item he hit hc hne fun h' tk tk' tk'' he' hit' ht kk=>?_
  have hf:=not_there s.heap
  have th1:h'.get? e≠none:=by obtain ⟨_,_,_,_,q⟩:=he'; rw [q]; exact Option.some_ne_none _
  have th2:h'.get? it≠none:=by obtain ⟨_,q,_⟩:=hit'; rw [q]; exact Option.some_ne_none _
  have k:∀ b o,s.heap.get? b = some o→¬ TwoF e it b→h'.get? b = some o:=fun b o q x=>kk b o (fun z=>x (.inl z)) (fun z=>x (.inr z)) q
  have hB:∀ b,TwoF e it b→g.B.get? b = none:=fun b q=>by rcases q with rfl | rfl; exact j₁.B; exact j₂.B
  have hN:∀ b,TwoF e it b→w.N b = none:=fun b q=>by rcases q with rfl | rfl; exact j₁.N; exact j₂.N
  have hT:∀ b,TwoF e it b→w.T b = none:=fun b q=>by rcases q with rfl | rfl; exact j₁.T; exact j₂.T
  have th:∀ b,TwoF e it b→h'.get? b≠none:=fun b q=>by rcases q with rfl | rfl; exact th1; exact th2
  have ex:Ext (TwoF e it) w s (w.tup s.heap.objs.size (tupOf #[.int i tk,.int (c.toNat:Int) tk'] 0)) { s with heap:=h',toks:=tk'' }:=Ext.tupF K hf k th _ ⟨rfl,rfl,rfl⟩
  refine ⟨_,_,rfl,ex,Kn.tupF K hf k hB hN hT ht,?_,j₁.ext ex,j₂.ext ex,he',hit'⟩
  exact VR.newTup (xs:=[.int i tk,.int (c.toNat:Int) tk']) K hf (.cons (.int _ _) (.cons (.int _ _) .nil))
 done:=fun {w H s d A} R K st h=>by
  obtain ⟨j₁,j₂,he,hit⟩:=h
  have hl:(enumV b).length = b.size:=by simp [enumV]
  rw [hl] at he hit
  refine en_done R.hh he hit (by simp) fun h' hs=>?_
  exact ⟨rfl,fun b o hb q=>hs b o (fun z=>hb (.inr z)) q,rfl,rfl,rfl⟩
 own:=fun {w H s i A target v x Q} K h _ q=>by
  obtain ⟨j₁,j₂,he,hit⟩:=h
  refine en_own he fun h' he' hs=>?_
  have th1:h'.get? e≠none:=by obtain ⟨_,_,_,_,q⟩:=he'; rw [q]; exact Option.some_ne_none _
  have ex:Ext (fun b=>b = e) w s w { s with heap:=h',toks:=s.toks }:=Ext.at hs th1
  refine q { s with heap:=h' } (ex.weak fun b z=>.inl z) (Kn.at K hs j₁.N j₁.T j₁.B) ⟨j₁.ext ex,j₂.ext ex,he',?_⟩
  obtain ⟨o,ho,r⟩:=hit
  exact ⟨o,(hs.2 it (Ne.symm hne)).trans ho,r⟩
 self:=fun h q=>en_iter h.2.2.1 q
end
end Mine
end
section
open PySem PySem.W PyProof.Rows
namespace Mine
theorem wpAny_pureB {M:Model} {A:Around} {E:Value→Shared→Prop} {s:Shared} {Q:Bool→Shared→Prop} {b:Bool} (h:∀ b,Q b s):wpAny M A (pure b) Q E s:=wpAny_pure (h b)
set_option maxHeartbeats 1000000 in
theorem meets_enumerate_newB (x:Array UInt8) (t:Tok) :
  Meets (Builtin.«enumerate.__new__» ⟨[.type "enumerate",.bytes x t],[]⟩) (fun _ R s =>
   R (.ok (.ret (.ref (s.heap.push { cls:=.type "bytes_iterator",data:=.fields #[.bytes x t,.int 0 0] }).objs.size)))
    { s with heap:=(s.heap.push { cls:=.type "bytes_iterator",data:=.fields #[.bytes x t,.int 0 0] }).push { cls:=.type "enumerate",data:=.fields #[.none,.bool false,.ref s.heap.objs.size,rawInt 0,.none,.none] } }) :=
 .of_wp fun prog w A R s h=>by
  obtain ⟨hp,g,d,tk,os⟩:=s
  have hsub:=sub_enumerate
  wp_walk
  refine wpAny_stack_any fun st=>wpAny_pureB fun b=>?_
  cases b
  ·wp_walk using KBw.pyIter_bytes
   exact ⟨_,rfl,h⟩
  ·wp_walk using KBw.pyIter_bytes
   exact ⟨_,rfl,h⟩
section
variable {prog:Program} {w:World} {A:Around} {E:Value→Shared→Prop} {s:Shared}
theorem call_enumerate_bytes {x:Array UInt8} {t:Tok} {Q:Value→Shared→Prop}
  (h:Q (.ref (s.heap.push { cls:=.type "bytes_iterator",data:=.fields #[.bytes x t,.int 0 0] }).objs.size) { s with heap:=(s.heap.push { cls:=.type "bytes_iterator",data:=.fields #[.bytes x t,.int 0 0] }).push { cls:=.type "enumerate",data:=.fields #[.none,.bool false,.ref s.heap.objs.size,rawInt 0,.none,.none] } }) :
  wpAny (model prog w) A (call (.type "enumerate") [.bytes x t]) Q E s:=by
 refine callType_new F.called_enumerate (by decide) (F.typeCall_enumerate_1 _) (F.newCall_enumerate_1 _) (fun obj=>F.args_object_init_2 obj _) F.entry_enumerate_new
  (meets_enumerate_newB x t) ?_
 refine ⟨⟨_,Heap.get?_push_size _ rfl,rfl⟩,h⟩
end
theorem enum_ok (g:Gd) (d:Nat):EnumOK g d:=fun w H s A b t Q R K hb q=>by
 refine call_enumerate_bytes ?_
 obtain ⟨e₁,K₁,j₁,g₁⟩:=iter_new (o:={ cls:=.type "bytes_iterator",data:=.fields #[.bytes b t,.int 0 0] }) K rfl
 obtain ⟨e₂,K₂,j₂,g₂⟩:=iter_new (o:={ cls:=.type "enumerate",data:=.fields #[.none,.bool false,.ref s.heap.objs.size,rawInt 0,.none,.none] }) K₁ rfl
 have hne:(s.heap.push { cls:=.type "bytes_iterator",data:=.fields #[.bytes b t,.int 0 0] }).objs.size≠s.heap.objs.size:=Nat.ne_of_gt (Heap.lt_size g₁)
 have he:EnAt ((s.heap.push { cls:=.type "bytes_iterator",data:=.fields #[.bytes b t,.int 0 0] }).push { cls:=.type "enumerate",data:=.fields #[.none,.bool false,.ref s.heap.objs.size,rawInt 0,.none,.none] }) (s.heap.push { cls:=.type "bytes_iterator",data:=.fields #[.bytes b t,.int 0 0] }).objs.size s.heap.objs.size ((0:Nat):Int):=⟨_,_,_,.inl rfl,g₂⟩
 refine en_iter (s:={ s with heap:=(s.heap.push { cls:=.type "bytes_iterator",data:=.fields #[.bytes b t,.int 0 0] }).push { cls:=.type "enumerate",data:=.fields #[.none,.bool false,.ref s.heap.objs.size,rawInt 0,.none,.none] } }) he ?_
 refine ⟨_,_,_,_,_,w,H,rfl,e₁.trans e₂,K₂,Nx.enum _ s.heap.objs.size b t hne,⟨j₂,j₁.ext e₂,he,⟨_,Heap.get?_push_of_some _ g₁,rfl,rfl⟩⟩,fun x hx=>?_,by simpa [enumV] using hb,q⟩
 rcases hx with rfl | rfl
 ·cases e:s.heap.get? (s.heap.push { cls:=.type "bytes_iterator",data:=.fields #[.bytes b t,.int 0 0] }).objs.size with
  | none=>rfl
  | some o=>exact absurd (Heap.get?_push_of_some _ e) (by rw [not_there]; simp)
 ·exact not_there _
end Mine
end
section
open PySem PySem.W PyProof.Rows
namespace Mine
noncomputable def gallop':Bool→Keyed→Array Keyed→Nat→Nat→Nat→StateT SortSt Sem (Option Nat):=sortPriv% PySem.Builtin.gallop
noncomputable def mergeLo':Array Keyed→Array Keyed→StateT SortSt Sem (Array Keyed):=sortPriv% PySem.Builtin.mergeLo
noncomputable def mergeHi':Array Keyed→Array Keyed→StateT SortSt Sem (Array Keyed):=sortPriv% PySem.Builtin.mergeHi
structure SI (n:Nat) (cmp:Nat→Nat→Bool) where
 prog:Program
 w:World
 A:Around
 E:Value→Shared→Prop
 s:Shared
 κ:SortKind
 item:Nat→Keyed
 lt:∀ (i j:Nat) (Q:Bool→Shared→Prop) (E:Value→Shared→Prop),i < n→j < n→Q (cmp i j) s→wpAny (model prog w) A (keyLt' κ (item i).1 (item j).1) Q E s
structure Ab where
 p:Array Nat
 pend:Array (Nat × Nat × Nat)
 mg:Nat
noncomputable def InN (n:Nat) (p:Array Nat):Prop:=∀ i,i < p.size→p.getD i 0 < n
section
variable {n:Nat} {cmp:Nat→Nat→Bool}
noncomputable abbrev stI (I:SI n cmp) (x:Ab):SortSt:=SortSt.mk' I.κ (x.p.map I.item) x.pend x.mg none
noncomputable def Dt {ρ α:Type} (c:SI n cmp→ρ→α) (m:SI n cmp→StateT SortSt Sem α) (x:Ab) (P:ρ→Ab→Prop):Prop :=
 ∃ r y,P r y∧∀ (I:SI n cmp) (Q:α→SortSt→Shared→Prop),Q (c I r) (stI I y) I.s→kasC (model I.prog I.w) I.A I.E (m I) Q (stI I x) I.s
noncomputable abbrev cId {ρ:Type} (_:SI n cmp) (r:ρ):ρ:=r
variable {ρ α σ β:Type} {c:SI n cmp→ρ→α} {c₂:SI n cmp→σ→β} {x:Ab} {P:ρ→Ab→Prop} {P₂:σ→Ab→Prop}
theorem Dt.bind (c:SI n cmp→ρ→α) (P:ρ→Ab→Prop) {m:SI n cmp→StateT SortSt Sem α} {f:SI n cmp→α→StateT SortSt Sem β} (h:Dt c m x P) (k:∀ r y,P r y→Dt c₂ (fun I=>f I (c I r)) y P₂):Dt c₂ (fun I=>m I >>= f I) x P₂:=by
 obtain ⟨r,y,p,h⟩:=h
 obtain ⟨r₂,y₂,p₂,k⟩:=k r y p
 exact ⟨r₂,y₂,p₂,fun I Q q=>kasC_bind (h I _ (k I Q q))⟩
theorem Dt.ret {m:SI n cmp→α} (r:ρ) (h:∀ I,m I = c I r) (p:P r x):Dt c (fun I=>pure (m I)) x P:=⟨r,x,p,fun I Q q=>kasC_pure (by rw [h I]; exact q)⟩
theorem Dt.get {f:SI n cmp→SortSt→StateT SortSt Sem β} (k:Dt c₂ (fun I=>f I (stI I x)) x P₂):Dt c₂ (fun I=>get >>= f I) x P₂:=by
 obtain ⟨r₂,y₂,p₂,k⟩:=k
 exact ⟨r₂,y₂,p₂,fun I Q q=>kasC_bind (kasC_get (k I Q q))⟩
theorem Dt.modify {g:SI n cmp→SortSt→SortSt} {f:SI n cmp→PUnit→StateT SortSt Sem β} (y:Ab) (h:∀ I,g I (stI I x) = stI I y) (k:Dt c₂ (fun I=>f I ⟨⟩) y P₂):Dt c₂ (fun I=>(_root_.modify (g I):StateT SortSt Sem PUnit) >>= f I) x P₂:=by
 obtain ⟨r₂,y₂,p₂,k⟩:=k
 exact ⟨r₂,y₂,p₂,fun I Q q=>kasC_bind (kasC_modify (by rw [h I]; exact k I Q q))⟩
theorem Dt.modify1 {g:SI n cmp→SortSt→SortSt} {P:PUnit→Ab→Prop} (y:Ab) (h:∀ I,g I (stI I x) = stI I y) (p:P ⟨⟩ y):Dt (cId (ρ:=PUnit)) (fun I=>(_root_.modify (g I):StateT SortSt Sem PUnit)) x P :=
 ⟨⟨⟩,y,p,fun I Q q=>kasC_modify (by rw [h I]; exact q)⟩
theorem Dt.rule {t:String} {f:SI n cmp→Unit→StateT SortSt Sem β} (k:Dt c₂ (fun I=>f I ()) x P₂):Dt c₂ (fun I=>liftM (rule t) >>= f I) x P₂:=by
 obtain ⟨r₂,y₂,p₂,k⟩:=k
 exact ⟨r₂,y₂,p₂,fun I Q q=>kasC_bind (kasC_lift (wpAny_rule (k I Q q)))⟩
theorem elem_ok {I:SI n cmp} {a:Array Nat} {i:Nat} (h:i < a.size):elem' (a.map I.item) i = pure (I.item (a.getD i 0)):=by
 rw [elem'_eq]
 have e:(a.map I.item)[i]? = some (I.item (a.getD i 0)):=by simp [h]
 rw [e]
theorem Dt.elem {a:Array Nat} {i:Nat} {f:SI n cmp→Keyed→StateT SortSt Sem β} (h:i < a.size) (k:Dt c₂ (fun I=>f I (I.item (a.getD i 0))) x P₂):Dt c₂ (fun I=>elem' (a.map I.item) i >>= f I) x P₂:=by
 obtain ⟨r₂,y₂,p₂,k⟩:=k
 exact ⟨r₂,y₂,p₂,fun I Q q=>by
  show kasC _ _ _ (elem' (a.map I.item) i >>= f I) _ _ _
  rw [elem_ok h]
  exact kasC_bind (kasC_pure (k I Q q))⟩
theorem Dt.lt1 {i j:Nat} (hi:i < n) (hj:j < n) {P:Option Bool→Ab→Prop} (p:P (some (cmp i j)) x):Dt (cId (ρ:=Option Bool)) (fun I:SI n cmp=>lt' (I.item i) (I.item j)) x P :=
 ⟨_,x,p,fun I Q q=>by
  show kasC _ _ _ (lt' _ _) _ _ _
  rw [lt'_eq]
  exact kasC_bind (kasC_get (kasC_bind (kasC_lift (wpAny_attempt (I.lt i j _ _ hi hj (kasC_pure q))))))⟩
theorem Dt.lt {i j:Nat} {f:SI n cmp→Option Bool→StateT SortSt Sem β} (hi:i < n) (hj:j < n) (k:Dt c₂ (fun I=>f I (some (cmp i j))) x P₂):Dt c₂ (fun I=>lt' (I.item i) (I.item j) >>= f I) x P₂ :=
 Dt.bind cId (fun r y=>r = some (cmp i j)∧y = x) (Dt.lt1 hi hj ⟨rfl,rfl⟩) fun r y h=>by obtain ⟨rfl,rfl⟩:=h; exact k
theorem Dt.iteW {q:SI n cmp→Prop} {d:∀ I,Decidable (q I)} {a b:SI n cmp→StateT SortSt Sem α} (q₀:Prop) (hq:∀ I,q I ↔ q₀) (h1:q₀→Dt c a x P) (h2:¬ q₀→Dt c b x P):Dt c (fun I=>@_root_.ite _ (q I) (d I) (a I) (b I)) x P:=by
 by_cases h:q₀
 ·have e:(fun I=>@_root_.ite _ (q I) (d I) (a I) (b I)) = a:=funext fun I=>@if_pos _ (d I) ((hq I).mpr h) _ _ _
  rw [e]; exact h1 h
 ·have e:(fun I=>@_root_.ite _ (q I) (d I) (a I) (b I)) = b:=funext fun I=>@if_neg _ (d I) (fun z=>h ((hq I).mp z)) _ _ _
  rw [e]; exact h2 h
theorem Dt.ite {q:Prop} {d:SI n cmp→Decidable q} {a b:SI n cmp→StateT SortSt Sem α} (h1:q→Dt c a x P) (h2:¬ q→Dt c b x P):Dt c (fun I=>@_root_.ite _ q (d I) (a I) (b I)) x P:=Dt.iteW q (fun _=>Iff.rfl) h1 h2
theorem Dt.mono {m:SI n cmp→StateT SortSt Sem α} {P':ρ→Ab→Prop} (h:Dt c m x P) (k:∀ r y,P r y→P' r y):Dt c m x P':=by
 obtain ⟨r,y,p,h⟩:=h
 exact ⟨r,y,k r y p,h⟩
noncomputable def stp (c:SI n cmp→ρ→α) (I:SI n cmp):ForInStep ρ→ForInStep α
 | .yield r=>.yield (c I r)
 | .done r=>.done (c I r)
noncomputable def StP (Y F:ρ→Ab→Prop):ForInStep ρ→Ab→Prop
 | .yield r,y=>Y r y
 | .done r,y=>F r y
theorem Dt.loop (c:SI n cmp→ρ→α) (J:Nat→ρ→Ab→Prop) {a b:Nat} {c0:SI n cmp→α} {body:SI n cmp→Nat→α→StateT SortSt Sem (ForInStep α)} {P:ρ→Ab→Prop} (r0:ρ) (hc:∀ I,c0 I = c I r0) (h0:J a r0 x)
  (step:∀ k r y,a≤k→k < b→J k r y→Dt (stp c) (fun I=>body I k (c I r)) y (StP (J (k + 1)) P)) (fin:∀ r y,J (max a b) r y→P r y) :
  Dt c (fun I=>forIn [a:b] (c0 I) (body I)) x P:=by
 have go:∀ (m k:Nat) (r:ρ) (x:Ab),k + m = max a b→a≤k→J k r x→∃ r' y,P r' y∧∀ (I:SI n cmp) (Q:α→SortSt→Shared→Prop),Q (c I r') (stI I y) I.s→kasC (model I.prog I.w) I.A I.E (forIn (List.range' k m) (c I r) (body I)) Q (stI I x) I.s:=by
  intro m
  induction m with
  | zero =>
   intro k r x e ha h
   have:k = max a b:=by lia
   subst this
   exact ⟨r,x,fin r x h,fun I Q q=>kasC_nil q⟩
  | succ m ih =>
   intro k r x e ha h
   obtain ⟨r₁,y₁,p₁,st⟩:=step k r x ha (by lia) h
   cases r₁ with
   | yield r₁ =>
    obtain ⟨r₂,y₂,p₂,q₂⟩:=ih (k + 1) r₁ y₁ (by lia) (by lia) p₁
    exact ⟨r₂,y₂,p₂,fun I Q q=>by rw [List.range'_succ]; exact kasC_cons (st I _ (q₂ I Q q))⟩
   | done r₁=>exact ⟨r₁,y₁,p₁,fun I Q q=>by rw [List.range'_succ]; exact kasC_cons (st I _ q)⟩
 obtain ⟨r',y,p,q⟩:=go (b - a) a r0 x (by lia) (Nat.le_refl _) h0
 exact ⟨r',y,p,fun I Q h=>kasC_range (by rw [hc I]; exact q I Q h)⟩
end
end Mine
end
section
open PySem PySem.W PyProof.Rows
namespace Mine
noncomputable def Ph {α:Type} (_:α):Prop:=True
noncomputable abbrev got {T:Type} {p:Prop} (_:p) (f:T):T:=f
noncomputable abbrev KA:=Array Keyed
noncomputable abbrev SM:=StateT SortSt Sem
noncomputable abbrev L3:=Option (Option Nat) × Nat × Nat
noncomputable def gG:Bool→Keyed→KA→Nat→Nat→Nat→Option Bool→SM (Option Nat):=by
 apply got (p:=∀ l k a b n h,Ph (gallop' l k a b n h))
 intro l k a b n h
 show Ph (_ >>= ?f l k a b n h); exact trivial
noncomputable def gR:Bool→Keyed→KA→Nat→Nat→Nat→L3→SM (Option Nat):=by
 apply got (p:=∀ l k a b n h,Ph (gG l k a b n h (some true)))
 intro l k a b n h
 show Ph (forIn [0:n] (none,0,1) _ >>= ?f l k a b n h); exact trivial
noncomputable def gL:Bool→Keyed→KA→Nat→Nat→Nat→L3→SM (Option Nat):=by
 apply got (p:=∀ l k a b n h,Ph (gG l k a b n h (some false)))
 intro l k a b n h
 show Ph (forIn [0:n] (none,0,1) _ >>= ?f l k a b n h); exact trivial
noncomputable def gF:Bool→Keyed→KA→Nat→Nat→Nat→Nat→SM (Option Nat):=by
 apply got (p:=∀ l k a b n h u v,Ph (gR l k a b n h (none,u,v)))
 intro l k a b n h u v
 show Ph (forIn [0:n] (none,h + u + 1,h + min v (n - h)) _ >>= _)
 generalize h + u + 1 = lo
 generalize h + min v (n - h) = hi
 show Ph (?f l k a b n lo hi); exact trivial
section
variable {n:Nat} {cmp:Nat→Nat→Bool} {x:Ab}
theorem stp_y {ρ:Type} {Y F:ρ→Ab→Prop} {r:ρ} {y:Ab} (h:Y r y):StP Y F (.yield r) y:=h
theorem stp_d {ρ:Type} {Y F:ρ→Ab→Prop} {r:ρ} {y:Ab} (h:F r y):StP Y F (.done r) y:=h
structure LS (x:Ab) (J:Nat→Nat→Prop) {α:Type} (r:Option α × Nat × Nat) (y:Ab):Prop where
 e:y = x
 z:r.1 = none
 j:J r.2.1 r.2.2
section
variable {J F:Nat→Nat→Prop} {α σ β:Type} {c:SI n cmp→σ→β} {P:σ→Ab→Prop} {u v:Nat}
theorem ls_y {F:Option α × Nat × Nat→Ab→Prop} (h:J u v):Dt (stp cId) (fun _:SI n cmp=>pure (ForInStep.yield ((none,u,v):Option α × Nat × Nat))) x (StP (LS x J) F):=Dt.ret (ForInStep.yield (none,u,v)) (fun _=>rfl) ⟨rfl,rfl,h⟩
theorem ls_d {J:Option α × Nat × Nat→Ab→Prop} (h:F u v):Dt (stp cId) (fun _:SI n cmp=>pure (ForInStep.done ((none,u,v):Option α × Nat × Nat))) x (StP J (LS x F)):=Dt.ret (ForInStep.done (none,u,v)) (fun _=>rfl) ⟨rfl,rfl,h⟩
theorem Dt.lp (J F:Nat→Nat→Prop) {L:Nat} {body:SI n cmp→Nat→Option α × Nat × Nat→SM (ForInStep (Option α × Nat × Nat))} {f:SI n cmp→Option α × Nat × Nat→SM β} (h:J u v)
  (step:∀ {k u v},J u v→Dt (stp cId) (fun I=>body I k (none,u,v)) x (StP (LS x J) (LS x F))) (fin:∀ {u v},J u v→F u v) (k:∀ {u v},F u v→Dt c (fun I=>f I (none,u,v)) x P) :
  Dt c (fun I=>forIn [0:L] (none,u,v) (body I) >>= f I) x P:=by
 refine Dt.bind (cId (ρ:=Option α × Nat × Nat)) (LS x F) (Dt.loop cId (fun _=>LS x J) (none,u,v) (fun _=>rfl) ⟨rfl,rfl,h⟩ (fun k r y _ _ h=>?_) fun r y h=>⟨h.e,h.z,fin h.j⟩) fun r y h=>?_
 ·obtain ⟨_,u,v⟩:=r
  obtain ⟨rfl,rfl,h⟩:=h
  exact step h
 ·obtain ⟨_,u,v⟩:=r
  obtain ⟨rfl,rfl,h⟩:=h
  exact k h
end
section
variable {a:Array Nat} {l:Bool} {base key i N:Nat} {σ β:Type} {c:SI n cmp→σ→β} {P:σ→Ab→Prop} {f:SI n cmp→Option Bool→SM β}
theorem Dt.beyond (ha:InN n a) (hk:key < n) (hi:base + i < a.size) (k:∀ b,Dt c (fun I=>f I (some b)) x P) :
  Dt c (fun I=>(elem' (a.map I.item) (base + i) >>= fun z=>if l = true then lt' z (I.item key) else lt' (I.item key) z >>= fun r=>pure (r.map (! ·))) >>= f I) x P:=by
 refine Dt.bind (cId (ρ:=Option Bool)) (fun r y=>y = x∧∃ b,r = some b) (Dt.elem hi (Dt.ite (fun _=>Dt.lt1 (ha _ hi) hk ⟨rfl,_,rfl⟩) fun _=>Dt.lt hk (ha _ hi) (Dt.ret (some _) (fun I=>rfl) ⟨rfl,_,rfl⟩))) fun r y h=>?_
 obtain ⟨rfl,b,rfl⟩:=h
 exact k b
theorem gal_F {P:Option Nat→Ab→Prop} {lo hi:Nat} (ha:InN n a) (hk:key < n) (hb:base + N≤a.size) (h:hi≤N) (p:∀ k,k≤N→P (some k) x) :
  Dt (cId (ρ:=Option Nat)) (fun I:SI n cmp=>gF l (I.item key) (a.map I.item) base N lo hi) x P:=by
 refine Dt.lp (fun _ v=>v≤N) (fun _ v=>v≤N) h (fun {k u v} h=>?_) id fun {u v} h=>Dt.ret (some v) (fun I=>rfl) (p v h)
 refine Dt.ite (fun _=>ls_d h) fun q=>?_
 replace q:¬ u ≥ v:=q
 have hm:u + (v - u) / 2 < v:=by lia
 refine Dt.beyond ha hk (Nat.lt_of_lt_of_le (Nat.add_lt_add_left (Nat.lt_of_lt_of_le hm h) base) hb) fun b=>?_
 exact Dt.ite (fun _=>ls_y h) fun _=>ls_y (Nat.le_trans (Nat.le_of_lt hm) h)
end
theorem Dt.gallop {left:Bool} {a:Array Nat} {base key m hint:Nat} (ha:InN n a) (hk:key < n) (hb:base + m≤a.size) (hh:hint < m) {P:Option Nat→Ab→Prop} (p:∀ k,k≤m→P (some k) x) :
  Dt (cId (ρ:=Option Nat)) (fun I:SI n cmp=>gallop' left (I.item key) (a.map I.item) base m hint) x P:=by
 have hl:=fun i (h:i < m)=>Nat.lt_of_lt_of_le (Nat.add_lt_add_left h base) hb
 refine Dt.beyond (f:=fun I=>gG left (I.item key) (a.map I.item) base m hint) ha hk (hl _ hh) fun b=>?_
 cases b with
 | true =>
  refine Dt.lp (f:=fun I=>gR left (I.item key) (a.map I.item) base m hint) (fun u v=>u < v∧u < m - hint) (fun _ v=>hint + min v (m - hint)≤m) ⟨Nat.zero_lt_one,Nat.sub_pos_of_lt hh⟩ (fun {k u v} h=>?_) (fun {u v} h=>by lia) fun {u v} h=>gal_F ha hk hb h p
  refine Dt.ite (fun q=>ls_d (by lia)) fun q=>?_
  replace q:¬ v ≥ m - hint:=q
  refine Dt.beyond ha hk (hl _ (by lia)) fun b=>Dt.ite (fun _=>ls_d (by lia)) fun _=>ls_y ⟨by lia,Nat.lt_of_not_le q⟩
 | false =>
  refine Dt.lp (f:=fun I=>gL left (I.item key) (a.map I.item) base m hint) (fun u _=>hint - u≤m) (fun u _=>hint - u≤m) (Nat.le_of_lt hh) (fun {k u v} h=>?_) id fun {u v} h=>gal_F ha hk hb h p
  exact Dt.ite (fun q=>ls_d h) fun q=>Dt.beyond ha hk (hl _ (by lia)) fun b=>Dt.ite (fun _=>ls_d h) fun _=>ls_y (by lia)
end
end Mine
end
section
open PySem PySem.W PyProof.Rows
namespace Mine
section
variable {n:Nat} {cmp:Nat→Nat→Bool} {x:Ab}
noncomputable abbrev cAr (I:SI n cmp) (r:Array Nat):Array Keyed:=r.map I.item
noncomputable def cTup {τ:Type} (I:SI n cmp) (r:Option (Array Nat) × Array Nat × τ):Option (Array Keyed) × Array Keyed × τ:=(r.1.map (fun o=>o.map I.item),r.2.1.map I.item,r.2.2)
noncomputable def Rep (e:SI n cmp→Array Keyed):Prop:=∃ r,InN n r∧∀ I,e I = r.map I.item
theorem InN.mem {p:Array Nat}:InN n p ↔ ∀ z∈p.toList,z < n:=by
 constructor
 ·intro h z hz
  obtain ⟨i,hi,rfl⟩:=List.getElem_of_mem hz
  have:=h i (by simpa using hi)
  simpa [Array.getD,show i < p.size by simpa using hi] using this
 ·intro h i hi
  have e:p.getD i 0 = p[i]:=by simp [Array.getD,hi]
  rw [e]
  exact h _ (by simp)
theorem InN.ext {o:Array Nat} {i j:Nat} (h:InN n o):InN n (o.extract i j):=InN.mem.mpr fun z hz=>InN.mem.mp h z (by
  rw [Array.toList_extract] at hz
  exact List.mem_of_mem_drop (List.mem_of_mem_take hz))
theorem InN.one {z:Nat} (h:z < n):InN n #[z]:=InN.mem.mpr fun y hy=>by simp only [List.mem_singleton] at hy; lia
theorem InN.push {o:Array Nat} {z:Nat} (h:InN n o) (hz:z < n):InN n (o.push z):=InN.mem.mpr fun y hy=>by
 rw [Array.toList_push,List.mem_append,List.mem_singleton] at hy
 rcases hy with hy | rfl
 ·exact InN.mem.mp h y hy
 ·exact hz
theorem InN.app {o q:Array Nat} (h:InN n o) (hq:InN n q):InN n (o++q):=InN.mem.mpr fun y hy=>by
 rw [Array.toList_append,List.mem_append] at hy
 rcases hy with hy | hy
 ·exact InN.mem.mp h y hy
 ·exact InN.mem.mp hq y hy
theorem InN.rev {o:Array Nat} (h:InN n o):InN n o.reverse:=InN.mem.mpr fun y hy=>InN.mem.mp h y (by simpa using hy)
theorem Rep.base {o:Array Nat} (h:InN n o):Rep (fun I:SI n cmp=>o.map I.item):=⟨o,h,fun _=>rfl⟩
theorem Rep.one {z:Nat} (h:z < n):Rep (fun I:SI n cmp=>#[I.item z]):=⟨#[z],InN.one h,fun I=>by simp⟩
theorem Rep.push {e:SI n cmp→Array Keyed} {z:Nat} (he:Rep e) (h:z < n):Rep (fun I:SI n cmp=>(e I).push (I.item z)):=by
 obtain ⟨r,hr,e'⟩:=he
 exact ⟨r.push z,hr.push h,fun I=>by dsimp only; rw [e',Array.map_push]⟩
theorem Rep.app {e f:SI n cmp→Array Keyed} (he:Rep e) (hf:Rep f):Rep (fun I:SI n cmp=>e I++f I):=by
 obtain ⟨r,hr,e'⟩:=he
 obtain ⟨q,hq,f'⟩:=hf
 exact ⟨r++q,hr.app hq,fun I=>by dsimp only; rw [e',f',Array.map_append]⟩
theorem Rep.rev {e:SI n cmp→Array Keyed} (he:Rep e):Rep (fun I:SI n cmp=>(e I).reverse):=by
 obtain ⟨r,hr,e'⟩:=he
 exact ⟨r.reverse,hr.rev,fun I=>by dsimp only; rw [e',Array.map_reverse]⟩
section
variable {ρ α τ:Type} {c:SI n cmp→ρ→α} {P:ρ→Ab→Prop}
theorem Dt.iteV {q:Prop} {d:SI n cmp→Decidable q} {T:SI n cmp→StateT SortSt Sem α} {B:τ→SI n cmp→StateT SortSt Sem α} (v0 v:τ) (hT:∀ I,T I = B v I) (k:∀ z,Dt c (B z) x P):Dt c (fun I=>@_root_.ite _ q (d I) (T I) (B v0 I)) x P :=
 Dt.ite (fun _=>by
  have e:T = B v:=funext hT
  rw [show T = B v from e]
  exact k v) fun _=>k v0
theorem Dt.iteJ {q:Prop} {d:SI n cmp→Decidable q} {T:SI n cmp→StateT SortSt Sem α} {B:Array Nat→Nat→SI n cmp→StateT SortSt Sem α} (o0:Array Nat) (i0:Nat) (J:Array Nat→Nat→Prop) (h0:¬ q→J o0 i0) (k:∀ o i,J o i→Dt c (B o i) x P)
  (hT:q→(∀ o i,J o i→Dt c (B o i) x P)→Dt c T x P):Dt c (fun I=>@_root_.ite _ q (d I) (T I) (B o0 i0 I)) x P:=Dt.ite (fun h=>hT h k) fun h=>k _ _ (h0 h)
end
theorem Dt.retA {e:SI n cmp→Array Keyed} {P:Array Nat→Ab→Prop} (he:Rep e) (p:∀ o,InN n o→P o x):Dt cAr (fun I=>pure (e I)) x P:=by
 obtain ⟨r,hr,e'⟩:=he
 exact Dt.ret r e' (p r hr)
section
variable {τ:Type} {e e':SI n cmp→Array Keyed} {t:τ} {J F:(Option (Array Nat) × Array Nat × τ)→Ab→Prop}
theorem Dt.fy (he:Rep e) (h:∀ o,InN n o→J (none,o,t) x):Dt (stp cTup) (fun I=>pure (ForInStep.yield (none,e I,t))) x (StP J F):=by
 obtain ⟨r,hr,e'⟩:=he
 exact Dt.ret (ForInStep.yield (none,r,t)) (fun I=>by rw [e']; rfl) (h r hr)
theorem Dt.fd (he:Rep e) (h:∀ o,InN n o→F (none,o,t) x):Dt (stp cTup) (fun I=>pure (ForInStep.done (none,e I,t))) x (StP J F):=by
 obtain ⟨r,hr,e'⟩:=he
 exact Dt.ret (ForInStep.done (none,r,t)) (fun I=>by rw [e']; rfl) (h r hr)
theorem Dt.fs (he':Rep e') (he:Rep e) (h:∀ o' o,InN n o'→InN n o→F (some o',o,t) x):Dt (stp cTup) (fun I=>pure (ForInStep.done (some (e' I),e I,t))) x (StP J F):=by
 obtain ⟨r,hr,f⟩:=he
 obtain ⟨r',hr',f'⟩:=he'
 exact Dt.ret (ForInStep.done (some r',r,t)) (fun I=>by rw [f,f']; rfl) (h r' r hr' hr)
end
end
end Mine
end
section
open PySem PySem.W PyProof.Rows
namespace Mine
noncomputable abbrev T4:=Option KA × KA × Nat × Nat × Nat
noncomputable abbrev T5:=Option KA × KA × Nat × Nat × Nat × Nat
noncomputable abbrev T6:=Option KA × KA × Nat × Nat × Nat × Nat × Nat
noncomputable abbrev rg (s:String):SM Unit:=liftM (rule s)
noncomputable def loO (A B:KA):Nat→T4→SM (ForInStep T4):=by
 apply got (p:=Ph (mergeLo' A B))
 show Ph (rg "list.sort.merge-lo" >>= fun _=>elem' B 0 >>= fun x0=>if (1 == B.size) = true then _ else if (0 + 1 == A.size) = true then _ else get >>= fun st=>forIn [0:A.size + B.size] (none,#[x0],0,1,gallopOf st) ?f >>= _); exact trivial
noncomputable def loI (A B:KA):T4→Nat→T5→SM (ForInStep T5):=by
 apply got (p:=∀ k s,Ph (loO A B k s))
 intro k s
 show Ph (forIn [0:A.size + B.size] (none,s.2.1,s.2.2.1,s.2.2.2.1,0,0) (?f s) >>= _); exact trivial
noncomputable def loK (A B:KA):T4→T5→SM (ForInStep T4):=by
 apply got (p:=∀ k s,Ph (loO A B k s))
 intro k s
 show Ph (forIn [0:A.size + B.size] (none,s.2.1,s.2.2.1,s.2.2.2.1,0,0) (loI A B s) >>= ?f s); exact trivial
noncomputable def loG (A B:KA):Nat→T6→SM (ForInStep T6):=by
 apply got (p:=∀ s s1,Ph (loK A B s (none,s1)))
 intro s s1
 show Ph (rg "list.sort.gallop" >>= fun _=>forIn [0:A.size + B.size] (none,s1.1,s1.2.1,s1.2.2.1,s.2.2.2.2 + 1,s1.2.2.2.1,s1.2.2.2.2) ?f >>= _); exact trivial
noncomputable def loL (A B:KA):T6→SM (ForInStep T4):=by
 apply got (p:=∀ s s1,Ph (loK A B s (none,s1)))
 intro s s1
 show Ph (rg "list.sort.gallop" >>= fun _=>forIn [0:A.size + B.size] (none,s1.1,s1.2.1,s1.2.2.1,s.2.2.2.2 + 1,s1.2.2.2.1,s1.2.2.2.2) (loG A B) >>= ?f); exact trivial
noncomputable def loG0 (A B:KA):T6→SM (ForInStep T6):=by
 apply got (p:=∀ k s,Ph (loG A B k s))
 intro k s
 show Ph (if s.2.2.2.2.1 > 1 then _ else ?f s); exact trivial
noncomputable def loG1 (A B:KA):T6→Option Nat→SM (ForInStep T6):=by
 apply got (p:=∀ s,Ph (loG0 A B s))
 intro s
 show Ph (_root_.modify _ >>= fun _=>elem' B s.2.2.2.1 >>= fun z=>gallop' false z A s.2.2.1 (A.size - s.2.2.1) 0 >>= ?f s); exact trivial
noncomputable def loJ (A B:KA):T6→Nat→SM (ForInStep T6):=by
 apply got (p:=∀ s k,Ph (loG1 A B s (some k)))
 intro s k
 show Ph (if k > 0 then _ else ?f s k); exact trivial
noncomputable def loJ2 (A B:KA):T6→Nat→Keyed→Option Nat→SM (ForInStep T6):=by
 apply got (p:=∀ s k,Ph (loJ A B s k))
 intro s k
 show Ph (elem' B s.2.2.2.1 >>= fun z=>if (s.2.2.2.1 + 1 == B.size) = true then _ else elem' A s.2.2.1 >>= fun y=>gallop' true y B (s.2.2.2.1 + 1) (B.size - (s.2.2.2.1 + 1)) 0 >>= ?f s k z); exact trivial
noncomputable def loT (A B:KA):T6→Nat→Nat→KA→Nat→SM (ForInStep T6):=by
 apply got (p:=∀ s k w n,Ph (loJ2 A B s k w (some n)))
 intro s k w n
 show Ph (if n > 0 then _ else _)
 generalize s.2.1.push w = o
 generalize s.2.2.2.1 + 1 = i
 show Ph (if n > 0 then _ else ?f s k n o i); exact trivial
end Mine
end
section
open PySem PySem.W PyProof.Rows
namespace Mine
noncomputable abbrev m {n:Nat} {cmp:Nat→Nat→Bool} (I:SI n cmp) (a:Array Nat):KA:=a.map I.item
noncomputable def Sm (x y:Ab):Prop:=y.p = x.p∧y.pend = x.pend
structure JL (n:Nat) (a b:Array Nat) (x:Ab) (z:Nat) (out:Array Nat) (ia ib:Nat) (y:Ab):Prop where
 s:Sm x y
 o:InN n out
 a:ia + 1 < a.size
 b:ib < b.size
 z:z≤ia + ib
noncomputable abbrev RL (τ:Type):=Option (Array Nat) × Array Nat × Nat × Nat × τ
noncomputable abbrev KL (τ:Type):=Option KA × KA × Nat × Nat × τ
noncomputable def Jl (n:Nat) (a b:Array Nat) (x:Ab) (z:Nat) {τ:Type} (r:RL τ) (y:Ab):Prop:=r.1 = none∧JL n a b x z r.2.1 r.2.2.1 r.2.2.2.1 y
noncomputable def Fl (n:Nat) (a b:Array Nat) (x:Ab) (z:Nat) {τ:Type} (r:RL τ) (y:Ab):Prop:=(Sm x y∧∃ o,r.1 = some o∧InN n o)∨Jl n a b x z r y
section
variable {n:Nat} {cmp:Nat→Nat→Bool} {x y:Ab} {a b out:Array Nat} {k z w mg ia ib:Nat}
theorem Rep.ext {o:Array Nat} {i j:Nat} (h:InN n o):Rep (fun I:SI n cmp=>(m I o).extract i j):=⟨o.extract i j,h.ext,fun I=>by simp⟩
theorem Rep.exz {o:Array Nat} {i:Nat} (h:InN n o):Rep (fun I:SI n cmp=>(m I o).extract i (m I o).size):=⟨o.extract i o.size,h.ext,fun I=>by simp⟩
section
variable {τ:Type} {e e':SI n cmp→KA} {t:Nat × Nat × τ} {J:RL τ→Ab→Prop} {u:τ}
theorem Dt.es (P:Sm x y) (he':Rep e') (he:Rep e):Dt (stp cTup) (fun I=>pure (ForInStep.done (some (e' I),e I,t))) y (StP J (Fl n a b x z)) :=
 Dt.fs he' he fun o' _ ho' _=>.inl ⟨P,o',rfl,ho'⟩
theorem Dt.ed (P:Sm x y) (he:Rep e) (h1:ia + 1 < a.size) (h2:ib < b.size) (h3:z≤ia + ib):Dt (stp cTup) (fun I=>pure (ForInStep.done (none,e I,ia,ib,u))) y (StP J (Fl n a b x z)) :=
 Dt.fd he fun _ ho=>.inr ⟨rfl,P,ho,h1,h2,h3⟩
theorem Dt.ey (P:Sm x y) (he:Rep e) (h1:ia + 1 < a.size) (h2:ib < b.size) (h3:z≤ia + ib):Dt (stp cTup) (fun I=>pure (ForInStep.yield (none,e I,ia,ib,u))) y (StP (Jl n a b x z) J) :=
 Dt.fy he fun _ ho=>⟨rfl,P,ho,h1,h2,h3⟩
end
theorem Dt.eqv {ρ α:Type} {c:SI n cmp→ρ→α} {P:ρ→Ab→Prop} {f g:SI n cmp→SM α} (h:∀ I,f I = g I) (k:Dt c g x P):Dt c f x P:=by
 rw [show f = g from funext h]; exact k
theorem msz {I:SI n cmp} {a:Array Nat}:(m I a).size = a.size:=Array.size_map ..
theorem msb {I:SI n cmp}:(k == (m I a).size) = true ↔ k = a.size:=by rw [msz,beq_iff_eq]
theorem ms2 (I:SI n cmp):(m I a).size + (m I b).size = a.size + b.size:=by rw [msz,msz]
theorem lo_loop {τ σ β:Type} {c:SI n cmp→σ→β} {P:σ→Ab→Prop} (z:Nat→Nat) (w L:Nat) {t:τ} {e:SI n cmp→Nat} {o:SI n cmp→KA} {body:SI n cmp→Nat→KL τ→SM (ForInStep (KL τ))} {f:SI n cmp→KL τ→SM β}
  (he:∀ I,e I = L) (ho:∀ I,o I = m I out) (h:JL n a b x (z 0) out ia ib y) (hw:w≤z L)
  (step:∀ {k out ia ib t y},JL n a b x (z k) out ia ib y→Dt (stp cTup) (fun I=>body I k (none,m I out,ia,ib,t)) y (StP (Jl n a b x (z (k + 1))) (Fl n a b x w)))
  (k1:∀ {r out ia ib t y},Sm x y→InN n r→Dt c (fun I=>f I (some (m I r),m I out,ia,ib,t)) y P)
  (k2:∀ {out ia ib t y},JL n a b x w out ia ib y→Dt c (fun I=>f I (none,m I out,ia,ib,t)) y P) :
  Dt c (fun I=>forIn [0:e I] (none,o I,ia,ib,t) (body I) >>= f I) y P:=by
 refine Dt.eqv (g:=fun I=>forIn [0:L] (cTup I (none,out,ia,ib,t)) (body I) >>= f I) (fun I=>by rw [he,ho]; rfl) ?_
 refine Dt.bind cTup (Fl n a b x w) (Dt.loop cTup (fun k=>Jl n a b x (z k)) (none,out,ia,ib,t) (fun I=>rfl) ⟨rfl,h⟩ (fun k r y' _ _ h=>?_) fun r y' h=>?_) fun r y' h=>?_
 ·obtain ⟨_,out,ia,ib,t⟩:=r
  obtain ⟨rfl,h⟩:=h
  exact step h
 ·rw [Nat.zero_max] at h
  exact .inr ⟨h.1,h.2.s,h.2.o,h.2.a,h.2.b,Nat.le_trans hw h.2.z⟩
 ·obtain ⟨_,out,ia,ib,t⟩:=r
  rcases h with ⟨s,r,rfl,h⟩ | ⟨rfl,h⟩
  ·exact k1 s h
  ·exact k2 h
theorem lo_inner {out0:Array Nat} {ia0 ib0:Nat} {t:Nat × Nat} (ha:InN n a) (hb:InN n b) (J:JL n a b x (z + k) out ia ib y) :
  Dt (stp cTup) (fun I:SI n cmp=>loI (m I a) (m I b) (none,m I out0,ia0,ib0,mg) k (none,m I out,ia,ib,t)) y (StP (Jl n a b x (z + (k + 1))) (Fl n a b x (z + 1))):=by
 obtain ⟨P,ho,h1,h2,h3⟩:=J
 have hz:=hb _ h2
 have hy:=ha _ (Nat.lt_of_succ_lt h1)
 refine Dt.elem h2 (Dt.elem (Nat.lt_of_succ_lt h1) (Dt.lt hz hy ?_))
 dsimp only
 refine Dt.ite (fun _=>Dt.elem h2 ?_) fun _=>Dt.elem (Nat.lt_of_succ_lt h1) ?_
 ·refine Dt.iteW (ib + 1 = b.size) (fun I=>msb) (fun _=>Dt.es P (Rep.app (Rep.app (Rep.push (Rep.base ho) hz) (Rep.exz ha)) (Rep.exz hb)) (Rep.push (Rep.base ho) hz)) fun q=>?_
  have h4:ib + 1 < b.size:=Nat.lt_of_le_of_ne h2 q
  exact Dt.ite (fun _=>Dt.ed P (Rep.push (Rep.base ho) hz) h1 h4 (by lia)) fun _=>Dt.ey P (Rep.push (Rep.base ho) hz) h1 h4 (by lia)
 ·refine Dt.iteW (ia + 1 + 1 = a.size) (fun I=>msb) (fun _=>?_) fun q=>?_
  ·exact Dt.es P (Rep.app (Rep.app (Rep.push (Rep.base ho) hy) (Rep.exz hb)) (Rep.exz ha)) (Rep.push (Rep.base ho) hy)
  have h4:ia + 1 + 1 < a.size:=Nat.lt_of_le_of_ne h1 q
  exact Dt.ite (fun _=>Dt.ed P (Rep.push (Rep.base ho) hy) h4 h2 (by lia)) fun _=>Dt.ey P (Rep.push (Rep.base ho) hy) h4 h2 (by lia)
theorem Dt.gal {σ β:Type} {c:SI n cmp→σ→β} {P:σ→Ab→Prop} {l:Bool} {base key hint:Nat} {e:SI n cmp→Nat} {f:SI n cmp→Option Nat→SM β} (L:Nat) (he:∀ I,e I = L) (ha:InN n a) (hk:key < n) (hb:base + L≤a.size) (hh:hint < L)
  (h:∀ k,k≤L→Dt c (fun I=>f I (some k)) y P):Dt c (fun I=>gallop' l (I.item key) (m I a) base (e I) hint >>= f I) y P :=
 Dt.bind cId (fun r z=>z = y∧∃ k,r = some k∧k≤L) (Dt.eqv (fun I=>by rw [he]) (Dt.gallop ha hk hb hh fun k h=>⟨rfl,k,rfl,h⟩)) fun r z q=>by obtain ⟨rfl,k,rfl,q⟩:=q; exact h k q
section
variable {t:Nat × Nat × Nat}
theorem lo_T {e:SI n cmp→KA} {kb jb:Nat} (ha:InN n a) (hb:InN n b) (P:Sm x y) (he:Rep e) (h1:ia + 1 < a.size) (h2:jb < b.size) (h3:z≤ia + 1 + jb) :
  Dt (stp cTup) (fun I:SI n cmp=>loT (m I a) (m I b) (none,m I out,ia,ib,t) k kb (e I) jb) y (StP (Jl n a b x z) (Fl n a b x z)):=by
 have hy:=ha _ (Nat.lt_of_succ_lt h1)
 refine Dt.elem (Nat.lt_of_succ_lt h1) ?_
 dsimp only
 refine Dt.iteW (ia + 1 + 1 = a.size) (fun I=>msb) (fun _=>Dt.es P (Rep.app (Rep.app (Rep.push he hy) (Rep.exz hb)) (Rep.exz ha)) (Rep.push he hy)) fun q=>?_
 exact Dt.ite (fun _=>Dt.ed P (Rep.push he hy) (Nat.lt_of_le_of_ne h1 q) h2 h3) fun _=>Dt.ey P (Rep.push he hy) (Nat.lt_of_le_of_ne h1 q) h2 h3
theorem lo_J (ha:InN n a) (hb:InN n b) (J:JL n a b x z out ia ib y):Dt (stp cTup) (fun I:SI n cmp=>loJ (m I a) (m I b) (none,m I out,ia,ib,t) k) y (StP (Jl n a b x z) (Fl n a b x z)):=by
 obtain ⟨P,ho,h1,h2,h3⟩:=J
 have hz:=Rep.push (Rep.base ho) (cmp:=cmp) (hb _ h2)
 refine (?_:Dt _ (fun I:SI n cmp=>elem' (m I b) ib >>= fun w=>if (ib + 1 == (m I b).size) = true then _ else elem' (m I a) ia >>= fun y=>gallop' true y (m I b) (ib + 1) ((m I b).size - (ib + 1)) 0 >>= loJ2 (m I a) (m I b) (none,m I out,ia,ib,t) k w) _ _)
 refine Dt.elem h2 (Dt.iteW (ib + 1 = b.size) (fun I=>msb) (fun _=>?_) fun q=>Dt.elem (Nat.lt_of_succ_lt h1) (Dt.gal (b.size - (ib + 1)) (fun I=>by rw [msz]) hb (ha _ (Nat.lt_of_succ_lt h1)) (by lia) (by lia) fun kb hk=>?_))
 ·dsimp only
  exact Dt.es P (Rep.app (Rep.app hz (Rep.exz ha)) (Rep.exz hb)) hz
 have h4:ib + 1 < b.size:=Nat.lt_of_le_of_ne h2 q
 refine (?_:Dt _ (fun I:SI n cmp=>if kb > 0 then if (ib + 1 + kb == (m I b).size) = true then _ else loT (m I a) (m I b) (none,m I out,ia,ib,t) k kb ((m I out).push (I.item (b.getD ib 0))++(m I b).extract (ib + 1) (ib + 1 + kb)) (ib + 1 + kb) else loT (m I a) (m I b) (none,m I out,ia,ib,t) k kb ((m I out).push (I.item (b.getD ib 0))) (ib + 1)) _ _)
 refine Dt.ite (fun _=>Dt.iteW (ib + 1 + kb = b.size) (fun I=>msb) (fun _=>?_) fun q=>lo_T ha hb P (Rep.app hz (Rep.ext hb)) h1 (by lia) (by lia)) fun _=>lo_T ha hb P hz h1 h4 (by lia)
 dsimp only
 exact Dt.es P (Rep.app (Rep.app (Rep.app hz (Rep.ext hb)) (Rep.exz ha)) (Rep.exz hb)) (Rep.app hz (Rep.ext hb))
theorem lo_G0 (ha:InN n a) (hb:InN n b) (J:JL n a b x z out ia ib y):Dt (stp cTup) (fun I:SI n cmp=>loG0 (m I a) (m I b) (none,m I out,ia,ib,t)) y (StP (Jl n a b x z) (Fl n a b x z)):=by
 obtain ⟨P,ho,h1,h2,h3⟩:=J
 have hz:=fun j=>Rep.app (cmp:=cmp) (Rep.base ho) (Rep.ext (i:=ia) (j:=j) ha)
 refine (?_:Dt _ (fun I:SI n cmp=>_root_.modify _ >>= fun _=>elem' (m I b) ib >>= fun w=>gallop' false w (m I a) ia ((m I a).size - ia) 0 >>= loG1 (m I a) (m I b) (none,m I out,ia,ib,t)) _ _)
 refine Dt.modify ⟨y.p,y.pend,t.1⟩ (fun I=>rfl) (Dt.elem h2 (Dt.gal (a.size - ia) (fun I=>by rw [msz]) ha (hb _ h2) (by lia) (by lia) fun ka hk=>?_))
 refine (?_:Dt _ (fun I:SI n cmp=>if ka > 0 then if (ia + ka + 1 == (m I a).size) = true then _ else if (ia + ka == (m I a).size) = true then _ else loJ (m I a) (m I b) (none,m I out++(m I a).extract ia (ia + ka),ia + ka,ib,t) ka else loJ (m I a) (m I b) (none,m I out,ia,ib,t) ka) _ _)
 refine Dt.ite (fun _=>Dt.iteW (ia + ka + 1 = a.size) (fun I=>msb) (fun _=>?_) fun q=>Dt.iteW (ia + ka = a.size) (fun I=>msb) (fun _=>?_) fun q2=>?_) fun _=>lo_J ha hb ⟨P,ho,h1,h2,h3⟩
 ·dsimp only
  exact Dt.es P (Rep.app (Rep.app (hz _) (Rep.exz hb)) (Rep.exz ha)) (hz _)
 ·dsimp only
  exact Dt.es P (Rep.app (Rep.app (hz _) (Rep.exz ha)) (Rep.exz hb)) (hz _)
 refine Dt.eqv (g:=fun I=>loJ (m I a) (m I b) (none,m I (out++a.extract ia (ia + ka)),ia + ka,ib,t) ka) (fun I=>?_) (lo_J ha hb ⟨P,ho.app ha.ext,by lia,h2,by lia⟩)
 rw [show m I (out++a.extract ia (ia + ka)) = m I out++(m I a).extract ia (ia + ka) by simp [m]]
end
theorem lo_outer (ha:InN n a) (hb:InN n b) (J:JL n a b x (k + 1) out ia ib y) :
  Dt (stp cTup) (fun I:SI n cmp=>loO (m I a) (m I b) k (none,m I out,ia,ib,mg)) y (StP (Jl n a b x (k + 1 + 1)) (Fl n a b x (a.size + b.size + 1))):=by
 refine (?_:Dt _ (fun I:SI n cmp=>forIn [0:(m I a).size + (m I b).size] (none,m I out,ia,ib,0,0) (loI (m I a) (m I b) (none,m I out,ia,ib,mg)) >>= loK (m I a) (m I b) (none,m I out,ia,ib,mg)) _ _)
 have l:1≤a.size + b.size:=Nat.le_trans (Nat.le_of_lt (Nat.lt_of_le_of_lt (Nat.le_add_left 1 ia) J.a)) (Nat.le_add_right _ _)
 refine lo_loop (fun k=>ia + ib + k) (ia + ib + 1) _ ms2 (fun _=>rfl) ⟨J.s,J.o,J.a,J.b,Nat.le_refl _⟩ (Nat.add_le_add_left l _) (fun J=>lo_inner ha hb J) (fun {r out' ia' ib' t' y'} s h=>Dt.ret (ForInStep.done (some r,out',ia',ib',mg)) (fun I=>rfl) (.inl ⟨s,r,rfl,h⟩)) fun {out' ia' ib' t' y'} J'=>?_
 refine (?_:Dt _ (fun I:SI n cmp=>rg "list.sort.gallop" >>= fun _=>forIn [0:(m I a).size + (m I b).size] (none,m I out',ia',ib',mg + 1,t') (loG (m I a) (m I b)) >>= loL (m I a) (m I b)) _ _)
 refine Dt.rule (lo_loop (fun _=>ia + ib + 1) (ia + ib + 1) _ ms2 (fun _=>rfl) J' (Nat.le_refl _) (fun {k out ia ib t y} J=>?_) (fun {r out' ia' ib' t' y'} s h=>Dt.ret (ForInStep.done (some r,out',ia',ib',t'.1)) (fun I=>rfl) (.inl ⟨s,r,rfl,h⟩)) fun {out' ia' ib' t' y'} J'=>?_)
 ·refine (?_:Dt _ (fun I:SI n cmp=>if t.1 > 1 then loG0 (m I a) (m I b) (none,m I out,ia,ib,t.1 - 1,t.2) else loG0 (m I a) (m I b) (none,m I out,ia,ib,t)) _ _)
  exact Dt.ite (fun _=>lo_G0 ha hb J) fun _=>lo_G0 ha hb J
 exact Dt.modify ⟨y'.p,y'.pend,t'.1 + 1⟩ (fun I=>rfl) (Dt.ret (ForInStep.yield (none,out',ia',ib',t'.1 + 1)) (fun I=>rfl) ⟨rfl,J'.s,J'.o,J'.a,J'.b,Nat.le_trans (Nat.succ_le_succ J.z) J'.z⟩)
theorem Dt.mergeLo (ha:InN n a) (hb:InN n b) (ha0:1≤a.size) (hb0:1≤b.size) :
  Dt cAr (fun I:SI n cmp=>mergeLo' (m I a) (m I b)) x (fun r y=>InN n r∧y.p = x.p∧y.pend = x.pend):=by
 have hz:=hb 0 hb0
 refine (?_:Dt _ (fun I:SI n cmp=>rg "list.sort.merge-lo" >>= fun _=>elem' (m I b) 0 >>= fun x0=>if (1 == (m I b).size) = true then _ else if (0 + 1 == (m I a).size) = true then _ else MonadState.get >>= fun st=>forIn [0:(m I a).size + (m I b).size] (none,#[x0],0,1,gallopOf st) (loO (m I a) (m I b)) >>= _) _ _)
 refine Dt.rule (Dt.elem hb0 (Dt.iteW (1 = b.size) (fun I=>msb) (fun _=>Dt.retA (Rep.app (Rep.app (Rep.one hz) (Rep.exz ha)) (Rep.exz hb)) fun o h=>⟨h,rfl,rfl⟩) fun q1=>Dt.iteW (0 + 1 = a.size) (fun I=>msb) (fun _=>Dt.retA (Rep.app (Rep.app (Rep.one hz) (Rep.exz hb)) (Rep.exz ha)) fun o h=>⟨h,rfl,rfl⟩) fun q2=>Dt.get ?_))
 refine lo_loop (t:=x.mg) (fun k=>k + 1) (a.size + b.size + 1) _ ms2 (out:=#[b.getD 0 0]) (fun I=>by simp [m]) ⟨⟨rfl,rfl⟩,InN.one hz,Nat.lt_of_le_of_ne ha0 q2,Nat.lt_of_le_of_ne hb0 q1,Nat.le_refl _⟩ (Nat.le_refl _) (fun J=>lo_outer ha hb J) (fun {r out' ia' ib' t' y'} s h=>Dt.ret r (fun I=>rfl) ⟨h,s⟩) fun {out' ia' ib' t' y'} J=>?_
 have:=J.a
 have:=J.b
 have:=J.z
 lia
end
end Mine
end
section
open PySem PySem.W PyProof.Rows
namespace Mine
noncomputable abbrev U4:=Option KA × Nat × Nat × KA × Nat
noncomputable abbrev U5:=Option KA × Nat × Nat × KA × Nat × Nat
noncomputable abbrev U6:=Option KA × Nat × Nat × KA × Nat × Nat × Nat
noncomputable def hiO (A B:KA):Nat→U4→SM (ForInStep U4):=by
 apply got (p:=Ph (mergeHi' A B))
 show Ph (rg "list.sort.merge-hi" >>= fun _=>elem' A (A.size - 1) >>= fun x0=>if (A.size - 1 == 0) = true then _ else if (B.size == 1) = true then _ else get >>= fun st=>forIn [0:A.size + B.size] (none,A.size - 1,B.size,#[x0],gallopOf st) ?f >>= _); exact trivial
noncomputable def hiI (A B:KA):U4→Nat→U5→SM (ForInStep U5):=by
 apply got (p:=∀ k s,Ph (hiO A B k s))
 intro k s
 show Ph (forIn [0:A.size + B.size] (none,s.2.1,s.2.2.1,s.2.2.2.1,0,0) (?f s) >>= _); exact trivial
noncomputable def hiK (A B:KA):U4→U5→SM (ForInStep U4):=by
 apply got (p:=∀ k s,Ph (hiO A B k s))
 intro k s
 show Ph (forIn [0:A.size + B.size] (none,s.2.1,s.2.2.1,s.2.2.2.1,0,0) (hiI A B s) >>= ?f s); exact trivial
noncomputable def hiG (A B:KA):Nat→U6→SM (ForInStep U6):=by
 apply got (p:=∀ s s1,Ph (hiK A B s (none,s1)))
 intro s s1
 show Ph (rg "list.sort.gallop" >>= fun _=>forIn [0:A.size + B.size] (none,s1.1,s1.2.1,s1.2.2.1,s.2.2.2.2 + 1,s1.2.2.2.1,s1.2.2.2.2) ?f >>= _); exact trivial
noncomputable def hiL (A B:KA):U6→SM (ForInStep U4):=by
 apply got (p:=∀ s s1,Ph (hiK A B s (none,s1)))
 intro s s1
 show Ph (rg "list.sort.gallop" >>= fun _=>forIn [0:A.size + B.size] (none,s1.1,s1.2.1,s1.2.2.1,s.2.2.2.2 + 1,s1.2.2.2.1,s1.2.2.2.2) (hiG A B) >>= ?f); exact trivial
noncomputable def hiG0 (A B:KA):U6→SM (ForInStep U6):=by
 apply got (p:=∀ k s,Ph (hiG A B k s))
 intro k s
 show Ph (if s.2.2.2.2.1 > 1 then _ else ?f s); exact trivial
noncomputable def hiG1 (A B:KA):U6→Option Nat→SM (ForInStep U6):=by
 apply got (p:=∀ s,Ph (hiG0 A B s))
 intro s
 show Ph (_root_.modify _ >>= fun _=>elem' B (s.2.2.1 - 1) >>= fun z=>gallop' false z A 0 s.2.1 (s.2.1 - 1) >>= ?f s); exact trivial
noncomputable def hiJ (A B:KA):U6→Nat→KA→Nat→SM (ForInStep U6):=by
 apply got (p:=∀ s k,Ph (hiG1 A B s (some k)))
 intro s k
 show Ph (if s.2.1 - k > 0 then _ else _)
 generalize s.2.1 - k = d
 generalize s.2.2.2.1 = o
 generalize s.2.1 = i
 show Ph (if d > 0 then _ else ?f s d o i); exact trivial
noncomputable def hiJ2 (A B:KA):U6→Nat→KA→Nat→Keyed→Option Nat→SM (ForInStep U6):=by
 apply got (p:=∀ s d o i,Ph (hiJ A B s d o i))
 intro s d o i
 show Ph (elem' B (s.2.2.1 - 1) >>= fun z=>if (s.2.2.1 - 1 == 1) = true then _ else elem' A (i - 1) >>= fun y=>gallop' true y B 0 (s.2.2.1 - 1) (s.2.2.1 - 1 - 1) >>= ?f s d o i z); exact trivial
noncomputable def hiT (A B:KA):U6→Nat→Nat→Nat→KA→Nat→SM (ForInStep U6):=by
 apply got (p:=∀ s d o i z k,Ph (hiJ2 A B s d o i z (some k)))
 intro s d o i z k
 show Ph (if s.2.2.1 - 1 - k > 0 then _ else _)
 generalize s.2.2.1 - 1 - k = c
 generalize o.push z = o'
 generalize s.2.2.1 - 1 = j
 show Ph (if c > 0 then _ else ?f s d i c o' j); exact trivial
end Mine
end
section
open PySem PySem.W PyProof.Rows
namespace Mine
noncomputable abbrev RH (τ:Type):=Option (Array Nat) × Nat × Nat × Array Nat × τ
noncomputable abbrev KH (τ:Type):=Option KA × Nat × Nat × KA × τ
structure JH (n:Nat) (a b:Array Nat) (x:Ab) (w z:Nat) (out:Array Nat) (ia ib:Nat) (y:Ab):Prop where
 s:Sm x y
 o:InN n out
 p1:1≤ia
 p2:ia≤a.size
 q1:2≤ib
 q2:ib≤b.size
 z:ia + ib + w≤z
noncomputable def Jh (n:Nat) (a b:Array Nat) (x:Ab) (w z:Nat) {τ:Type} (r:RH τ) (y:Ab):Prop:=r.1 = none∧JH n a b x w z r.2.2.2.1 r.2.1 r.2.2.1 y
noncomputable def Fh (n:Nat) (a b:Array Nat) (x:Ab) (w z:Nat) {τ:Type} (r:RH τ) (y:Ab):Prop:=(Sm x y∧∃ o,r.1 = some o∧InN n o)∨Jh n a b x w z r y
section
variable {n:Nat} {cmp:Nat→Nat→Bool} {x y:Ab} {a b out:Array Nat} {k z w mg ia ib:Nat}
noncomputable def cTuh {τ:Type} (I:SI n cmp) (r:RH τ):KH τ:=(r.1.map (fun o=>o.map I.item),r.2.1,r.2.2.1,r.2.2.2.1.map I.item,r.2.2.2.2)
section
variable {τ:Type} {e e':SI n cmp→KA} {t:τ} {J:RH τ→Ab→Prop}
theorem Dt.gs (P:Sm x y) (he':Rep e') (he:Rep e):Dt (stp cTuh) (fun I=>pure (ForInStep.done (some (e' I),ia,ib,e I,t))) y (StP J (Fh n a b x w z)):=by
 obtain ⟨r,_,f⟩:=he
 obtain ⟨r',hr',f'⟩:=he'
 exact Dt.ret (ForInStep.done (some r',ia,ib,r,t)) (fun I=>by rw [f,f']; rfl) (.inl ⟨P,r',rfl,hr'⟩)
theorem Dt.gd (P:Sm x y) (he:Rep e) (h1:1≤ia) (h2:ia≤a.size) (h3:2≤ib) (h4:ib≤b.size) (h5:ia + ib + w≤z):Dt (stp cTuh) (fun I=>pure (ForInStep.done (none,ia,ib,e I,t))) y (StP J (Fh n a b x w z)):=by
 obtain ⟨r,hr,f⟩:=he
 exact Dt.ret (ForInStep.done (none,ia,ib,r,t)) (fun I=>by rw [f]; rfl) (.inr ⟨rfl,P,hr,h1,h2,h3,h4,h5⟩)
theorem Dt.gy (P:Sm x y) (he:Rep e) (h1:1≤ia) (h2:ia≤a.size) (h3:2≤ib) (h4:ib≤b.size) (h5:ia + ib + w≤z):Dt (stp cTuh) (fun I=>pure (ForInStep.yield (none,ia,ib,e I,t))) y (StP (Jh n a b x w z) J):=by
 obtain ⟨r,hr,f⟩:=he
 exact Dt.ret (ForInStep.yield (none,ia,ib,r,t)) (fun I=>by rw [f]; rfl) ⟨rfl,P,hr,h1,h2,h3,h4,h5⟩
end
theorem hi_loop {τ σ β:Type} {c:SI n cmp→σ→β} {P:σ→Ab→Prop} (w:Nat→Nat) (w0 L:Nat) {t:τ} {e i:SI n cmp→Nat} {o:SI n cmp→KA} {body:SI n cmp→Nat→KH τ→SM (ForInStep (KH τ))} {f:SI n cmp→KH τ→SM β}
  (he:∀ I,e I = L) (hi:∀ I,i I = ib) (ho:∀ I,o I = m I out) (h:JH n a b x (w 0) z out ia ib y) (hw:w0≤w L)
  (step:∀ {k out ia ib t y},JH n a b x (w k) z out ia ib y→Dt (stp cTuh) (fun I=>body I k (none,ia,ib,m I out,t)) y (StP (Jh n a b x (w (k + 1)) z) (Fh n a b x w0 z)))
  (k1:∀ {r out ia ib t y},Sm x y→InN n r→Dt c (fun I=>f I (some (m I r),ia,ib,m I out,t)) y P)
  (k2:∀ {out ia ib t y},JH n a b x w0 z out ia ib y→Dt c (fun I=>f I (none,ia,ib,m I out,t)) y P) :
  Dt c (fun I=>forIn [0:e I] (none,ia,i I,o I,t) (body I) >>= f I) y P:=by
 refine Dt.eqv (g:=fun I=>forIn [0:L] (cTuh I (none,ia,ib,out,t)) (body I) >>= f I) (fun I=>by rw [he,hi,ho]; rfl) ?_
 refine Dt.bind cTuh (Fh n a b x w0 z) (Dt.loop cTuh (fun k=>Jh n a b x (w k) z) (none,ia,ib,out,t) (fun I=>rfl) ⟨rfl,h⟩ (fun k r y' _ _ h=>?_) fun r y' h=>?_) fun r y' h=>?_
 ·obtain ⟨_,ia,ib,out,t⟩:=r
  obtain ⟨rfl,h⟩:=h
  exact step h
 ·rw [Nat.zero_max] at h
  exact .inr ⟨h.1,h.2.s,h.2.o,h.2.p1,h.2.p2,h.2.q1,h.2.q2,Nat.le_trans (Nat.add_le_add_left hw _) h.2.z⟩
 ·obtain ⟨_,ia,ib,out,t⟩:=r
  rcases h with ⟨s,r,rfl,h⟩ | ⟨rfl,h⟩
  ·exact k1 s h
  ·exact k2 h
theorem pre_lt {k j:Nat} (h:k + 1≤j):j - 1 < j:=Nat.sub_lt (Nat.lt_of_lt_of_le (Nat.succ_pos k) h) (Nat.succ_pos 0)
theorem hi_inner {out0:Array Nat} {ia0 ib0:Nat} {t:Nat × Nat} (ha:InN n a) (hb:InN n b) (J:JH n a b x k z out ia ib y) :
  Dt (stp cTuh) (fun I:SI n cmp=>hiI (m I a) (m I b) (none,ia0,ib0,m I out0,mg) w (none,ia,ib,m I out,t)) y (StP (Jh n a b x (k + 1) z) (Fh n a b x 1 z)):=by
 obtain ⟨P,ho,h1,h2,h3,h4,h5⟩:=J
 have hA:=Nat.lt_of_lt_of_le (pre_lt h1) h2
 have hB:=Nat.lt_of_lt_of_le (pre_lt h3) h4
 have hz:=Rep.push (Rep.base ho) (cmp:=cmp) (hb _ hB)
 have hy:=Rep.push (Rep.base ho) (cmp:=cmp) (ha _ hA)
 refine Dt.elem hB (Dt.elem hA (Dt.lt (hb _ hB) (ha _ hA) ?_))
 dsimp only
 refine Dt.ite (fun _=>Dt.elem hA ?_) fun _=>Dt.elem hB ?_
 ·refine Dt.iteW (ia - 1 = 0) (fun I=>by rw [beq_iff_eq]) (fun _=>Dt.gs P (Rep.app (Rep.app (Rep.ext ha) (Rep.ext hb)) (Rep.rev hy)) hy) fun q=>?_
  exact Dt.ite (fun _=>Dt.gd P hy (by lia) (by lia) h3 h4 (by lia)) fun _=>Dt.gy P hy (by lia) (by lia) h3 h4 (by lia)
 ·refine Dt.iteW (ib - 1 = 1) (fun I=>by rw [beq_iff_eq]) (fun _=>Dt.gs P (Rep.app (Rep.app (Rep.ext hb) (Rep.ext ha)) (Rep.rev hz)) hz) fun q=>?_
  exact Dt.ite (fun _=>Dt.gd P hz h1 h2 (by lia) (by lia) (by lia)) fun _=>Dt.gy P hz h1 h2 (by lia) (by lia) (by lia)
section
variable {t:Nat × Nat × Nat}
theorem hi_T {e:SI n cmp→KA} {d c i j:Nat} (ha:InN n a) (hb:InN n b) (P:Sm x y) (he:Rep e) (h1:1≤i) (h2:i≤a.size) (h3:2≤j) (h4:j≤b.size) (h5:i + j + w≤z) :
  Dt (stp cTuh) (fun I:SI n cmp=>hiT (m I a) (m I b) (none,ia,ib,m I out,t) d i c (e I) j) y (StP (Jh n a b x w z) (Fh n a b x w z)):=by
 have hA:=Nat.lt_of_lt_of_le (pre_lt h1) h2
 have hy:=Rep.push he (ha _ hA)
 refine Dt.elem hA ?_
 dsimp only
 refine Dt.iteW (i - 1 = 0) (fun I=>by rw [beq_iff_eq]) (fun _=>Dt.gs P (Rep.app (Rep.app (Rep.ext ha) (Rep.ext hb)) (Rep.rev hy)) hy) fun q=>?_
 have h1:1≤i - 1:=Nat.one_le_iff_ne_zero.mpr q
 have h5:i - 1 + j + w≤z:=by lia
 exact Dt.ite (fun _=>Dt.gd P hy h1 (Nat.le_of_lt hA) h3 h4 h5) fun _=>Dt.gy P hy h1 (Nat.le_of_lt hA) h3 h4 h5
theorem hi_J {e:SI n cmp→KA} {d i:Nat} (ha:InN n a) (hb:InN n b) (P:Sm x y) (he:Rep e) (h1:1≤i) (h2:i≤a.size) (h3:2≤ib) (h4:ib≤b.size) (h5:i + ib + w≤z) :
  Dt (stp cTuh) (fun I:SI n cmp=>hiJ (m I a) (m I b) (none,ia,ib,m I out,t) d (e I) i) y (StP (Jh n a b x w z) (Fh n a b x w z)):=by
 have hA:=Nat.lt_of_lt_of_le (pre_lt h1) h2
 have hB:=Nat.lt_of_lt_of_le (pre_lt h3) h4
 have hz:=Rep.push he (hb _ hB)
 refine (?_:Dt _ (fun I:SI n cmp=>elem' (m I b) (ib - 1) >>= fun u=>if (ib - 1 == 1) = true then _ else elem' (m I a) (i - 1) >>= fun y=>gallop' true y (m I b) 0 (ib - 1) (ib - 1 - 1) >>= hiJ2 (m I a) (m I b) (none,ia,ib,m I out,t) d (e I) i u) _ _)
 refine Dt.elem hB (Dt.iteW (ib - 1 = 1) (fun I=>by rw [beq_iff_eq]) (fun _=>?_) fun q=>Dt.elem hA (Dt.gal (ib - 1) (fun _=>rfl) hb (ha _ hA) (by lia) (by lia) fun kb hk=>?_))
 ·dsimp only
  exact Dt.gs P (Rep.app (Rep.app (Rep.ext hb) (Rep.ext ha)) (Rep.rev hz)) hz
 refine (?_:Dt _ (fun I:SI n cmp=>if ib - 1 - kb > 0 then if (kb == 1) = true then _ else if (kb == 0) = true then _ else hiT (m I a) (m I b) (none,ia,ib,m I out,t) d i (ib - 1 - kb) ((e I).push (I.item (b.getD (ib - 1) 0))++((m I b).extract kb (ib - 1)).reverse) kb else hiT (m I a) (m I b) (none,ia,ib,m I out,t) d i (ib - 1 - kb) ((e I).push (I.item (b.getD (ib - 1) 0))) (ib - 1)) _ _)
 have hy:=fun i j=>Rep.app hz (Rep.rev (Rep.ext (i:=i) (j:=j) hb))
 refine Dt.ite (fun _=>Dt.iteW (kb = 1) (fun I=>by rw [beq_iff_eq]) (fun _=>?_) fun q1=>Dt.iteW (kb = 0) (fun I=>by rw [beq_iff_eq]) (fun _=>?_) fun q2=>hi_T ha hb P (hy _ _) h1 h2 (by lia) (by lia) (by lia)) fun _=>hi_T ha hb P hz h1 h2 (by lia) (by lia) (by lia)
 ·dsimp only
  exact Dt.gs P (Rep.app (Rep.app (Rep.ext hb) (Rep.ext ha)) (Rep.rev (hy _ _))) (hy _ _)
 ·dsimp only
  exact Dt.gs P (Rep.app (Rep.app (Rep.ext ha) (Rep.ext hb)) (Rep.rev (hy _ _))) (hy _ _)
theorem hi_G0 (ha:InN n a) (hb:InN n b) (J:JH n a b x w z out ia ib y):Dt (stp cTuh) (fun I:SI n cmp=>hiG0 (m I a) (m I b) (none,ia,ib,m I out,t)) y (StP (Jh n a b x w z) (Fh n a b x w z)):=by
 obtain ⟨P,ho,h1,h2,h3,h4,h5⟩:=J
 have hB:=Nat.lt_of_lt_of_le (pre_lt h3) h4
 have hz:=fun i j=>Rep.app (cmp:=cmp) (Rep.base ho) (Rep.rev (Rep.ext (i:=i) (j:=j) ha))
 refine (?_:Dt _ (fun I:SI n cmp=>_root_.modify _ >>= fun _=>elem' (m I b) (ib - 1) >>= fun u=>gallop' false u (m I a) 0 ia (ia - 1) >>= hiG1 (m I a) (m I b) (none,ia,ib,m I out,t)) _ _)
 refine Dt.modify ⟨y.p,y.pend,t.1⟩ (fun I=>rfl) (Dt.elem hB (Dt.gal ia (fun _=>rfl) ha (hb _ hB) (by lia) (pre_lt h1) fun ka hk=>?_))
 refine (?_:Dt _ (fun I:SI n cmp=>if ia - ka > 0 then if (ka == 0) = true then _ else hiJ (m I a) (m I b) (none,ia,ib,m I out,t) (ia - ka) (m I out++((m I a).extract ka ia).reverse) ka else hiJ (m I a) (m I b) (none,ia,ib,m I out,t) (ia - ka) (m I out) ia) _ _)
 refine Dt.ite (fun _=>Dt.iteW (ka = 0) (fun I=>by rw [beq_iff_eq]) (fun _=>?_) fun q=>hi_J ha hb P (hz _ _) (Nat.one_le_iff_ne_zero.mpr q) (Nat.le_trans hk h2) h3 h4 (by lia)) fun _=>hi_J ha hb P (Rep.base ho) h1 h2 h3 h4 h5
 dsimp only
 exact Dt.gs P (Rep.app (Rep.app (Rep.ext ha) (Rep.ext hb)) (Rep.rev (hz _ _))) (hz _ _)
end
theorem hi_outer (ha:InN n a) (hb:InN n b) (J:JH n a b x (k + 1) (a.size + b.size) out ia ib y) :
  Dt (stp cTuh) (fun I:SI n cmp=>hiO (m I a) (m I b) k (none,ia,ib,m I out,mg)) y (StP (Jh n a b x (k + 1 + 1) (a.size + b.size)) (Fh n a b x (a.size + b.size + 1) (a.size + b.size))):=by
 refine (?_:Dt _ (fun I:SI n cmp=>forIn [0:(m I a).size + (m I b).size] (none,ia,ib,m I out,0,0) (hiI (m I a) (m I b) (none,ia,ib,m I out,mg)) >>= hiK (m I a) (m I b) (none,ia,ib,m I out,mg)) _ _)
 refine hi_loop (z:=ia + ib) (fun k=>k) 1 _ ms2 (fun _=>rfl) (fun _=>rfl) ⟨J.s,J.o,J.p1,J.p2,J.q1,J.q2,Nat.le_refl _⟩ (Nat.le_trans J.p1 (Nat.le_trans J.p2 (Nat.le_add_right _ _))) (fun J=>hi_inner ha hb J) (fun {r out' ia' ib' t' y'} s h=>Dt.ret (ForInStep.done (some r,ia',ib',out',mg)) (fun I=>rfl) (.inl ⟨s,r,rfl,h⟩)) fun {out' ia' ib' t' y'} J'=>?_
 refine (?_:Dt _ (fun I:SI n cmp=>rg "list.sort.gallop" >>= fun _=>forIn [0:(m I a).size + (m I b).size] (none,ia',ib',m I out',mg + 1,t') (hiG (m I a) (m I b)) >>= hiL (m I a) (m I b)) _ _)
 refine Dt.rule (hi_loop (z:=ia + ib) (fun _=>1) 1 _ ms2 (fun _=>rfl) (fun _=>rfl) J' (Nat.le_refl _) (fun {k out ia ib t y} J=>?_) (fun {r out' ia' ib' t' y'} s h=>Dt.ret (ForInStep.done (some r,ia',ib',out',t'.1)) (fun I=>rfl) (.inl ⟨s,r,rfl,h⟩)) fun {out' ia' ib' t' y'} J'=>?_)
 ·refine (?_:Dt _ (fun I:SI n cmp=>if t.1 > 1 then hiG0 (m I a) (m I b) (none,ia,ib,m I out,t.1 - 1,t.2) else hiG0 (m I a) (m I b) (none,ia,ib,m I out,t)) _ _)
  exact Dt.ite (fun _=>hi_G0 ha hb J) fun _=>hi_G0 ha hb J
 have e:ia' + ib' + (k + 1 + 1)≤a.size + b.size:=by
  have:=J.z
  have:=J'.z
  lia
 exact Dt.modify ⟨y'.p,y'.pend,t'.1 + 1⟩ (fun I=>rfl) (Dt.ret (ForInStep.yield (none,ia',ib',out',t'.1 + 1)) (fun I=>rfl) ⟨rfl,J'.s,J'.o,J'.p1,J'.p2,J'.q1,J'.q2,e⟩)
theorem Dt.mergeHi (ha:InN n a) (hb:InN n b) (ha0:1≤a.size) (hb0:1≤b.size) :
  Dt cAr (fun I:SI n cmp=>mergeHi' (m I a) (m I b)) x (fun r y=>InN n r∧y.p = x.p∧y.pend = x.pend):=by
 have hz:=ha _ (pre_lt ha0)
 refine (?_:Dt _ (fun I:SI n cmp=>rg "list.sort.merge-hi" >>= fun _=>elem' (m I a) ((m I a).size - 1) >>= fun x0=>if ((m I a).size - 1 == 0) = true then _ else if ((m I b).size == 1) = true then _ else MonadState.get >>= fun st=>forIn [0:(m I a).size + (m I b).size] (none,(m I a).size - 1,(m I b).size,#[x0],gallopOf st) (hiO (m I a) (m I b)) >>= _) _ _)
 refine Dt.rule (Dt.eqv (fun I=>by rw [msz,msz]) ?_)
 refine (Dt.elem (pre_lt ha0) (Dt.iteW (a.size - 1 = 0) (fun I=>by rw [beq_iff_eq]) (fun _=>Dt.retA (Rep.app (Rep.app (Rep.ext ha) (Rep.ext hb)) (Rep.rev (Rep.one hz))) fun o h=>⟨h,rfl,rfl⟩) fun q1=>Dt.iteW (b.size = 1) (fun I=>by rw [beq_iff_eq]) (fun _=>Dt.retA (Rep.app (Rep.app (Rep.ext hb) (Rep.ext ha)) (Rep.rev (Rep.one hz))) fun o h=>⟨h,rfl,rfl⟩) fun q2=>Dt.get ?_))
 refine hi_loop (t:=x.mg) (fun k=>k + 1) (a.size + b.size + 1) _ (fun _=>rfl) (fun _=>rfl) (out:=#[a.getD (a.size - 1) 0]) (fun I=>by simp [m]) ⟨⟨rfl,rfl⟩,InN.one hz,by lia,Nat.sub_le _ _,by lia,Nat.le_refl _,by lia⟩ (Nat.le_refl _) (fun J=>hi_outer ha hb J) (fun {r out' ia' ib' t' y'} s h=>Dt.ret r (fun I=>rfl) ⟨h,s⟩) fun {out' ia' ib' t' y'} J=>?_
 have:=J.z
 lia
end
end Mine
end
section
open PySem PySem.W PyProof.Rows
namespace Mine
section
variable {n:Nat} {cmp:Nat→Nat→Bool} {x:Ab} {ρ σ α β:Type} {c:SI n cmp→ρ→α} {c₂:SI n cmp→σ→β} {P:ρ→Ab→Prop} {P₂:σ→Ab→Prop}
structure Ok (n:Nat) (x y:Ab):Prop where
 inn:InN n y.p
 sz:y.p.size = x.p.size
 pend:y.pend = x.pend
theorem InN.swaps (u v:Nat→Nat) (l:List Nat) {p:Array Nat} (h:InN n p):InN n (l.foldl (fun a k=>a.swapIfInBounds (u k) (v k)) p)∧(l.foldl (fun a k=>a.swapIfInBounds (u k) (v k)) p).size = p.size :=
 ⟨InN.mem.mpr fun z hz=>InN.mem.mp h z ((Array.perm_iff_toList_perm.mp (foldl_swaps_perm u v l p)).mem_iff.mp hz),foldl_swaps_size u v l p⟩
theorem Dt.iteS {q:Prop} {d:SI n cmp→Decidable q} {T B:SI n cmp→StateT SortSt Sem α} (J:Ab→Prop) (h0:J x) (k:∀ y,J y→Dt c B y P) (hT:q→(∀ y,J y→Dt c B y P)→Dt c T x P):Dt c (fun I=>@_root_.ite _ q (d I) (T I) (B I)) x P :=
 Dt.ite (fun h=>hT h k) fun _=>k x h0
theorem Dt.ltAt {i j:Nat} {f:SI n cmp→Option Bool→StateT SortSt Sem β} (hp:InN n x.p) (hi:i < x.p.size) (hj:j < x.p.size) (k:∀ b,Dt c₂ (fun I=>f I (some b)) x P₂):Dt c₂ (fun I=>ltAt' i j >>= f I) x P₂:=by
 refine Dt.bind cId (fun r y=>y = x∧∃ b,r = some b) ?_ fun r y h=>?_
 ·refine Dt.get ?_
  refine Dt.elem hi (Dt.elem hj (Dt.lt1 (hp _ hi) (hp _ hj) ⟨rfl,_,rfl⟩))
 ·obtain ⟨rfl,b,rfl⟩:=h
  exact k b
theorem Dt.swaps {m:StateT SortSt Sem Unit} {f:SI n cmp→Unit→StateT SortSt Sem β} (l:List Nat) (u v:Nat→Nat) (hm:m = _root_.modify fun s=>setArr s (l.foldl (fun a k=>a.swapIfInBounds (u k) (v k)) (arrOf s))) (hp:InN n x.p) (k:∀ y,Ok n x y→Dt c₂ (fun I=>f I ()) y P₂) :
  Dt c₂ (fun I=>m >>= f I) x P₂:=by
 subst hm
 obtain ⟨a,b⟩:=InN.swaps u v l hp
 exact Dt.modify { x with p:=l.foldl (fun a k=>a.swapIfInBounds (u k) (v k)) x.p } (fun I=>by
  show SortSt.mk' I.κ (l.foldl (fun a k=>a.swapIfInBounds (u k) (v k)) (x.p.map I.item)) x.pend x.mg none = SortSt.mk' I.κ ((l.foldl (fun a k=>a.swapIfInBounds (u k) (v k)) x.p).map I.item) x.pend x.mg none
  rw [kas_swaps_map]) (k _ ⟨a,b,rfl⟩)
theorem Dt.rev {i j:Nat} {f:SI n cmp→Unit→StateT SortSt Sem β} (hp:InN n x.p) (k:∀ y,Ok n x y→Dt c₂ (fun I=>f I ()) y P₂):Dt c₂ (fun I=>reverseSlice' i j >>= f I) x P₂ :=
 Dt.swaps _ (fun k=>i + k) (fun k=>j - 1 - k) rfl hp k
theorem Dt.move {i j:Nat} {f:SI n cmp→Unit→StateT SortSt Sem β} (hp:InN n x.p) (k:∀ y,Ok n x y→Dt c₂ (fun I=>f I ()) y P₂):Dt c₂ (fun I=>moveDown' i j >>= f I) x P₂ :=
 Dt.swaps _ (fun k=>i - k) (fun k=>i - k - 1) rfl hp k
theorem Ok.refl (hp:InN n x.p):Ok n x x:=⟨hp,rfl,rfl⟩
theorem Ok.trans {y z:Ab} (a:Ok n x y) (b:Ok n y z):Ok n x z:=⟨b.inn,b.sz.trans a.sz,b.pend.trans a.pend⟩
end
end Mine
end
section
open PySem PySem.W PyProof.Rows
namespace Mine
section
variable {n:Nat} {cmp:Nat→Nat→Bool} {x:Ab}
structure LQ {ρ α:Type} (J:ρ→Ab→Prop) (r:Option α × ρ) (y:Ab):Prop where
 z:r.1 = none
 j:J r.2 y
section
variable {ρ α σ β:Type} {c:SI n cmp→σ→β} {P:σ→Ab→Prop}
theorem lq_y {J:ρ→Ab→Prop} {F:Option α × ρ→Ab→Prop} {r:ρ} (h:J r x):Dt (stp cId) (fun _:SI n cmp=>pure (ForInStep.yield ((none,r):Option α × ρ))) x (StP (LQ J) F):=Dt.ret (ForInStep.yield (none,r)) (fun _=>rfl) ⟨rfl,h⟩
theorem lq_d {F:ρ→Ab→Prop} {J:Option α × ρ→Ab→Prop} {r:ρ} (h:F r x):Dt (stp cId) (fun _:SI n cmp=>pure (ForInStep.done ((none,r):Option α × ρ))) x (StP J (LQ F)):=Dt.ret (ForInStep.done (none,r)) (fun _=>rfl) ⟨rfl,h⟩
theorem Dt.lpq (J:Nat→ρ→Ab→Prop) (F:ρ→Ab→Prop) {A B:Nat} {r:ρ} {body:SI n cmp→Nat→Option α × ρ→SM (ForInStep (Option α × ρ))} {f:SI n cmp→Option α × ρ→SM β} (h:J A r x)
  (step:∀ {k r y},A≤k→k < B→J k r y→Dt (stp cId) (fun I=>body I k (none,r)) y (StP (LQ (J (k + 1))) (LQ F))) (fin:∀ {r y},J (max A B) r y→F r y) (k:∀ {r y},F r y→Dt c (fun I=>f I (none,r)) y P) :
  Dt c (fun I=>forIn [A:B] (none,r) (body I) >>= f I) x P:=by
 refine Dt.bind (cId (ρ:=Option α × ρ)) (LQ F) (Dt.loop cId (fun k=>LQ (J k)) (none,r) (fun _=>rfl) ⟨rfl,h⟩ (fun k r y a b h=>?_) fun r y h=>⟨h.z,fin h.j⟩) fun r y h=>?_
 ·obtain ⟨_,r⟩:=r
  obtain ⟨rfl,h⟩:=h
  exact step a b h
 ·obtain ⟨_,r⟩:=r
  obtain ⟨rfl,h⟩:=h
  exact k h
end
theorem Dt.countRun {lo nrem:Nat} (hp:InN n x.p) (h1:1≤nrem) (hb:lo + nrem≤x.p.size):Dt (cId (ρ:=Option Nat)) (fun _:SI n cmp=>countRun' lo nrem) x (fun r y=>(∃ m,r = some m∧1≤m∧m≤nrem)∧Ok n x y):=by
 refine Dt.lpq (fun k r y=>y = x∧r = k) (fun r y=>y = x∧1≤r∧r≤nrem) ⟨rfl,rfl⟩ (fun {k r y} a b h=>?_) (fun {r y} h=>⟨h.1,by have:=h.2; lia,by have:=h.2; lia⟩) fun {m y} h=>?_
 ·obtain ⟨rfl,rfl⟩:=h
  exact Dt.ltAt hp (by lia) (by lia) fun _=>Dt.ite (fun _=>lq_d ⟨rfl,a,Nat.le_of_lt b⟩) fun _=>lq_y ⟨rfl,rfl⟩
 obtain ⟨rfl,hm1,hm2⟩:=h
 refine Dt.ite (fun _=>Dt.ret (some m) (fun I=>rfl) ⟨⟨m,rfl,hm1,hm2⟩,Ok.refl hp⟩) fun q1=>?_
 simp only [beq_iff_eq] at q1
 apply Dt.iteS (Ok n y)
 case h0=>exact Ok.refl hp
 case hT =>
  intro _ hT
  exact Dt.ltAt hp (by lia) (by lia) fun _=>Dt.ite (fun _=>Dt.ret (some m) (fun I=>rfl) ⟨⟨m,rfl,hm1,hm2⟩,Ok.refl hp⟩) fun _=>Dt.rev hp fun y' hy=>hT y' hy
 intro x1 k1
 refine Dt.rule ?_
 refine Dt.lpq (fun k r z=>Ok n y z∧r.1 = k) (fun r z=>Ok n y z∧m + 1≤r.1∧r.1≤nrem) ⟨k1,rfl⟩ (fun {k r z} a b h=>?_) (fun {r z} h=>⟨h.1,by have:=h.2; lia,by have:=h.2; lia⟩) fun {r z} h=>?_
 ·obtain ⟨hz,rfl⟩:=h
  have sz:=hz.sz
  refine Dt.ltAt hz.inn (by lia) (by lia) fun _=>Dt.ite (fun _=>?_) fun _=>Dt.ltAt hz.inn (by lia) (by lia) fun _=>Dt.ite (fun _=>lq_d ⟨hz,a,Nat.le_of_lt b⟩) fun _=>lq_y ⟨hz,rfl⟩
  apply Dt.iteS (Ok n y)
  case h0=>exact hz
  case hT =>
   intro _ hT
   exact Dt.rev hz.inn fun y' hy=>hT y' (hz.trans hy)
  exact fun x2 k2=>lq_y ⟨k2,rfl⟩
 obtain ⟨hz,h3,h4⟩:=h
 apply Dt.iteS (Ok n y)
 case h0=>exact hz
 case hT =>
  intro _ hT
  exact Dt.rev hz.inn fun y' hy=>hT y' (hz.trans hy)
 intro x2 k2
 refine Dt.rev k2.inn fun x3 k3=>?_
 refine Dt.lpq (fun k r z=>Ok n y z∧r = k) (fun r z=>Ok n y z∧1≤r∧r≤nrem) ⟨k2.trans k3,rfl⟩ (fun {k r z} a b h=>?_) (fun {r z} h=>⟨h.1,by have:=h.2; lia,by have:=h.2; lia⟩) fun {r z} h=>Dt.ret (some r) (fun I=>rfl) ⟨⟨r,rfl,h.2⟩,h.1⟩
 obtain ⟨hz,rfl⟩:=h
 have sz:=hz.sz
 exact Dt.ltAt hz.inn (by lia) (by lia) fun _=>Dt.ite (fun _=>lq_d ⟨hz,by lia,Nat.le_of_lt b⟩) fun _=>lq_y ⟨hz,rfl⟩
theorem Dt.binarySort {lo m ok:Nat} (hp:InN n x.p) (hb:lo + m≤x.p.size):Dt (cId (ρ:=Bool)) (fun _:SI n cmp=>binarySort' lo m ok) x (fun r y=>r = true∧Ok n x y):=by
 refine Dt.lpq (fun _ _ y=>Ok n x y) (fun _ y=>Ok n x y) (Ok.refl hp) (fun {k r y} a b hy=>?_) id fun {r y} hy=>Dt.ret true (fun I=>rfl) ⟨rfl,hy⟩
 have sz:=hy.sz
 refine Dt.lp (x:=y) (fun _ v=>v≤k) (fun _ _=>True) (Nat.le_refl _) (fun {k' u v} h=>?_) (fun _=>trivial) fun {u v} _=>Dt.move hy.inn fun y2 h2=>lq_y (hy.trans h2)
 refine Dt.ite (fun _=>ls_d trivial) fun q=>?_
 replace q:¬ u ≥ v:=q
 exact Dt.ltAt hy.inn (by lia) (by lia) fun _=>Dt.ite (fun _=>ls_y (Nat.le_trans (by lia) h)) fun _=>ls_y h
end
end Mine
end
section
open PySem PySem.W PyProof.Rows
namespace Mine
section
variable {n:Nat} {cmp:Nat→Nat→Bool} {x:Ab} {ρ σ α β:Type} {c:SI n cmp→ρ→α} {c₂:SI n cmp→σ→β} {P:ρ→Ab→Prop} {P₂:σ→Ab→Prop}
theorem kasC_set {M:Model} {A:Around} {E:Value→Shared→Prop} {σ:Type} {st st':σ} {Q:PUnit→σ→Shared→Prop} {s:Shared} (h:Q ⟨⟩ st' s):kasC M A E (set st':StateT σ Sem PUnit) Q st s:=by
 unfold kasC; rw [StateT.run_set]; exact wpAny_pure h
theorem Dt.set {g:SI n cmp→SortSt} {f:SI n cmp→PUnit→StateT SortSt Sem β} (y:Ab) (h:∀ I,g I = stI I y) (k:Dt c₂ (fun I=>f I ⟨⟩) y P₂):Dt c₂ (fun I=>(MonadStateOf.set (g I):StateT SortSt Sem PUnit) >>= f I) x P₂:=by
 obtain ⟨r₂,y₂,p₂,k⟩:=k
 exact ⟨r₂,y₂,p₂,fun I Q q=>kasC_bind (kasC_set (by rw [h I]; exact k I Q q))⟩
noncomputable def putN (sa:Nat) {γ:Type} (l:List (γ × Nat)) (a:Array γ):Array γ:=l.foldl (fun a p=>a.setIfInBounds (sa + p.2) p.1) a
theorem putN_map {sa:Nat} (f:Nat→Keyed):∀ (l:List Nat) (k:Nat) (a:Array Nat),putN sa ((l.map f).zipIdx k) (a.map f) = (putN sa (l.zipIdx k) a).map f
 | [],_,_=>rfl
 | z::l,k,a=>by
  rw [List.map_cons,List.zipIdx_cons,List.zipIdx_cons]
  show putN sa ((l.map f).zipIdx (k + 1)) ((a.map f).setIfInBounds (sa + k) (f z)) = (putN sa (l.zipIdx (k + 1)) (a.setIfInBounds (sa + k) z)).map f
  rw [← Array.map_setIfInBounds,putN_map f l (k + 1)]
theorem putN_in {sa:Nat}:∀ (l:List Nat) (k:Nat) (a:Array Nat),(∀ z∈l,z < n)→InN n a→InN n (putN sa (l.zipIdx k) a)∧(putN sa (l.zipIdx k) a).size = a.size
 | [],_,_,_,h=>⟨h,rfl⟩
 | z::l,k,a,hl,h=>by
  have ih:=putN_in (sa:=sa) l (k + 1) (a.setIfInBounds (sa + k) z) (fun y hy=>hl y (.tail _ hy)) (InN.mem.mpr fun y hy=>by
   rw [Array.toList_setIfInBounds] at hy
   rcases List.mem_or_eq_of_mem_set hy with hy | rfl
   ·exact InN.mem.mp h y hy
   ·exact hl _ (.head _))
  exact ⟨ih.1,ih.2.trans (by simp)⟩
theorem put_tail {p':Array Nat} {pend:Array (Nat × Nat × Nat)} {sa:Nat} {r:Array Nat} {y:Ab} (hr:InN n r) (hp:InN n p') (hq:pend.size = 1) (e1:y.p = p') (e2:y.pend = pend) :
  Dt (cId (ρ:=Bool)) (fun I:SI n cmp=>_root_.modify (fun s=>SortSt.mk' (kindOf s) (((r.map I.item).toList.zipIdx).foldl (fun a p=>a.setIfInBounds (sa + p.2) p.1) (arrOf s)) (pendingOf s) (gallopOf s) (failedOf s)) >>= fun _=>get >>= fun s=>pure (failedOf s).isNone) y (fun b z=>b = true∧InN n z.p∧z.p.size = p'.size∧z.pend.size = 1):=by
 have hi:=putN_in (n:=n) (sa:=sa) r.toList 0 p' (InN.mem.mp hr) hp
 refine Dt.modify ⟨putN sa (r.toList.zipIdx) p',pend,y.mg⟩ (fun I=>?_) (Dt.get (Dt.ret true (fun I=>rfl) ⟨rfl,hi.1,hi.2,hq⟩))
 have e:=putN_map (sa:=sa) I.item r.toList 0 p'
 show SortSt.mk' I.κ (putN sa ((r.map I.item).toList.zipIdx) (y.p.map I.item)) y.pend y.mg none = SortSt.mk' I.κ ((putN sa (r.toList.zipIdx) p').map I.item) pend y.mg none
 rw [Array.toList_map,e1,e2,e]
theorem Dt.mergeAt {n1 n2 pw pw2:Nat} (hp:InN n x.p) (hpend:x.pend = #[(0,n1,pw),(n1,n2,pw2)]) (h1:1≤n1) (h2:1≤n2) (hs:n1 + n2≤x.p.size) :
  Dt (cId (ρ:=Bool)) (fun _:SI n cmp=>mergeAt' 0) x (fun r y=>r = true∧InN n y.p∧y.p.size = x.p.size∧y.pend.size = 1):=by
 obtain ⟨p,pend,mg⟩:=x
 dsimp only at hp hpend hs
 subst hpend
 refine Dt.get ?_
 have hq:(((#[(0,n1,pw),(n1,n2,pw2)]:Array (Nat × Nat × Nat)).setIfInBounds 0 (0,n1 + n2,pw)).eraseIdxIfInBounds (0 + 1)).size = 1:=by simp
 refine Dt.set ⟨p,((#[(0,n1,pw),(n1,n2,pw2)]:Array (Nat × Nat × Nat)).setIfInBounds 0 (0,n1 + n2,pw)).eraseIdxIfInBounds (0 + 1),mg⟩ (fun I=>rfl) ?_
 generalize ((#[(0,n1,pw),(n1,n2,pw2)]:Array (Nat × Nat × Nat)).setIfInBounds 0 (0,n1 + n2,pw)).eraseIdxIfInBounds (0 + 1) = pe at hq ⊢
 have l1:n1 < p.size:=Nat.lt_of_lt_of_le (Nat.lt_add_of_pos_right h2) hs
 refine Dt.elem l1 (Dt.gal n1 (fun _=>rfl) hp (hp _ l1) (by lia) h1 fun k hk=>Dt.ite (fun _=>Dt.ret true (fun I=>rfl) ⟨rfl,hp,rfl,hq⟩) fun q1=>?_)
 have l2:0 + k + (n1 - k) - 1 < p.size:=by lia
 refine Dt.elem l2 (Dt.gal n2 (fun _=>rfl) hp (hp _ l2) (by lia) (Nat.sub_lt h2 Nat.one_pos) fun k2 hk2=>Dt.ite (fun _=>Dt.ret true (fun I=>rfl) ⟨rfl,hp,rfl,hq⟩) fun q2=>?_)
 simp only [beq_iff_eq] at q1 q2
 simp only [← Array.map_extract]
 have z1:1≤(p.extract (0 + k) n1).size:=by rw [Array.size_extract]; lia
 have z2:1≤(p.extract n1 (n1 + k2)).size:=by rw [Array.size_extract]; lia
 exact Dt.ite (fun _=>Dt.bind cAr _ (Dt.mergeLo hp.ext hp.ext z1 z2) fun r y h=>put_tail h.1 hp hq h.2.1 h.2.2) fun _=>Dt.bind cAr _ (Dt.mergeHi hp.ext hp.ext z1 z2) fun r y h=>put_tail h.1 hp hq h.2.1 h.2.2
end
end Mine
end
section
open PySem PySem.W PyProof.Rows
namespace Mine
theorem minrun_facts:∀ s:Nat,s < 101→2≤s→minRun' s s 0≤s∧s≤2 * minRun' s s 0∧1≤minRun' s s 0:=by decide +kernel
noncomputable abbrev R2:=Option PUnit × Nat
noncomputable def srG:SortSt→SM PUnit:=by
 apply got (p:=Ph sortRuns')
 show Ph (get >>= ?f); exact trivial
noncomputable def srA:Nat→Nat→R2→SM (ForInStep R2):=by
 apply got (p:=∀ st,Ph (srG st))
 intro st
 show Ph (forIn [0:(arrOf st).size] (none,0) _ >>= _)
 generalize (arrOf st).size = S
 show Ph (forIn [0:S] (none,0) (?f S) >>= _); exact trivial
noncomputable def srE:Nat→R2→SM PUnit:=by
 apply got (p:=∀ st,Ph (srG st))
 intro st
 show Ph (forIn [0:(arrOf st).size] (none,0) _ >>= _)
 generalize (arrOf st).size = S
 show Ph (forIn [0:S] (none,0) _ >>= ?f S); exact trivial
noncomputable def srC:Nat→R2→Option Nat→SM (ForInStep R2):=by
 apply got (p:=∀ S k s,Ph (srA S k s))
 intro S k s
 show Ph (if s.2 ≥ S then _ else countRun' s.2 (S - s.2) >>= ?f S s); exact trivial
noncomputable def srT:Nat→R2→Nat→SM (ForInStep R2):=by
 apply got (p:=∀ S s m,Ph (srC S s (some m)))
 intro S s m
 show Ph (if m < minRun' S S 0 then _ else ?f S s m); exact trivial
section
variable {n S k lo c:Nat} {cmp:Nat→Nat→Bool} {x y:Ab}
noncomputable abbrev Pen:=Array (Nat × Nat × Nat)
noncomputable def SrP (S:Nat) (q:Pen):Prop:=∃ n1 n2 pw,1≤n1∧1≤n2∧n1 + n2 = S∧q = #[(0,n1,pw),(n1,n2,0)]
noncomputable def PenOK (S lo:Nat) (q:Pen):Prop:=(lo = 0∧q = #[])∨(minRun' S S 0≤lo∧lo≤S∧q = #[(0,lo,0)])∨(lo = S∧SrP S q)
structure SrJ (n S k:Nat) (r:R2) (y:Ab):Prop where
 z:r.1 = none
 i:InN n y.p
 s:y.p.size = S
 l:k≤r.2
 q:PenOK S r.2 y.pend
structure SrF (n S:Nat) {α:Type} (r:Option PUnit × α) (y:Ab):Prop where
 z:r.1 = none
 i:InN n y.p
 s:y.p.size = S
 q:y.pend.size = 1∨SrP S y.pend
theorem sr_push (F:R2→Ab→Prop) (hi:InN n y.p) (hs:y.p.size = S) (hk:k≤lo + c) (hq:PenOK S (lo + c) (y.pend.push (lo,c,0))) :
  Dt (stp cId) (fun _:SI n cmp=>_root_.modify (fun s=>setPending s ((pendingOf s).push (lo,c,0))) >>= fun _=>pure (ForInStep.yield ((none,lo + c):R2))) y (StP (SrJ n S k) F) :=
 Dt.modify ⟨y.p,y.pend.push (lo,c,0),y.mg⟩ (fun I=>rfl) (Dt.ret (ForInStep.yield (none,lo + c)) (fun I=>rfl) (stp_y ⟨rfl,hi,hs,hk,hq⟩))
theorem sr_tail {F:R2→Ab→Prop} {p:Array Nat} {q:Pen} {g:Nat} (hi:InN n p) (hs:p.size = S) (hc:1≤c) (hl:lo + c≤S) (hk:k≤lo) (h:(lo = 0∧q = #[]∧minRun' S S 0≤c)∨(q = #[(0,lo,0)]∧1≤lo∧lo + c = S)) :
  Dt (stp cId) (fun _:SI n cmp=>srT S (none,lo) c) ⟨p,q,g⟩ (StP (SrJ n S (k + 1)) F):=by
 refine Dt.get ?_
 rcases h with ⟨rfl,rfl,h⟩ | ⟨rfl,h,e⟩
 ·exact sr_push (y:=⟨p,#[],g⟩) F hi hs (by lia) (.inr (.inl ⟨by lia,hl,by rw [Nat.zero_add]; rfl⟩))
 ·refine Dt.bind (cId (ρ:=Option PUnit × PUnit)) (fun r z=>r.1 = none∧z = ⟨p,#[(0,lo,0)],g⟩) (Dt.loop cId (fun _ r z=>r.1 = none∧z = ⟨p,#[(0,lo,0)],g⟩) (none,⟨⟩) (fun I=>rfl) ⟨rfl,rfl⟩ (fun k r z _ _ h=>?_) fun r z h=>h) fun r z h=>?_
  ·obtain ⟨_,_⟩:=r
   obtain ⟨rfl,rfl⟩:=h
   exact Dt.get (Dt.ret (ForInStep.done (none,⟨⟩)) (fun I=>rfl) (stp_d ⟨rfl,rfl⟩))
  ·obtain ⟨_,_⟩:=r
   obtain ⟨rfl,rfl⟩:=h
   exact Dt.modify ⟨p,#[(0,lo,power' S (2 * 0 + lo) (2 * 0 + lo + lo + c) S)],g⟩ (fun I=>rfl) (sr_push F hi hs (by lia) (.inr (.inr ⟨e,lo,c,_,h,hc,e,rfl⟩)))
theorem sr_step {r:R2} (h2:2≤S) (h1:S≤100) (J:SrJ n S k r y):Dt (stp cId) (fun _:SI n cmp=>srA S k r) y (StP (SrJ n S (k + 1)) (SrF n S)):=by
 obtain ⟨m1,m2,m3⟩:=minrun_facts S (by lia) h2
 obtain ⟨_,lo⟩:=r
 obtain ⟨p,q,g⟩:=y
 obtain ⟨rfl,hi,hs,hk,hq⟩:=J
 dsimp only at hi hs hk hq
 refine (?_:Dt _ (fun _:SI n cmp=>if lo ≥ S then _ else countRun' lo (S - lo) >>= srC S (none,lo)) _ _)
 refine Dt.ite (fun z=>Dt.ret (ForInStep.done (none,lo)) (fun I=>rfl) (stp_d ⟨rfl,hi,hs,?_⟩)) fun z=>?_
 ·rcases hq with ⟨rfl,_⟩ | ⟨_,_,rfl⟩ | ⟨_,h⟩
  ·lia
  ·exact .inl rfl
  ·exact .inr h
 refine Dt.bind (cId (ρ:=Option Nat)) _ (Dt.countRun (lo:=lo) (nrem:=S - lo) hi (by lia) (by show lo + (S - lo)≤p.size; lia)) fun r y h=>?_
 obtain ⟨⟨m,rfl,c1,c2⟩,⟨i1,s1,e1⟩⟩:=h
 have s1:y.p.size = p.size:=s1
 have t:∀ {y:Ab} {c:Nat},InN n y.p→y.p.size = p.size→y.pend = q→1≤c→c≤S - lo→min (S - lo) (minRun' S S 0)≤c→Dt (stp cId) (fun _:SI n cmp=>srT S (none,lo) c) y (StP (SrJ n S (k + 1)) (SrF n S)):=fun {y c} a b e c1 c2 c3=>by
  obtain ⟨p',q',g'⟩:=y
  obtain rfl:q' = q:=e
  refine sr_tail a (b.trans hs) c1 (by lia) hk ?_
  rcases hq with ⟨e,rfl⟩ | ⟨a,_,rfl⟩ | ⟨a,_⟩
  ·exact .inl ⟨e,rfl,by lia⟩
  ·exact .inr ⟨rfl,by lia,by lia⟩
  ·lia
 refine (?_:Dt _ (fun _:SI n cmp=>if m < minRun' S S 0 then _ else srT S (none,lo) m) _ _)
 refine Dt.ite (fun z=>Dt.rule ?_) fun z=>t i1 s1 e1 c1 c2 (by lia)
 refine Dt.bind (cId (ρ:=Bool)) _ (Dt.binarySort (lo:=lo) (m:=min (S - lo) (minRun' S S 0)) (ok:=m) i1 (by lia)) fun r z h=>?_
 obtain ⟨rfl,⟨i2,s2,e2⟩⟩:=h
 exact t (c:=min (S - lo) (minRun' S S 0)) i2 (s2.trans s1) (e2.trans e1) (by lia) (Nat.min_le_left _ _) (Nat.le_refl _)
theorem Dt.sortRuns (hp:InN n x.p) (hpe:x.pend = #[]) (h2:2≤x.p.size) (h100:x.p.size≤100):Dt (cId (ρ:=PUnit)) (fun _:SI n cmp=>sortRuns') x (fun _ y=>InN n y.p∧y.p.size = x.p.size):=by
 refine (?_:Dt _ (fun _:SI n cmp=>MonadState.get >>= fun st=>forIn [0:(arrOf st).size] (none,0) (srA (arrOf st).size) >>= srE (arrOf st).size) _ _)
 refine Dt.get ?_
 refine (?_:Dt _ (fun I:SI n cmp=>forIn [0:(x.p.map I.item).size] (none,0) (srA (x.p.map I.item).size) >>= srE (x.p.map I.item).size) _ _)
 simp only [Array.size_map]
 generalize hS:x.p.size = S at *
 refine Dt.bind (cId (ρ:=R2)) (SrF n S)
  (Dt.loop cId (SrJ n S) (none,0) (fun I=>rfl) ⟨rfl,hp,hS,Nat.le_refl _,.inl ⟨rfl,hpe⟩⟩ (fun k r y _ _ h=>sr_step h2 h100 h) fun r y h=>?_) fun r y h=>?_
 ·obtain ⟨a,b,c,l,q⟩:=h
  refine ⟨a,b,c,?_⟩
  rcases q with ⟨g,_⟩ | ⟨_,_,g⟩ | ⟨_,g⟩
  ·lia
  ·rw [g]; exact .inl rfl
  ·exact .inr g
 obtain ⟨_,lo⟩:=r
 obtain ⟨rfl,hi,hs,hq⟩:=h
 refine Dt.bind (cId (ρ:=Option PUnit × PUnit)) (fun r y=>r.1 = none∧InN n y.p∧y.p.size = S)
  (Dt.loop cId (fun _=>SrF n S) (none,⟨⟩) (fun I=>rfl) ⟨rfl,hi,hs,hq⟩ (fun k r y _ _ h=>?_) fun r y h=>⟨h.z,h.i,h.s⟩) fun r y h=>?_
 ·obtain ⟨_,_⟩:=r
  obtain ⟨p,q,g⟩:=y
  obtain ⟨rfl,hi,hs,hq⟩:=h
  refine Dt.get (Dt.iteW (q.size≤1) (fun I=>Iff.rfl) (fun z=>Dt.ret (ForInStep.done (none,⟨⟩)) (fun I=>rfl) (stp_d ⟨rfl,hi,hs⟩)) fun z=>?_)
  rcases hq with hq | ⟨n1,n2,pw,g1,g2,g3,hq⟩
  ·exact absurd (Nat.le_of_eq hq) z
  obtain rfl:q = _:=hq
  refine Dt.bind (m:=fun _=>mergeAt' 0) (cId (ρ:=Bool)) _ (Dt.mergeAt hi rfl g1 g2 (by show n1 + n2≤p.size; exact Nat.le_of_eq (g3.trans hs.symm))) fun r y h=>?_
  obtain ⟨rfl,hi',hs',hq⟩:=h
  exact Dt.ret (ForInStep.yield (none,⟨⟩)) (fun I=>rfl) (stp_y ⟨rfl,hi',hs'.trans hs,.inl hq⟩)
 ·obtain ⟨_,_⟩:=r
  obtain ⟨rfl,h⟩:=h
  exact Dt.ret ⟨⟩ (fun I=>rfl) h
end
end Mine
end
section
open PySem PySem.W PyProof.Rows
namespace Mine
section
noncomputable def TV (h:Heap):List Value→List (Int × Int)→Prop
 | [],[]=>True
 | v::vs,p::ps=>(∃ ad t1 t2 m,v = .ref ad∧h.get? ad = some (tupOf #[.int p.1 t1,.int p.2 t2] m))∧TV h vs ps
 | _,_=>False
theorem TV.len {h:Heap}:∀ {vs:List Value} {ps:List (Int × Int)},TV h vs ps→vs.length = ps.length
 | [],[],_=>rfl
 | [],_::_,t=>t.elim
 | _::_,[],t=>t.elim
 | v::vs,p::ps,t=>by rw [List.length_cons,List.length_cons,TV.len t.2]
theorem TV.mono {h h':Heap} (k:∀ b o,h.get? b = some o→h'.get? b = some o):∀ {vs:List Value} {ps:List (Int × Int)},TV h vs ps→TV h' vs ps
 | [],[],_=>trivial
 | [],_::_,t=>t.elim
 | _::_,[],t=>t.elim
 | v::vs,p::ps,t=>by
  obtain ⟨⟨ad,t1,t2,m,e,g⟩,t⟩:=t
  exact ⟨⟨ad,t1,t2,m,e,k _ _ g⟩,TV.mono k t⟩
theorem TV.get {h:Heap}:∀ {vs:List Value} {ps:List (Int × Int)} {i:Nat},TV h vs ps→i < ps.length→∃ ad t1 t2 m,vs.getD i .none = .ref ad∧h.get? ad = some (tupOf #[.int (ps.getD i (0,0)).1 t1,.int (ps.getD i (0,0)).2 t2] m)
 | [],[],_,_,hi=>by simp at hi
 | [],_::_,_,t,_=>t.elim
 | _::_,[],_,t,_=>t.elim
 | v::vs,p::ps,0,t,_=>t.1
 | v::vs,p::ps,i + 1,t,hi=>by
  have:=TV.get (i:=i) t.2 (by simpa using hi)
  simpa using this
noncomputable def intVs (ps:List (Int × Int)) (ts:List Tok):List Value:=(ps.zip ts).map fun q=>.int q.1.1 q.2
theorem TV.kat {h:Heap}:∀ {vs:List Value} {ps:List (Int × Int)},TV h vs ps→∃ fs,KatTups h vs fs∧fs.length = ps.length∧∀ v∈fs,∃ i t,v = .int i t
 | [],[],_=>⟨[],.nil,rfl,fun v h=>by simp at h⟩
 | [],_::_,t=>t.elim
 | _::_,[],t=>t.elim
 | v::vs,p::ps,t=>by
  obtain ⟨⟨ad,t1,t2,m,rfl,g⟩,t⟩:=t
  obtain ⟨fs,k,l,a⟩:=TV.kat t
  refine ⟨.int p.1 t1::fs,KatTups.cons g rfl rfl rfl k,by rw [List.length_cons,List.length_cons,l],fun v hv=>?_⟩
  rcases List.mem_cons.mp hv with rfl | hv
  ·exact ⟨_,_,rfl⟩
  ·exact a v hv
theorem TV.of {w:Wd} {h:Heap} (tw:∀ a o,w.T a = some o→h.get? a = some o) {us:List V} {ws:List Value} {ps:List (Int × Int)} (r:VRs w us ws):intPairs us = some ps→TV h ws ps :=
 r.ind (P:=fun us ws=>∀ {ps},intPairs us = some ps→TV h ws ps) (fun {ps} e=>by obtain rfl:=Option.some.inj e; trivial) fun {v x us ws} a _ ih {ps} e=>by
  obtain ⟨p,q,ps',rfl,hp',rfl⟩:=pair_inv e
  obtain ⟨xs,ad,m,rfl,hT,hxs⟩:=a.tupI
  obtain ⟨x1,x2,rfl,h1,h2⟩:=hxs.two
  obtain ⟨t1,rfl⟩:=h1.intI
  obtain ⟨t2,rfl⟩:=h2.intI
  exact ⟨⟨ad,t1,t2,m,rfl,tw _ _ hT⟩,ih hp'⟩
noncomputable def cmpP (ps:List (Int × Int)) (i j:Nat):Bool:=decide ((ps.getD i (0,0)).1 < (ps.getD j (0,0)).1)
theorem lt_pair {prog:Program} {w:World} {A:Around} {E:Value→Shared→Prop} {s:Shared} {vs:List Value} {ps:List (Int × Int)} {i j:Nat} {Q:Bool→Shared→Prop} (t:TV s.heap vs ps) (hi:i < ps.length) (hj:j < ps.length) (hnd:(ps.map (·.1)).Nodup) (h:Q (cmpP ps i j) s) :
  wpAny (model prog w) A (keyLt' (tuples' true) (vs.getD i .none) (vs.getD j .none)) Q E s:=by
 obtain ⟨a,t1,t2,m,e1,g1⟩:=t.get hi
 obtain ⟨b,u1,u2,k,e2,g2⟩:=t.get hj
 rw [e1,e2]
 have same:(ps.getD i (0,0)).1 = (ps.getD j (0,0)).1→i = j:=fun e=>by
  rw [List.getD_eq_getElem?_getD,List.getD_eq_getElem?_getD,List.getElem?_eq_getElem hi,List.getElem?_eq_getElem hj] at e
  have e:ps[i].1 = ps[j].1:=e
  have pw:=List.pairwise_iff_getElem.mp hnd
  rcases Nat.lt_trichotomy i j with h | h | h
  ·exact absurd (by rw [List.getElem_map,List.getElem_map]; exact e) (pw i j (by simpa using hi) (by simpa using hj) h)
  ·exact h
  ·exact absurd (by rw [List.getElem_map,List.getElem_map]; exact e.symm) (pw j i (by simpa using hj) (by simpa using hi) h)
 refine kat_lt g1 rfl g2 rfl (kat_cons (wpAny_eqBool_int (kat_go (fun e=>kat_yes ?_) fun e=>kat_no ?_)))
 ·have e:=same (by simpa using e)
  subst e
  refine kat_cons (wpAny_eqBool_int (kat_go (fun _=>kat_yes (kat_nil ?_)) fun e=>?_))
  ·have hc:cmpP ps i i = false:=by simp [cmpP]
   rw [hc] at h
   exact h
  ·simp at e
 ·exact oneLt_int h
theorem sort_ex (ps:List (Int × Int)) (h2:2≤ps.length) (h100:ps.length≤100) :
  Dt (n:=ps.length) (cmp:=cmpP ps) (cId (ρ:=PUnit)) (fun _=>sortRuns') ⟨List.toArray (List.range ps.length),#[],7⟩ (fun _ y=>InN ps.length y.p∧y.p.size = (List.toArray (List.range ps.length)).size) :=
 Dt.sortRuns (InN.mem.mpr fun z hz=>by simpa using hz) rfl (by simpa using h2) (by simpa using h100)
noncomputable def srtIx (ps:List (Int × Int)):Array Nat:=open Classical in if h:2≤ps.length∧ps.length≤100 then (Classical.choose (Classical.choose_spec (sort_ex ps h.1 h.2))).p else List.toArray (List.range ps.length)
theorem srtIx_in (ps:List (Int × Int)):InN ps.length (srtIx ps)∧(srtIx ps).size = ps.length:=by
 unfold srtIx
 split
 ·rename_i h
  have:=(Classical.choose_spec (Classical.choose_spec (sort_ex ps h.1 h.2))).1
  exact ⟨this.1,by simpa using this.2⟩
 ·exact ⟨InN.mem.mpr fun z hz=>by simpa using hz,by simp⟩
theorem srtIx_run {ps:List (Int × Int)} (h2:2≤ps.length) (h100:ps.length≤100) (I:SI ps.length (cmpP ps)) (Q:Unit→SortSt→Shared→Prop) (q:∀ pe mg,Q ⟨⟩ (SortSt.mk' I.κ ((srtIx ps).map I.item) pe mg none) I.s) :
  kasC (model I.prog I.w) I.A I.E sortRuns' Q (SortSt.mk' I.κ ((List.toArray (List.range ps.length)).map I.item) #[] 7 none) I.s:=by
 have h:2≤ps.length∧ps.length≤100:=⟨h2,h100⟩
 have e:srtIx ps = (Classical.choose (Classical.choose_spec (sort_ex ps h.1 h.2))).p:=by unfold srtIx; rw [dif_pos h]
 have:=(Classical.choose_spec (Classical.choose_spec (sort_ex ps h.1 h.2))).2 I Q
 refine this ?_
 rw [e] at q
 exact q _ _
end
end Mine
end
section
open PySem PySem.W PyProof.Rows
namespace Mine
section
variable {prog:Program} {w:World} {A:Around} {E:Value→Shared→Prop} {s:Shared}
noncomputable def outV (ps:List (Int × Int)) (vs:List Value):Array Value:=List.toArray ((srtIx ps).toList.map fun i=>vs.getD i .none)
theorem outV_size {ps:List (Int × Int)} {vs:List Value}:(outV ps vs).size = ps.length:=by
 rw [outV,List.size_toArray,List.length_map,Array.length_toList,(srtIx_in ps).2]
theorem list_sort_pairs {a:Addr} {vs:List Value} {ps:List (Int × Int)} {n:Nat} {P:PySem.Fin→Shared→Prop} {h₀:Heap} (ho:s.heap.get? a = some (seqObj "list" vs.toArray n)) (t:TV h₀ vs ps) (k₀:∀ b o,h₀.get? b = some o→b≠a∧s.heap.get? b = some o)
  (hnd:(ps.map (·.1)).Nodup) (h100:ps.length≤100) (h:P (.done (.ret .none)) { s with heap:=sortedHeap s.heap a vs (outV ps vs) }):wpAny (model prog w) A (Builtin.«list.sort» ⟨[.ref a],[]⟩) P E s:=by
 have hl:=t.len
 rw [list_sort_plain]
 have ha:a < s.heap.objs.size:=Heap.lt_size ho
 refine wpAny_bind (listItems_at ho rfl ?_)
 refine wpAny_bind (listUpdate_at ho rfl ?_ (by rw [List.size_toArray,sizeLine_eq]; lia) (Nat.zero_le _))
 obtain ⟨e1,ho1⟩:∃ e1,(s.heap.update a (Obj.mapSeq fun _=>#[])).get? a = some (seqObj "list" #[] e1):=⟨_,get?_update_seq ho (fun _=>#[])⟩
 refine wpAny_bind (seqEpoch_at ho1 rfl ?_)
 refine wpAny_bind (wpAny_newTuple ?_ (by show vs.length≤_; rw [sizeLine_eq]; lia))
 refine wpAny_bind (wpAny_newList ?_ (Nat.zero_le _))
 refine wpAny_holding ?_
 have ho6:(((s.heap.update a (Obj.mapSeq fun _=>#[])).push (seqObj "tuple" vs.toArray 0)).push (seqObj "list" #[] 0)).get? a = some (seqObj "list" #[] e1):=Heap.get?_push_of_some _ (Heap.get?_push_of_some _ ho1)
 have k6:∀ b o,h₀.get? b = some o→(((s.heap.update a (Obj.mapSeq fun _=>#[])).push (seqObj "tuple" vs.toArray 0)).push (seqObj "list" #[] 0)).get? b = some o:=fun b o e=>by
  obtain ⟨hb,e⟩:=k₀ b o e
  exact Heap.get?_push_of_some _ (Heap.get?_push_of_some _ (((Heap.SameBut.update s.heap a (Obj.mapSeq fun _=>#[])).2 b hb).trans e))
 show wpAny (model prog w) A _ P E { s with heap:=((s.heap.update a (Obj.mapSeq fun _=>#[])).push (seqObj "tuple" vs.toArray 0)).push (seqObj "list" #[] 0) }
 have hu:sortedHeap s.heap a vs (outV ps vs) = (((s.heap.update a (Obj.mapSeq fun _=>#[])).push (seqObj "tuple" vs.toArray 0)).push (seqObj "list" #[] 0)).update a (Obj.mapSeq fun _=>outV ps vs):=rfl
 rw [hu] at h
 generalize ((s.heap.update a (Obj.mapSeq fun _=>#[])).push (seqObj "tuple" vs.toArray 0)).push (seqObj "list" #[] 0) = h6 at ho6 k6 h ⊢
 dsimp only
 have hsz:vs.toArray.size = vs.length:=by simp
 have t6:=t.mono k6
 by_cases h2:vs.toArray.size < 2
 ·rw [if_pos h2,if_pos h2]
  refine wpAny_bind (wpAny_pure ?_)
  rw [StateT.run_pure]
  refine wpAny_bind (wpAny_pure ?_)
  dsimp only
  have eo:(arrOf (SortSt.mk' general' (vs.toArray.zip vs.toArray) #[] 7 none)).map (·.2) = outV ps vs:=by
   have e:srtIx ps = List.toArray (List.range ps.length):=by unfold srtIx; rw [dif_neg (by lia)]
   rw [outV,e]
   show (vs.toArray.zip vs.toArray).map (·.2) = _
   apply Array.toList_inj.mp
   rw [← hl]
   apply List.ext_getElem
   ·simp
   ·intro i h1 h2
    simp
    simp at h1
    rw [List.getElem?_eq_getElem h1]; rfl
  refine wpAny_bind (seqEpoch_at (s:={ s with heap:=h6 }) ho6 rfl ?_)
  rw [eo]
  refine wpAny_bind (listUpdate_at (s:={ s with heap:=h6 }) ho6 rfl ?_ (hsz2:=by rw [outV_size,sizeLine_eq]; lia))
  simp only [bne_self_eq_false,Bool.false_eq_true,if_false]
  exact wpAny_pure h
 ·rw [if_neg h2,if_neg h2]
  obtain ⟨fs,kt,kl,ka⟩:=t6.kat
  refine wpAny_bind (kat_kind (s:={ s with heap:=h6 }) (T:=.type "int") kt (by lia) (fun v hv=>?_) (by decide) ?_)
  ·obtain ⟨i,u,rfl⟩:=ka v hv
   exact Looks.now
  let I:SI ps.length (cmpP ps):=⟨prog,w,A,E,{ s with heap:=h6 },tuples' true,fun i=>(vs.getD i .none,vs.getD i .none),fun i j Q E hi hj q=>lt_pair (s:={ s with heap:=h6 }) t6 hi hj hnd q⟩
  have est:SortSt.mk' (tuples' true) (vs.toArray.zip vs.toArray) #[] 7 none = SortSt.mk' (tuples' true) ((List.toArray (List.range ps.length)).map I.item) #[] 7 none:=by
   have e:=kas_range (pairsOf vs)
   rw [pairsOf_size,hl] at e
   have ei:kas_item (pairsOf vs) = I.item:=funext fun i=>kas_item_eq vs i
   rw [ei] at e
   rw [e]; rfl
  have run:=srtIx_run (by lia) h100 I (fun _ st' s'=>(arrOf st').map (·.2) = outV ps vs∧failedOf st' = none∧s' = { s with heap:=h6 }) fun pe mg=>⟨?_,rfl,rfl⟩
  ·rw [← est] at run
   refine wpAny_bind (wpAny_mono run ?_ fun _ _ e=>e)
   rintro ⟨⟨⟩,st'⟩ s' ⟨eo,hf,rfl⟩
   dsimp only at eo hf ⊢
   refine wpAny_bind (seqEpoch_at (s:={ s with heap:=h6 }) ho6 rfl ?_)
   rw [eo]
   refine wpAny_bind (listUpdate_at (s:={ s with heap:=h6 }) ho6 rfl ?_ (hsz2:=by rw [outV_size,sizeLine_eq]; lia))
   rw [hf]
   simp only [bne_self_eq_false,Bool.false_eq_true,if_false]
   exact wpAny_pure h
  ·apply Array.toList_inj.mp
   show ((((srtIx ps).map I.item)).map (·.2)).toList = _
   rw [Array.map_map,Array.toList_map,outV]
   rfl
end
end Mine
end
section
open PySem PySem.W PyProof.Rows
namespace Mine
theorem sorted_pairs {prog:Program} {w:World} {A:Around} {E:Value→Shared→Prop} {s:Shared} {l:Addr} {vs:List Value} {ps:List (Int × Int)} {Q:Value→Shared→Prop} (hl:s.heap.IsList l vs.toArray) (t:TV s.heap vs ps) (hnd:(ps.map (·.1)).Nodup) (h100:ps.length≤100)
  (h:∀ h' c,(∀ b o,s.heap.get? b = some o→h'.get? b = some o)→h'.get? (s.heap.objs.size + 1) = some (listOf (outV ps vs) c)→Q (.ref (s.heap.objs.size + 1)) { s with heap:=h' }) :
  wpAny (model prog w) A (call (.builtin "sorted") [.ref l]) Q E s:=by
 have hlen:=t.len
 refine Calls.call_function_entry kind_sorted plain_sorted entry_sorted (args_sorted1 _) ?_
 unfold Builtin.«sorted»
 refine wpAny_bind (m:=checkCount "sorted" 1 1 _) (wpAny_pure ?_)
 refine wpAny_bind (collect_list hl ?_ (by rw [sizeLine_eq]; lia))
 refine wpAny_bind (wpAny_newList ?_ (by rw [sizeLine_eq]; lia))
 have hsz:((s.heap.push (seqObj "list" #[] 0)).update s.heap.objs.size (Obj.mapSeq (·++vs.toArray))).objs.size = s.heap.objs.size + 1:=by
  rw [Heap.size_update,size_push']
 have hoL:(((s.heap.push (seqObj "list" #[] 0)).update s.heap.objs.size (Obj.mapSeq (·++vs.toArray))).push (seqObj "list" vs.toArray 0)).get? (s.heap.objs.size + 1) = some (seqObj "list" vs.toArray 0):=by
  rw [← hsz]; exact Heap.get?_push_size _ rfl
 have keep:∀ b o,s.heap.get? b = some o→(((s.heap.push (seqObj "list" #[] 0)).update s.heap.objs.size (Obj.mapSeq (·++vs.toArray))).push (seqObj "list" vs.toArray 0)).get? b = some o:=fun b o q =>
  Heap.get?_push_of_some _ (((Heap.SameBut.update _ s.heap.objs.size (Obj.mapSeq (·++vs.toArray))).2 b (Nat.ne_of_lt (Heap.lt_size q))).trans (Heap.get?_push_of_some _ q))
 show wpAny _ _ _ _ _ { s with heap:=((s.heap.push (seqObj "list" #[] 0)).update s.heap.objs.size (Obj.mapSeq (·++vs.toArray))).push (seqObj "list" vs.toArray 0) }
 rw [hsz]
 generalize ((s.heap.push (seqObj "list" #[] 0)).update s.heap.objs.size (Obj.mapSeq (·++vs.toArray))).push (seqObj "list" vs.toArray 0) = h2 at hoL keep ⊢
 refine wpAny_bind (wpAny_holding (wpAny_call_entry slot_list_sort (s:={ s with heap:=h2 }) ⟨_,hoL,rfl⟩ entry_list_sort (list_sort_pairs (s:={ s with heap:=h2 }) (h₀:=s.heap) hoL t (fun b o q=>⟨Nat.ne_of_lt (Nat.lt_succ_of_lt (Heap.lt_size q)),keep b o q⟩) hnd h100 ⟨_,rfl,?_⟩) (args_list_sort _)))
 have s1:=Heap.SameBut.update h2 (s.heap.objs.size + 1) (Obj.mapSeq fun _=>(#[]:Array Value))
 obtain ⟨c1,o1⟩:∃ c1,(h2.update (s.heap.objs.size + 1) (Obj.mapSeq fun _=>#[])).get? (s.heap.objs.size + 1) = some (seqObj "list" #[] c1):=⟨_,get?_update_seq hoL (fun _=>#[])⟩
 have o2:=Heap.get?_push_of_some (seqObj "list" #[] 0) (Heap.get?_push_of_some (seqObj "tuple" vs.toArray 0) o1)
 have s2:=Heap.SameBut.update (((h2.update (s.heap.objs.size + 1) (Obj.mapSeq fun _=>#[])).push (seqObj "tuple" vs.toArray 0)).push (seqObj "list" #[] 0)) (s.heap.objs.size + 1) (Obj.mapSeq fun _=>outV ps vs)
 refine wpAny_pure ⟨_,rfl,h (sortedHeap h2 (s.heap.objs.size + 1) vs (outV ps vs)) _ (fun b o q=>?_) (get?_update_seq o2 fun _=>outV ps vs)⟩
 have hb:b≠s.heap.objs.size + 1:=Nat.ne_of_lt (Nat.lt_succ_of_lt (Heap.lt_size q))
 exact (s2.2 b hb).trans (Heap.get?_push_of_some _ (Heap.get?_push_of_some _ ((s1.2 b hb).trans (keep b o q))))
theorem pairs_back:∀ {us:List V} {ps:List (Int × Int)},intPairs us = some ps→us = ps.map fun p=>.tup [.int p.1,.int p.2]
 | [],_,h=>by simp only [intPairs,Option.some.injEq] at h; subst h; rfl
 | v::r,_,h=>by
  obtain ⟨a,b,ps',rfl,h',rfl⟩:=pair_inv h
  rw [pairs_back h']; rfl
theorem out_rel {w:Wd} {us:List V} {ws:List Value} {ps:List (Int × Int)} (hv:VRs w us ws) (hp:intPairs us = some ps):∀ (l:List Nat),(∀ i∈l,i < ps.length)→VRs w ((l.map fun i=>ps.getD i (0,0)).map fun p=>.tup [.int p.1,.int p.2]) (l.map fun i=>ws.getD i .none)
 | [],_=>.nil
 | i::l,h=>by
  have hi:=h i (.head _)
  obtain ⟨x,e,hx⟩:=hv.get (i:=i) (v:=.tup [.int (ps.getD i (0,0)).1,.int (ps.getD i (0,0)).2]) (by
   rw [pairs_back hp,List.getElem?_map,List.getElem?_eq_getElem hi,List.getD_eq_getElem?_getD,List.getElem?_eq_getElem hi]; rfl)
  have ex:ws.getD i .none = x:=by rw [List.getD_eq_getElem?_getD,e]; rfl
  rw [List.map_cons,List.map_cons,List.map_cons,ex]
  exact .cons hx (out_rel hv hp l fun j hj=>h j (.tail _ hj))
theorem sorted_by:SortedBy fun ps=>(srtIx ps).toList.map fun i=>ps.getD i (0,0):=fun g d l x us ps H Q w s A R K hx hg hp hnd h100 q=>by
 obtain rfl:=hx.refI
 obtain ⟨ws,m,i1,v1,_⟩:=isL K hg
 refine sorted_pairs (vs:=ws.toList) (IsL.list i1) (TV.of (fun a o e=>(K.tw a o e).1) v1 hp) hnd h100 fun h' c k g'=>?_
 have hf:s.heap.get? (s.heap.objs.size + 1) = none:=Heap.get?_none_of_le (Nat.le_succ _)
 refine PE.newL (xs:=outV ps ws.toList) K hf k g' ⟨rfl,rfl,rfl⟩ ?_ q
 have:=out_rel v1 hp (srtIx ps).toList (fun i hi=>InN.mem.mp (srtIx_in ps).1 i hi)
 simpa [outV] using this
theorem srt_ok:SortedBy theSrt:=Classical.epsilon_spec ⟨_,sorted_by⟩
theorem blt_sorted {g:Gd} {w:Wd} {H:AH} {s:Shared} {A:Around} {T:Tab} (hT:T.srt = theSrt) {args:List V} {vals:List Value} {Q:KV} {d:Nat} (R:Room A (d + 4)) (K:Kn g w H s) (hx:VRs w args vals) (h:opBlt T .sorted args H Q) :
  wpAny (model g.prog g.wd) A (call (B.sorted).val vals) (PE g w s Q) noE s:=by
 obtain ⟨x,rfl,h⟩:=one_inv h
 obtain ⟨y,rfl,a⟩:=hx.one
 obtain ⟨l,vs,rfl,h1,h0,ps,h2,h3,h4,h5⟩:=onL_inv h
 rw [hT] at h5
 exact srt_ok g d l y vs ps H Q w s A R K a h1 h2 h3 h4 h5
theorem blt_ok (g:Gd) {T:Tab} (hT:T.srt = theSrt) (d:Nat):BltOK g T (d + 4):=fun b args vals H Q w s A R K hx h=>by
 by_cases h1:b = .dict
 ·subst h1; exact blt_dict R K hx h
 by_cases h2:b = .bytes
 ·subst h2; exact blt_bytes R K hx h
 by_cases h3:b = .sorted
 ·subst h3; exact blt_sorted hT R K hx h
 exact opBltA_ok R K hx h ⟨h1,h2,h3⟩
end Mine
end
theorem PySem.Challenge.cw_nn0069_01_holds : PySem.Challenge.rw_nn0069_01.Holds :=
  Mine.fin (fun g _ d => Mine.blt_ok g rfl d) (fun g _ => Mine.enum_ok g _) Mine.plain
