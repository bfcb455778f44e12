import PyProof.Rows.All
import Wide.All
import OpenK.AllK
import Wide.FinOn
import Lean
import PySem.Challenge.RW_pb0428_01
open PySem PySem.W PyProof.Rows PySem.Calls
set_option Elab.async false
set_option linter.all false
set_option compiler.extract_closed false
set_option maxRecDepth 100000
set_option maxHeartbeats 0
namespace Mine.H
noncomputable section
abbrev PG:Program:=PySem.Challenge.rw_pb0428_01.row.toRowW.prog
noncomputable abbrev ar {α:Type} (l:List α):Array α:=l.toArray
noncomputable abbrev i (n:Int) (t:Nat):Value:=.int n t
noncomputable abbrev s (x:Str) (t:Nat):Value:=.str x t
noncomputable abbrev r (a:Nat):Value:=.ref a
noncomputable def e (x:Str) (t:Nat) (v:Value) (P:Params):DictEntry:=⟨PyData.keyHash P x,.str x t,v⟩
noncomputable def fld (b:List Stmt) (n:Nat):Stmt:=(b.drop n).headD (.Pass ⟨0,0,0,0⟩)
noncomputable def d1 (n:Nat):Stmt:=fld PG.main.body n
noncomputable def d2 (n k:Nat):Stmt:=match d1 n with
  | .ClassDef _ _ _ b _ _ _ _ _ _ _=>fld b k
  | x=>x
noncomputable def fPar:Stmt→Arguments
  | .FunctionDef _ a _ _ _ _ _ _ _ _=>a
  | _=>⟨[],[],none,[],[],none,[]⟩
noncomputable def fBod:Stmt→List Stmt
  | .FunctionDef _ _ b _ _ _ _ _ _ _=>b
  | _=>[]
noncomputable def fSco:Stmt→Scope
  | .FunctionDef _ _ _ _ _ _ sc _ _ _=>sc
  | _=>default
noncomputable def fnD (n q:Str) (st:Stmt) (dv kv doc pm:Value) (an:Option Addr) (cd ct:Value) (g:Addr:=mainGlobals) (b:Addr:=builtinsNs):Data :=
  .func { name:=n,qualname:=q,params:=fPar st,body:=.stmts (fBod st),scope:=fSco st,globals:=g,closure:=[],defaults:=dv,kwdefaults:=kv,doc:=doc,pyModule:=pm,annotations:=an,code:=cd,closureTuple:=ct,builtins:=b }
noncomputable def alt:List Obj→List Obj×List Obj
  | []=>([],[])
  | x::xs=>match alt xs with
    | (a,b)=>(x::b,a)
noncomputable def bt:Nat→List Obj→BT
  | 0,_=>.nil
  | _+1,[]=>.nil
  | n+1,x::xs=>match alt xs with
    | (a,b)=>.node x (bt n a) (bt n b)
noncomputable def upd (l:List Obj) (c:List (Nat×Obj)):List Obj:=c.foldl (fun l p=>l.set p.1 p.2) l
noncomputable def env0:Env:={ scope:=PG.main.scope,locals:=mainNs,globals:=mainNs,cells:=[],code:=.ref 13,frame:=some 14 }
noncomputable def cd0:Code:=.body (behindTheImports PG) env0
noncomputable def sts (n k:Nat):List Stmt:=((behindTheImports PG).drop n).take k
abbrev q0:Pos:=⟨0,0,0,0⟩
noncomputable abbrev stT (l:List Obj) (n tk:Nat) (os:OsState):SharedT:=⟨bt 20 l,n,{},#[],{},tk,os⟩
noncomputable def z0:Str:=⟨⟨[60,109,111,100,117,108,101,62]⟩⟩
noncomputable def z1:Str:=⟨⟨[47,99,108,97,105,109,47,99,117,116,46,112,121]⟩⟩
noncomputable def z2:Str:=⟨⟨[95,95,109,97,105,110,95,95]⟩⟩
noncomputable def z3:Str:=⟨⟨[116,121,112,101,46,95,95,115,117,98,99,108,97,115,115,101,115,95,95,46,69,120,99,101,112,116,105,111,110,46,48]⟩⟩
noncomputable def z4:Str:=⟨⟨[116,121,112,101,46,95,95,115,117,98,99,108,97,115,115,101,115,95,95,46,69,120,99,101,112,116,105,111,110,46,110]⟩⟩
noncomputable def z5:Str:=⟨⟨[95,95,110,97,109,101,95,95]⟩⟩
noncomputable def z6:Str:=⟨⟨[111,99,116,101,116,109,105,110,116,46,98,97,115,105,99,115]⟩⟩
noncomputable def z7:Str:=⟨⟨[95,95,100,111,99,95,95]⟩⟩
noncomputable def z8:Str:=⟨⟨[95,95,112,97,99,107,97,103,101,95,95]⟩⟩
noncomputable def z9:Str:=⟨⟨[95,95,108,111,97,100,101,114,95,95]⟩⟩
noncomputable def z10:Str:=⟨⟨[95,95,115,112,101,99,95,95]⟩⟩
noncomputable def z11:Str:=⟨⟨[95,95,97,110,110,111,116,97,116,105,111,110,115,95,95]⟩⟩
noncomputable def z12:Str:=⟨⟨[95,95,98,117,105,108,116,105,110,115,95,95]⟩⟩
noncomputable def z13:Str:=⟨⟨[95,95,102,105,108,101,95,95]⟩⟩
noncomputable def z14:Str:=⟨⟨[95,95,99,97,99,104,101,100,95,95]⟩⟩
noncomputable def z15:Str:=⟨⟨[95,119,97,108,108]⟩⟩
noncomputable def z16:Str:=⟨⟨[77,79,83,84,95,76,69,66]⟩⟩
noncomputable def z17:Str:=⟨⟨[77,105,110,116,69,114,114,111,114]⟩⟩
noncomputable def z18:Str:=⟨⟨[82,101,97,100,69,114,114,111,114]⟩⟩
noncomputable def z19:Str:=⟨⟨[107]⟩⟩
noncomputable def z20:Str:=⟨⟨[95,95,109,111,100,117,108,101,95,95]⟩⟩
noncomputable def z21:Str:=⟨⟨[95,95,113,117,97,108,110,97,109,101,95,95]⟩⟩
noncomputable def z22:Str:=⟨⟨[95,95,102,105,114,115,116,108,105,110,101,110,111,95,95]⟩⟩
noncomputable def z23:Str:=⟨⟨[95,95,105,110,105,116,95,95]⟩⟩
noncomputable def z24:Str:=⟨⟨[116,111,108,100]⟩⟩
noncomputable def z25:Str:=⟨⟨[95,95,115,116,97,116,105,99,95,97,116,116,114,105,98,117,116,101,115,95,95]⟩⟩
noncomputable def z26:Str:=⟨⟨[115,101,108,102]⟩⟩
noncomputable def z27:Str:=⟨⟨[119,104,97,116]⟩⟩
noncomputable def z28:Str:=⟨⟨[97,116]⟩⟩
noncomputable def z29:Str:=⟨⟨[77,105,110,116,69,114,114,111,114,46,95,95,105,110,105,116,95,95]⟩⟩
noncomputable def z30:Str:=⟨⟨[77,105,110,116,69,114,114,111,114,46,116,111,108,100]⟩⟩
noncomputable def z31:Str:=⟨⟨[95,95,119,101,97,107,114,101,102,95,95]⟩⟩
noncomputable def z32:Str:=⟨⟨[69,110,99,111,100,101,69,114,114,111,114]⟩⟩
noncomputable def z33:Str:=⟨⟨[83,121,109,98,111,108,69,114,114,111,114]⟩⟩
noncomputable def z34:Str:=⟨⟨[76,97,121,111,117,116,69,114,114,111,114]⟩⟩
noncomputable def z35:Str:=⟨⟨[109,97,115,107]⟩⟩
noncomputable def z36:Str:=⟨⟨[119,114,97,112]⟩⟩
noncomputable def z37:Str:=⟨⟨[115,105,122,101]⟩⟩
noncomputable def z38:Str:=⟨⟨[119,111,114,116,104]⟩⟩
noncomputable def z39:Str:=⟨⟨[111,99,116,101,116,109,105,110,116,46,101,120,112,114,101,115,115,105,111,110,115]⟩⟩
noncomputable def z40:Str:=⟨⟨[102,105,116,115,95,101,105,116,104,101,114]⟩⟩
noncomputable def z41:Str:=⟨⟨[108,105,116,116,108,101]⟩⟩
noncomputable def z42:Str:=⟨⟨[108,101,98,95,111,99,116,101,116,115]⟩⟩
noncomputable def z43:Str:=⟨⟨[117,108,101,98]⟩⟩
noncomputable def z44:Str:=⟨⟨[115,108,101,98]⟩⟩
noncomputable def z45:Str:=⟨⟨[70,105,120,117,112]⟩⟩
noncomputable def z46:Str:=⟨⟨[77,79,83,84,95,83,72,73,70,84]⟩⟩
noncomputable def z47:Str:=⟨⟨[119,105,100,116,104]⟩⟩
noncomputable def z48:Str:=⟨⟨[114,101,115,116]⟩⟩
noncomputable def z49:Str:=⟨⟨[111,99,116,101,116,115]⟩⟩
noncomputable def z50:Str:=⟨⟨[115,112,111,116]⟩⟩
noncomputable def z51:Str:=⟨⟨[103,114,111,117,112,115]⟩⟩
noncomputable def z52:Str:=⟨⟨[111,99,116,101,116,109,105,110,116,46,101,110,99,111,100,101,114]⟩⟩
noncomputable def z53:Str:=⟨⟨[109,111,118,101,100]⟩⟩
noncomputable def z54:Str:=⟨⟨[110,97,109,101]⟩⟩
noncomputable def z55:Str:=⟨⟨[119,97,121]⟩⟩
noncomputable def z56:Str:=⟨⟨[70,105,120,117,112,46,95,95,105,110,105,116,95,95]⟩⟩
noncomputable def z57:Str:=⟨⟨[70,105,120,117,112,46,116,111,108,100]⟩⟩
noncomputable def z58:Str:=⟨⟨[109,111,114,101]⟩⟩
noncomputable def z59:Str:=⟨⟨[70,105,120,117,112,46,109,111,118,101,100]⟩⟩
noncomputable def z60:Str:=⟨⟨[95,95,100,105,99,116,95,95]⟩⟩
noncomputable def z61:Str:=⟨⟨[69,120,112,114]⟩⟩
noncomputable def z62:Str:=⟨⟨[78,117,109,98,101,114]⟩⟩
noncomputable def z63:Str:=⟨⟨[107,105,110,100]⟩⟩
noncomputable def z64:Str:=⟨⟨[69,120,112,114,46,95,95,105,110,105,116,95,95]⟩⟩
noncomputable def z65:Str:=⟨⟨[69,120,112,114,46,116,111,108,100]⟩⟩
noncomputable def z66:Str:=⟨⟨[78,117,109,98,101,114,46,95,95,105,110,105,116,95,95]⟩⟩
noncomputable def z67:Str:=⟨⟨[78,117,109,98,101,114,46,116,111,108,100]⟩⟩
noncomputable def z68:Str:=⟨⟨[83,121,109,98,111,108]⟩⟩
noncomputable def z69:Str:=⟨⟨[66,105,110,97,114,121]⟩⟩
noncomputable def z70:Str:=⟨⟨[108,101,102,116,95,115,112,105,110,101]⟩⟩
noncomputable def z71:Str:=⟨⟨[83,121,109,98,111,108,46,95,95,105,110,105,116,95,95]⟩⟩
noncomputable def z72:Str:=⟨⟨[83,121,109,98,111,108,46,116,111,108,100]⟩⟩
noncomputable def z73:Str:=⟨⟨[115,105,103,110]⟩⟩
noncomputable def z74:Str:=⟨⟨[108,101,102,116]⟩⟩
noncomputable def z75:Str:=⟨⟨[114,105,103,104,116]⟩⟩
noncomputable def z76:Str:=⟨⟨[66,105,110,97,114,121,46,95,95,105,110,105,116,95,95]⟩⟩
noncomputable def z77:Str:=⟨⟨[105,110,110,101,114]⟩⟩
noncomputable def z78:Str:=⟨⟨[115,112,105,110,101]⟩⟩
noncomputable def z79:Str:=⟨⟨[112,97,114,116]⟩⟩
noncomputable def z80:Str:=⟨⟨[66,105,110,97,114,121,46,116,111,108,100]⟩⟩
noncomputable def z81:Str:=⟨⟨[110,111,100,101]⟩⟩
noncomputable def z82:Str:=⟨⟨[65,102,102,105,110,101]⟩⟩
noncomputable def z83:Str:=⟨⟨[97,102,102,105,110,101,95,111,102]⟩⟩
noncomputable def z84:Str:=⟨⟨[105,115,95,110,117,109,98,101,114]⟩⟩
noncomputable def z85:Str:=⟨⟨[105,115,95,115,121,109,98,111,108]⟩⟩
noncomputable def z86:Str:=⟨⟨[110,101,103,97,116,101]⟩⟩
noncomputable def z87:Str:=⟨⟨[97,100,100]⟩⟩
noncomputable def z88:Str:=⟨⟨[112,108,97,99,101,115]⟩⟩
noncomputable def z89:Str:=⟨⟨[]⟩⟩
noncomputable def z90:Str:=⟨⟨[112,108,117,115]⟩⟩
noncomputable def z91:Str:=⟨⟨[109,105,110,117,115]⟩⟩
noncomputable def z92:Str:=⟨⟨[65,102,102,105,110,101,46,95,95,105,110,105,116,95,95]⟩⟩
noncomputable def z93:Str:=⟨⟨[65,102,102,105,110,101,46,116,111,108,100]⟩⟩
noncomputable def z94:Str:=⟨⟨[65,102,102,105,110,101,46,105,115,95,110,117,109,98,101,114]⟩⟩
noncomputable def z95:Str:=⟨⟨[65,102,102,105,110,101,46,105,115,95,115,121,109,98,111,108]⟩⟩
noncomputable def z96:Str:=⟨⟨[65,102,102,105,110,101,46,110,101,103,97,116,101]⟩⟩
noncomputable def z97:Str:=⟨⟨[111,116,104,101,114]⟩⟩
noncomputable def z98:Str:=⟨⟨[65,102,102,105,110,101,46,97,100,100]⟩⟩
noncomputable def z99:Str:=⟨⟨[107,110,111,119,110]⟩⟩
noncomputable def z100:Str:=⟨⟨[65,102,102,105,110,101,46,112,108,97,99,101,115]⟩⟩
noncomputable def z101:Str:=⟨⟨[111,99,116,101,116,109,105,110,116,46,115,111,117,114,99,101]⟩⟩
noncomputable def z102:Str:=⟨⟨[83,99,111,112,101]⟩⟩
noncomputable def z103:Str:=⟨⟨[113,117,111,116,105,101,110,116]⟩⟩
noncomputable def z104:Str:=⟨⟨[115,104,105,102,116,101,100]⟩⟩
noncomputable def z105:Str:=⟨⟨[114,101,99,107,111,110,101,100]⟩⟩
noncomputable def z106:Str:=⟨⟨[99,111,109,98,105,110,101,100]⟩⟩
noncomputable def z107:Str:=⟨⟨[116,117,114,110,101,100]⟩⟩
noncomputable def z108:Str:=⟨⟨[101,118,97,108,117,97,116,101]⟩⟩
noncomputable def z109:Str:=⟨⟨[110,97,109,101,115,95,105,110]⟩⟩
noncomputable def z110:Str:=⟨⟨[112,117,116]⟩⟩
noncomputable def z111:Str:=⟨⟨[102,105,110,100]⟩⟩
noncomputable def z112:Str:=⟨⟨[115,101,116,116,108,101,100]⟩⟩
noncomputable def z113:Str:=⟨⟨[101,113,117,97,116,101,115]⟩⟩
noncomputable def z114:Str:=⟨⟨[83,99,111,112,101,46,95,95,105,110,105,116,95,95]⟩⟩
noncomputable def z115:Str:=⟨⟨[97,102,102,105,110,101]⟩⟩
noncomputable def z116:Str:=⟨⟨[83,99,111,112,101,46,112,117,116]⟩⟩
noncomputable def z117:Str:=⟨⟨[83,99,111,112,101,46,102,105,110,100]⟩⟩
noncomputable def z118:Str:=⟨⟨[102,111,117,110,100]⟩⟩
noncomputable def z119:Str:=⟨⟨[83,99,111,112,101,46,115,101,116,116,108,101,100]⟩⟩
noncomputable def z120:Str:=⟨⟨[111,110,101]⟩⟩
noncomputable def z121:Str:=⟨⟨[99,111,117,110,116]⟩⟩
noncomputable def z122:Str:=⟨⟨[115,99,111,112,101]⟩⟩
noncomputable def z123:Str:=⟨⟨[104,101,114,101]⟩⟩
noncomputable def z124:Str:=⟨⟨[116,111,100,111]⟩⟩
noncomputable def z125:Str:=⟨⟨[83,116,97,116,101,109,101,110,116]⟩⟩
noncomputable def z126:Str:=⟨⟨[76,97,98,101,108]⟩⟩
noncomputable def z127:Str:=⟨⟨[83,116,97,116,101,109,101,110,116,46,95,95,105,110,105,116,95,95]⟩⟩
noncomputable def z128:Str:=⟨⟨[76,97,98,101,108,46,95,95,105,110,105,116,95,95]⟩⟩
noncomputable def z129:Str:=⟨⟨[76,97,98,101,108,46,116,111,108,100]⟩⟩
noncomputable def z130:Str:=⟨⟨[111,99,116,101,116,109,105,110,116,46,115,101,99,116,105,111,110,115]⟩⟩
noncomputable def z131:Str:=⟨⟨[68,101,101,100]⟩⟩
noncomputable def z132:Str:=⟨⟨[116,111,108,100,95,97,114,103,117,109,101,110,116]⟩⟩
noncomputable def z133:Str:=⟨⟨[115,111,108,118,101,95,101,113,117,97,116,101,115]⟩⟩
noncomputable def z134:Str:=⟨⟨[77,79,83,84,95,79,67,84,69,84,83]⟩⟩
noncomputable def z135:Str:=⟨⟨[77,79,83,84,95,83,84,69,80]⟩⟩
noncomputable def z136:Str:=⟨⟨[80,105,101,99,101]⟩⟩
noncomputable def z137:Str:=⟨⟨[119,111,114,100]⟩⟩
noncomputable def z138:Str:=⟨⟨[97,114,103,115]⟩⟩
noncomputable def z139:Str:=⟨⟨[68,101,101,100,46,95,95,105,110,105,116,95,95]⟩⟩
noncomputable def z140:Str:=⟨⟨[68,101,101,100,46,116,111,108,100]⟩⟩
noncomputable def z141:Str:=⟨⟨[97,114,103,117,109,101,110,116]⟩⟩
noncomputable def z142:Str:=⟨⟨[102,105,120,101,100,95,119,105,100,116,104]⟩⟩
noncomputable def z143:Str:=⟨⟨[80,105,101,99,101,46,95,95,105,110,105,116,95,95]⟩⟩
noncomputable def z144:Str:=⟨⟨[80,105,101,99,101,46,102,105,120,101,100,95,119,105,100,116,104]⟩⟩
noncomputable def z145:Str:=⟨⟨[79,99,116,101,116,115]⟩⟩
noncomputable def z146:Str:=⟨⟨[65,108,105,103,110]⟩⟩
noncomputable def z147:Str:=⟨⟨[102,105,120,117,112,115]⟩⟩
noncomputable def z148:Str:=⟨⟨[79,99,116,101,116,115,46,95,95,105,110,105,116,95,95]⟩⟩
noncomputable def z149:Str:=⟨⟨[79,99,116,101,116,115,46,102,105,120,101,100,95,119,105,100,116,104]⟩⟩
noncomputable def z150:Str:=⟨⟨[79,99,116,101,116,115,46,116,111,108,100]⟩⟩
noncomputable def z151:Str:=⟨⟨[115,116,101,112]⟩⟩
noncomputable def z152:Str:=⟨⟨[105,115,95,99,111,100,101]⟩⟩
noncomputable def z153:Str:=⟨⟨[65,108,105,103,110,46,95,95,105,110,105,116,95,95]⟩⟩
noncomputable def z154:Str:=⟨⟨[65,108,105,103,110,46,116,111,108,100]⟩⟩
noncomputable def z155:Str:=⟨⟨[79,114,103]⟩⟩
noncomputable def z156:Str:=⟨⟨[83,112,97,99,101]⟩⟩
noncomputable def z157:Str:=⟨⟨[79,114,103,46,95,95,105,110,105,116,95,95]⟩⟩
noncomputable def z158:Str:=⟨⟨[79,114,103,46,116,111,108,100]⟩⟩
noncomputable def z159:Str:=⟨⟨[102,105,108,108]⟩⟩
noncomputable def z160:Str:=⟨⟨[83,112,97,99,101,46,95,95,105,110,105,116,95,95]⟩⟩
noncomputable def z161:Str:=⟨⟨[83,112,97,99,101,46,102,105,120,101,100,95,119,105,100,116,104]⟩⟩
noncomputable def z162:Str:=⟨⟨[83,112,97,99,101,46,116,111,108,100]⟩⟩
noncomputable def z163:Str:=⟨⟨[76,101,98]⟩⟩
noncomputable def z164:Str:=⟨⟨[83,101,99,116,105,111,110]⟩⟩
noncomputable def z165:Str:=⟨⟨[105,115,95,115,105,103,110,101,100]⟩⟩
noncomputable def z166:Str:=⟨⟨[76,101,98,46,95,95,105,110,105,116,95,95]⟩⟩
noncomputable def z167:Str:=⟨⟨[76,101,98,46,116,111,108,100]⟩⟩
noncomputable def z168:Str:=⟨⟨[105,115,95,101,109,112,116,121]⟩⟩
noncomputable def z169:Str:=⟨⟨[109,97,114,107]⟩⟩
noncomputable def z170:Str:=⟨⟨[102,105,120,101,100,95,100,105,115,116,97,110,99,101]⟩⟩
noncomputable def z171:Str:=⟨⟨[83,101,99,116,105,111,110,46,95,95,105,110,105,116,95,95]⟩⟩
noncomputable def z172:Str:=⟨⟨[83,101,99,116,105,111,110,46,105,115,95,99,111,100,101]⟩⟩
noncomputable def z173:Str:=⟨⟨[83,101,99,116,105,111,110,46,105,115,95,101,109,112,116,121]⟩⟩
noncomputable def z174:Str:=⟨⟨[112,105,101,99,101]⟩⟩
noncomputable def z175:Str:=⟨⟨[83,101,99,116,105,111,110,46,97,100,100]⟩⟩
noncomputable def z176:Str:=⟨⟨[83,101,99,116,105,111,110,46,109,97,114,107]⟩⟩
noncomputable def z177:Str:=⟨⟨[102,105,114,115,116]⟩⟩
noncomputable def z178:Str:=⟨⟨[108,97,115,116]⟩⟩
noncomputable def z179:Str:=⟨⟨[119,104,111,108,101]⟩⟩
noncomputable def z180:Str:=⟨⟨[83,101,99,116,105,111,110,46,102,105,120,101,100,95,100,105,115,116,97,110,99,101]⟩⟩
noncomputable def z181:Str:=⟨⟨[83,101,99,116,105,111,110,46,116,111,108,100]⟩⟩
noncomputable def z182:Str:=⟨⟨[108,97,98,101,108,115]⟩⟩
noncomputable def z183:Str:=⟨⟨[112,105,101,99,101,115]⟩⟩
noncomputable def z184:Str:=⟨⟨[80,114,111,103,114,97,109]⟩⟩
noncomputable def z185:Str:=⟨⟨[100,97,116,97,95,119,105,100,116,104]⟩⟩
noncomputable def z186:Str:=⟨⟨[115,101,99,116,105,111,110]⟩⟩
noncomputable def z187:Str:=⟨⟨[104,111,109,101]⟩⟩
noncomputable def z188:Str:=⟨⟨[97,100,100,95,103,108,111,98,97,108]⟩⟩
noncomputable def z189:Str:=⟨⟨[97,100,100,95,100,105,102,102,101,114,101,110,99,101]⟩⟩
noncomputable def z190:Str:=⟨⟨[100,105,115,116,97,110,99,101]⟩⟩
noncomputable def z191:Str:=⟨⟨[80,114,111,103,114,97,109,46,95,95,105,110,105,116,95,95]⟩⟩
noncomputable def z192:Str:=⟨⟨[80,114,111,103,114,97,109,46,115,101,99,116,105,111,110]⟩⟩
noncomputable def z193:Str:=⟨⟨[108,97,98,101,108]⟩⟩
noncomputable def z194:Str:=⟨⟨[80,114,111,103,114,97,109,46,104,111,109,101]⟩⟩
noncomputable def z195:Str:=⟨⟨[80,114,111,103,114,97,109,46,97,100,100,95,103,108,111,98,97,108]⟩⟩
noncomputable def z196:Str:=⟨⟨[80,114,111,103,114,97,109,46,97,100,100,95,100,105,102,102,101,114,101,110,99,101]⟩⟩
noncomputable def z197:Str:=⟨⟨[98,97,99,107]⟩⟩
noncomputable def z198:Str:=⟨⟨[80,114,111,103,114,97,109,46,100,105,115,116,97,110,99,101]⟩⟩
noncomputable def z199:Str:=⟨⟨[80,114,111,103,114,97,109,46,116,111,108,100]⟩⟩
noncomputable def z200:Str:=⟨⟨[103,108,111,98,97,108,115,95]⟩⟩
noncomputable def z201:Str:=⟨⟨[110,97,109,101,115]⟩⟩
noncomputable def z202:Str:=⟨⟨[115,101,99,116,105,111,110,115]⟩⟩
noncomputable def z203:Str:=⟨⟨[67,111,108,108,101,99,116,111,114]⟩⟩
noncomputable def z204:Str:=⟨⟨[108,97,121]⟩⟩
noncomputable def z205:Str:=⟨⟨[99,111,100,101]⟩⟩
noncomputable def z206:Str:=⟨⟨[100,101,101,100]⟩⟩
noncomputable def z207:Str:=⟨⟨[110,117,109,98,101,114]⟩⟩
noncomputable def z208:Str:=⟨⟨[110,117,109,98,101,114,115]⟩⟩
noncomputable def z209:Str:=⟨⟨[111,112,101,110,95,110,97,109,101]⟩⟩
noncomputable def z210:Str:=⟨⟨[108,101,98]⟩⟩
noncomputable def z211:Str:=⟨⟨[97,108,105,103,110]⟩⟩
noncomputable def z212:Str:=⟨⟨[111,114,103]⟩⟩
noncomputable def z213:Str:=⟨⟨[115,112,97,99,101]⟩⟩
noncomputable def z214:Str:=⟨⟨[67,111,108,108,101,99,116,111,114,46,95,95,105,110,105,116,95,95]⟩⟩
noncomputable def z215:Str:=⟨⟨[115,116,97,116,101,109,101,110,116]⟩⟩
noncomputable def z216:Str:=⟨⟨[67,111,108,108,101,99,116,111,114,46,108,97,121]⟩⟩
noncomputable def z217:Str:=⟨⟨[67,111,108,108,101,99,116,111,114,46,108,97,98,101,108]⟩⟩
noncomputable def z218:Str:=⟨⟨[105,110,115,116,114,117,99,116,105,111,110]⟩⟩
noncomputable def z219:Str:=⟨⟨[67,111,108,108,101,99,116,111,114,46,99,111,100,101]⟩⟩
noncomputable def z220:Str:=⟨⟨[67,111,108,108,101,99,116,111,114,46,111,99,116,101,116,115]⟩⟩
noncomputable def z221:Str:=⟨⟨[67,111,108,108,101,99,116,111,114,46,100,101,101,100]⟩⟩
noncomputable def z222:Str:=⟨⟨[67,111,108,108,101,99,116,111,114,46,119,111,114,116,104]⟩⟩
noncomputable def z223:Str:=⟨⟨[67,111,108,108,101,99,116,111,114,46,110,117,109,98,101,114]⟩⟩
noncomputable def z224:Str:=⟨⟨[67,111,108,108,101,99,116,111,114,46,99,111,117,110,116]⟩⟩
noncomputable def z225:Str:=⟨⟨[110,111,100,101,115]⟩⟩
noncomputable def z226:Str:=⟨⟨[67,111,108,108,101,99,116,111,114,46,110,117,109,98,101,114,115]⟩⟩
noncomputable def z227:Str:=⟨⟨[67,111,108,108,101,99,116,111,114,46,111,112,101,110,95,110,97,109,101]⟩⟩
noncomputable def z228:Str:=⟨⟨[67,111,108,108,101,99,116,111,114,46,108,101,98]⟩⟩
noncomputable def z229:Str:=⟨⟨[105,115,95,112,111,119,101,114]⟩⟩
noncomputable def z230:Str:=⟨⟨[67,111,108,108,101,99,116,111,114,46,97,108,105,103,110]⟩⟩
noncomputable def z231:Str:=⟨⟨[67,111,108,108,101,99,116,111,114,46,111,114,103]⟩⟩
noncomputable def z232:Str:=⟨⟨[67,111,108,108,101,99,116,111,114,46,115,112,97,99,101]⟩⟩
noncomputable def z233:Str:=⟨⟨[67,111,108,108,101,99,116,111,114,46,102,105,108,108]⟩⟩
noncomputable def z234:Str:=⟨⟨[112,114,111,103,114,97,109]⟩⟩
noncomputable def z235:Str:=⟨⟨[108,97,119,95,112,98,48,52,50,56,95,48,49]⟩⟩
noncomputable def z236:Str:=⟨⟨[95,108,97,119,95,112,105,99,107]⟩⟩
noncomputable def z237:Str:=⟨⟨[95,108,97,119,95,98,101,116,119,101,101,110]⟩⟩
noncomputable def z238:Str:=⟨⟨[95,108,97,119,95,100,101,101,100]⟩⟩
noncomputable def z239:Str:=⟨⟨[95,108,97,119,95,115,107,105,112,95,114,105,103,104,116]⟩⟩
noncomputable def z240:Str:=⟨⟨[108,97,119]⟩⟩
noncomputable def z241:Str:=⟨⟨[99,101,108,108,115]⟩⟩
noncomputable def z242:Str:=⟨⟨[109,97,110,121]⟩⟩
noncomputable def z243:Str:=⟨⟨[110,101,97,114]⟩⟩
noncomputable def z244:Str:=⟨⟨[102,97,114]⟩⟩
noncomputable def z245:Str:=⟨⟨[119,105,100,116,104,115]⟩⟩
noncomputable def z246:Str:=⟨⟨[99,111,108,108,101,99,116,111,114]⟩⟩
noncomputable def z247:Str:=⟨⟨[100,117,101]⟩⟩
noncomputable def z248:Str:=⟨⟨[104,101,97,114,100]⟩⟩
noncomputable def z249:Str:=⟨⟨[114,111,119]⟩⟩
def o11:Obj:=⟨.type "tuple",none,(.seq (ar []) 0),ar []⟩
def o12:Obj:=⟨.none,none,(.fields (ar [])),ar []⟩
def o13:Obj:=⟨.type "code",none,(.fields (ar [s z0 182,s z0 183,s z1 184,i 1 0,i 0 0,i 0 0,i 0 0,i 0 0,r 11,.bool false,i 181 0,r 12,.none,.none,.none,.none,i 185 0,i 1 0,s z1 186])),ar []⟩
def o14:Obj:=⟨.type "frame",none,.plain,ar [some (r 13),some (r 3),some (r 3),none,some (s z2 164),none,some (r 0)]⟩
def o2_0 (P:Params):Obj:=⟨.none,none,(.dict (ar (([e z3 232 (i 46 0),e z4 233 (i 1 0)]:List (Params→DictEntry)).map (· P))) 2),ar []⟩
def o3_0 (P:Params):Obj:=⟨.type "dict",none,(.dict (ar (([e z5 165 (s z6 194),e z7 166 .none,e z8 167 .none,e z9 168 (.builtin "__main__.__loader__#opaque"),e z10 169 .none,e z11 170 (r 6),e z12 171 (r 4),e z13 173 (s z1 172),e z14 174 .none,e z15 193 (r 21),e z16 197 (i 10 196),e z17 235 (r 46),e z18 251 (r 59)]:List (Params→DictEntry)).map (· P))) 13),ar []⟩
def o12_0:Obj:=⟨.none,none,(.fields (ar [i 1 0,i 0 0,r 20,i 6 0,i 0 0,r 27,i 17 0,i 0 0,r 55])),ar []⟩
def o15:Obj:=⟨.type "tuple",none,(.seq (ar []) 0),ar []⟩
def o16:Obj:=⟨.none,none,(.fields (ar [])),ar []⟩
def o17:Obj:=⟨.type "tuple",none,(.seq (ar [s z19 190]) 0),ar []⟩
def o18:Obj:=⟨.type "tuple",none,(.seq (ar []) 0),ar []⟩
def o19:Obj:=⟨.none,none,(fnD z15 z15 (d1 0) .none .none .none .none none .none .none (g:=0) (b:=0)),ar []⟩
def o20:Obj:=⟨.type "code",none,(.fields (ar [s z15 187,s z15 188,s z1 189,i 1 0,i 1 0,i 0 0,i 0 0,i 3 0,r 15,.bool true,i 181 0,r 16,.none,r 17,r 18,r 19,i 191 0,i 1 0,s z1 192])),ar []⟩
def o21:Obj:=⟨.type "function",none,(fnD z15 z15 (d1 0) .none .none .none (s z2 164) none (r 20) .none),ar []⟩
def o22:Obj:=⟨.type "tuple",none,(.seq (ar [.type "Exception"]) 0),ar []⟩
def o23:Obj:=⟨.type "builtin_function_or_method",none,(.fields (ar [.builtin "type.__prepare__",.type "type"])),ar []⟩
def o24 (P:Params):Obj:=⟨.type "dict",none,(.dict (ar (([e z20 205 (s z6 194),e z21 207 (s z17 206),e z22 209 (i 6 208),e z23 218 (r 36),e z24 225 (r 43),e z25 228 (r 44)]:List (Params→DictEntry)).map (· P))) 6),ar []⟩
def o25:Obj:=⟨.type "tuple",none,(.seq (ar []) 0),ar []⟩
def o26:Obj:=⟨.none,none,(.fields (ar [i 8 0,i 4 0,r 35,i 13 0,i 4 0,r 42])),ar []⟩
def o27:Obj:=⟨.type "code",none,(.fields (ar [s z17 200,s z17 201,s z1 202,i 6 0,i 0 0,i 0 0,i 0 0,i 0 0,r 25,.bool false,i 181 0,r 26,.none,.none,.none,.none,i 203 0,i 6 0,s z1 204])),ar []⟩
def o28:Obj:=⟨.type "frame",none,.plain,ar [some (r 27),some (r 3),some (r 24),none,some (s z6 194),none,some (r 0)]⟩
def o29:Obj:=⟨.type "tuple",none,(.seq (ar [.none]) 0),ar []⟩
def o30:Obj:=⟨.type "tuple",none,(.seq (ar []) 0),ar []⟩
def o31:Obj:=⟨.none,none,(.fields (ar [])),ar []⟩
def o32:Obj:=⟨.type "tuple",none,(.seq (ar [s z26 213,s z27 214,s z28 215]) 0),ar []⟩
def o33:Obj:=⟨.type "tuple",none,(.seq (ar []) 0),ar []⟩
def o34:Obj:=⟨.none,none,(fnD z23 z29 (d2 3 0) .none .none .none .none none .none .none (g:=0) (b:=0)),ar []⟩
def o35:Obj:=⟨.type "code",none,(.fields (ar [s z23 210,s z29 211,s z1 212,i 8 0,i 3 0,i 0 0,i 0 0,i 3 0,r 30,.bool true,i 181 0,r 31,.none,r 32,r 33,r 34,i 216 0,i 8 0,s z1 217])),ar []⟩
def o36:Obj:=⟨.type "function",none,(fnD z23 z29 (d2 3 0) (r 29) .none .none (s z6 194) none (r 35) .none),ar []⟩
def o37:Obj:=⟨.type "tuple",none,(.seq (ar []) 0),ar []⟩
def o38:Obj:=⟨.none,none,(.fields (ar [])),ar []⟩
def o39:Obj:=⟨.type "tuple",none,(.seq (ar [s z26 222]) 0),ar []⟩
def o40:Obj:=⟨.type "tuple",none,(.seq (ar []) 0),ar []⟩
def o41:Obj:=⟨.none,none,(fnD z24 z30 (d2 3 1) .none .none .none .none none .none .none (g:=0) (b:=0)),ar []⟩
def o42:Obj:=⟨.type "code",none,(.fields (ar [s z24 219,s z30 220,s z1 221,i 13 0,i 1 0,i 0 0,i 0 0,i 3 0,r 37,.bool true,i 181 0,r 38,.none,r 39,r 40,r 41,i 223 0,i 13 0,s z1 224])),ar []⟩
def o43:Obj:=⟨.type "function",none,(fnD z24 z30 (d2 3 1) .none .none .none (s z6 194) none (r 42) .none),ar []⟩
def o44:Obj:=⟨.type "tuple",none,(.seq (ar [s z28 226,s z27 227]) 0),ar []⟩
def o45 (P:Params):Obj:=⟨.type "dict",none,(.dict (ar (([e z20 205 (s z6 194),e z22 209 (i 6 208),e z23 218 (r 36),e z24 225 (r 43),e z25 228 (r 44),e z31 230 (r 47),e z7 231 .none]:List (Params→DictEntry)).map (· P))) 3),ar []⟩
def o46:Obj:=⟨.type "type",none,(.cls { name:=z17,bases:=[.type "Exception"],mro:=[r 46,.type "Exception",.type "BaseException",.type "object"],ns:=45,qualname:=z17,hasDict:=true,slotNames:=[],subclasses:=[r 59],abstract:=false,collection:=none,hasDel:=false }),ar [some (r 22),none,some (s z17 198),some (s z17 206),some (.builtin "Exception.__new__"),some (.bool true)]⟩
def o47:Obj:=⟨.type "getset_descriptor",none,(.fields (ar [s z31 229,r 46,.builtin "ExceptionGroup.__weakref__",.none])),ar []⟩
def o48:Obj:=⟨.type "super",none,(.fields (ar [r 46,r 46,r 46])),ar []⟩
def o49:Obj:=⟨.type "builtin_function_or_method",none,(.fields (ar [.builtin "object.__init_subclass__",r 46])),ar []⟩
def o50:Obj:=⟨.type "tuple",none,(.seq (ar [r 46]) 0),ar []⟩
def o51:Obj:=⟨.type "builtin_function_or_method",none,(.fields (ar [.builtin "type.__prepare__",.type "type"])),ar []⟩
def o52 (P:Params):Obj:=⟨.type "dict",none,(.dict (ar (([e z20 243 (s z6 194),e z21 245 (s z18 244),e z22 247 (i 17 246),e z25 248 (r 57)]:List (Params→DictEntry)).map (· P))) 4),ar []⟩
def o53:Obj:=⟨.type "tuple",none,(.seq (ar []) 0),ar []⟩
def o54:Obj:=⟨.none,none,(.fields (ar [])),ar []⟩
def o55:Obj:=⟨.type "code",none,(.fields (ar [s z18 238,s z18 239,s z1 240,i 17 0,i 0 0,i 0 0,i 0 0,i 0 0,r 53,.bool false,i 181 0,r 54,.none,.none,.none,.none,i 241 0,i 17 0,s z1 242])),ar []⟩
def o56:Obj:=⟨.type "frame",none,.plain,ar [some (r 55),some (r 3),some (r 52),none,some (s z6 194),none,some (r 0)]⟩
def o57:Obj:=⟨.type "tuple",none,(.seq (ar []) 0),ar []⟩
def o58 (P:Params):Obj:=⟨.type "dict",none,(.dict (ar (([e z20 243 (s z6 194),e z22 247 (i 17 246),e z25 248 (r 57),e z7 249 .none]:List (Params→DictEntry)).map (· P))) 2),ar []⟩
def o59:Obj:=⟨.type "type",none,(.cls { name:=z18,bases:=[r 46],mro:=[r 59,r 46,.type "Exception",.type "BaseException",.type "object"],ns:=58,qualname:=z18,hasDict:=true,slotNames:=[],subclasses:=[],abstract:=false,collection:=none,hasDel:=false }),ar [some (r 50),none,some (s z18 236),some (s z18 244),some (.builtin "Exception.__new__"),some (.bool true)]⟩
def o60:Obj:=⟨.type "super",none,(.fields (ar [r 59,r 59,r 59])),ar []⟩
def o61:Obj:=⟨.type "builtin_function_or_method",none,(.fields (ar [.builtin "object.__init_subclass__",r 59])),ar []⟩
def o3_1 (P:Params):Obj:=⟨.type "dict",none,(.dict (ar (([e z5 165 (s z6 194),e z7 166 .none,e z8 167 .none,e z9 168 (.builtin "__main__.__loader__#opaque"),e z10 169 .none,e z11 170 (r 6),e z12 171 (r 4),e z13 173 (s z1 172),e z14 174 .none,e z15 193 (r 21),e z16 197 (i 10 196),e z17 235 (r 46),e z18 251 (r 59),e z32 267 (r 71),e z33 283 (r 83),e z34 299 (r 95),e z35 306 (r 104),e z36 314 (r 111)]:List (Params→DictEntry)).map (· P))) 18),ar []⟩
def o12_1:Obj:=⟨.none,none,(.fields (ar [i 1 0,i 0 0,r 20,i 6 0,i 0 0,r 27,i 17 0,i 0 0,r 55,i 19 0,i 0 0,r 67,i 21 0,i 0 0,r 79,i 23 0,i 0 0,r 91,i 25 0,i 0 0,r 103,i 27 0,i 0 0,r 110])),ar []⟩
def o46_1:Obj:=⟨.type "type",none,(.cls { name:=z17,bases:=[.type "Exception"],mro:=[r 46,.type "Exception",.type "BaseException",.type "object"],ns:=45,qualname:=z17,hasDict:=true,slotNames:=[],subclasses:=[r 59,r 71,r 83,r 95],abstract:=false,collection:=none,hasDel:=false }),ar [some (r 22),none,some (s z17 198),some (s z17 206),some (.builtin "Exception.__new__"),some (.bool true)]⟩
def o62:Obj:=⟨.type "tuple",none,(.seq (ar [r 46]) 0),ar []⟩
def o63:Obj:=⟨.type "builtin_function_or_method",none,(.fields (ar [.builtin "type.__prepare__",.type "type"])),ar []⟩
def o64 (P:Params):Obj:=⟨.type "dict",none,(.dict (ar (([e z20 259 (s z6 194),e z21 261 (s z32 260),e z22 263 (i 19 262),e z25 264 (r 69)]:List (Params→DictEntry)).map (· P))) 4),ar []⟩
def o65:Obj:=⟨.type "tuple",none,(.seq (ar []) 0),ar []⟩
def o66:Obj:=⟨.none,none,(.fields (ar [])),ar []⟩
def o67:Obj:=⟨.type "code",none,(.fields (ar [s z32 254,s z32 255,s z1 256,i 19 0,i 0 0,i 0 0,i 0 0,i 0 0,r 65,.bool false,i 181 0,r 66,.none,.none,.none,.none,i 257 0,i 19 0,s z1 258])),ar []⟩
def o68:Obj:=⟨.type "frame",none,.plain,ar [some (r 67),some (r 3),some (r 64),none,some (s z6 194),none,some (r 0)]⟩
def o69:Obj:=⟨.type "tuple",none,(.seq (ar []) 0),ar []⟩
def o70 (P:Params):Obj:=⟨.type "dict",none,(.dict (ar (([e z20 259 (s z6 194),e z22 263 (i 19 262),e z25 264 (r 69),e z7 265 .none]:List (Params→DictEntry)).map (· P))) 2),ar []⟩
def o71:Obj:=⟨.type "type",none,(.cls { name:=z32,bases:=[r 46],mro:=[r 71,r 46,.type "Exception",.type "BaseException",.type "object"],ns:=70,qualname:=z32,hasDict:=true,slotNames:=[],subclasses:=[],abstract:=false,collection:=none,hasDel:=false }),ar [some (r 62),none,some (s z32 252),some (s z32 260),some (.builtin "Exception.__new__"),some (.bool true)]⟩
def o72:Obj:=⟨.type "super",none,(.fields (ar [r 71,r 71,r 71])),ar []⟩
def o73:Obj:=⟨.type "builtin_function_or_method",none,(.fields (ar [.builtin "object.__init_subclass__",r 71])),ar []⟩
def o74:Obj:=⟨.type "tuple",none,(.seq (ar [r 46]) 0),ar []⟩
def o75:Obj:=⟨.type "builtin_function_or_method",none,(.fields (ar [.builtin "type.__prepare__",.type "type"])),ar []⟩
def o76 (P:Params):Obj:=⟨.type "dict",none,(.dict (ar (([e z20 275 (s z6 194),e z21 277 (s z33 276),e z22 279 (i 21 278),e z25 280 (r 81)]:List (Params→DictEntry)).map (· P))) 4),ar []⟩
def o77:Obj:=⟨.type "tuple",none,(.seq (ar []) 0),ar []⟩
def o78:Obj:=⟨.none,none,(.fields (ar [])),ar []⟩
def o79:Obj:=⟨.type "code",none,(.fields (ar [s z33 270,s z33 271,s z1 272,i 21 0,i 0 0,i 0 0,i 0 0,i 0 0,r 77,.bool false,i 181 0,r 78,.none,.none,.none,.none,i 273 0,i 21 0,s z1 274])),ar []⟩
def o80:Obj:=⟨.type "frame",none,.plain,ar [some (r 79),some (r 3),some (r 76),none,some (s z6 194),none,some (r 0)]⟩
def o81:Obj:=⟨.type "tuple",none,(.seq (ar []) 0),ar []⟩
def o82 (P:Params):Obj:=⟨.type "dict",none,(.dict (ar (([e z20 275 (s z6 194),e z22 279 (i 21 278),e z25 280 (r 81),e z7 281 .none]:List (Params→DictEntry)).map (· P))) 2),ar []⟩
def o83:Obj:=⟨.type "type",none,(.cls { name:=z33,bases:=[r 46],mro:=[r 83,r 46,.type "Exception",.type "BaseException",.type "object"],ns:=82,qualname:=z33,hasDict:=true,slotNames:=[],subclasses:=[],abstract:=false,collection:=none,hasDel:=false }),ar [some (r 74),none,some (s z33 268),some (s z33 276),some (.builtin "Exception.__new__"),some (.bool true)]⟩
def o84:Obj:=⟨.type "super",none,(.fields (ar [r 83,r 83,r 83])),ar []⟩
def o85:Obj:=⟨.type "builtin_function_or_method",none,(.fields (ar [.builtin "object.__init_subclass__",r 83])),ar []⟩
def o86:Obj:=⟨.type "tuple",none,(.seq (ar [r 46]) 0),ar []⟩
def o87:Obj:=⟨.type "builtin_function_or_method",none,(.fields (ar [.builtin "type.__prepare__",.type "type"])),ar []⟩
def o88 (P:Params):Obj:=⟨.type "dict",none,(.dict (ar (([e z20 291 (s z6 194),e z21 293 (s z34 292),e z22 295 (i 23 294),e z25 296 (r 93)]:List (Params→DictEntry)).map (· P))) 4),ar []⟩
def o89:Obj:=⟨.type "tuple",none,(.seq (ar []) 0),ar []⟩
def o90:Obj:=⟨.none,none,(.fields (ar [])),ar []⟩
def o91:Obj:=⟨.type "code",none,(.fields (ar [s z34 286,s z34 287,s z1 288,i 23 0,i 0 0,i 0 0,i 0 0,i 0 0,r 89,.bool false,i 181 0,r 90,.none,.none,.none,.none,i 289 0,i 23 0,s z1 290])),ar []⟩
def o92:Obj:=⟨.type "frame",none,.plain,ar [some (r 91),some (r 3),some (r 88),none,some (s z6 194),none,some (r 0)]⟩
def o93:Obj:=⟨.type "tuple",none,(.seq (ar []) 0),ar []⟩
def o94 (P:Params):Obj:=⟨.type "dict",none,(.dict (ar (([e z20 291 (s z6 194),e z22 295 (i 23 294),e z25 296 (r 93),e z7 297 .none]:List (Params→DictEntry)).map (· P))) 2),ar []⟩
def o95:Obj:=⟨.type "type",none,(.cls { name:=z34,bases:=[r 46],mro:=[r 95,r 46,.type "Exception",.type "BaseException",.type "object"],ns:=94,qualname:=z34,hasDict:=true,slotNames:=[],subclasses:=[],abstract:=false,collection:=none,hasDel:=false }),ar [some (r 86),none,some (s z34 284),some (s z34 292),some (.builtin "Exception.__new__"),some (.bool true)]⟩
def o96:Obj:=⟨.type "super",none,(.fields (ar [r 95,r 95,r 95])),ar []⟩
def o97:Obj:=⟨.type "builtin_function_or_method",none,(.fields (ar [.builtin "object.__init_subclass__",r 95])),ar []⟩
def o98:Obj:=⟨.type "tuple",none,(.seq (ar []) 0),ar []⟩
def o99:Obj:=⟨.none,none,(.fields (ar [])),ar []⟩
def o100:Obj:=⟨.type "tuple",none,(.seq (ar [s z37 303]) 0),ar []⟩
def o101:Obj:=⟨.type "tuple",none,(.seq (ar []) 0),ar []⟩
def o102:Obj:=⟨.none,none,(fnD z35 z35 (d1 8) .none .none .none .none none .none .none (g:=0) (b:=0)),ar []⟩
def o103:Obj:=⟨.type "code",none,(.fields (ar [s z35 300,s z35 301,s z1 302,i 25 0,i 1 0,i 0 0,i 0 0,i 3 0,r 98,.bool true,i 181 0,r 99,.none,r 100,r 101,r 102,i 304 0,i 25 0,s z1 305])),ar []⟩
def o104:Obj:=⟨.type "function",none,(fnD z35 z35 (d1 8) .none .none .none (s z6 194) none (r 103) .none),ar []⟩
def o105:Obj:=⟨.type "tuple",none,(.seq (ar []) 0),ar []⟩
def o106:Obj:=⟨.none,none,(.fields (ar [])),ar []⟩
def o107:Obj:=⟨.type "tuple",none,(.seq (ar [s z38 310,s z37 311]) 0),ar []⟩
def o108:Obj:=⟨.type "tuple",none,(.seq (ar []) 0),ar []⟩
def o109:Obj:=⟨.none,none,(fnD z36 z36 (d1 9) .none .none .none .none none .none .none (g:=0) (b:=0)),ar []⟩
def o110:Obj:=⟨.type "code",none,(.fields (ar [s z36 307,s z36 308,s z1 309,i 27 0,i 2 0,i 0 0,i 0 0,i 3 0,r 105,.bool true,i 181 0,r 106,.none,r 107,r 108,r 109,i 312 0,i 27 0,s z1 313])),ar []⟩
def o111:Obj:=⟨.type "function",none,(fnD z36 z36 (d1 9) .none .none .none (s z6 194) none (r 110) .none),ar []⟩
def o3_2 (P:Params):Obj:=⟨.type "dict",none,(.dict (ar (([e z5 165 (s z39 412),e z7 166 .none,e z8 167 .none,e z9 168 (.builtin "__main__.__loader__#opaque"),e z10 169 .none,e z11 170 (r 6),e z12 171 (r 4),e z13 173 (s z1 172),e z14 174 .none,e z15 193 (r 21),e z16 197 (i 10 196),e z17 235 (r 46),e z18 251 (r 59),e z32 267 (r 71),e z33 283 (r 83),e z34 299 (r 95),e z35 306 (r 104),e z36 314 (r 111),e z40 322 (r 118),e z41 333 (r 125),e z42 339 (r 130),e z43 348 (r 137),e z44 357 (r 144),e z45 411 (r 175),e z46 415 (i 63 414)]:List (Params→DictEntry)).map (· P))) 25),ar []⟩
def o12_2:Obj:=⟨.none,none,(.fields (ar [i 1 0,i 0 0,r 20,i 6 0,i 0 0,r 27,i 17 0,i 0 0,r 55,i 19 0,i 0 0,r 67,i 21 0,i 0 0,r 79,i 23 0,i 0 0,r 91,i 25 0,i 0 0,r 103,i 27 0,i 0 0,r 110,i 29 0,i 0 0,r 117,i 31 0,i 0 0,r 124,i 38 0,i 0 0,r 129,i 44 0,i 0 0,r 136,i 53 0,i 0 0,r 143,i 61 0,i 0 0,r 150])),ar []⟩
def o112:Obj:=⟨.type "tuple",none,(.seq (ar []) 0),ar []⟩
def o113:Obj:=⟨.none,none,(.fields (ar [])),ar []⟩
def o114:Obj:=⟨.type "tuple",none,(.seq (ar [s z38 318,s z37 319]) 0),ar []⟩
def o115:Obj:=⟨.type "tuple",none,(.seq (ar []) 0),ar []⟩
def o116:Obj:=⟨.none,none,(fnD z40 z40 (d1 10) .none .none .none .none none .none .none (g:=0) (b:=0)),ar []⟩
def o117:Obj:=⟨.type "code",none,(.fields (ar [s z40 315,s z40 316,s z1 317,i 29 0,i 2 0,i 0 0,i 0 0,i 3 0,r 112,.bool true,i 181 0,r 113,.none,r 114,r 115,r 116,i 320 0,i 29 0,s z1 321])),ar []⟩
def o118:Obj:=⟨.type "function",none,(fnD z40 z40 (d1 10) .none .none .none (s z6 194) none (r 117) .none),ar []⟩
def o119:Obj:=⟨.type "tuple",none,(.seq (ar []) 0),ar []⟩
def o120:Obj:=⟨.none,none,(.fields (ar [])),ar []⟩
def o121:Obj:=⟨.type "tuple",none,(.seq (ar [s z38 326,s z47 327,s z48 328,s z49 329,s z50 330]) 0),ar []⟩
def o122:Obj:=⟨.type "tuple",none,(.seq (ar []) 0),ar []⟩
def o123:Obj:=⟨.none,none,(fnD z41 z41 (d1 11) .none .none .none .none none .none .none (g:=0) (b:=0)),ar []⟩
def o124:Obj:=⟨.type "code",none,(.fields (ar [s z41 323,s z41 324,s z1 325,i 31 0,i 2 0,i 0 0,i 0 0,i 3 0,r 119,.bool true,i 181 0,r 120,.none,r 121,r 122,r 123,i 331 0,i 31 0,s z1 332])),ar []⟩
def o125:Obj:=⟨.type "function",none,(fnD z41 z41 (d1 11) .none .none .none (s z6 194) none (r 124) .none),ar []⟩
def o126:Obj:=⟨.type "tuple",none,(.seq (ar []) 0),ar []⟩
def o127:Obj:=⟨.none,none,(.fields (ar [])),ar []⟩
def o128:Obj:=⟨.none,none,(fnD z42 z42 (d1 12) .none .none .none .none none .none .none (g:=0) (b:=0)),ar []⟩
def o129:Obj:=⟨.type "code",none,(.fields (ar [s z42 334,s z42 335,s z1 336,i 38 0,i 1 0,i 0 0,i 0 0,i 3 0,r 126,.bool true,i 181 0,r 127,.none,.none,.none,r 128,i 337 0,i 38 0,s z1 338])),ar []⟩
def o130:Obj:=⟨.type "function",none,(fnD z42 z42 (d1 12) .none .none .none (s z6 194) none (r 129) .none),ar []⟩
def o131:Obj:=⟨.type "tuple",none,(.seq (ar []) 0),ar []⟩
def o132:Obj:=⟨.none,none,(.fields (ar [])),ar []⟩
def o133:Obj:=⟨.type "tuple",none,(.seq (ar [s z38 343,s z51 344,s z48 345]) 0),ar []⟩
def o134:Obj:=⟨.type "tuple",none,(.seq (ar []) 0),ar []⟩
def o135:Obj:=⟨.none,none,(fnD z43 z43 (d1 13) .none .none .none .none none .none .none (g:=0) (b:=0)),ar []⟩
def o136:Obj:=⟨.type "code",none,(.fields (ar [s z43 340,s z43 341,s z1 342,i 44 0,i 1 0,i 0 0,i 0 0,i 3 0,r 131,.bool true,i 181 0,r 132,.none,r 133,r 134,r 135,i 346 0,i 44 0,s z1 347])),ar []⟩
def o137:Obj:=⟨.type "function",none,(fnD z43 z43 (d1 13) .none .none .none (s z6 194) none (r 136) .none),ar []⟩
def o138:Obj:=⟨.type "tuple",none,(.seq (ar []) 0),ar []⟩
def o139:Obj:=⟨.none,none,(.fields (ar [])),ar []⟩
def o140:Obj:=⟨.type "tuple",none,(.seq (ar [s z38 352,s z51 353,s z48 354]) 0),ar []⟩
def o141:Obj:=⟨.type "tuple",none,(.seq (ar []) 0),ar []⟩
def o142:Obj:=⟨.none,none,(fnD z44 z44 (d1 14) .none .none .none .none none .none .none (g:=0) (b:=0)),ar []⟩
def o143:Obj:=⟨.type "code",none,(.fields (ar [s z44 349,s z44 350,s z1 351,i 53 0,i 1 0,i 0 0,i 0 0,i 3 0,r 138,.bool true,i 181 0,r 139,.none,r 140,r 141,r 142,i 355 0,i 53 0,s z1 356])),ar []⟩
def o144:Obj:=⟨.type "function",none,(fnD z44 z44 (d1 14) .none .none .none (s z6 194) none (r 143) .none),ar []⟩
def o145:Obj:=⟨.type "tuple",none,(.seq (ar []) 0),ar []⟩
def o146:Obj:=⟨.type "builtin_function_or_method",none,(.fields (ar [.builtin "type.__prepare__",.type "type"])),ar []⟩
def o147 (P:Params):Obj:=⟨.type "dict",none,(.dict (ar (([e z20 367 (s z52 358),e z21 369 (s z45 368),e z22 371 (i 61 370),e z23 383 (r 158),e z24 390 (r 165),e z53 398 (r 172),e z25 404 (r 173)]:List (Params→DictEntry)).map (· P))) 7),ar []⟩
def o148:Obj:=⟨.type "tuple",none,(.seq (ar []) 0),ar []⟩
def o149:Obj:=⟨.none,none,(.fields (ar [i 63 0,i 4 0,r 157,i 70 0,i 4 0,r 164,i 73 0,i 4 0,r 171])),ar []⟩
def o150:Obj:=⟨.type "code",none,(.fields (ar [s z45 362,s z45 363,s z1 364,i 61 0,i 0 0,i 0 0,i 0 0,i 0 0,r 148,.bool false,i 181 0,r 149,.none,.none,.none,.none,i 365 0,i 61 0,s z1 366])),ar []⟩
def o151:Obj:=⟨.type "frame",none,.plain,ar [some (r 150),some (r 3),some (r 147),none,some (s z52 358),none,some (r 0)]⟩
def o152:Obj:=⟨.type "tuple",none,(.seq (ar []) 0),ar []⟩
def o153:Obj:=⟨.none,none,(.fields (ar [])),ar []⟩
def o154:Obj:=⟨.type "tuple",none,(.seq (ar [s z26 375,s z28 376,s z47 377,s z54 378,s z38 379,s z55 380]) 0),ar []⟩
def o155:Obj:=⟨.type "tuple",none,(.seq (ar []) 0),ar []⟩
def o156:Obj:=⟨.none,none,(fnD z23 z56 (d2 16 0) .none .none .none .none none .none .none (g:=0) (b:=0)),ar []⟩
def o157:Obj:=⟨.type "code",none,(.fields (ar [s z23 372,s z56 373,s z1 374,i 63 0,i 6 0,i 0 0,i 0 0,i 3 0,r 152,.bool true,i 181 0,r 153,.none,r 154,r 155,r 156,i 381 0,i 63 0,s z1 382])),ar []⟩
def o158:Obj:=⟨.type "function",none,(fnD z23 z56 (d2 16 0) .none .none .none (s z52 358) none (r 157) .none),ar []⟩
def o159:Obj:=⟨.type "tuple",none,(.seq (ar []) 0),ar []⟩
def o160:Obj:=⟨.none,none,(.fields (ar [])),ar []⟩
def o161:Obj:=⟨.type "tuple",none,(.seq (ar [s z26 387]) 0),ar []⟩
def o162:Obj:=⟨.type "tuple",none,(.seq (ar []) 0),ar []⟩
def o163:Obj:=⟨.none,none,(fnD z24 z57 (d2 16 1) .none .none .none .none none .none .none (g:=0) (b:=0)),ar []⟩
def o164:Obj:=⟨.type "code",none,(.fields (ar [s z24 384,s z57 385,s z1 386,i 70 0,i 1 0,i 0 0,i 0 0,i 3 0,r 159,.bool true,i 181 0,r 160,.none,r 161,r 162,r 163,i 388 0,i 70 0,s z1 389])),ar []⟩
def o165:Obj:=⟨.type "function",none,(fnD z24 z57 (d2 16 1) .none .none .none (s z52 358) none (r 164) .none),ar []⟩
def o166:Obj:=⟨.type "tuple",none,(.seq (ar []) 0),ar []⟩
def o167:Obj:=⟨.none,none,(.fields (ar [])),ar []⟩
def o168:Obj:=⟨.type "tuple",none,(.seq (ar [s z26 394,s z58 395]) 0),ar []⟩
def o169:Obj:=⟨.type "tuple",none,(.seq (ar []) 0),ar []⟩
def o170:Obj:=⟨.none,none,(fnD z53 z59 (d2 16 2) .none .none .none .none none .none .none (g:=0) (b:=0)),ar []⟩
def o171:Obj:=⟨.type "code",none,(.fields (ar [s z53 391,s z59 392,s z1 393,i 73 0,i 2 0,i 0 0,i 0 0,i 3 0,r 166,.bool true,i 181 0,r 167,.none,r 168,r 169,r 170,i 396 0,i 73 0,s z1 397])),ar []⟩
def o172:Obj:=⟨.type "function",none,(fnD z53 z59 (d2 16 2) .none .none .none (s z52 358) none (r 171) .none),ar []⟩
def o173:Obj:=⟨.type "tuple",none,(.seq (ar [s z28 399,s z54 400,s z55 401,s z47 402,s z38 403]) 0),ar []⟩
def o174 (P:Params):Obj:=⟨.type "dict",none,(.dict (ar (([e z20 367 (s z52 358),e z22 371 (i 61 370),e z23 383 (r 158),e z24 390 (r 165),e z53 398 (r 172),e z25 404 (r 173),e z60 406 (r 176),e z31 408 (r 177),e z7 409 .none]:List (Params→DictEntry)).map (· P))) 4),ar []⟩
def o175:Obj:=⟨.type "type",none,(.cls { name:=z45,bases:=[.type "object"],mro:=[r 175,.type "object"],ns:=174,qualname:=z45,hasDict:=true,slotNames:=[],subclasses:=[],abstract:=false,collection:=none,hasDel:=false }),ar [none,none,some (s z45 360),some (s z45 368),some (.builtin "object.__new__"),some (.bool true)]⟩
def o176:Obj:=⟨.type "getset_descriptor",none,(.fields (ar [s z60 405,r 175,.builtin "function.__dict__",.builtin "function.__dict__#set"])),ar []⟩
def o177:Obj:=⟨.type "getset_descriptor",none,(.fields (ar [s z31 407,r 175,.builtin "ExceptionGroup.__weakref__",.none])),ar []⟩
def o178:Obj:=⟨.type "super",none,(.fields (ar [r 175,r 175,r 175])),ar []⟩
def o179:Obj:=⟨.type "builtin_function_or_method",none,(.fields (ar [.builtin "object.__init_subclass__",r 175])),ar []⟩
def o3_3 (P:Params):Obj:=⟨.type "dict",none,(.dict (ar (([e z5 165 (s z39 412),e z7 166 .none,e z8 167 .none,e z9 168 (.builtin "__main__.__loader__#opaque"),e z10 169 .none,e z11 170 (r 6),e z12 171 (r 4),e z13 173 (s z1 172),e z14 174 .none,e z15 193 (r 21),e z16 197 (i 10 196),e z17 235 (r 46),e z18 251 (r 59),e z32 267 (r 71),e z33 283 (r 83),e z34 299 (r 95),e z35 306 (r 104),e z36 314 (r 111),e z40 322 (r 118),e z41 333 (r 125),e z42 339 (r 130),e z43 348 (r 137),e z44 357 (r 144),e z45 411 (r 175),e z46 415 (i 63 414),e z61 451 (r 203),e z62 484 (r 231)]:List (Params→DictEntry)).map (· P))) 27),ar []⟩
def o12_3:Obj:=⟨.none,none,(.fields (ar [i 1 0,i 0 0,r 20,i 6 0,i 0 0,r 27,i 17 0,i 0 0,r 55,i 19 0,i 0 0,r 67,i 21 0,i 0 0,r 79,i 23 0,i 0 0,r 91,i 25 0,i 0 0,r 103,i 27 0,i 0 0,r 110,i 29 0,i 0 0,r 117,i 31 0,i 0 0,r 124,i 38 0,i 0 0,r 129,i 44 0,i 0 0,r 136,i 53 0,i 0 0,r 143,i 61 0,i 0 0,r 150,i 77 0,i 0 0,r 185,i 84 0,i 0 0,r 213])),ar []⟩
def o180:Obj:=⟨.type "tuple",none,(.seq (ar []) 0),ar []⟩
def o181:Obj:=⟨.type "builtin_function_or_method",none,(.fields (ar [.builtin "type.__prepare__",.type "type"])),ar []⟩
def o182 (P:Params):Obj:=⟨.type "dict",none,(.dict (ar (([e z20 423 (s z39 412),e z21 425 (s z61 424),e z22 427 (i 77 426),e z23 435 (r 193),e z24 442 (r 200),e z25 444 (r 201)]:List (Params→DictEntry)).map (· P))) 6),ar []⟩
def o183:Obj:=⟨.type "tuple",none,(.seq (ar []) 0),ar []⟩
def o184:Obj:=⟨.none,none,(.fields (ar [i 79 0,i 4 0,r 192,i 82 0,i 4 0,r 199])),ar []⟩
def o185:Obj:=⟨.type "code",none,(.fields (ar [s z61 418,s z61 419,s z1 420,i 77 0,i 0 0,i 0 0,i 0 0,i 0 0,r 183,.bool false,i 181 0,r 184,.none,.none,.none,.none,i 421 0,i 77 0,s z1 422])),ar []⟩
def o186:Obj:=⟨.type "frame",none,.plain,ar [some (r 185),some (r 3),some (r 182),none,some (s z39 412),none,some (r 0)]⟩
def o187:Obj:=⟨.type "tuple",none,(.seq (ar []) 0),ar []⟩
def o188:Obj:=⟨.none,none,(.fields (ar [])),ar []⟩
def o189:Obj:=⟨.type "tuple",none,(.seq (ar [s z26 431,s z63 432]) 0),ar []⟩
def o190:Obj:=⟨.type "tuple",none,(.seq (ar []) 0),ar []⟩
def o191:Obj:=⟨.none,none,(fnD z23 z64 (d2 19 0) .none .none .none .none none .none .none (g:=0) (b:=0)),ar []⟩
def o192:Obj:=⟨.type "code",none,(.fields (ar [s z23 428,s z64 429,s z1 430,i 79 0,i 2 0,i 0 0,i 0 0,i 3 0,r 187,.bool true,i 181 0,r 188,.none,r 189,r 190,r 191,i 433 0,i 79 0,s z1 434])),ar []⟩
def o193:Obj:=⟨.type "function",none,(fnD z23 z64 (d2 19 0) .none .none .none (s z39 412) none (r 192) .none),ar []⟩
def o194:Obj:=⟨.type "tuple",none,(.seq (ar []) 0),ar []⟩
def o195:Obj:=⟨.none,none,(.fields (ar [])),ar []⟩
def o196:Obj:=⟨.type "tuple",none,(.seq (ar [s z26 439]) 0),ar []⟩
def o197:Obj:=⟨.type "tuple",none,(.seq (ar []) 0),ar []⟩
def o198:Obj:=⟨.none,none,(fnD z24 z65 (d2 19 1) .none .none .none .none none .none .none (g:=0) (b:=0)),ar []⟩
def o199:Obj:=⟨.type "code",none,(.fields (ar [s z24 436,s z65 437,s z1 438,i 82 0,i 1 0,i 0 0,i 0 0,i 3 0,r 194,.bool true,i 181 0,r 195,.none,r 196,r 197,r 198,i 440 0,i 82 0,s z1 441])),ar []⟩
def o200:Obj:=⟨.type "function",none,(fnD z24 z65 (d2 19 1) .none .none .none (s z39 412) none (r 199) .none),ar []⟩
def o201:Obj:=⟨.type "tuple",none,(.seq (ar [s z63 443]) 0),ar []⟩
def o202 (P:Params):Obj:=⟨.type "dict",none,(.dict (ar (([e z20 423 (s z39 412),e z22 427 (i 77 426),e z23 435 (r 193),e z24 442 (r 200),e z25 444 (r 201),e z60 446 (r 204),e z31 448 (r 205),e z7 449 .none]:List (Params→DictEntry)).map (· P))) 4),ar []⟩
def o203:Obj:=⟨.type "type",none,(.cls { name:=z61,bases:=[.type "object"],mro:=[r 203,.type "object"],ns:=202,qualname:=z61,hasDict:=true,slotNames:=[],subclasses:=[r 231],abstract:=false,collection:=none,hasDel:=false }),ar [none,none,some (s z61 416),some (s z61 424),some (.builtin "object.__new__"),some (.bool true)]⟩
def o204:Obj:=⟨.type "getset_descriptor",none,(.fields (ar [s z60 445,r 203,.builtin "function.__dict__",.builtin "function.__dict__#set"])),ar []⟩
def o205:Obj:=⟨.type "getset_descriptor",none,(.fields (ar [s z31 447,r 203,.builtin "ExceptionGroup.__weakref__",.none])),ar []⟩
def o206:Obj:=⟨.type "super",none,(.fields (ar [r 203,r 203,r 203])),ar []⟩
def o207:Obj:=⟨.type "builtin_function_or_method",none,(.fields (ar [.builtin "object.__init_subclass__",r 203])),ar []⟩
def o208:Obj:=⟨.type "tuple",none,(.seq (ar [r 203]) 0),ar []⟩
def o209:Obj:=⟨.type "builtin_function_or_method",none,(.fields (ar [.builtin "type.__prepare__",.type "type"])),ar []⟩
def o210 (P:Params):Obj:=⟨.type "dict",none,(.dict (ar (([e z20 459 (s z39 412),e z21 461 (s z62 460),e z22 463 (i 84 462),e z23 471 (r 221),e z24 478 (r 228),e z25 481 (r 229)]:List (Params→DictEntry)).map (· P))) 6),ar []⟩
def o211:Obj:=⟨.type "tuple",none,(.seq (ar []) 0),ar []⟩
def o212:Obj:=⟨.none,none,(.fields (ar [i 86 0,i 4 0,r 220,i 90 0,i 4 0,r 227])),ar []⟩
def o213:Obj:=⟨.type "code",none,(.fields (ar [s z62 454,s z62 455,s z1 456,i 84 0,i 0 0,i 0 0,i 0 0,i 0 0,r 211,.bool false,i 181 0,r 212,.none,.none,.none,.none,i 457 0,i 84 0,s z1 458])),ar []⟩
def o214:Obj:=⟨.type "frame",none,.plain,ar [some (r 213),some (r 3),some (r 210),none,some (s z39 412),none,some (r 0)]⟩
def o215:Obj:=⟨.type "tuple",none,(.seq (ar []) 0),ar []⟩
def o216:Obj:=⟨.none,none,(.fields (ar [])),ar []⟩
def o217:Obj:=⟨.type "tuple",none,(.seq (ar [s z26 467,s z38 468]) 0),ar []⟩
def o218:Obj:=⟨.type "tuple",none,(.seq (ar []) 0),ar []⟩
def o219:Obj:=⟨.none,none,(fnD z23 z66 (d2 20 0) .none .none .none .none none .none .none (g:=0) (b:=0)),ar []⟩
def o220:Obj:=⟨.type "code",none,(.fields (ar [s z23 464,s z66 465,s z1 466,i 86 0,i 2 0,i 0 0,i 0 0,i 3 0,r 215,.bool true,i 181 0,r 216,.none,r 217,r 218,r 219,i 469 0,i 86 0,s z1 470])),ar []⟩
def o221:Obj:=⟨.type "function",none,(fnD z23 z66 (d2 20 0) .none .none .none (s z39 412) none (r 220) .none),ar []⟩
def o222:Obj:=⟨.type "tuple",none,(.seq (ar []) 0),ar []⟩
def o223:Obj:=⟨.none,none,(.fields (ar [])),ar []⟩
def o224:Obj:=⟨.type "tuple",none,(.seq (ar [s z26 475]) 0),ar []⟩
def o225:Obj:=⟨.type "tuple",none,(.seq (ar []) 0),ar []⟩
def o226:Obj:=⟨.none,none,(fnD z24 z67 (d2 20 1) .none .none .none .none none .none .none (g:=0) (b:=0)),ar []⟩
def o227:Obj:=⟨.type "code",none,(.fields (ar [s z24 472,s z67 473,s z1 474,i 90 0,i 1 0,i 0 0,i 0 0,i 3 0,r 222,.bool true,i 181 0,r 223,.none,r 224,r 225,r 226,i 476 0,i 90 0,s z1 477])),ar []⟩
def o228:Obj:=⟨.type "function",none,(fnD z24 z67 (d2 20 1) .none .none .none (s z39 412) none (r 227) .none),ar []⟩
def o229:Obj:=⟨.type "tuple",none,(.seq (ar [s z63 479,s z38 480]) 0),ar []⟩
def o230 (P:Params):Obj:=⟨.type "dict",none,(.dict (ar (([e z20 459 (s z39 412),e z22 463 (i 84 462),e z23 471 (r 221),e z24 478 (r 228),e z25 481 (r 229),e z7 482 .none]:List (Params→DictEntry)).map (· P))) 2),ar []⟩
def o231:Obj:=⟨.type "type",none,(.cls { name:=z62,bases:=[r 203],mro:=[r 231,r 203,.type "object"],ns:=230,qualname:=z62,hasDict:=true,slotNames:=[],subclasses:=[],abstract:=false,collection:=none,hasDel:=false }),ar [some (r 208),none,some (s z62 452),some (s z62 460),some (.builtin "object.__new__"),some (.bool true)]⟩
def o232:Obj:=⟨.type "super",none,(.fields (ar [r 231,r 231,r 231])),ar []⟩
def o233:Obj:=⟨.type "builtin_function_or_method",none,(.fields (ar [.builtin "object.__init_subclass__",r 231])),ar []⟩
def o3_4 (P:Params):Obj:=⟨.type "dict",none,(.dict (ar (([e z5 165 (s z39 412),e z7 166 .none,e z8 167 .none,e z9 168 (.builtin "__main__.__loader__#opaque"),e z10 169 .none,e z11 170 (r 6),e z12 171 (r 4),e z13 173 (s z1 172),e z14 174 .none,e z15 193 (r 21),e z16 197 (i 10 196),e z17 235 (r 46),e z18 251 (r 59),e z32 267 (r 71),e z33 283 (r 83),e z34 299 (r 95),e z35 306 (r 104),e z36 314 (r 111),e z40 322 (r 118),e z41 333 (r 125),e z42 339 (r 130),e z43 348 (r 137),e z44 357 (r 144),e z45 411 (r 175),e z46 415 (i 63 414),e z61 451 (r 203),e z62 484 (r 231),e z68 517 (r 257),e z69 558 (r 283),e z70 567 (r 292)]:List (Params→DictEntry)).map (· P))) 30),ar []⟩
def o12_4:Obj:=⟨.none,none,(.fields (ar [i 1 0,i 0 0,r 20,i 6 0,i 0 0,r 27,i 17 0,i 0 0,r 55,i 19 0,i 0 0,r 67,i 21 0,i 0 0,r 79,i 23 0,i 0 0,r 91,i 25 0,i 0 0,r 103,i 27 0,i 0 0,r 110,i 29 0,i 0 0,r 117,i 31 0,i 0 0,r 124,i 38 0,i 0 0,r 129,i 44 0,i 0 0,r 136,i 53 0,i 0 0,r 143,i 61 0,i 0 0,r 150,i 77 0,i 0 0,r 185,i 84 0,i 0 0,r 213,i 92 0,i 0 0,r 239,i 100 0,i 0 0,r 265,i 114 0,i 0 0,r 291])),ar []⟩
def o203_4:Obj:=⟨.type "type",none,(.cls { name:=z61,bases:=[.type "object"],mro:=[r 203,.type "object"],ns:=202,qualname:=z61,hasDict:=true,slotNames:=[],subclasses:=[r 231,r 257,r 283],abstract:=false,collection:=none,hasDel:=false }),ar [none,none,some (s z61 416),some (s z61 424),some (.builtin "object.__new__"),some (.bool true)]⟩
def o234:Obj:=⟨.type "tuple",none,(.seq (ar [r 203]) 0),ar []⟩
def o235:Obj:=⟨.type "builtin_function_or_method",none,(.fields (ar [.builtin "type.__prepare__",.type "type"])),ar []⟩
def o236 (P:Params):Obj:=⟨.type "dict",none,(.dict (ar (([e z20 492 (s z39 412),e z21 494 (s z68 493),e z22 496 (i 92 495),e z23 504 (r 247),e z24 511 (r 254),e z25 514 (r 255)]:List (Params→DictEntry)).map (· P))) 6),ar []⟩
def o237:Obj:=⟨.type "tuple",none,(.seq (ar []) 0),ar []⟩
def o238:Obj:=⟨.none,none,(.fields (ar [i 94 0,i 4 0,r 246,i 98 0,i 4 0,r 253])),ar []⟩
def o239:Obj:=⟨.type "code",none,(.fields (ar [s z68 487,s z68 488,s z1 489,i 92 0,i 0 0,i 0 0,i 0 0,i 0 0,r 237,.bool false,i 181 0,r 238,.none,.none,.none,.none,i 490 0,i 92 0,s z1 491])),ar []⟩
def o240:Obj:=⟨.type "frame",none,.plain,ar [some (r 239),some (r 3),some (r 236),none,some (s z39 412),none,some (r 0)]⟩
def o241:Obj:=⟨.type "tuple",none,(.seq (ar []) 0),ar []⟩
def o242:Obj:=⟨.none,none,(.fields (ar [])),ar []⟩
def o243:Obj:=⟨.type "tuple",none,(.seq (ar [s z26 500,s z54 501]) 0),ar []⟩
def o244:Obj:=⟨.type "tuple",none,(.seq (ar []) 0),ar []⟩
def o245:Obj:=⟨.none,none,(fnD z23 z71 (d2 21 0) .none .none .none .none none .none .none (g:=0) (b:=0)),ar []⟩
def o246:Obj:=⟨.type "code",none,(.fields (ar [s z23 497,s z71 498,s z1 499,i 94 0,i 2 0,i 0 0,i 0 0,i 3 0,r 241,.bool true,i 181 0,r 242,.none,r 243,r 244,r 245,i 502 0,i 94 0,s z1 503])),ar []⟩
def o247:Obj:=⟨.type "function",none,(fnD z23 z71 (d2 21 0) .none .none .none (s z39 412) none (r 246) .none),ar []⟩
def o248:Obj:=⟨.type "tuple",none,(.seq (ar []) 0),ar []⟩
def o249:Obj:=⟨.none,none,(.fields (ar [])),ar []⟩
def o250:Obj:=⟨.type "tuple",none,(.seq (ar [s z26 508]) 0),ar []⟩
def o251:Obj:=⟨.type "tuple",none,(.seq (ar []) 0),ar []⟩
def o252:Obj:=⟨.none,none,(fnD z24 z72 (d2 21 1) .none .none .none .none none .none .none (g:=0) (b:=0)),ar []⟩
def o253:Obj:=⟨.type "code",none,(.fields (ar [s z24 505,s z72 506,s z1 507,i 98 0,i 1 0,i 0 0,i 0 0,i 3 0,r 248,.bool true,i 181 0,r 249,.none,r 250,r 251,r 252,i 509 0,i 98 0,s z1 510])),ar []⟩
def o254:Obj:=⟨.type "function",none,(fnD z24 z72 (d2 21 1) .none .none .none (s z39 412) none (r 253) .none),ar []⟩
def o255:Obj:=⟨.type "tuple",none,(.seq (ar [s z63 512,s z54 513]) 0),ar []⟩
def o256 (P:Params):Obj:=⟨.type "dict",none,(.dict (ar (([e z20 492 (s z39 412),e z22 496 (i 92 495),e z23 504 (r 247),e z24 511 (r 254),e z25 514 (r 255),e z7 515 .none]:List (Params→DictEntry)).map (· P))) 2),ar []⟩
def o257:Obj:=⟨.type "type",none,(.cls { name:=z68,bases:=[r 203],mro:=[r 257,r 203,.type "object"],ns:=256,qualname:=z68,hasDict:=true,slotNames:=[],subclasses:=[],abstract:=false,collection:=none,hasDel:=false }),ar [some (r 234),none,some (s z68 485),some (s z68 493),some (.builtin "object.__new__"),some (.bool true)]⟩
def o258:Obj:=⟨.type "super",none,(.fields (ar [r 257,r 257,r 257])),ar []⟩
def o259:Obj:=⟨.type "builtin_function_or_method",none,(.fields (ar [.builtin "object.__init_subclass__",r 257])),ar []⟩
def o260:Obj:=⟨.type "tuple",none,(.seq (ar [r 203]) 0),ar []⟩
def o261:Obj:=⟨.type "builtin_function_or_method",none,(.fields (ar [.builtin "type.__prepare__",.type "type"])),ar []⟩
def o262 (P:Params):Obj:=⟨.type "dict",none,(.dict (ar (([e z20 525 (s z39 412),e z21 527 (s z69 526),e z22 529 (i 100 528),e z23 539 (r 273),e z24 550 (r 280),e z25 555 (r 281)]:List (Params→DictEntry)).map (· P))) 6),ar []⟩
def o263:Obj:=⟨.type "tuple",none,(.seq (ar []) 0),ar []⟩
def o264:Obj:=⟨.none,none,(.fields (ar [i 102 0,i 4 0,r 272,i 108 0,i 4 0,r 279])),ar []⟩
def o265:Obj:=⟨.type "code",none,(.fields (ar [s z69 520,s z69 521,s z1 522,i 100 0,i 0 0,i 0 0,i 0 0,i 0 0,r 263,.bool false,i 181 0,r 264,.none,.none,.none,.none,i 523 0,i 100 0,s z1 524])),ar []⟩
def o266:Obj:=⟨.type "frame",none,.plain,ar [some (r 265),some (r 3),some (r 262),none,some (s z39 412),none,some (r 0)]⟩
def o267:Obj:=⟨.type "tuple",none,(.seq (ar []) 0),ar []⟩
def o268:Obj:=⟨.none,none,(.fields (ar [])),ar []⟩
def o269:Obj:=⟨.type "tuple",none,(.seq (ar [s z26 533,s z73 534,s z74 535,s z75 536]) 0),ar []⟩
def o270:Obj:=⟨.type "tuple",none,(.seq (ar []) 0),ar []⟩
def o271:Obj:=⟨.none,none,(fnD z23 z76 (d2 22 0) .none .none .none .none none .none .none (g:=0) (b:=0)),ar []⟩
def o272:Obj:=⟨.type "code",none,(.fields (ar [s z23 530,s z76 531,s z1 532,i 102 0,i 4 0,i 0 0,i 0 0,i 3 0,r 267,.bool true,i 181 0,r 268,.none,r 269,r 270,r 271,i 537 0,i 102 0,s z1 538])),ar []⟩
def o273:Obj:=⟨.type "function",none,(fnD z23 z76 (d2 22 0) .none .none .none (s z39 412) none (r 272) .none),ar []⟩
def o274:Obj:=⟨.type "tuple",none,(.seq (ar []) 0),ar []⟩
def o275:Obj:=⟨.none,none,(.fields (ar [])),ar []⟩
def o276:Obj:=⟨.type "tuple",none,(.seq (ar [s z26 543,s z77 544,s z78 545,s z38 546,s z79 547]) 0),ar []⟩
def o277:Obj:=⟨.type "tuple",none,(.seq (ar []) 0),ar []⟩
def o278:Obj:=⟨.none,none,(fnD z24 z80 (d2 22 1) .none .none .none .none none .none .none (g:=0) (b:=0)),ar []⟩
def o279:Obj:=⟨.type "code",none,(.fields (ar [s z24 540,s z80 541,s z1 542,i 108 0,i 1 0,i 0 0,i 0 0,i 3 0,r 274,.bool true,i 181 0,r 275,.none,r 276,r 277,r 278,i 548 0,i 108 0,s z1 549])),ar []⟩
def o280:Obj:=⟨.type "function",none,(fnD z24 z80 (d2 22 1) .none .none .none (s z39 412) none (r 279) .none),ar []⟩
def o281:Obj:=⟨.type "tuple",none,(.seq (ar [s z63 551,s z74 552,s z75 553,s z73 554]) 0),ar []⟩
def o282 (P:Params):Obj:=⟨.type "dict",none,(.dict (ar (([e z20 525 (s z39 412),e z22 529 (i 100 528),e z23 539 (r 273),e z24 550 (r 280),e z25 555 (r 281),e z7 556 .none]:List (Params→DictEntry)).map (· P))) 2),ar []⟩
def o283:Obj:=⟨.type "type",none,(.cls { name:=z69,bases:=[r 203],mro:=[r 283,r 203,.type "object"],ns:=282,qualname:=z69,hasDict:=true,slotNames:=[],subclasses:=[],abstract:=false,collection:=none,hasDel:=false }),ar [some (r 260),none,some (s z69 518),some (s z69 526),some (.builtin "object.__new__"),some (.bool true)]⟩
def o284:Obj:=⟨.type "super",none,(.fields (ar [r 283,r 283,r 283])),ar []⟩
def o285:Obj:=⟨.type "builtin_function_or_method",none,(.fields (ar [.builtin "object.__init_subclass__",r 283])),ar []⟩
def o286:Obj:=⟨.type "tuple",none,(.seq (ar []) 0),ar []⟩
def o287:Obj:=⟨.none,none,(.fields (ar [])),ar []⟩
def o288:Obj:=⟨.type "tuple",none,(.seq (ar [s z81 562,s z78 563,s z77 564]) 0),ar []⟩
def o289:Obj:=⟨.type "tuple",none,(.seq (ar []) 0),ar []⟩
def o290:Obj:=⟨.none,none,(fnD z70 z70 (d1 23) .none .none .none .none none .none .none (g:=0) (b:=0)),ar []⟩
def o291:Obj:=⟨.type "code",none,(.fields (ar [s z70 559,s z70 560,s z1 561,i 114 0,i 1 0,i 0 0,i 0 0,i 3 0,r 286,.bool true,i 181 0,r 287,.none,r 288,r 289,r 290,i 565 0,i 114 0,s z1 566])),ar []⟩
def o292:Obj:=⟨.type "function",none,(fnD z70 z70 (d1 23) .none .none .none (s z39 412) none (r 291) .none),ar []⟩
def o3_5 (P:Params):Obj:=⟨.type "dict",none,(.dict (ar (([e z5 165 (s z39 412),e z7 166 .none,e z8 167 .none,e z9 168 (.builtin "__main__.__loader__#opaque"),e z10 169 .none,e z11 170 (r 6),e z12 171 (r 4),e z13 173 (s z1 172),e z14 174 .none,e z15 193 (r 21),e z16 197 (i 10 196),e z17 235 (r 46),e z18 251 (r 59),e z32 267 (r 71),e z33 283 (r 83),e z34 299 (r 95),e z35 306 (r 104),e z36 314 (r 111),e z40 322 (r 118),e z41 333 (r 125),e z42 339 (r 130),e z43 348 (r 137),e z44 357 (r 144),e z45 411 (r 175),e z46 415 (i 63 414),e z61 451 (r 203),e z62 484 (r 231),e z68 517 (r 257),e z69 558 (r 283),e z70 567 (r 292),e z82 648 (r 352),e z83 654 (r 361)]:List (Params→DictEntry)).map (· P))) 32),ar []⟩
def o12_5:Obj:=⟨.none,none,(.fields (ar [i 1 0,i 0 0,r 20,i 6 0,i 0 0,r 27,i 17 0,i 0 0,r 55,i 19 0,i 0 0,r 67,i 21 0,i 0 0,r 79,i 23 0,i 0 0,r 91,i 25 0,i 0 0,r 103,i 27 0,i 0 0,r 110,i 29 0,i 0 0,r 117,i 31 0,i 0 0,r 124,i 38 0,i 0 0,r 129,i 44 0,i 0 0,r 136,i 53 0,i 0 0,r 143,i 61 0,i 0 0,r 150,i 77 0,i 0 0,r 185,i 84 0,i 0 0,r 213,i 92 0,i 0 0,r 239,i 100 0,i 0 0,r 265,i 114 0,i 0 0,r 291,i 122 0,i 0 0,r 298,i 154 0,i 0 0,r 360])),ar []⟩
def o293:Obj:=⟨.type "tuple",none,(.seq (ar []) 0),ar []⟩
def o294:Obj:=⟨.type "builtin_function_or_method",none,(.fields (ar [.builtin "type.__prepare__",.type "type"])),ar []⟩
def o295 (P:Params):Obj:=⟨.type "dict",none,(.dict (ar (([e z20 575 (s z39 412),e z21 577 (s z82 576),e z22 579 (i 122 578),e z23 591 (r 307),e z24 598 (r 314),e z84 605 (r 321),e z85 612 (r 328),e z86 619 (r 335),e z87 627 (r 342),e z88 637 (r 349),e z25 641 (r 350)]:List (Params→DictEntry)).map (· P))) 11),ar []⟩
def o296:Obj:=⟨.type "tuple",none,(.seq (ar []) 0),ar []⟩
def o297:Obj:=⟨.none,none,(.fields (ar [i 124 0,i 4 0,r 306,i 129 0,i 4 0,r 313,i 132 0,i 4 0,r 320,i 135 0,i 4 0,r 327,i 138 0,i 4 0,r 334,i 141 0,i 4 0,r 341,i 144 0,i 4 0,r 348])),ar []⟩
def o298:Obj:=⟨.type "code",none,(.fields (ar [s z82 570,s z82 571,s z1 572,i 122 0,i 0 0,i 0 0,i 0 0,i 0 0,r 296,.bool false,i 181 0,r 297,.none,.none,.none,.none,i 573 0,i 122 0,s z1 574])),ar []⟩
def o299:Obj:=⟨.type "frame",none,.plain,ar [some (r 298),some (r 3),some (r 295),none,some (s z39 412),none,some (r 0)]⟩
def o300:Obj:=⟨.type "tuple",none,(.seq (ar [s z89 580,s z89 581]) 0),ar []⟩
def o301:Obj:=⟨.type "tuple",none,(.seq (ar []) 0),ar []⟩
def o302:Obj:=⟨.none,none,(.fields (ar [])),ar []⟩
def o303:Obj:=⟨.type "tuple",none,(.seq (ar [s z26 585,s z38 586,s z90 587,s z91 588]) 0),ar []⟩
def o304:Obj:=⟨.type "tuple",none,(.seq (ar []) 0),ar []⟩
def o305:Obj:=⟨.none,none,(fnD z23 z92 (d2 24 0) .none .none .none .none none .none .none (g:=0) (b:=0)),ar []⟩
def o306:Obj:=⟨.type "code",none,(.fields (ar [s z23 582,s z92 583,s z1 584,i 124 0,i 4 0,i 0 0,i 0 0,i 3 0,r 301,.bool true,i 181 0,r 302,.none,r 303,r 304,r 305,i 589 0,i 124 0,s z1 590])),ar []⟩
def o307:Obj:=⟨.type "function",none,(fnD z23 z92 (d2 24 0) (r 300) .none .none (s z39 412) none (r 306) .none),ar []⟩
def o308:Obj:=⟨.type "tuple",none,(.seq (ar []) 0),ar []⟩
def o309:Obj:=⟨.none,none,(.fields (ar [])),ar []⟩
def o310:Obj:=⟨.type "tuple",none,(.seq (ar [s z26 595]) 0),ar []⟩
def o311:Obj:=⟨.type "tuple",none,(.seq (ar []) 0),ar []⟩
def o312:Obj:=⟨.none,none,(fnD z24 z93 (d2 24 1) .none .none .none .none none .none .none (g:=0) (b:=0)),ar []⟩
def o313:Obj:=⟨.type "code",none,(.fields (ar [s z24 592,s z93 593,s z1 594,i 129 0,i 1 0,i 0 0,i 0 0,i 3 0,r 308,.bool true,i 181 0,r 309,.none,r 310,r 311,r 312,i 596 0,i 129 0,s z1 597])),ar []⟩
def o314:Obj:=⟨.type "function",none,(fnD z24 z93 (d2 24 1) .none .none .none (s z39 412) none (r 313) .none),ar []⟩
def o315:Obj:=⟨.type "tuple",none,(.seq (ar []) 0),ar []⟩
def o316:Obj:=⟨.none,none,(.fields (ar [])),ar []⟩
def o317:Obj:=⟨.type "tuple",none,(.seq (ar [s z26 602]) 0),ar []⟩
def o318:Obj:=⟨.type "tuple",none,(.seq (ar []) 0),ar []⟩
def o319:Obj:=⟨.none,none,(fnD z84 z94 (d2 24 2) .none .none .none .none none .none .none (g:=0) (b:=0)),ar []⟩
def o320:Obj:=⟨.type "code",none,(.fields (ar [s z84 599,s z94 600,s z1 601,i 132 0,i 1 0,i 0 0,i 0 0,i 3 0,r 315,.bool true,i 181 0,r 316,.none,r 317,r 318,r 319,i 603 0,i 132 0,s z1 604])),ar []⟩
def o321:Obj:=⟨.type "function",none,(fnD z84 z94 (d2 24 2) .none .none .none (s z39 412) none (r 320) .none),ar []⟩
def o322:Obj:=⟨.type "tuple",none,(.seq (ar []) 0),ar []⟩
def o323:Obj:=⟨.none,none,(.fields (ar [])),ar []⟩
def o324:Obj:=⟨.type "tuple",none,(.seq (ar [s z26 609]) 0),ar []⟩
def o325:Obj:=⟨.type "tuple",none,(.seq (ar []) 0),ar []⟩
def o326:Obj:=⟨.none,none,(fnD z85 z95 (d2 24 3) .none .none .none .none none .none .none (g:=0) (b:=0)),ar []⟩
def o327:Obj:=⟨.type "code",none,(.fields (ar [s z85 606,s z95 607,s z1 608,i 135 0,i 1 0,i 0 0,i 0 0,i 3 0,r 322,.bool true,i 181 0,r 323,.none,r 324,r 325,r 326,i 610 0,i 135 0,s z1 611])),ar []⟩
def o328:Obj:=⟨.type "function",none,(fnD z85 z95 (d2 24 3) .none .none .none (s z39 412) none (r 327) .none),ar []⟩
def o329:Obj:=⟨.type "tuple",none,(.seq (ar []) 0),ar []⟩
def o330:Obj:=⟨.none,none,(.fields (ar [])),ar []⟩
def o331:Obj:=⟨.type "tuple",none,(.seq (ar [s z26 616]) 0),ar []⟩
def o332:Obj:=⟨.type "tuple",none,(.seq (ar []) 0),ar []⟩
def o333:Obj:=⟨.none,none,(fnD z86 z96 (d2 24 4) .none .none .none .none none .none .none (g:=0) (b:=0)),ar []⟩
def o334:Obj:=⟨.type "code",none,(.fields (ar [s z86 613,s z96 614,s z1 615,i 138 0,i 1 0,i 0 0,i 0 0,i 3 0,r 329,.bool true,i 181 0,r 330,.none,r 331,r 332,r 333,i 617 0,i 138 0,s z1 618])),ar []⟩
def o335:Obj:=⟨.type "function",none,(fnD z86 z96 (d2 24 4) .none .none .none (s z39 412) none (r 334) .none),ar []⟩
def o336:Obj:=⟨.type "tuple",none,(.seq (ar []) 0),ar []⟩
def o337:Obj:=⟨.none,none,(.fields (ar [])),ar []⟩
def o338:Obj:=⟨.type "tuple",none,(.seq (ar [s z26 623,s z97 624]) 0),ar []⟩
def o339:Obj:=⟨.type "tuple",none,(.seq (ar []) 0),ar []⟩
def o340:Obj:=⟨.none,none,(fnD z87 z98 (d2 24 5) .none .none .none .none none .none .none (g:=0) (b:=0)),ar []⟩
def o341:Obj:=⟨.type "code",none,(.fields (ar [s z87 620,s z98 621,s z1 622,i 141 0,i 2 0,i 0 0,i 0 0,i 3 0,r 336,.bool true,i 181 0,r 337,.none,r 338,r 339,r 340,i 625 0,i 141 0,s z1 626])),ar []⟩
def o342:Obj:=⟨.type "function",none,(fnD z87 z98 (d2 24 5) .none .none .none (s z39 412) none (r 341) .none),ar []⟩
def o343:Obj:=⟨.type "tuple",none,(.seq (ar []) 0),ar []⟩
def o344:Obj:=⟨.none,none,(.fields (ar [])),ar []⟩
def o345:Obj:=⟨.type "tuple",none,(.seq (ar [s z26 631,s z99 632,s z38 633,s z54 634]) 0),ar []⟩
def o346:Obj:=⟨.type "tuple",none,(.seq (ar []) 0),ar []⟩
def o347:Obj:=⟨.none,none,(fnD z88 z100 (d2 24 6) .none .none .none .none none .none .none (g:=0) (b:=0)),ar []⟩
def o348:Obj:=⟨.type "code",none,(.fields (ar [s z88 628,s z100 629,s z1 630,i 144 0,i 2 0,i 0 0,i 0 0,i 3 0,r 343,.bool true,i 181 0,r 344,.none,r 345,r 346,r 347,i 635 0,i 144 0,s z1 636])),ar []⟩
def o349:Obj:=⟨.type "function",none,(fnD z88 z100 (d2 24 6) .none .none .none (s z39 412) none (r 348) .none),ar []⟩
def o350:Obj:=⟨.type "tuple",none,(.seq (ar [s z91 638,s z90 639,s z38 640]) 0),ar []⟩
def o351 (P:Params):Obj:=⟨.type "dict",none,(.dict (ar (([e z20 575 (s z39 412),e z22 579 (i 122 578),e z23 591 (r 307),e z24 598 (r 314),e z84 605 (r 321),e z85 612 (r 328),e z86 619 (r 335),e z87 627 (r 342),e z88 637 (r 349),e z25 641 (r 350),e z60 643 (r 353),e z31 645 (r 354),e z7 646 .none]:List (Params→DictEntry)).map (· P))) 4),ar []⟩
def o352:Obj:=⟨.type "type",none,(.cls { name:=z82,bases:=[.type "object"],mro:=[r 352,.type "object"],ns:=351,qualname:=z82,hasDict:=true,slotNames:=[],subclasses:=[],abstract:=false,collection:=none,hasDel:=false }),ar [none,none,some (s z82 568),some (s z82 576),some (.builtin "object.__new__"),some (.bool true)]⟩
def o353:Obj:=⟨.type "getset_descriptor",none,(.fields (ar [s z60 642,r 352,.builtin "function.__dict__",.builtin "function.__dict__#set"])),ar []⟩
def o354:Obj:=⟨.type "getset_descriptor",none,(.fields (ar [s z31 644,r 352,.builtin "ExceptionGroup.__weakref__",.none])),ar []⟩
def o355:Obj:=⟨.type "super",none,(.fields (ar [r 352,r 352,r 352])),ar []⟩
def o356:Obj:=⟨.type "builtin_function_or_method",none,(.fields (ar [.builtin "object.__init_subclass__",r 352])),ar []⟩
def o357:Obj:=⟨.type "tuple",none,(.seq (ar []) 0),ar []⟩
def o358:Obj:=⟨.none,none,(.fields (ar [])),ar []⟩
def o359:Obj:=⟨.none,none,(fnD z83 z83 (d1 25) .none .none .none .none none .none .none (g:=0) (b:=0)),ar []⟩
def o360:Obj:=⟨.type "code",none,(.fields (ar [s z83 649,s z83 650,s z1 651,i 154 0,i 3 0,i 0 0,i 0 0,i 3 0,r 357,.bool true,i 181 0,r 358,.none,.none,.none,r 359,i 652 0,i 154 0,s z1 653])),ar []⟩
def o361:Obj:=⟨.type "function",none,(fnD z83 z83 (d1 25) .none .none .none (s z39 412) none (r 360) .none),ar []⟩
def o3_6 (P:Params):Obj:=⟨.type "dict",none,(.dict (ar (([e z5 165 (s z101 778),e z7 166 .none,e z8 167 .none,e z9 168 (.builtin "__main__.__loader__#opaque"),e z10 169 .none,e z11 170 (r 6),e z12 171 (r 4),e z13 173 (s z1 172),e z14 174 .none,e z15 193 (r 21),e z16 197 (i 10 196),e z17 235 (r 46),e z18 251 (r 59),e z32 267 (r 71),e z33 283 (r 83),e z34 299 (r 95),e z35 306 (r 104),e z36 314 (r 111),e z40 322 (r 118),e z41 333 (r 125),e z42 339 (r 130),e z43 348 (r 137),e z44 357 (r 144),e z45 411 (r 175),e z46 415 (i 63 414),e z61 451 (r 203),e z62 484 (r 231),e z68 517 (r 257),e z69 558 (r 283),e z70 567 (r 292),e z82 648 (r 352),e z83 654 (r 361),e z102 710 (r 400),e z103 718 (r 411),e z104 727 (r 418),e z105 736 (r 425),e z106 745 (r 432),e z107 753 (r 439),e z108 767 (r 447),e z109 777 (r 454)]:List (Params→DictEntry)).map (· P))) 40),ar []⟩
def o12_6:Obj:=⟨.none,none,(.fields (ar [i 1 0,i 0 0,r 20,i 6 0,i 0 0,r 27,i 17 0,i 0 0,r 55,i 19 0,i 0 0,r 67,i 21 0,i 0 0,r 79,i 23 0,i 0 0,r 91,i 25 0,i 0 0,r 103,i 27 0,i 0 0,r 110,i 29 0,i 0 0,r 117,i 31 0,i 0 0,r 124,i 38 0,i 0 0,r 129,i 44 0,i 0 0,r 136,i 53 0,i 0 0,r 143,i 61 0,i 0 0,r 150,i 77 0,i 0 0,r 185,i 84 0,i 0 0,r 213,i 92 0,i 0 0,r 239,i 100 0,i 0 0,r 265,i 114 0,i 0 0,r 291,i 122 0,i 0 0,r 298,i 154 0,i 0 0,r 360,i 165 0,i 0 0,r 367,i 188 0,i 0 0,r 410,i 194 0,i 0 0,r 417,i 200 0,i 0 0,r 424,i 214 0,i 0 0,r 431,i 222 0,i 0 0,r 438,i 230 0,i 0 0,r 446,i 245 0,i 0 0,r 453])),ar []⟩
def o362:Obj:=⟨.type "tuple",none,(.seq (ar []) 0),ar []⟩
def o363:Obj:=⟨.type "builtin_function_or_method",none,(.fields (ar [.builtin "type.__prepare__",.type "type"])),ar []⟩
def o364 (P:Params):Obj:=⟨.type "dict",none,(.dict (ar (([e z20 662 (s z39 412),e z21 664 (s z102 663),e z22 666 (i 165 665),e z23 674 (r 376),e z110 683 (r 383),e z111 691 (r 390),e z112 701 (r 397),e z25 703 (r 398)]:List (Params→DictEntry)).map (· P))) 8),ar []⟩
def o365:Obj:=⟨.type "tuple",none,(.seq (ar []) 0),ar []⟩
def o366:Obj:=⟨.none,none,(.fields (ar [i 167 0,i 4 0,r 375,i 170 0,i 4 0,r 382,i 173 0,i 4 0,r 389,i 176 0,i 4 0,r 396])),ar []⟩
def o367:Obj:=⟨.type "code",none,(.fields (ar [s z102 657,s z102 658,s z1 659,i 165 0,i 0 0,i 0 0,i 0 0,i 0 0,r 365,.bool false,i 181 0,r 366,.none,.none,.none,.none,i 660 0,i 165 0,s z1 661])),ar []⟩
def o368:Obj:=⟨.type "frame",none,.plain,ar [some (r 367),some (r 3),some (r 364),none,some (s z39 412),none,some (r 0)]⟩
def o369:Obj:=⟨.type "tuple",none,(.seq (ar [.none]) 0),ar []⟩
def o370:Obj:=⟨.type "tuple",none,(.seq (ar []) 0),ar []⟩
def o371:Obj:=⟨.none,none,(.fields (ar [])),ar []⟩
def o372:Obj:=⟨.type "tuple",none,(.seq (ar [s z26 670,s z113 671]) 0),ar []⟩
def o373:Obj:=⟨.type "tuple",none,(.seq (ar []) 0),ar []⟩
def o374:Obj:=⟨.none,none,(fnD z23 z114 (d2 26 0) .none .none .none .none none .none .none (g:=0) (b:=0)),ar []⟩
def o375:Obj:=⟨.type "code",none,(.fields (ar [s z23 667,s z114 668,s z1 669,i 167 0,i 2 0,i 0 0,i 0 0,i 3 0,r 370,.bool true,i 181 0,r 371,.none,r 372,r 373,r 374,i 672 0,i 167 0,s z1 673])),ar []⟩
def o376:Obj:=⟨.type "function",none,(fnD z23 z114 (d2 26 0) (r 369) .none .none (s z39 412) none (r 375) .none),ar []⟩
def o377:Obj:=⟨.type "tuple",none,(.seq (ar []) 0),ar []⟩
def o378:Obj:=⟨.none,none,(.fields (ar [])),ar []⟩
def o379:Obj:=⟨.type "tuple",none,(.seq (ar [s z26 678,s z54 679,s z115 680]) 0),ar []⟩
def o380:Obj:=⟨.type "tuple",none,(.seq (ar []) 0),ar []⟩
def o381:Obj:=⟨.none,none,(fnD z110 z116 (d2 26 1) .none .none .none .none none .none .none (g:=0) (b:=0)),ar []⟩
def o382:Obj:=⟨.type "code",none,(.fields (ar [s z110 675,s z116 676,s z1 677,i 170 0,i 3 0,i 0 0,i 0 0,i 3 0,r 377,.bool true,i 181 0,r 378,.none,r 379,r 380,r 381,i 681 0,i 170 0,s z1 682])),ar []⟩
def o383:Obj:=⟨.type "function",none,(fnD z110 z116 (d2 26 1) .none .none .none (s z39 412) none (r 382) .none),ar []⟩
def o384:Obj:=⟨.type "tuple",none,(.seq (ar []) 0),ar []⟩
def o385:Obj:=⟨.none,none,(.fields (ar [])),ar []⟩
def o386:Obj:=⟨.type "tuple",none,(.seq (ar [s z26 687,s z54 688]) 0),ar []⟩
def o387:Obj:=⟨.type "tuple",none,(.seq (ar []) 0),ar []⟩
def o388:Obj:=⟨.none,none,(fnD z111 z117 (d2 26 2) .none .none .none .none none .none .none (g:=0) (b:=0)),ar []⟩
def o389:Obj:=⟨.type "code",none,(.fields (ar [s z111 684,s z117 685,s z1 686,i 173 0,i 2 0,i 0 0,i 0 0,i 3 0,r 384,.bool true,i 181 0,r 385,.none,r 386,r 387,r 388,i 689 0,i 173 0,s z1 690])),ar []⟩
def o390:Obj:=⟨.type "function",none,(fnD z111 z117 (d2 26 2) .none .none .none (s z39 412) none (r 389) .none),ar []⟩
def o391:Obj:=⟨.type "tuple",none,(.seq (ar []) 0),ar []⟩
def o392:Obj:=⟨.none,none,(.fields (ar [])),ar []⟩
def o393:Obj:=⟨.type "tuple",none,(.seq (ar [s z26 695,s z115 696,s z74 697,s z118 698]) 0),ar []⟩
def o394:Obj:=⟨.type "tuple",none,(.seq (ar []) 0),ar []⟩
def o395:Obj:=⟨.none,none,(fnD z112 z119 (d2 26 3) .none .none .none .none none .none .none (g:=0) (b:=0)),ar []⟩
def o396:Obj:=⟨.type "code",none,(.fields (ar [s z112 692,s z119 693,s z1 694,i 176 0,i 2 0,i 0 0,i 0 0,i 3 0,r 391,.bool true,i 181 0,r 392,.none,r 393,r 394,r 395,i 699 0,i 176 0,s z1 700])),ar []⟩
def o397:Obj:=⟨.type "function",none,(fnD z112 z119 (d2 26 3) .none .none .none (s z39 412) none (r 396) .none),ar []⟩
def o398:Obj:=⟨.type "tuple",none,(.seq (ar [s z113 702]) 0),ar []⟩
def o399 (P:Params):Obj:=⟨.type "dict",none,(.dict (ar (([e z20 662 (s z39 412),e z22 666 (i 165 665),e z23 674 (r 376),e z110 683 (r 383),e z111 691 (r 390),e z112 701 (r 397),e z25 703 (r 398),e z60 705 (r 401),e z31 707 (r 402),e z7 708 .none]:List (Params→DictEntry)).map (· P))) 4),ar []⟩
def o400:Obj:=⟨.type "type",none,(.cls { name:=z102,bases:=[.type "object"],mro:=[r 400,.type "object"],ns:=399,qualname:=z102,hasDict:=true,slotNames:=[],subclasses:=[],abstract:=false,collection:=none,hasDel:=false }),ar [none,none,some (s z102 655),some (s z102 663),some (.builtin "object.__new__"),some (.bool true)]⟩
def o401:Obj:=⟨.type "getset_descriptor",none,(.fields (ar [s z60 704,r 400,.builtin "function.__dict__",.builtin "function.__dict__#set"])),ar []⟩
def o402:Obj:=⟨.type "getset_descriptor",none,(.fields (ar [s z31 706,r 400,.builtin "ExceptionGroup.__weakref__",.none])),ar []⟩
def o403:Obj:=⟨.type "super",none,(.fields (ar [r 400,r 400,r 400])),ar []⟩
def o404:Obj:=⟨.type "builtin_function_or_method",none,(.fields (ar [.builtin "object.__init_subclass__",r 400])),ar []⟩
def o405:Obj:=⟨.type "tuple",none,(.seq (ar []) 0),ar []⟩
def o406:Obj:=⟨.none,none,(.fields (ar [])),ar []⟩
def o407:Obj:=⟨.type "tuple",none,(.seq (ar [s z120 714,s z97 715]) 0),ar []⟩
def o408:Obj:=⟨.type "tuple",none,(.seq (ar []) 0),ar []⟩
def o409:Obj:=⟨.none,none,(fnD z103 z103 (d1 27) .none .none .none .none none .none .none (g:=0) (b:=0)),ar []⟩
def o410:Obj:=⟨.type "code",none,(.fields (ar [s z103 711,s z103 712,s z1 713,i 188 0,i 2 0,i 0 0,i 0 0,i 3 0,r 405,.bool true,i 181 0,r 406,.none,r 407,r 408,r 409,i 716 0,i 188 0,s z1 717])),ar []⟩
def o411:Obj:=⟨.type "function",none,(fnD z103 z103 (d1 27) .none .none .none (s z39 412) none (r 410) .none),ar []⟩
def o412:Obj:=⟨.type "tuple",none,(.seq (ar []) 0),ar []⟩
def o413:Obj:=⟨.none,none,(.fields (ar [])),ar []⟩
def o414:Obj:=⟨.type "tuple",none,(.seq (ar [s z73 722,s z120 723,s z121 724]) 0),ar []⟩
def o415:Obj:=⟨.type "tuple",none,(.seq (ar []) 0),ar []⟩
def o416:Obj:=⟨.none,none,(fnD z104 z104 (d1 28) .none .none .none .none none .none .none (g:=0) (b:=0)),ar []⟩
def o417:Obj:=⟨.type "code",none,(.fields (ar [s z104 719,s z104 720,s z1 721,i 194 0,i 3 0,i 0 0,i 0 0,i 3 0,r 412,.bool true,i 181 0,r 413,.none,r 414,r 415,r 416,i 725 0,i 194 0,s z1 726])),ar []⟩
def o418:Obj:=⟨.type "function",none,(fnD z104 z104 (d1 28) .none .none .none (s z39 412) none (r 417) .none),ar []⟩
def o419:Obj:=⟨.type "tuple",none,(.seq (ar []) 0),ar []⟩
def o420:Obj:=⟨.none,none,(.fields (ar [])),ar []⟩
def o421:Obj:=⟨.type "tuple",none,(.seq (ar [s z73 731,s z120 732,s z97 733]) 0),ar []⟩
def o422:Obj:=⟨.type "tuple",none,(.seq (ar []) 0),ar []⟩
def o423:Obj:=⟨.none,none,(fnD z105 z105 (d1 29) .none .none .none .none none .none .none (g:=0) (b:=0)),ar []⟩
def o424:Obj:=⟨.type "code",none,(.fields (ar [s z105 728,s z105 729,s z1 730,i 200 0,i 3 0,i 0 0,i 0 0,i 3 0,r 419,.bool true,i 181 0,r 420,.none,r 421,r 422,r 423,i 734 0,i 200 0,s z1 735])),ar []⟩
def o425:Obj:=⟨.type "function",none,(fnD z105 z105 (d1 29) .none .none .none (s z39 412) none (r 424) .none),ar []⟩
def o426:Obj:=⟨.type "tuple",none,(.seq (ar []) 0),ar []⟩
def o427:Obj:=⟨.none,none,(.fields (ar [])),ar []⟩
def o428:Obj:=⟨.type "tuple",none,(.seq (ar [s z73 740,s z74 741,s z75 742]) 0),ar []⟩
def o429:Obj:=⟨.type "tuple",none,(.seq (ar []) 0),ar []⟩
def o430:Obj:=⟨.none,none,(fnD z106 z106 (d1 30) .none .none .none .none none .none .none (g:=0) (b:=0)),ar []⟩
def o431:Obj:=⟨.type "code",none,(.fields (ar [s z106 737,s z106 738,s z1 739,i 214 0,i 3 0,i 0 0,i 0 0,i 3 0,r 426,.bool true,i 181 0,r 427,.none,r 428,r 429,r 430,i 743 0,i 214 0,s z1 744])),ar []⟩
def o432:Obj:=⟨.type "function",none,(fnD z106 z106 (d1 30) .none .none .none (s z39 412) none (r 431) .none),ar []⟩
def o433:Obj:=⟨.type "tuple",none,(.seq (ar []) 0),ar []⟩
def o434:Obj:=⟨.none,none,(.fields (ar [])),ar []⟩
def o435:Obj:=⟨.type "tuple",none,(.seq (ar [s z73 749,s z115 750]) 0),ar []⟩
def o436:Obj:=⟨.type "tuple",none,(.seq (ar []) 0),ar []⟩
def o437:Obj:=⟨.none,none,(fnD z107 z107 (d1 31) .none .none .none .none none .none .none (g:=0) (b:=0)),ar []⟩
def o438:Obj:=⟨.type "code",none,(.fields (ar [s z107 746,s z107 747,s z1 748,i 222 0,i 2 0,i 0 0,i 0 0,i 3 0,r 433,.bool true,i 181 0,r 434,.none,r 435,r 436,r 437,i 751 0,i 222 0,s z1 752])),ar []⟩
def o439:Obj:=⟨.type "function",none,(fnD z107 z107 (d1 31) .none .none .none (s z39 412) none (r 438) .none),ar []⟩
def o440:Obj:=⟨.type "tuple",none,(.seq (ar [s z89 754]) 0),ar []⟩
def o441:Obj:=⟨.type "tuple",none,(.seq (ar []) 0),ar []⟩
def o442:Obj:=⟨.none,none,(.fields (ar [])),ar []⟩
def o443:Obj:=⟨.type "tuple",none,(.seq (ar [s z81 758,s z122 759,s z123 760,s z77 761,s z78 762,s z38 763,s z79 764]) 0),ar []⟩
def o444:Obj:=⟨.type "tuple",none,(.seq (ar []) 0),ar []⟩
def o445:Obj:=⟨.none,none,(fnD z108 z108 (d1 32) .none .none .none .none none .none .none (g:=0) (b:=0)),ar []⟩
def o446:Obj:=⟨.type "code",none,(.fields (ar [s z108 755,s z108 756,s z1 757,i 230 0,i 3 0,i 0 0,i 0 0,i 3 0,r 441,.bool true,i 181 0,r 442,.none,r 443,r 444,r 445,i 765 0,i 230 0,s z1 766])),ar []⟩
def o447:Obj:=⟨.type "function",none,(fnD z108 z108 (d1 32) (r 440) .none .none (s z39 412) none (r 446) .none),ar []⟩
def o448:Obj:=⟨.type "tuple",none,(.seq (ar []) 0),ar []⟩
def o449:Obj:=⟨.none,none,(.fields (ar [])),ar []⟩
def o450:Obj:=⟨.type "tuple",none,(.seq (ar [s z81 771,s z118 772,s z124 773,s z79 774]) 0),ar []⟩
def o451:Obj:=⟨.type "tuple",none,(.seq (ar []) 0),ar []⟩
def o452:Obj:=⟨.none,none,(fnD z109 z109 (d1 33) .none .none .none .none none .none .none (g:=0) (b:=0)),ar []⟩
def o453:Obj:=⟨.type "code",none,(.fields (ar [s z109 768,s z109 769,s z1 770,i 245 0,i 1 0,i 0 0,i 0 0,i 3 0,r 448,.bool true,i 181 0,r 449,.none,r 450,r 451,r 452,i 775 0,i 245 0,s z1 776])),ar []⟩
def o454:Obj:=⟨.type "function",none,(fnD z109 z109 (d1 33) .none .none .none (s z39 412) none (r 453) .none),ar []⟩
def o3_7 (P:Params):Obj:=⟨.type "dict",none,(.dict (ar (([e z5 165 (s z101 778),e z7 166 .none,e z8 167 .none,e z9 168 (.builtin "__main__.__loader__#opaque"),e z10 169 .none,e z11 170 (r 6),e z12 171 (r 4),e z13 173 (s z1 172),e z14 174 .none,e z15 193 (r 21),e z16 197 (i 10 196),e z17 235 (r 46),e z18 251 (r 59),e z32 267 (r 71),e z33 283 (r 83),e z34 299 (r 95),e z35 306 (r 104),e z36 314 (r 111),e z40 322 (r 118),e z41 333 (r 125),e z42 339 (r 130),e z43 348 (r 137),e z44 357 (r 144),e z45 411 (r 175),e z46 415 (i 63 414),e z61 451 (r 203),e z62 484 (r 231),e z68 517 (r 257),e z69 558 (r 283),e z70 567 (r 292),e z82 648 (r 352),e z83 654 (r 361),e z102 710 (r 400),e z103 718 (r 411),e z104 727 (r 418),e z105 736 (r 425),e z106 745 (r 432),e z107 753 (r 439),e z108 767 (r 447),e z109 777 (r 454),e z125 810 (r 471),e z126 843 (r 499)]:List (Params→DictEntry)).map (· P))) 42),ar []⟩
def o12_7:Obj:=⟨.none,none,(.fields (ar [i 1 0,i 0 0,r 20,i 6 0,i 0 0,r 27,i 17 0,i 0 0,r 55,i 19 0,i 0 0,r 67,i 21 0,i 0 0,r 79,i 23 0,i 0 0,r 91,i 25 0,i 0 0,r 103,i 27 0,i 0 0,r 110,i 29 0,i 0 0,r 117,i 31 0,i 0 0,r 124,i 38 0,i 0 0,r 129,i 44 0,i 0 0,r 136,i 53 0,i 0 0,r 143,i 61 0,i 0 0,r 150,i 77 0,i 0 0,r 185,i 84 0,i 0 0,r 213,i 92 0,i 0 0,r 239,i 100 0,i 0 0,r 265,i 114 0,i 0 0,r 291,i 122 0,i 0 0,r 298,i 154 0,i 0 0,r 360,i 165 0,i 0 0,r 367,i 188 0,i 0 0,r 410,i 194 0,i 0 0,r 417,i 200 0,i 0 0,r 424,i 214 0,i 0 0,r 431,i 222 0,i 0 0,r 438,i 230 0,i 0 0,r 446,i 245 0,i 0 0,r 453,i 259 0,i 0 0,r 460,i 264 0,i 0 0,r 481])),ar []⟩
def o455:Obj:=⟨.type "tuple",none,(.seq (ar []) 0),ar []⟩
def o456:Obj:=⟨.type "builtin_function_or_method",none,(.fields (ar [.builtin "type.__prepare__",.type "type"])),ar []⟩
def o457 (P:Params):Obj:=⟨.type "dict",none,(.dict (ar (([e z20 787 (s z101 778),e z21 789 (s z125 788),e z22 791 (i 259 790),e z23 800 (r 468),e z25 803 (r 469)]:List (Params→DictEntry)).map (· P))) 5),ar []⟩
def o458:Obj:=⟨.type "tuple",none,(.seq (ar []) 0),ar []⟩
def o459:Obj:=⟨.none,none,(.fields (ar [i 261 0,i 4 0,r 467])),ar []⟩
def o460:Obj:=⟨.type "code",none,(.fields (ar [s z125 782,s z125 783,s z1 784,i 259 0,i 0 0,i 0 0,i 0 0,i 0 0,r 458,.bool false,i 181 0,r 459,.none,.none,.none,.none,i 785 0,i 259 0,s z1 786])),ar []⟩
def o461:Obj:=⟨.type "frame",none,.plain,ar [some (r 460),some (r 3),some (r 457),none,some (s z101 778),none,some (r 0)]⟩
def o462:Obj:=⟨.type "tuple",none,(.seq (ar []) 0),ar []⟩
def o463:Obj:=⟨.none,none,(.fields (ar [])),ar []⟩
def o464:Obj:=⟨.type "tuple",none,(.seq (ar [s z26 795,s z55 796,s z28 797]) 0),ar []⟩
def o465:Obj:=⟨.type "tuple",none,(.seq (ar []) 0),ar []⟩
def o466:Obj:=⟨.none,none,(fnD z23 z127 (d2 35 0) .none .none .none .none none .none .none (g:=0) (b:=0)),ar []⟩
def o467:Obj:=⟨.type "code",none,(.fields (ar [s z23 792,s z127 793,s z1 794,i 261 0,i 3 0,i 0 0,i 0 0,i 3 0,r 462,.bool true,i 181 0,r 463,.none,r 464,r 465,r 466,i 798 0,i 261 0,s z1 799])),ar []⟩
def o468:Obj:=⟨.type "function",none,(fnD z23 z127 (d2 35 0) .none .none .none (s z101 778) none (r 467) .none),ar []⟩
def o469:Obj:=⟨.type "tuple",none,(.seq (ar [s z28 801,s z55 802]) 0),ar []⟩
def o470 (P:Params):Obj:=⟨.type "dict",none,(.dict (ar (([e z20 787 (s z101 778),e z22 791 (i 259 790),e z23 800 (r 468),e z25 803 (r 469),e z60 805 (r 472),e z31 807 (r 473),e z7 808 .none]:List (Params→DictEntry)).map (· P))) 4),ar []⟩
def o471:Obj:=⟨.type "type",none,(.cls { name:=z125,bases:=[.type "object"],mro:=[r 471,.type "object"],ns:=470,qualname:=z125,hasDict:=true,slotNames:=[],subclasses:=[r 499],abstract:=false,collection:=none,hasDel:=false }),ar [none,none,some (s z125 780),some (s z125 788),some (.builtin "object.__new__"),some (.bool true)]⟩
def o472:Obj:=⟨.type "getset_descriptor",none,(.fields (ar [s z60 804,r 471,.builtin "function.__dict__",.builtin "function.__dict__#set"])),ar []⟩
def o473:Obj:=⟨.type "getset_descriptor",none,(.fields (ar [s z31 806,r 471,.builtin "ExceptionGroup.__weakref__",.none])),ar []⟩
def o474:Obj:=⟨.type "super",none,(.fields (ar [r 471,r 471,r 471])),ar []⟩
def o475:Obj:=⟨.type "builtin_function_or_method",none,(.fields (ar [.builtin "object.__init_subclass__",r 471])),ar []⟩
def o476:Obj:=⟨.type "tuple",none,(.seq (ar [r 471]) 0),ar []⟩
def o477:Obj:=⟨.type "builtin_function_or_method",none,(.fields (ar [.builtin "type.__prepare__",.type "type"])),ar []⟩
def o478 (P:Params):Obj:=⟨.type "dict",none,(.dict (ar (([e z20 818 (s z101 778),e z21 820 (s z126 819),e z22 822 (i 264 821),e z23 831 (r 489),e z24 838 (r 496),e z25 840 (r 497)]:List (Params→DictEntry)).map (· P))) 6),ar []⟩
def o479:Obj:=⟨.type "tuple",none,(.seq (ar []) 0),ar []⟩
def o480:Obj:=⟨.none,none,(.fields (ar [i 266 0,i 4 0,r 488,i 270 0,i 4 0,r 495])),ar []⟩
def o481:Obj:=⟨.type "code",none,(.fields (ar [s z126 813,s z126 814,s z1 815,i 264 0,i 0 0,i 0 0,i 0 0,i 0 0,r 479,.bool false,i 181 0,r 480,.none,.none,.none,.none,i 816 0,i 264 0,s z1 817])),ar []⟩
def o482:Obj:=⟨.type "frame",none,.plain,ar [some (r 481),some (r 3),some (r 478),none,some (s z101 778),none,some (r 0)]⟩
def o483:Obj:=⟨.type "tuple",none,(.seq (ar []) 0),ar []⟩
def o484:Obj:=⟨.none,none,(.fields (ar [])),ar []⟩
def o485:Obj:=⟨.type "tuple",none,(.seq (ar [s z26 826,s z54 827,s z28 828]) 0),ar []⟩
def o486:Obj:=⟨.type "tuple",none,(.seq (ar []) 0),ar []⟩
def o487:Obj:=⟨.none,none,(fnD z23 z128 (d2 36 0) .none .none .none .none none .none .none (g:=0) (b:=0)),ar []⟩
def o488:Obj:=⟨.type "code",none,(.fields (ar [s z23 823,s z128 824,s z1 825,i 266 0,i 3 0,i 0 0,i 0 0,i 3 0,r 483,.bool true,i 181 0,r 484,.none,r 485,r 486,r 487,i 829 0,i 266 0,s z1 830])),ar []⟩
def o489:Obj:=⟨.type "function",none,(fnD z23 z128 (d2 36 0) .none .none .none (s z101 778) none (r 488) .none),ar []⟩
def o490:Obj:=⟨.type "tuple",none,(.seq (ar []) 0),ar []⟩
def o491:Obj:=⟨.none,none,(.fields (ar [])),ar []⟩
def o492:Obj:=⟨.type "tuple",none,(.seq (ar [s z26 835]) 0),ar []⟩
def o493:Obj:=⟨.type "tuple",none,(.seq (ar []) 0),ar []⟩
def o494:Obj:=⟨.none,none,(fnD z24 z129 (d2 36 1) .none .none .none .none none .none .none (g:=0) (b:=0)),ar []⟩
def o495:Obj:=⟨.type "code",none,(.fields (ar [s z24 832,s z129 833,s z1 834,i 270 0,i 1 0,i 0 0,i 0 0,i 3 0,r 490,.bool true,i 181 0,r 491,.none,r 492,r 493,r 494,i 836 0,i 270 0,s z1 837])),ar []⟩
def o496:Obj:=⟨.type "function",none,(fnD z24 z129 (d2 36 1) .none .none .none (s z101 778) none (r 495) .none),ar []⟩
def o497:Obj:=⟨.type "tuple",none,(.seq (ar [s z54 839]) 0),ar []⟩
def o498 (P:Params):Obj:=⟨.type "dict",none,(.dict (ar (([e z20 818 (s z101 778),e z22 822 (i 264 821),e z23 831 (r 489),e z24 838 (r 496),e z25 840 (r 497),e z7 841 .none]:List (Params→DictEntry)).map (· P))) 2),ar []⟩
def o499:Obj:=⟨.type "type",none,(.cls { name:=z126,bases:=[r 471],mro:=[r 499,r 471,.type "object"],ns:=498,qualname:=z126,hasDict:=true,slotNames:=[],subclasses:=[],abstract:=false,collection:=none,hasDel:=false }),ar [some (r 476),none,some (s z126 811),some (s z126 819),some (.builtin "object.__new__"),some (.bool true)]⟩
def o500:Obj:=⟨.type "super",none,(.fields (ar [r 499,r 499,r 499])),ar []⟩
def o501:Obj:=⟨.type "builtin_function_or_method",none,(.fields (ar [.builtin "object.__init_subclass__",r 499])),ar []⟩
def o3_8 (P:Params):Obj:=⟨.type "dict",none,(.dict (ar (([e z5 165 (s z130 891),e z7 166 .none,e z8 167 .none,e z9 168 (.builtin "__main__.__loader__#opaque"),e z10 169 .none,e z11 170 (r 6),e z12 171 (r 4),e z13 173 (s z1 172),e z14 174 .none,e z15 193 (r 21),e z16 197 (i 10 196),e z17 235 (r 46),e z18 251 (r 59),e z32 267 (r 71),e z33 283 (r 83),e z34 299 (r 95),e z35 306 (r 104),e z36 314 (r 111),e z40 322 (r 118),e z41 333 (r 125),e z42 339 (r 130),e z43 348 (r 137),e z44 357 (r 144),e z45 411 (r 175),e z46 415 (i 63 414),e z61 451 (r 203),e z62 484 (r 231),e z68 517 (r 257),e z69 558 (r 283),e z70 567 (r 292),e z82 648 (r 352),e z83 654 (r 361),e z102 710 (r 400),e z103 718 (r 411),e z104 727 (r 418),e z105 736 (r 425),e z106 745 (r 432),e z107 753 (r 439),e z108 767 (r 447),e z109 777 (r 454),e z125 810 (r 471),e z126 843 (r 499),e z131 877 (r 523),e z132 884 (r 532),e z133 890 (r 537),e z134 896 (i 1048576 895),e z135 900 (i 32768 899),e z136 938 (r 561)]:List (Params→DictEntry)).map (· P))) 48),ar []⟩
def o12_8:Obj:=⟨.none,none,(.fields (ar [i 1 0,i 0 0,r 20,i 6 0,i 0 0,r 27,i 17 0,i 0 0,r 55,i 19 0,i 0 0,r 67,i 21 0,i 0 0,r 79,i 23 0,i 0 0,r 91,i 25 0,i 0 0,r 103,i 27 0,i 0 0,r 110,i 29 0,i 0 0,r 117,i 31 0,i 0 0,r 124,i 38 0,i 0 0,r 129,i 44 0,i 0 0,r 136,i 53 0,i 0 0,r 143,i 61 0,i 0 0,r 150,i 77 0,i 0 0,r 185,i 84 0,i 0 0,r 213,i 92 0,i 0 0,r 239,i 100 0,i 0 0,r 265,i 114 0,i 0 0,r 291,i 122 0,i 0 0,r 298,i 154 0,i 0 0,r 360,i 165 0,i 0 0,r 367,i 188 0,i 0 0,r 410,i 194 0,i 0 0,r 417,i 200 0,i 0 0,r 424,i 214 0,i 0 0,r 431,i 222 0,i 0 0,r 438,i 230 0,i 0 0,r 446,i 245 0,i 0 0,r 453,i 259 0,i 0 0,r 460,i 264 0,i 0 0,r 481,i 272 0,i 0 0,r 507,i 281 0,i 0 0,r 531,i 285 0,i 0 0,r 536,i 305 0,i 0 0,r 543])),ar []⟩
def o471_8:Obj:=⟨.type "type",none,(.cls { name:=z125,bases:=[.type "object"],mro:=[r 471,.type "object"],ns:=470,qualname:=z125,hasDict:=true,slotNames:=[],subclasses:=[r 499,r 523],abstract:=false,collection:=none,hasDel:=false }),ar [none,none,some (s z125 780),some (s z125 788),some (.builtin "object.__new__"),some (.bool true)]⟩
def o502:Obj:=⟨.type "tuple",none,(.seq (ar [r 471]) 0),ar []⟩
def o503:Obj:=⟨.type "builtin_function_or_method",none,(.fields (ar [.builtin "type.__prepare__",.type "type"])),ar []⟩
def o504 (P:Params):Obj:=⟨.type "dict",none,(.dict (ar (([e z20 851 (s z101 778),e z21 853 (s z131 852),e z22 855 (i 272 854),e z23 865 (r 515),e z24 871 (r 520),e z25 874 (r 521)]:List (Params→DictEntry)).map (· P))) 6),ar []⟩
def o505:Obj:=⟨.type "tuple",none,(.seq (ar []) 0),ar []⟩
def o506:Obj:=⟨.none,none,(.fields (ar [i 274 0,i 4 0,r 514,i 279 0,i 4 0,r 519])),ar []⟩
def o507:Obj:=⟨.type "code",none,(.fields (ar [s z131 846,s z131 847,s z1 848,i 272 0,i 0 0,i 0 0,i 0 0,i 0 0,r 505,.bool false,i 181 0,r 506,.none,.none,.none,.none,i 849 0,i 272 0,s z1 850])),ar []⟩
def o508:Obj:=⟨.type "frame",none,.plain,ar [some (r 507),some (r 3),some (r 504),none,some (s z101 778),none,some (r 0)]⟩
def o509:Obj:=⟨.type "tuple",none,(.seq (ar []) 0),ar []⟩
def o510:Obj:=⟨.none,none,(.fields (ar [])),ar []⟩
def o511:Obj:=⟨.type "tuple",none,(.seq (ar [s z26 859,s z137 860,s z138 861,s z28 862]) 0),ar []⟩
def o512:Obj:=⟨.type "tuple",none,(.seq (ar []) 0),ar []⟩
def o513:Obj:=⟨.none,none,(fnD z23 z139 (d2 37 0) .none .none .none .none none .none .none (g:=0) (b:=0)),ar []⟩
def o514:Obj:=⟨.type "code",none,(.fields (ar [s z23 856,s z139 857,s z1 858,i 274 0,i 4 0,i 0 0,i 0 0,i 3 0,r 509,.bool true,i 181 0,r 510,.none,r 511,r 512,r 513,i 863 0,i 274 0,s z1 864])),ar []⟩
def o515:Obj:=⟨.type "function",none,(fnD z23 z139 (d2 37 0) .none .none .none (s z101 778) none (r 514) .none),ar []⟩
def o516:Obj:=⟨.type "tuple",none,(.seq (ar []) 0),ar []⟩
def o517:Obj:=⟨.none,none,(.fields (ar [])),ar []⟩
def o518:Obj:=⟨.none,none,(fnD z24 z140 (d2 37 1) .none .none .none .none none .none .none (g:=0) (b:=0)),ar []⟩
def o519:Obj:=⟨.type "code",none,(.fields (ar [s z24 866,s z140 867,s z1 868,i 279 0,i 1 0,i 0 0,i 0 0,i 3 0,r 516,.bool true,i 181 0,r 517,.none,.none,.none,r 518,i 869 0,i 279 0,s z1 870])),ar []⟩
def o520:Obj:=⟨.type "function",none,(fnD z24 z140 (d2 37 1) .none .none .none (s z101 778) none (r 519) .none),ar []⟩
def o521:Obj:=⟨.type "tuple",none,(.seq (ar [s z138 872,s z137 873]) 0),ar []⟩
def o522 (P:Params):Obj:=⟨.type "dict",none,(.dict (ar (([e z20 851 (s z101 778),e z22 855 (i 272 854),e z23 865 (r 515),e z24 871 (r 520),e z25 874 (r 521),e z7 875 .none]:List (Params→DictEntry)).map (· P))) 2),ar []⟩
def o523:Obj:=⟨.type "type",none,(.cls { name:=z131,bases:=[r 471],mro:=[r 523,r 471,.type "object"],ns:=522,qualname:=z131,hasDict:=true,slotNames:=[],subclasses:=[],abstract:=false,collection:=none,hasDel:=false }),ar [some (r 502),none,some (s z131 844),some (s z131 852),some (.builtin "object.__new__"),some (.bool true)]⟩
def o524:Obj:=⟨.type "super",none,(.fields (ar [r 523,r 523,r 523])),ar []⟩
def o525:Obj:=⟨.type "builtin_function_or_method",none,(.fields (ar [.builtin "object.__init_subclass__",r 523])),ar []⟩
def o526:Obj:=⟨.type "tuple",none,(.seq (ar []) 0),ar []⟩
def o527:Obj:=⟨.none,none,(.fields (ar [])),ar []⟩
def o528:Obj:=⟨.type "tuple",none,(.seq (ar [s z141 881]) 0),ar []⟩
def o529:Obj:=⟨.type "tuple",none,(.seq (ar []) 0),ar []⟩
def o530:Obj:=⟨.none,none,(fnD z132 z132 (d1 38) .none .none .none .none none .none .none (g:=0) (b:=0)),ar []⟩
def o531:Obj:=⟨.type "code",none,(.fields (ar [s z132 878,s z132 879,s z1 880,i 281 0,i 1 0,i 0 0,i 0 0,i 3 0,r 526,.bool true,i 181 0,r 527,.none,r 528,r 529,r 530,i 882 0,i 281 0,s z1 883])),ar []⟩
def o532:Obj:=⟨.type "function",none,(fnD z132 z132 (d1 38) .none .none .none (s z101 778) none (r 531) .none),ar []⟩
def o533:Obj:=⟨.type "tuple",none,(.seq (ar []) 0),ar []⟩
def o534:Obj:=⟨.none,none,(.fields (ar [])),ar []⟩
def o535:Obj:=⟨.none,none,(fnD z133 z133 (d1 39) .none .none .none .none none .none .none (g:=0) (b:=0)),ar []⟩
def o536:Obj:=⟨.type "code",none,(.fields (ar [s z133 885,s z133 886,s z1 887,i 285 0,i 1 0,i 0 0,i 0 0,i 3 0,r 533,.bool true,i 181 0,r 534,.none,.none,.none,r 535,i 888 0,i 285 0,s z1 889])),ar []⟩
def o537:Obj:=⟨.type "function",none,(fnD z133 z133 (d1 39) .none .none .none (s z101 778) none (r 536) .none),ar []⟩
def o538:Obj:=⟨.type "tuple",none,(.seq (ar []) 0),ar []⟩
def o539:Obj:=⟨.type "builtin_function_or_method",none,(.fields (ar [.builtin "type.__prepare__",.type "type"])),ar []⟩
def o540 (P:Params):Obj:=⟨.type "dict",none,(.dict (ar (([e z20 908 (s z130 891),e z21 910 (s z136 909),e z22 912 (i 305 911),e z23 921 (r 551),e z142 928 (r 558),e z25 931 (r 559)]:List (Params→DictEntry)).map (· P))) 6),ar []⟩
def o541:Obj:=⟨.type "tuple",none,(.seq (ar []) 0),ar []⟩
def o542:Obj:=⟨.none,none,(.fields (ar [i 307 0,i 4 0,r 550,i 311 0,i 4 0,r 557])),ar []⟩
def o543:Obj:=⟨.type "code",none,(.fields (ar [s z136 903,s z136 904,s z1 905,i 305 0,i 0 0,i 0 0,i 0 0,i 0 0,r 541,.bool false,i 181 0,r 542,.none,.none,.none,.none,i 906 0,i 305 0,s z1 907])),ar []⟩
def o544:Obj:=⟨.type "frame",none,.plain,ar [some (r 543),some (r 3),some (r 540),none,some (s z130 891),none,some (r 0)]⟩
def o545:Obj:=⟨.type "tuple",none,(.seq (ar []) 0),ar []⟩
def o546:Obj:=⟨.none,none,(.fields (ar [])),ar []⟩
def o547:Obj:=⟨.type "tuple",none,(.seq (ar [s z26 916,s z55 917,s z28 918]) 0),ar []⟩
def o548:Obj:=⟨.type "tuple",none,(.seq (ar []) 0),ar []⟩
def o549:Obj:=⟨.none,none,(fnD z23 z143 (d2 43 0) .none .none .none .none none .none .none (g:=0) (b:=0)),ar []⟩
def o550:Obj:=⟨.type "code",none,(.fields (ar [s z23 913,s z143 914,s z1 915,i 307 0,i 3 0,i 0 0,i 0 0,i 3 0,r 545,.bool true,i 181 0,r 546,.none,r 547,r 548,r 549,i 919 0,i 307 0,s z1 920])),ar []⟩
def o551:Obj:=⟨.type "function",none,(fnD z23 z143 (d2 43 0) .none .none .none (s z130 891) none (r 550) .none),ar []⟩
def o552:Obj:=⟨.type "tuple",none,(.seq (ar []) 0),ar []⟩
def o553:Obj:=⟨.none,none,(.fields (ar [])),ar []⟩
def o554:Obj:=⟨.type "tuple",none,(.seq (ar [s z26 925]) 0),ar []⟩
def o555:Obj:=⟨.type "tuple",none,(.seq (ar []) 0),ar []⟩
def o556:Obj:=⟨.none,none,(fnD z142 z144 (d2 43 1) .none .none .none .none none .none .none (g:=0) (b:=0)),ar []⟩
def o557:Obj:=⟨.type "code",none,(.fields (ar [s z142 922,s z144 923,s z1 924,i 311 0,i 1 0,i 0 0,i 0 0,i 3 0,r 552,.bool true,i 181 0,r 553,.none,r 554,r 555,r 556,i 926 0,i 311 0,s z1 927])),ar []⟩
def o558:Obj:=⟨.type "function",none,(fnD z142 z144 (d2 43 1) .none .none .none (s z130 891) none (r 557) .none),ar []⟩
def o559:Obj:=⟨.type "tuple",none,(.seq (ar [s z28 929,s z55 930]) 0),ar []⟩
def o560 (P:Params):Obj:=⟨.type "dict",none,(.dict (ar (([e z20 908 (s z130 891),e z22 912 (i 305 911),e z23 921 (r 551),e z142 928 (r 558),e z25 931 (r 559),e z60 933 (r 562),e z31 935 (r 563),e z7 936 .none]:List (Params→DictEntry)).map (· P))) 4),ar []⟩
def o561:Obj:=⟨.type "type",none,(.cls { name:=z136,bases:=[.type "object"],mro:=[r 561,.type "object"],ns:=560,qualname:=z136,hasDict:=true,slotNames:=[],subclasses:=[],abstract:=false,collection:=none,hasDel:=false }),ar [none,none,some (s z136 901),some (s z136 909),some (.builtin "object.__new__"),some (.bool true)]⟩
def o562:Obj:=⟨.type "getset_descriptor",none,(.fields (ar [s z60 932,r 561,.builtin "function.__dict__",.builtin "function.__dict__#set"])),ar []⟩
def o563:Obj:=⟨.type "getset_descriptor",none,(.fields (ar [s z31 934,r 561,.builtin "ExceptionGroup.__weakref__",.none])),ar []⟩
def o564:Obj:=⟨.type "super",none,(.fields (ar [r 561,r 561,r 561])),ar []⟩
def o565:Obj:=⟨.type "builtin_function_or_method",none,(.fields (ar [.builtin "object.__init_subclass__",r 561])),ar []⟩
def o3_9 (P:Params):Obj:=⟨.type "dict",none,(.dict (ar (([e z5 165 (s z130 891),e z7 166 .none,e z8 167 .none,e z9 168 (.builtin "__main__.__loader__#opaque"),e z10 169 .none,e z11 170 (r 6),e z12 171 (r 4),e z13 173 (s z1 172),e z14 174 .none,e z15 193 (r 21),e z16 197 (i 10 196),e z17 235 (r 46),e z18 251 (r 59),e z32 267 (r 71),e z33 283 (r 83),e z34 299 (r 95),e z35 306 (r 104),e z36 314 (r 111),e z40 322 (r 118),e z41 333 (r 125),e z42 339 (r 130),e z43 348 (r 137),e z44 357 (r 144),e z45 411 (r 175),e z46 415 (i 63 414),e z61 451 (r 203),e z62 484 (r 231),e z68 517 (r 257),e z69 558 (r 283),e z70 567 (r 292),e z82 648 (r 352),e z83 654 (r 361),e z102 710 (r 400),e z103 718 (r 411),e z104 727 (r 418),e z105 736 (r 425),e z106 745 (r 432),e z107 753 (r 439),e z108 767 (r 447),e z109 777 (r 454),e z125 810 (r 471),e z126 843 (r 499),e z131 877 (r 523),e z132 884 (r 532),e z133 890 (r 537),e z134 896 (i 1048576 895),e z135 900 (i 32768 899),e z136 938 (r 561),e z145 979 (r 595),e z146 1014 (r 622)]:List (Params→DictEntry)).map (· P))) 50),ar []⟩
def o12_9:Obj:=⟨.none,none,(.fields (ar [i 1 0,i 0 0,r 20,i 6 0,i 0 0,r 27,i 17 0,i 0 0,r 55,i 19 0,i 0 0,r 67,i 21 0,i 0 0,r 79,i 23 0,i 0 0,r 91,i 25 0,i 0 0,r 103,i 27 0,i 0 0,r 110,i 29 0,i 0 0,r 117,i 31 0,i 0 0,r 124,i 38 0,i 0 0,r 129,i 44 0,i 0 0,r 136,i 53 0,i 0 0,r 143,i 61 0,i 0 0,r 150,i 77 0,i 0 0,r 185,i 84 0,i 0 0,r 213,i 92 0,i 0 0,r 239,i 100 0,i 0 0,r 265,i 114 0,i 0 0,r 291,i 122 0,i 0 0,r 298,i 154 0,i 0 0,r 360,i 165 0,i 0 0,r 367,i 188 0,i 0 0,r 410,i 194 0,i 0 0,r 417,i 200 0,i 0 0,r 424,i 214 0,i 0 0,r 431,i 222 0,i 0 0,r 438,i 230 0,i 0 0,r 446,i 245 0,i 0 0,r 453,i 259 0,i 0 0,r 460,i 264 0,i 0 0,r 481,i 272 0,i 0 0,r 507,i 281 0,i 0 0,r 531,i 285 0,i 0 0,r 536,i 305 0,i 0 0,r 543,i 313 0,i 0 0,r 571,i 325 0,i 0 0,r 603])),ar []⟩
def o561_9:Obj:=⟨.type "type",none,(.cls { name:=z136,bases:=[.type "object"],mro:=[r 561,.type "object"],ns:=560,qualname:=z136,hasDict:=true,slotNames:=[],subclasses:=[r 595,r 622],abstract:=false,collection:=none,hasDel:=false }),ar [none,none,some (s z136 901),some (s z136 909),some (.builtin "object.__new__"),some (.bool true)]⟩
def o566:Obj:=⟨.type "tuple",none,(.seq (ar [r 561]) 0),ar []⟩
def o567:Obj:=⟨.type "builtin_function_or_method",none,(.fields (ar [.builtin "type.__prepare__",.type "type"])),ar []⟩
def o568 (P:Params):Obj:=⟨.type "dict",none,(.dict (ar (([e z20 946 (s z130 891),e z21 948 (s z145 947),e z22 950 (i 313 949),e z23 960 (r 580),e z142 967 (r 587),e z24 973 (r 592),e z25 976 (r 593)]:List (Params→DictEntry)).map (· P))) 7),ar []⟩
def o569:Obj:=⟨.type "tuple",none,(.seq (ar []) 0),ar []⟩
def o570:Obj:=⟨.none,none,(.fields (ar [i 315 0,i 4 0,r 579,i 320 0,i 4 0,r 586,i 323 0,i 4 0,r 591])),ar []⟩
def o571:Obj:=⟨.type "code",none,(.fields (ar [s z145 941,s z145 942,s z1 943,i 313 0,i 0 0,i 0 0,i 0 0,i 0 0,r 569,.bool false,i 181 0,r 570,.none,.none,.none,.none,i 944 0,i 313 0,s z1 945])),ar []⟩
def o572:Obj:=⟨.type "frame",none,.plain,ar [some (r 571),some (r 3),some (r 568),none,some (s z130 891),none,some (r 0)]⟩
def o573:Obj:=⟨.type "tuple",none,(.seq (ar [.none]) 0),ar []⟩
def o574:Obj:=⟨.type "tuple",none,(.seq (ar []) 0),ar []⟩
def o575:Obj:=⟨.none,none,(.fields (ar [])),ar []⟩
def o576:Obj:=⟨.type "tuple",none,(.seq (ar [s z26 954,s z49 955,s z147 956,s z28 957]) 0),ar []⟩
def o577:Obj:=⟨.type "tuple",none,(.seq (ar []) 0),ar []⟩
def o578:Obj:=⟨.none,none,(fnD z23 z148 (d2 44 0) .none .none .none .none none .none .none (g:=0) (b:=0)),ar []⟩
def o579:Obj:=⟨.type "code",none,(.fields (ar [s z23 951,s z148 952,s z1 953,i 315 0,i 4 0,i 0 0,i 0 0,i 3 0,r 574,.bool true,i 181 0,r 575,.none,r 576,r 577,r 578,i 958 0,i 315 0,s z1 959])),ar []⟩
def o580:Obj:=⟨.type "function",none,(fnD z23 z148 (d2 44 0) (r 573) .none .none (s z130 891) none (r 579) .none),ar []⟩
def o581:Obj:=⟨.type "tuple",none,(.seq (ar []) 0),ar []⟩
def o582:Obj:=⟨.none,none,(.fields (ar [])),ar []⟩
def o583:Obj:=⟨.type "tuple",none,(.seq (ar [s z26 964]) 0),ar []⟩
def o584:Obj:=⟨.type "tuple",none,(.seq (ar []) 0),ar []⟩
def o585:Obj:=⟨.none,none,(fnD z142 z149 (d2 44 1) .none .none .none .none none .none .none (g:=0) (b:=0)),ar []⟩
def o586:Obj:=⟨.type "code",none,(.fields (ar [s z142 961,s z149 962,s z1 963,i 320 0,i 1 0,i 0 0,i 0 0,i 3 0,r 581,.bool true,i 181 0,r 582,.none,r 583,r 584,r 585,i 965 0,i 320 0,s z1 966])),ar []⟩
def o587:Obj:=⟨.type "function",none,(fnD z142 z149 (d2 44 1) .none .none .none (s z130 891) none (r 586) .none),ar []⟩
def o588:Obj:=⟨.type "tuple",none,(.seq (ar []) 0),ar []⟩
def o589:Obj:=⟨.none,none,(.fields (ar [])),ar []⟩
def o590:Obj:=⟨.none,none,(fnD z24 z150 (d2 44 2) .none .none .none .none none .none .none (g:=0) (b:=0)),ar []⟩
def o591:Obj:=⟨.type "code",none,(.fields (ar [s z24 968,s z150 969,s z1 970,i 323 0,i 1 0,i 0 0,i 0 0,i 3 0,r 588,.bool true,i 181 0,r 589,.none,.none,.none,r 590,i 971 0,i 323 0,s z1 972])),ar []⟩
def o592:Obj:=⟨.type "function",none,(fnD z24 z150 (d2 44 2) .none .none .none (s z130 891) none (r 591) .none),ar []⟩
def o593:Obj:=⟨.type "tuple",none,(.seq (ar [s z147 974,s z49 975]) 0),ar []⟩
def o594 (P:Params):Obj:=⟨.type "dict",none,(.dict (ar (([e z20 946 (s z130 891),e z22 950 (i 313 949),e z23 960 (r 580),e z142 967 (r 587),e z24 973 (r 592),e z25 976 (r 593),e z7 977 .none]:List (Params→DictEntry)).map (· P))) 2),ar []⟩
def o595:Obj:=⟨.type "type",none,(.cls { name:=z145,bases:=[r 561],mro:=[r 595,r 561,.type "object"],ns:=594,qualname:=z145,hasDict:=true,slotNames:=[],subclasses:=[],abstract:=false,collection:=none,hasDel:=false }),ar [some (r 566),none,some (s z145 939),some (s z145 947),some (.builtin "object.__new__"),some (.bool true)]⟩
def o596:Obj:=⟨.type "super",none,(.fields (ar [r 595,r 595,r 595])),ar []⟩
def o597:Obj:=⟨.type "builtin_function_or_method",none,(.fields (ar [.builtin "object.__init_subclass__",r 595])),ar []⟩
def o598:Obj:=⟨.type "tuple",none,(.seq (ar [r 561]) 0),ar []⟩
def o599:Obj:=⟨.type "builtin_function_or_method",none,(.fields (ar [.builtin "type.__prepare__",.type "type"])),ar []⟩
def o600 (P:Params):Obj:=⟨.type "dict",none,(.dict (ar (([e z20 987 (s z130 891),e z21 989 (s z146 988),e z22 991 (i 325 990),e z23 1001 (r 612),e z24 1008 (r 619),e z25 1011 (r 620)]:List (Params→DictEntry)).map (· P))) 6),ar []⟩
def o601:Obj:=⟨.type "tuple",none,(.seq (ar []) 0),ar []⟩
def o602:Obj:=⟨.none,none,(.fields (ar [i 327 0,i 4 0,r 611,i 332 0,i 4 0,r 618])),ar []⟩
def o603:Obj:=⟨.type "code",none,(.fields (ar [s z146 982,s z146 983,s z1 984,i 325 0,i 0 0,i 0 0,i 0 0,i 0 0,r 601,.bool false,i 181 0,r 602,.none,.none,.none,.none,i 985 0,i 325 0,s z1 986])),ar []⟩
def o604:Obj:=⟨.type "frame",none,.plain,ar [some (r 603),some (r 3),some (r 600),none,some (s z130 891),none,some (r 0)]⟩
def o605:Obj:=⟨.type "tuple",none,(.seq (ar [.none]) 0),ar []⟩
def o606:Obj:=⟨.type "tuple",none,(.seq (ar []) 0),ar []⟩
def o607:Obj:=⟨.none,none,(.fields (ar [])),ar []⟩
def o608:Obj:=⟨.type "tuple",none,(.seq (ar [s z26 995,s z151 996,s z152 997,s z28 998]) 0),ar []⟩
def o609:Obj:=⟨.type "tuple",none,(.seq (ar []) 0),ar []⟩
def o610:Obj:=⟨.none,none,(fnD z23 z153 (d2 45 0) .none .none .none .none none .none .none (g:=0) (b:=0)),ar []⟩
def o611:Obj:=⟨.type "code",none,(.fields (ar [s z23 992,s z153 993,s z1 994,i 327 0,i 4 0,i 0 0,i 0 0,i 3 0,r 606,.bool true,i 181 0,r 607,.none,r 608,r 609,r 610,i 999 0,i 327 0,s z1 1000])),ar []⟩
def o612:Obj:=⟨.type "function",none,(fnD z23 z153 (d2 45 0) (r 605) .none .none (s z130 891) none (r 611) .none),ar []⟩
def o613:Obj:=⟨.type "tuple",none,(.seq (ar []) 0),ar []⟩
def o614:Obj:=⟨.none,none,(.fields (ar [])),ar []⟩
def o615:Obj:=⟨.type "tuple",none,(.seq (ar [s z26 1005]) 0),ar []⟩
def o616:Obj:=⟨.type "tuple",none,(.seq (ar []) 0),ar []⟩
def o617:Obj:=⟨.none,none,(fnD z24 z154 (d2 45 1) .none .none .none .none none .none .none (g:=0) (b:=0)),ar []⟩
def o618:Obj:=⟨.type "code",none,(.fields (ar [s z24 1002,s z154 1003,s z1 1004,i 332 0,i 1 0,i 0 0,i 0 0,i 3 0,r 613,.bool true,i 181 0,r 614,.none,r 615,r 616,r 617,i 1006 0,i 332 0,s z1 1007])),ar []⟩
def o619:Obj:=⟨.type "function",none,(fnD z24 z154 (d2 45 1) .none .none .none (s z130 891) none (r 618) .none),ar []⟩
def o620:Obj:=⟨.type "tuple",none,(.seq (ar [s z152 1009,s z151 1010]) 0),ar []⟩
def o621 (P:Params):Obj:=⟨.type "dict",none,(.dict (ar (([e z20 987 (s z130 891),e z22 991 (i 325 990),e z23 1001 (r 612),e z24 1008 (r 619),e z25 1011 (r 620),e z7 1012 .none]:List (Params→DictEntry)).map (· P))) 2),ar []⟩
def o622:Obj:=⟨.type "type",none,(.cls { name:=z146,bases:=[r 561],mro:=[r 622,r 561,.type "object"],ns:=621,qualname:=z146,hasDict:=true,slotNames:=[],subclasses:=[],abstract:=false,collection:=none,hasDel:=false }),ar [some (r 598),none,some (s z146 980),some (s z146 988),some (.builtin "object.__new__"),some (.bool true)]⟩
def o623:Obj:=⟨.type "super",none,(.fields (ar [r 622,r 622,r 622])),ar []⟩
def o624:Obj:=⟨.type "builtin_function_or_method",none,(.fields (ar [.builtin "object.__init_subclass__",r 622])),ar []⟩
def o3_10 (P:Params):Obj:=⟨.type "dict",none,(.dict (ar (([e z5 165 (s z130 891),e z7 166 .none,e z8 167 .none,e z9 168 (.builtin "__main__.__loader__#opaque"),e z10 169 .none,e z11 170 (r 6),e z12 171 (r 4),e z13 173 (s z1 172),e z14 174 .none,e z15 193 (r 21),e z16 197 (i 10 196),e z17 235 (r 46),e z18 251 (r 59),e z32 267 (r 71),e z33 283 (r 83),e z34 299 (r 95),e z35 306 (r 104),e z36 314 (r 111),e z40 322 (r 118),e z41 333 (r 125),e z42 339 (r 130),e z43 348 (r 137),e z44 357 (r 144),e z45 411 (r 175),e z46 415 (i 63 414),e z61 451 (r 203),e z62 484 (r 231),e z68 517 (r 257),e z69 558 (r 283),e z70 567 (r 292),e z82 648 (r 352),e z83 654 (r 361),e z102 710 (r 400),e z103 718 (r 411),e z104 727 (r 418),e z105 736 (r 425),e z106 745 (r 432),e z107 753 (r 439),e z108 767 (r 447),e z109 777 (r 454),e z125 810 (r 471),e z126 843 (r 499),e z131 877 (r 523),e z132 884 (r 532),e z133 890 (r 537),e z134 896 (i 1048576 895),e z135 900 (i 32768 899),e z136 938 (r 561),e z145 979 (r 595),e z146 1014 (r 622),e z155 1047 (r 649),e z156 1089 (r 683)]:List (Params→DictEntry)).map (· P))) 52),ar []⟩
def o12_10:Obj:=⟨.none,none,(.fields (ar [i 1 0,i 0 0,r 20,i 6 0,i 0 0,r 27,i 17 0,i 0 0,r 55,i 19 0,i 0 0,r 67,i 21 0,i 0 0,r 79,i 23 0,i 0 0,r 91,i 25 0,i 0 0,r 103,i 27 0,i 0 0,r 110,i 29 0,i 0 0,r 117,i 31 0,i 0 0,r 124,i 38 0,i 0 0,r 129,i 44 0,i 0 0,r 136,i 53 0,i 0 0,r 143,i 61 0,i 0 0,r 150,i 77 0,i 0 0,r 185,i 84 0,i 0 0,r 213,i 92 0,i 0 0,r 239,i 100 0,i 0 0,r 265,i 114 0,i 0 0,r 291,i 122 0,i 0 0,r 298,i 154 0,i 0 0,r 360,i 165 0,i 0 0,r 367,i 188 0,i 0 0,r 410,i 194 0,i 0 0,r 417,i 200 0,i 0 0,r 424,i 214 0,i 0 0,r 431,i 222 0,i 0 0,r 438,i 230 0,i 0 0,r 446,i 245 0,i 0 0,r 453,i 259 0,i 0 0,r 460,i 264 0,i 0 0,r 481,i 272 0,i 0 0,r 507,i 281 0,i 0 0,r 531,i 285 0,i 0 0,r 536,i 305 0,i 0 0,r 543,i 313 0,i 0 0,r 571,i 325 0,i 0 0,r 603,i 334 0,i 0 0,r 630,i 342 0,i 0 0,r 657])),ar []⟩
def o561_10:Obj:=⟨.type "type",none,(.cls { name:=z136,bases:=[.type "object"],mro:=[r 561,.type "object"],ns:=560,qualname:=z136,hasDict:=true,slotNames:=[],subclasses:=[r 595,r 622,r 649,r 683],abstract:=false,collection:=none,hasDel:=false }),ar [none,none,some (s z136 901),some (s z136 909),some (.builtin "object.__new__"),some (.bool true)]⟩
def o625:Obj:=⟨.type "tuple",none,(.seq (ar [r 561]) 0),ar []⟩
def o626:Obj:=⟨.type "builtin_function_or_method",none,(.fields (ar [.builtin "type.__prepare__",.type "type"])),ar []⟩
def o627 (P:Params):Obj:=⟨.type "dict",none,(.dict (ar (([e z20 1022 (s z130 891),e z21 1024 (s z155 1023),e z22 1026 (i 334 1025),e z23 1035 (r 639),e z24 1042 (r 646),e z25 1044 (r 647)]:List (Params→DictEntry)).map (· P))) 6),ar []⟩
def o628:Obj:=⟨.type "tuple",none,(.seq (ar []) 0),ar []⟩
def o629:Obj:=⟨.none,none,(.fields (ar [i 336 0,i 4 0,r 638,i 340 0,i 4 0,r 645])),ar []⟩
def o630:Obj:=⟨.type "code",none,(.fields (ar [s z155 1017,s z155 1018,s z1 1019,i 334 0,i 0 0,i 0 0,i 0 0,i 0 0,r 628,.bool false,i 181 0,r 629,.none,.none,.none,.none,i 1020 0,i 334 0,s z1 1021])),ar []⟩
def o631:Obj:=⟨.type "frame",none,.plain,ar [some (r 630),some (r 3),some (r 627),none,some (s z130 891),none,some (r 0)]⟩
def o632:Obj:=⟨.type "tuple",none,(.seq (ar [.none]) 0),ar []⟩
def o633:Obj:=⟨.type "tuple",none,(.seq (ar []) 0),ar []⟩
def o634:Obj:=⟨.none,none,(.fields (ar [])),ar []⟩
def o635:Obj:=⟨.type "tuple",none,(.seq (ar [s z26 1030,s z115 1031,s z28 1032]) 0),ar []⟩
def o636:Obj:=⟨.type "tuple",none,(.seq (ar []) 0),ar []⟩
def o637:Obj:=⟨.none,none,(fnD z23 z157 (d2 46 0) .none .none .none .none none .none .none (g:=0) (b:=0)),ar []⟩
def o638:Obj:=⟨.type "code",none,(.fields (ar [s z23 1027,s z157 1028,s z1 1029,i 336 0,i 3 0,i 0 0,i 0 0,i 3 0,r 633,.bool true,i 181 0,r 634,.none,r 635,r 636,r 637,i 1033 0,i 336 0,s z1 1034])),ar []⟩
def o639:Obj:=⟨.type "function",none,(fnD z23 z157 (d2 46 0) (r 632) .none .none (s z130 891) none (r 638) .none),ar []⟩
def o640:Obj:=⟨.type "tuple",none,(.seq (ar []) 0),ar []⟩
def o641:Obj:=⟨.none,none,(.fields (ar [])),ar []⟩
def o642:Obj:=⟨.type "tuple",none,(.seq (ar [s z26 1039]) 0),ar []⟩
def o643:Obj:=⟨.type "tuple",none,(.seq (ar []) 0),ar []⟩
def o644:Obj:=⟨.none,none,(fnD z24 z158 (d2 46 1) .none .none .none .none none .none .none (g:=0) (b:=0)),ar []⟩
def o645:Obj:=⟨.type "code",none,(.fields (ar [s z24 1036,s z158 1037,s z1 1038,i 340 0,i 1 0,i 0 0,i 0 0,i 3 0,r 640,.bool true,i 181 0,r 641,.none,r 642,r 643,r 644,i 1040 0,i 340 0,s z1 1041])),ar []⟩
def o646:Obj:=⟨.type "function",none,(fnD z24 z158 (d2 46 1) .none .none .none (s z130 891) none (r 645) .none),ar []⟩
def o647:Obj:=⟨.type "tuple",none,(.seq (ar [s z115 1043]) 0),ar []⟩
def o648 (P:Params):Obj:=⟨.type "dict",none,(.dict (ar (([e z20 1022 (s z130 891),e z22 1026 (i 334 1025),e z23 1035 (r 639),e z24 1042 (r 646),e z25 1044 (r 647),e z7 1045 .none]:List (Params→DictEntry)).map (· P))) 2),ar []⟩
def o649:Obj:=⟨.type "type",none,(.cls { name:=z155,bases:=[r 561],mro:=[r 649,r 561,.type "object"],ns:=648,qualname:=z155,hasDict:=true,slotNames:=[],subclasses:=[],abstract:=false,collection:=none,hasDel:=false }),ar [some (r 625),none,some (s z155 1015),some (s z155 1023),some (.builtin "object.__new__"),some (.bool true)]⟩
def o650:Obj:=⟨.type "super",none,(.fields (ar [r 649,r 649,r 649])),ar []⟩
def o651:Obj:=⟨.type "builtin_function_or_method",none,(.fields (ar [.builtin "object.__init_subclass__",r 649])),ar []⟩
def o652:Obj:=⟨.type "tuple",none,(.seq (ar [r 561]) 0),ar []⟩
def o653:Obj:=⟨.type "builtin_function_or_method",none,(.fields (ar [.builtin "type.__prepare__",.type "type"])),ar []⟩
def o654 (P:Params):Obj:=⟨.type "dict",none,(.dict (ar (([e z20 1055 (s z130 891),e z21 1057 (s z156 1056),e z22 1059 (i 342 1058),e z23 1069 (r 666),e z142 1076 (r 673),e z24 1083 (r 680),e z25 1086 (r 681)]:List (Params→DictEntry)).map (· P))) 7),ar []⟩
def o655:Obj:=⟨.type "tuple",none,(.seq (ar []) 0),ar []⟩
def o656:Obj:=⟨.none,none,(.fields (ar [i 344 0,i 4 0,r 665,i 349 0,i 4 0,r 672,i 352 0,i 4 0,r 679])),ar []⟩
def o657:Obj:=⟨.type "code",none,(.fields (ar [s z156 1050,s z156 1051,s z1 1052,i 342 0,i 0 0,i 0 0,i 0 0,i 0 0,r 655,.bool false,i 181 0,r 656,.none,.none,.none,.none,i 1053 0,i 342 0,s z1 1054])),ar []⟩
def o658:Obj:=⟨.type "frame",none,.plain,ar [some (r 657),some (r 3),some (r 654),none,some (s z130 891),none,some (r 0)]⟩
def o659:Obj:=⟨.type "tuple",none,(.seq (ar [.none]) 0),ar []⟩
def o660:Obj:=⟨.type "tuple",none,(.seq (ar []) 0),ar []⟩
def o661:Obj:=⟨.none,none,(.fields (ar [])),ar []⟩
def o662:Obj:=⟨.type "tuple",none,(.seq (ar [s z26 1063,s z121 1064,s z159 1065,s z28 1066]) 0),ar []⟩
def o663:Obj:=⟨.type "tuple",none,(.seq (ar []) 0),ar []⟩
def o664:Obj:=⟨.none,none,(fnD z23 z160 (d2 47 0) .none .none .none .none none .none .none (g:=0) (b:=0)),ar []⟩
def o665:Obj:=⟨.type "code",none,(.fields (ar [s z23 1060,s z160 1061,s z1 1062,i 344 0,i 4 0,i 0 0,i 0 0,i 3 0,r 660,.bool true,i 181 0,r 661,.none,r 662,r 663,r 664,i 1067 0,i 344 0,s z1 1068])),ar []⟩
def o666:Obj:=⟨.type "function",none,(fnD z23 z160 (d2 47 0) (r 659) .none .none (s z130 891) none (r 665) .none),ar []⟩
def o667:Obj:=⟨.type "tuple",none,(.seq (ar []) 0),ar []⟩
def o668:Obj:=⟨.none,none,(.fields (ar [])),ar []⟩
def o669:Obj:=⟨.type "tuple",none,(.seq (ar [s z26 1073]) 0),ar []⟩
def o670:Obj:=⟨.type "tuple",none,(.seq (ar []) 0),ar []⟩
def o671:Obj:=⟨.none,none,(fnD z142 z161 (d2 47 1) .none .none .none .none none .none .none (g:=0) (b:=0)),ar []⟩
def o672:Obj:=⟨.type "code",none,(.fields (ar [s z142 1070,s z161 1071,s z1 1072,i 349 0,i 1 0,i 0 0,i 0 0,i 3 0,r 667,.bool true,i 181 0,r 668,.none,r 669,r 670,r 671,i 1074 0,i 349 0,s z1 1075])),ar []⟩
def o673:Obj:=⟨.type "function",none,(fnD z142 z161 (d2 47 1) .none .none .none (s z130 891) none (r 672) .none),ar []⟩
def o674:Obj:=⟨.type "tuple",none,(.seq (ar []) 0),ar []⟩
def o675:Obj:=⟨.none,none,(.fields (ar [])),ar []⟩
def o676:Obj:=⟨.type "tuple",none,(.seq (ar [s z26 1080]) 0),ar []⟩
def o677:Obj:=⟨.type "tuple",none,(.seq (ar []) 0),ar []⟩
def o678:Obj:=⟨.none,none,(fnD z24 z162 (d2 47 2) .none .none .none .none none .none .none (g:=0) (b:=0)),ar []⟩
def o679:Obj:=⟨.type "code",none,(.fields (ar [s z24 1077,s z162 1078,s z1 1079,i 352 0,i 1 0,i 0 0,i 0 0,i 3 0,r 674,.bool true,i 181 0,r 675,.none,r 676,r 677,r 678,i 1081 0,i 352 0,s z1 1082])),ar []⟩
def o680:Obj:=⟨.type "function",none,(fnD z24 z162 (d2 47 2) .none .none .none (s z130 891) none (r 679) .none),ar []⟩
def o681:Obj:=⟨.type "tuple",none,(.seq (ar [s z121 1084,s z159 1085]) 0),ar []⟩
def o682 (P:Params):Obj:=⟨.type "dict",none,(.dict (ar (([e z20 1055 (s z130 891),e z22 1059 (i 342 1058),e z23 1069 (r 666),e z142 1076 (r 673),e z24 1083 (r 680),e z25 1086 (r 681),e z7 1087 .none]:List (Params→DictEntry)).map (· P))) 2),ar []⟩
def o683:Obj:=⟨.type "type",none,(.cls { name:=z156,bases:=[r 561],mro:=[r 683,r 561,.type "object"],ns:=682,qualname:=z156,hasDict:=true,slotNames:=[],subclasses:=[],abstract:=false,collection:=none,hasDel:=false }),ar [some (r 652),none,some (s z156 1048),some (s z156 1056),some (.builtin "object.__new__"),some (.bool true)]⟩
def o684:Obj:=⟨.type "super",none,(.fields (ar [r 683,r 683,r 683])),ar []⟩
def o685:Obj:=⟨.type "builtin_function_or_method",none,(.fields (ar [.builtin "object.__init_subclass__",r 683])),ar []⟩
def o3_11 (P:Params):Obj:=⟨.type "dict",none,(.dict (ar (([e z5 165 (s z130 891),e z7 166 .none,e z8 167 .none,e z9 168 (.builtin "__main__.__loader__#opaque"),e z10 169 .none,e z11 170 (r 6),e z12 171 (r 4),e z13 173 (s z1 172),e z14 174 .none,e z15 193 (r 21),e z16 197 (i 10 196),e z17 235 (r 46),e z18 251 (r 59),e z32 267 (r 71),e z33 283 (r 83),e z34 299 (r 95),e z35 306 (r 104),e z36 314 (r 111),e z40 322 (r 118),e z41 333 (r 125),e z42 339 (r 130),e z43 348 (r 137),e z44 357 (r 144),e z45 411 (r 175),e z46 415 (i 63 414),e z61 451 (r 203),e z62 484 (r 231),e z68 517 (r 257),e z69 558 (r 283),e z70 567 (r 292),e z82 648 (r 352),e z83 654 (r 361),e z102 710 (r 400),e z103 718 (r 411),e z104 727 (r 418),e z105 736 (r 425),e z106 745 (r 432),e z107 753 (r 439),e z108 767 (r 447),e z109 777 (r 454),e z125 810 (r 471),e z126 843 (r 499),e z131 877 (r 523),e z132 884 (r 532),e z133 890 (r 537),e z134 896 (i 1048576 895),e z135 900 (i 32768 899),e z136 938 (r 561),e z145 979 (r 595),e z146 1014 (r 622),e z155 1047 (r 649),e z156 1089 (r 683),e z163 1124 (r 710),e z164 1202 (r 769)]:List (Params→DictEntry)).map (· P))) 54),ar []⟩
def o12_11:Obj:=⟨.none,none,(.fields (ar [i 1 0,i 0 0,r 20,i 6 0,i 0 0,r 27,i 17 0,i 0 0,r 55,i 19 0,i 0 0,r 67,i 21 0,i 0 0,r 79,i 23 0,i 0 0,r 91,i 25 0,i 0 0,r 103,i 27 0,i 0 0,r 110,i 29 0,i 0 0,r 117,i 31 0,i 0 0,r 124,i 38 0,i 0 0,r 129,i 44 0,i 0 0,r 136,i 53 0,i 0 0,r 143,i 61 0,i 0 0,r 150,i 77 0,i 0 0,r 185,i 84 0,i 0 0,r 213,i 92 0,i 0 0,r 239,i 100 0,i 0 0,r 265,i 114 0,i 0 0,r 291,i 122 0,i 0 0,r 298,i 154 0,i 0 0,r 360,i 165 0,i 0 0,r 367,i 188 0,i 0 0,r 410,i 194 0,i 0 0,r 417,i 200 0,i 0 0,r 424,i 214 0,i 0 0,r 431,i 222 0,i 0 0,r 438,i 230 0,i 0 0,r 446,i 245 0,i 0 0,r 453,i 259 0,i 0 0,r 460,i 264 0,i 0 0,r 481,i 272 0,i 0 0,r 507,i 281 0,i 0 0,r 531,i 285 0,i 0 0,r 536,i 305 0,i 0 0,r 543,i 313 0,i 0 0,r 571,i 325 0,i 0 0,r 603,i 334 0,i 0 0,r 630,i 342 0,i 0 0,r 657,i 354 0,i 0 0,r 691,i 363 0,i 0 0,r 718])),ar []⟩
def o561_11:Obj:=⟨.type "type",none,(.cls { name:=z136,bases:=[.type "object"],mro:=[r 561,.type "object"],ns:=560,qualname:=z136,hasDict:=true,slotNames:=[],subclasses:=[r 595,r 622,r 649,r 683,r 710],abstract:=false,collection:=none,hasDel:=false }),ar [none,none,some (s z136 901),some (s z136 909),some (.builtin "object.__new__"),some (.bool true)]⟩
def o686:Obj:=⟨.type "tuple",none,(.seq (ar [r 561]) 0),ar []⟩
def o687:Obj:=⟨.type "builtin_function_or_method",none,(.fields (ar [.builtin "type.__prepare__",.type "type"])),ar []⟩
def o688 (P:Params):Obj:=⟨.type "dict",none,(.dict (ar (([e z20 1097 (s z130 891),e z21 1099 (s z163 1098),e z22 1101 (i 354 1100),e z23 1111 (r 700),e z24 1118 (r 707),e z25 1121 (r 708)]:List (Params→DictEntry)).map (· P))) 6),ar []⟩
def o689:Obj:=⟨.type "tuple",none,(.seq (ar []) 0),ar []⟩
def o690:Obj:=⟨.none,none,(.fields (ar [i 356 0,i 4 0,r 699,i 361 0,i 4 0,r 706])),ar []⟩
def o691:Obj:=⟨.type "code",none,(.fields (ar [s z163 1092,s z163 1093,s z1 1094,i 354 0,i 0 0,i 0 0,i 0 0,i 0 0,r 689,.bool false,i 181 0,r 690,.none,.none,.none,.none,i 1095 0,i 354 0,s z1 1096])),ar []⟩
def o692:Obj:=⟨.type "frame",none,.plain,ar [some (r 691),some (r 3),some (r 688),none,some (s z130 891),none,some (r 0)]⟩
def o693:Obj:=⟨.type "tuple",none,(.seq (ar [.none]) 0),ar []⟩
def o694:Obj:=⟨.type "tuple",none,(.seq (ar []) 0),ar []⟩
def o695:Obj:=⟨.none,none,(.fields (ar [])),ar []⟩
def o696:Obj:=⟨.type "tuple",none,(.seq (ar [s z26 1105,s z115 1106,s z165 1107,s z28 1108]) 0),ar []⟩
def o697:Obj:=⟨.type "tuple",none,(.seq (ar []) 0),ar []⟩
def o698:Obj:=⟨.none,none,(fnD z23 z166 (d2 48 0) .none .none .none .none none .none .none (g:=0) (b:=0)),ar []⟩
def o699:Obj:=⟨.type "code",none,(.fields (ar [s z23 1102,s z166 1103,s z1 1104,i 356 0,i 4 0,i 0 0,i 0 0,i 3 0,r 694,.bool true,i 181 0,r 695,.none,r 696,r 697,r 698,i 1109 0,i 356 0,s z1 1110])),ar []⟩
def o700:Obj:=⟨.type "function",none,(fnD z23 z166 (d2 48 0) (r 693) .none .none (s z130 891) none (r 699) .none),ar []⟩
def o701:Obj:=⟨.type "tuple",none,(.seq (ar []) 0),ar []⟩
def o702:Obj:=⟨.none,none,(.fields (ar [])),ar []⟩
def o703:Obj:=⟨.type "tuple",none,(.seq (ar [s z26 1115]) 0),ar []⟩
def o704:Obj:=⟨.type "tuple",none,(.seq (ar []) 0),ar []⟩
def o705:Obj:=⟨.none,none,(fnD z24 z167 (d2 48 1) .none .none .none .none none .none .none (g:=0) (b:=0)),ar []⟩
def o706:Obj:=⟨.type "code",none,(.fields (ar [s z24 1112,s z167 1113,s z1 1114,i 361 0,i 1 0,i 0 0,i 0 0,i 3 0,r 701,.bool true,i 181 0,r 702,.none,r 703,r 704,r 705,i 1116 0,i 361 0,s z1 1117])),ar []⟩
def o707:Obj:=⟨.type "function",none,(fnD z24 z167 (d2 48 1) .none .none .none (s z130 891) none (r 706) .none),ar []⟩
def o708:Obj:=⟨.type "tuple",none,(.seq (ar [s z115 1119,s z165 1120]) 0),ar []⟩
def o709 (P:Params):Obj:=⟨.type "dict",none,(.dict (ar (([e z20 1097 (s z130 891),e z22 1101 (i 354 1100),e z23 1111 (r 700),e z24 1118 (r 707),e z25 1121 (r 708),e z7 1122 .none]:List (Params→DictEntry)).map (· P))) 2),ar []⟩
def o710:Obj:=⟨.type "type",none,(.cls { name:=z163,bases:=[r 561],mro:=[r 710,r 561,.type "object"],ns:=709,qualname:=z163,hasDict:=true,slotNames:=[],subclasses:=[],abstract:=false,collection:=none,hasDel:=false }),ar [some (r 686),none,some (s z163 1090),some (s z163 1098),some (.builtin "object.__new__"),some (.bool true)]⟩
def o711:Obj:=⟨.type "super",none,(.fields (ar [r 710,r 710,r 710])),ar []⟩
def o712:Obj:=⟨.type "builtin_function_or_method",none,(.fields (ar [.builtin "object.__init_subclass__",r 710])),ar []⟩
def o713:Obj:=⟨.type "tuple",none,(.seq (ar []) 0),ar []⟩
def o714:Obj:=⟨.type "builtin_function_or_method",none,(.fields (ar [.builtin "type.__prepare__",.type "type"])),ar []⟩
def o715 (P:Params):Obj:=⟨.type "dict",none,(.dict (ar (([e z20 1132 (s z130 891),e z21 1134 (s z164 1133),e z22 1136 (i 363 1135),e z23 1144 (r 726),e z152 1151 (r 733),e z168 1158 (r 740),e z87 1166 (r 747),e z169 1174 (r 754),e z170 1185 (r 761),e z24 1191 (r 766),e z25 1195 (r 767)]:List (Params→DictEntry)).map (· P))) 11),ar []⟩
def o716:Obj:=⟨.type "tuple",none,(.seq (ar []) 0),ar []⟩
def o717:Obj:=⟨.none,none,(.fields (ar [i 365 0,i 4 0,r 725,i 370 0,i 4 0,r 732,i 373 0,i 4 0,r 739,i 376 0,i 4 0,r 746,i 379 0,i 4 0,r 753,i 382 0,i 4 0,r 760,i 390 0,i 4 0,r 765])),ar []⟩
def o718:Obj:=⟨.type "code",none,(.fields (ar [s z164 1127,s z164 1128,s z1 1129,i 363 0,i 0 0,i 0 0,i 0 0,i 0 0,r 716,.bool false,i 181 0,r 717,.none,.none,.none,.none,i 1130 0,i 363 0,s z1 1131])),ar []⟩
def o719:Obj:=⟨.type "frame",none,.plain,ar [some (r 718),some (r 3),some (r 715),none,some (s z130 891),none,some (r 0)]⟩
def o720:Obj:=⟨.type "tuple",none,(.seq (ar []) 0),ar []⟩
def o721:Obj:=⟨.none,none,(.fields (ar [])),ar []⟩
def o722:Obj:=⟨.type "tuple",none,(.seq (ar [s z26 1140,s z54 1141]) 0),ar []⟩
def o723:Obj:=⟨.type "tuple",none,(.seq (ar []) 0),ar []⟩
def o724:Obj:=⟨.none,none,(fnD z23 z171 (d2 49 0) .none .none .none .none none .none .none (g:=0) (b:=0)),ar []⟩
def o725:Obj:=⟨.type "code",none,(.fields (ar [s z23 1137,s z171 1138,s z1 1139,i 365 0,i 2 0,i 0 0,i 0 0,i 3 0,r 720,.bool true,i 181 0,r 721,.none,r 722,r 723,r 724,i 1142 0,i 365 0,s z1 1143])),ar []⟩
def o726:Obj:=⟨.type "function",none,(fnD z23 z171 (d2 49 0) .none .none .none (s z130 891) none (r 725) .none),ar []⟩
def o727:Obj:=⟨.type "tuple",none,(.seq (ar []) 0),ar []⟩
def o728:Obj:=⟨.none,none,(.fields (ar [])),ar []⟩
def o729:Obj:=⟨.type "tuple",none,(.seq (ar [s z26 1148]) 0),ar []⟩
def o730:Obj:=⟨.type "tuple",none,(.seq (ar []) 0),ar []⟩
def o731:Obj:=⟨.none,none,(fnD z152 z172 (d2 49 1) .none .none .none .none none .none .none (g:=0) (b:=0)),ar []⟩
def o732:Obj:=⟨.type "code",none,(.fields (ar [s z152 1145,s z172 1146,s z1 1147,i 370 0,i 1 0,i 0 0,i 0 0,i 3 0,r 727,.bool true,i 181 0,r 728,.none,r 729,r 730,r 731,i 1149 0,i 370 0,s z1 1150])),ar []⟩
def o733:Obj:=⟨.type "function",none,(fnD z152 z172 (d2 49 1) .none .none .none (s z130 891) none (r 732) .none),ar []⟩
def o734:Obj:=⟨.type "tuple",none,(.seq (ar []) 0),ar []⟩
def o735:Obj:=⟨.none,none,(.fields (ar [])),ar []⟩
def o736:Obj:=⟨.type "tuple",none,(.seq (ar [s z26 1155]) 0),ar []⟩
def o737:Obj:=⟨.type "tuple",none,(.seq (ar []) 0),ar []⟩
def o738:Obj:=⟨.none,none,(fnD z168 z173 (d2 49 2) .none .none .none .none none .none .none (g:=0) (b:=0)),ar []⟩
def o739:Obj:=⟨.type "code",none,(.fields (ar [s z168 1152,s z173 1153,s z1 1154,i 373 0,i 1 0,i 0 0,i 0 0,i 3 0,r 734,.bool true,i 181 0,r 735,.none,r 736,r 737,r 738,i 1156 0,i 373 0,s z1 1157])),ar []⟩
def o740:Obj:=⟨.type "function",none,(fnD z168 z173 (d2 49 2) .none .none .none (s z130 891) none (r 739) .none),ar []⟩
def o741:Obj:=⟨.type "tuple",none,(.seq (ar []) 0),ar []⟩
def o742:Obj:=⟨.none,none,(.fields (ar [])),ar []⟩
def o743:Obj:=⟨.type "tuple",none,(.seq (ar [s z26 1162,s z174 1163]) 0),ar []⟩
def o744:Obj:=⟨.type "tuple",none,(.seq (ar []) 0),ar []⟩
def o745:Obj:=⟨.none,none,(fnD z87 z175 (d2 49 3) .none .none .none .none none .none .none (g:=0) (b:=0)),ar []⟩
def o746:Obj:=⟨.type "code",none,(.fields (ar [s z87 1159,s z175 1160,s z1 1161,i 376 0,i 2 0,i 0 0,i 0 0,i 3 0,r 741,.bool true,i 181 0,r 742,.none,r 743,r 744,r 745,i 1164 0,i 376 0,s z1 1165])),ar []⟩
def o747:Obj:=⟨.type "function",none,(fnD z87 z175 (d2 49 3) .none .none .none (s z130 891) none (r 746) .none),ar []⟩
def o748:Obj:=⟨.type "tuple",none,(.seq (ar []) 0),ar []⟩
def o749:Obj:=⟨.none,none,(.fields (ar [])),ar []⟩
def o750:Obj:=⟨.type "tuple",none,(.seq (ar [s z26 1170,s z54 1171]) 0),ar []⟩
def o751:Obj:=⟨.type "tuple",none,(.seq (ar []) 0),ar []⟩
def o752:Obj:=⟨.none,none,(fnD z169 z176 (d2 49 4) .none .none .none .none none .none .none (g:=0) (b:=0)),ar []⟩
def o753:Obj:=⟨.type "code",none,(.fields (ar [s z169 1167,s z176 1168,s z1 1169,i 379 0,i 2 0,i 0 0,i 0 0,i 3 0,r 748,.bool true,i 181 0,r 749,.none,r 750,r 751,r 752,i 1172 0,i 379 0,s z1 1173])),ar []⟩
def o754:Obj:=⟨.type "function",none,(fnD z169 z176 (d2 49 4) .none .none .none (s z130 891) none (r 753) .none),ar []⟩
def o755:Obj:=⟨.type "tuple",none,(.seq (ar []) 0),ar []⟩
def o756:Obj:=⟨.none,none,(.fields (ar [])),ar []⟩
def o757:Obj:=⟨.type "tuple",none,(.seq (ar [s z26 1178,s z177 1179,s z178 1180,s z179 1181,s z174 1182]) 0),ar []⟩
def o758:Obj:=⟨.type "tuple",none,(.seq (ar []) 0),ar []⟩
def o759:Obj:=⟨.none,none,(fnD z170 z180 (d2 49 5) .none .none .none .none none .none .none (g:=0) (b:=0)),ar []⟩
def o760:Obj:=⟨.type "code",none,(.fields (ar [s z170 1175,s z180 1176,s z1 1177,i 382 0,i 3 0,i 0 0,i 0 0,i 3 0,r 755,.bool true,i 181 0,r 756,.none,r 757,r 758,r 759,i 1183 0,i 382 0,s z1 1184])),ar []⟩
def o761:Obj:=⟨.type "function",none,(fnD z170 z180 (d2 49 5) .none .none .none (s z130 891) none (r 760) .none),ar []⟩
def o762:Obj:=⟨.type "tuple",none,(.seq (ar []) 0),ar []⟩
def o763:Obj:=⟨.none,none,(.fields (ar [])),ar []⟩
def o764:Obj:=⟨.none,none,(fnD z24 z181 (d2 49 6) .none .none .none .none none .none .none (g:=0) (b:=0)),ar []⟩
def o765:Obj:=⟨.type "code",none,(.fields (ar [s z24 1186,s z181 1187,s z1 1188,i 390 0,i 1 0,i 0 0,i 0 0,i 3 0,r 762,.bool true,i 181 0,r 763,.none,.none,.none,r 764,i 1189 0,i 390 0,s z1 1190])),ar []⟩
def o766:Obj:=⟨.type "function",none,(fnD z24 z181 (d2 49 6) .none .none .none (s z130 891) none (r 765) .none),ar []⟩
def o767:Obj:=⟨.type "tuple",none,(.seq (ar [s z182 1192,s z54 1193,s z183 1194]) 0),ar []⟩
def o768 (P:Params):Obj:=⟨.type "dict",none,(.dict (ar (([e z20 1132 (s z130 891),e z22 1136 (i 363 1135),e z23 1144 (r 726),e z152 1151 (r 733),e z168 1158 (r 740),e z87 1166 (r 747),e z169 1174 (r 754),e z170 1185 (r 761),e z24 1191 (r 766),e z25 1195 (r 767),e z60 1197 (r 770),e z31 1199 (r 771),e z7 1200 .none]:List (Params→DictEntry)).map (· P))) 4),ar []⟩
def o769:Obj:=⟨.type "type",none,(.cls { name:=z164,bases:=[.type "object"],mro:=[r 769,.type "object"],ns:=768,qualname:=z164,hasDict:=true,slotNames:=[],subclasses:=[],abstract:=false,collection:=none,hasDel:=false }),ar [none,none,some (s z164 1125),some (s z164 1133),some (.builtin "object.__new__"),some (.bool true)]⟩
def o770:Obj:=⟨.type "getset_descriptor",none,(.fields (ar [s z60 1196,r 769,.builtin "function.__dict__",.builtin "function.__dict__#set"])),ar []⟩
def o771:Obj:=⟨.type "getset_descriptor",none,(.fields (ar [s z31 1198,r 769,.builtin "ExceptionGroup.__weakref__",.none])),ar []⟩
def o772:Obj:=⟨.type "super",none,(.fields (ar [r 769,r 769,r 769])),ar []⟩
def o773:Obj:=⟨.type "builtin_function_or_method",none,(.fields (ar [.builtin "object.__init_subclass__",r 769])),ar []⟩
def o3_12 (P:Params):Obj:=⟨.type "dict",none,(.dict (ar (([e z5 165 (s z130 891),e z7 166 .none,e z8 167 .none,e z9 168 (.builtin "__main__.__loader__#opaque"),e z10 169 .none,e z11 170 (r 6),e z12 171 (r 4),e z13 173 (s z1 172),e z14 174 .none,e z15 193 (r 21),e z16 197 (i 10 196),e z17 235 (r 46),e z18 251 (r 59),e z32 267 (r 71),e z33 283 (r 83),e z34 299 (r 95),e z35 306 (r 104),e z36 314 (r 111),e z40 322 (r 118),e z41 333 (r 125),e z42 339 (r 130),e z43 348 (r 137),e z44 357 (r 144),e z45 411 (r 175),e z46 415 (i 63 414),e z61 451 (r 203),e z62 484 (r 231),e z68 517 (r 257),e z69 558 (r 283),e z70 567 (r 292),e z82 648 (r 352),e z83 654 (r 361),e z102 710 (r 400),e z103 718 (r 411),e z104 727 (r 418),e z105 736 (r 425),e z106 745 (r 432),e z107 753 (r 439),e z108 767 (r 447),e z109 777 (r 454),e z125 810 (r 471),e z126 843 (r 499),e z131 877 (r 523),e z132 884 (r 532),e z133 890 (r 537),e z134 896 (i 1048576 895),e z135 900 (i 32768 899),e z136 938 (r 561),e z145 979 (r 595),e z146 1014 (r 622),e z155 1047 (r 649),e z156 1089 (r 683),e z163 1124 (r 710),e z164 1202 (r 769),e z184 1287 (r 830),e z185 1294 (r 841)]:List (Params→DictEntry)).map (· P))) 56),ar []⟩
def o12_12:Obj:=⟨.none,none,(.fields (ar [i 1 0,i 0 0,r 20,i 6 0,i 0 0,r 27,i 17 0,i 0 0,r 55,i 19 0,i 0 0,r 67,i 21 0,i 0 0,r 79,i 23 0,i 0 0,r 91,i 25 0,i 0 0,r 103,i 27 0,i 0 0,r 110,i 29 0,i 0 0,r 117,i 31 0,i 0 0,r 124,i 38 0,i 0 0,r 129,i 44 0,i 0 0,r 136,i 53 0,i 0 0,r 143,i 61 0,i 0 0,r 150,i 77 0,i 0 0,r 185,i 84 0,i 0 0,r 213,i 92 0,i 0 0,r 239,i 100 0,i 0 0,r 265,i 114 0,i 0 0,r 291,i 122 0,i 0 0,r 298,i 154 0,i 0 0,r 360,i 165 0,i 0 0,r 367,i 188 0,i 0 0,r 410,i 194 0,i 0 0,r 417,i 200 0,i 0 0,r 424,i 214 0,i 0 0,r 431,i 222 0,i 0 0,r 438,i 230 0,i 0 0,r 446,i 245 0,i 0 0,r 453,i 259 0,i 0 0,r 460,i 264 0,i 0 0,r 481,i 272 0,i 0 0,r 507,i 281 0,i 0 0,r 531,i 285 0,i 0 0,r 536,i 305 0,i 0 0,r 543,i 313 0,i 0 0,r 571,i 325 0,i 0 0,r 603,i 334 0,i 0 0,r 630,i 342 0,i 0 0,r 657,i 354 0,i 0 0,r 691,i 363 0,i 0 0,r 718,i 392 0,i 0 0,r 779,i 434 0,i 0 0,r 840])),ar []⟩
def o774:Obj:=⟨.type "tuple",none,(.seq (ar []) 0),ar []⟩
def o775:Obj:=⟨.type "builtin_function_or_method",none,(.fields (ar [.builtin "type.__prepare__",.type "type"])),ar []⟩
def o776 (P:Params):Obj:=⟨.type "dict",none,(.dict (ar (([e z20 1210 (s z130 891),e z21 1212 (s z184 1211),e z22 1214 (i 392 1213),e z23 1221 (r 787),e z186 1229 (r 794),e z187 1238 (r 801),e z188 1246 (r 808),e z189 1256 (r 815),e z190 1269 (r 822),e z24 1275 (r 827),e z25 1280 (r 828)]:List (Params→DictEntry)).map (· P))) 11),ar []⟩
def o777:Obj:=⟨.type "tuple",none,(.seq (ar []) 0),ar []⟩
def o778:Obj:=⟨.none,none,(.fields (ar [i 394 0,i 4 0,r 786,i 400 0,i 4 0,r 793,i 406 0,i 4 0,r 800,i 412 0,i 4 0,r 807,i 416 0,i 4 0,r 814,i 421 0,i 4 0,r 821,i 431 0,i 4 0,r 826])),ar []⟩
def o779:Obj:=⟨.type "code",none,(.fields (ar [s z184 1205,s z184 1206,s z1 1207,i 392 0,i 0 0,i 0 0,i 0 0,i 0 0,r 777,.bool false,i 181 0,r 778,.none,.none,.none,.none,i 1208 0,i 392 0,s z1 1209])),ar []⟩
def o780:Obj:=⟨.type "frame",none,.plain,ar [some (r 779),some (r 3),some (r 776),none,some (s z130 891),none,some (r 0)]⟩
def o781:Obj:=⟨.type "tuple",none,(.seq (ar []) 0),ar []⟩
def o782:Obj:=⟨.none,none,(.fields (ar [])),ar []⟩
def o783:Obj:=⟨.type "tuple",none,(.seq (ar [s z26 1218]) 0),ar []⟩
def o784:Obj:=⟨.type "tuple",none,(.seq (ar []) 0),ar []⟩
def o785:Obj:=⟨.none,none,(fnD z23 z191 (d2 50 0) .none .none .none .none none .none .none (g:=0) (b:=0)),ar []⟩
def o786:Obj:=⟨.type "code",none,(.fields (ar [s z23 1215,s z191 1216,s z1 1217,i 394 0,i 1 0,i 0 0,i 0 0,i 3 0,r 781,.bool true,i 181 0,r 782,.none,r 783,r 784,r 785,i 1219 0,i 394 0,s z1 1220])),ar []⟩
def o787:Obj:=⟨.type "function",none,(fnD z23 z191 (d2 50 0) .none .none .none (s z130 891) none (r 786) .none),ar []⟩
def o788:Obj:=⟨.type "tuple",none,(.seq (ar []) 0),ar []⟩
def o789:Obj:=⟨.none,none,(.fields (ar [])),ar []⟩
def o790:Obj:=⟨.type "tuple",none,(.seq (ar [s z26 1225,s z54 1226]) 0),ar []⟩
def o791:Obj:=⟨.type "tuple",none,(.seq (ar []) 0),ar []⟩
def o792:Obj:=⟨.none,none,(fnD z186 z192 (d2 50 1) .none .none .none .none none .none .none (g:=0) (b:=0)),ar []⟩
def o793:Obj:=⟨.type "code",none,(.fields (ar [s z186 1222,s z192 1223,s z1 1224,i 400 0,i 2 0,i 0 0,i 0 0,i 3 0,r 788,.bool true,i 181 0,r 789,.none,r 790,r 791,r 792,i 1227 0,i 400 0,s z1 1228])),ar []⟩
def o794:Obj:=⟨.type "function",none,(fnD z186 z192 (d2 50 1) .none .none .none (s z130 891) none (r 793) .none),ar []⟩
def o795:Obj:=⟨.type "tuple",none,(.seq (ar []) 0),ar []⟩
def o796:Obj:=⟨.none,none,(.fields (ar [])),ar []⟩
def o797:Obj:=⟨.type "tuple",none,(.seq (ar [s z26 1233,s z193 1234,s z54 1235]) 0),ar []⟩
def o798:Obj:=⟨.type "tuple",none,(.seq (ar []) 0),ar []⟩
def o799:Obj:=⟨.none,none,(fnD z187 z194 (d2 50 2) .none .none .none .none none .none .none (g:=0) (b:=0)),ar []⟩
def o800:Obj:=⟨.type "code",none,(.fields (ar [s z187 1230,s z194 1231,s z1 1232,i 406 0,i 2 0,i 0 0,i 0 0,i 3 0,r 795,.bool true,i 181 0,r 796,.none,r 797,r 798,r 799,i 1236 0,i 406 0,s z1 1237])),ar []⟩
def o801:Obj:=⟨.type "function",none,(fnD z187 z194 (d2 50 2) .none .none .none (s z130 891) none (r 800) .none),ar []⟩
def o802:Obj:=⟨.type "tuple",none,(.seq (ar []) 0),ar []⟩
def o803:Obj:=⟨.none,none,(.fields (ar [])),ar []⟩
def o804:Obj:=⟨.type "tuple",none,(.seq (ar [s z26 1242,s z54 1243]) 0),ar []⟩
def o805:Obj:=⟨.type "tuple",none,(.seq (ar []) 0),ar []⟩
def o806:Obj:=⟨.none,none,(fnD z188 z195 (d2 50 3) .none .none .none .none none .none .none (g:=0) (b:=0)),ar []⟩
def o807:Obj:=⟨.type "code",none,(.fields (ar [s z188 1239,s z195 1240,s z1 1241,i 412 0,i 2 0,i 0 0,i 0 0,i 3 0,r 802,.bool true,i 181 0,r 803,.none,r 804,r 805,r 806,i 1244 0,i 412 0,s z1 1245])),ar []⟩
def o808:Obj:=⟨.type "function",none,(fnD z188 z195 (d2 50 3) .none .none .none (s z130 891) none (r 807) .none),ar []⟩
def o809:Obj:=⟨.type "tuple",none,(.seq (ar []) 0),ar []⟩
def o810:Obj:=⟨.none,none,(.fields (ar [])),ar []⟩
def o811:Obj:=⟨.type "tuple",none,(.seq (ar [s z26 1250,s z120 1251,s z97 1252,s z54 1253]) 0),ar []⟩
def o812:Obj:=⟨.type "tuple",none,(.seq (ar []) 0),ar []⟩
def o813:Obj:=⟨.none,none,(fnD z189 z196 (d2 50 4) .none .none .none .none none .none .none (g:=0) (b:=0)),ar []⟩
def o814:Obj:=⟨.type "code",none,(.fields (ar [s z189 1247,s z196 1248,s z1 1249,i 416 0,i 3 0,i 0 0,i 0 0,i 3 0,r 809,.bool true,i 181 0,r 810,.none,r 811,r 812,r 813,i 1254 0,i 416 0,s z1 1255])),ar []⟩
def o815:Obj:=⟨.type "function",none,(fnD z189 z196 (d2 50 4) .none .none .none (s z130 891) none (r 814) .none),ar []⟩
def o816:Obj:=⟨.type "tuple",none,(.seq (ar []) 0),ar []⟩
def o817:Obj:=⟨.none,none,(.fields (ar [])),ar []⟩
def o818:Obj:=⟨.type "tuple",none,(.seq (ar [s z26 1260,s z120 1261,s z97 1262,s z187 1263,s z178 1264,s z177 1265,s z197 1266]) 0),ar []⟩
def o819:Obj:=⟨.type "tuple",none,(.seq (ar []) 0),ar []⟩
def o820:Obj:=⟨.none,none,(fnD z190 z198 (d2 50 5) .none .none .none .none none .none .none (g:=0) (b:=0)),ar []⟩
def o821:Obj:=⟨.type "code",none,(.fields (ar [s z190 1257,s z198 1258,s z1 1259,i 421 0,i 3 0,i 0 0,i 0 0,i 3 0,r 816,.bool true,i 181 0,r 817,.none,r 818,r 819,r 820,i 1267 0,i 421 0,s z1 1268])),ar []⟩
def o822:Obj:=⟨.type "function",none,(fnD z190 z198 (d2 50 5) .none .none .none (s z130 891) none (r 821) .none),ar []⟩
def o823:Obj:=⟨.type "tuple",none,(.seq (ar []) 0),ar []⟩
def o824:Obj:=⟨.none,none,(.fields (ar [])),ar []⟩
def o825:Obj:=⟨.none,none,(fnD z24 z199 (d2 50 6) .none .none .none .none none .none .none (g:=0) (b:=0)),ar []⟩
def o826:Obj:=⟨.type "code",none,(.fields (ar [s z24 1270,s z199 1271,s z1 1272,i 431 0,i 1 0,i 0 0,i 0 0,i 3 0,r 823,.bool true,i 181 0,r 824,.none,.none,.none,r 825,i 1273 0,i 431 0,s z1 1274])),ar []⟩
def o827:Obj:=⟨.type "function",none,(fnD z24 z199 (d2 50 6) .none .none .none (s z130 891) none (r 826) .none),ar []⟩
def o828:Obj:=⟨.type "tuple",none,(.seq (ar [s z113 1276,s z200 1277,s z201 1278,s z202 1279]) 0),ar []⟩
def o829 (P:Params):Obj:=⟨.type "dict",none,(.dict (ar (([e z20 1210 (s z130 891),e z22 1214 (i 392 1213),e z23 1221 (r 787),e z186 1229 (r 794),e z187 1238 (r 801),e z188 1246 (r 808),e z189 1256 (r 815),e z190 1269 (r 822),e z24 1275 (r 827),e z25 1280 (r 828),e z60 1282 (r 831),e z31 1284 (r 832),e z7 1285 .none]:List (Params→DictEntry)).map (· P))) 4),ar []⟩
def o830:Obj:=⟨.type "type",none,(.cls { name:=z184,bases:=[.type "object"],mro:=[r 830,.type "object"],ns:=829,qualname:=z184,hasDict:=true,slotNames:=[],subclasses:=[],abstract:=false,collection:=none,hasDel:=false }),ar [none,none,some (s z184 1203),some (s z184 1211),some (.builtin "object.__new__"),some (.bool true)]⟩
def o831:Obj:=⟨.type "getset_descriptor",none,(.fields (ar [s z60 1281,r 830,.builtin "function.__dict__",.builtin "function.__dict__#set"])),ar []⟩
def o832:Obj:=⟨.type "getset_descriptor",none,(.fields (ar [s z31 1283,r 830,.builtin "ExceptionGroup.__weakref__",.none])),ar []⟩
def o833:Obj:=⟨.type "super",none,(.fields (ar [r 830,r 830,r 830])),ar []⟩
def o834:Obj:=⟨.type "builtin_function_or_method",none,(.fields (ar [.builtin "object.__init_subclass__",r 830])),ar []⟩
def o835:Obj:=⟨.type "tuple",none,(.seq (ar []) 0),ar []⟩
def o836:Obj:=⟨.none,none,(.fields (ar [])),ar []⟩
def o837:Obj:=⟨.type "tuple",none,(.seq (ar [s z137 1291]) 0),ar []⟩
def o838:Obj:=⟨.type "tuple",none,(.seq (ar []) 0),ar []⟩
def o839:Obj:=⟨.none,none,(fnD z185 z185 (d1 51) .none .none .none .none none .none .none (g:=0) (b:=0)),ar []⟩
def o840:Obj:=⟨.type "code",none,(.fields (ar [s z185 1288,s z185 1289,s z1 1290,i 434 0,i 1 0,i 0 0,i 0 0,i 3 0,r 835,.bool true,i 181 0,r 836,.none,r 837,r 838,r 839,i 1292 0,i 434 0,s z1 1293])),ar []⟩
def o841:Obj:=⟨.type "function",none,(fnD z185 z185 (d1 51) .none .none .none (s z130 891) none (r 840) .none),ar []⟩
def o3_13 (P:Params):Obj:=⟨.type "dict",none,(.dict (ar (([e z5 165 (s z130 891),e z7 166 .none,e z8 167 .none,e z9 168 (.builtin "__main__.__loader__#opaque"),e z10 169 .none,e z11 170 (r 6),e z12 171 (r 4),e z13 173 (s z1 172),e z14 174 .none,e z15 193 (r 21),e z16 197 (i 10 196),e z17 235 (r 46),e z18 251 (r 59),e z32 267 (r 71),e z33 283 (r 83),e z34 299 (r 95),e z35 306 (r 104),e z36 314 (r 111),e z40 322 (r 118),e z41 333 (r 125),e z42 339 (r 130),e z43 348 (r 137),e z44 357 (r 144),e z45 411 (r 175),e z46 415 (i 63 414),e z61 451 (r 203),e z62 484 (r 231),e z68 517 (r 257),e z69 558 (r 283),e z70 567 (r 292),e z82 648 (r 352),e z83 654 (r 361),e z102 710 (r 400),e z103 718 (r 411),e z104 727 (r 418),e z105 736 (r 425),e z106 745 (r 432),e z107 753 (r 439),e z108 767 (r 447),e z109 777 (r 454),e z125 810 (r 471),e z126 843 (r 499),e z131 877 (r 523),e z132 884 (r 532),e z133 890 (r 537),e z134 896 (i 1048576 895),e z135 900 (i 32768 899),e z136 938 (r 561),e z145 979 (r 595),e z146 1014 (r 622),e z155 1047 (r 649),e z156 1089 (r 683),e z163 1124 (r 710),e z164 1202 (r 769),e z184 1287 (r 830),e z185 1294 (r 841),e z203 1476 (r 961)]:List (Params→DictEntry)).map (· P))) 57),ar []⟩
def o12_13:Obj:=⟨.none,none,(.fields (ar [i 1 0,i 0 0,r 20,i 6 0,i 0 0,r 27,i 17 0,i 0 0,r 55,i 19 0,i 0 0,r 67,i 21 0,i 0 0,r 79,i 23 0,i 0 0,r 91,i 25 0,i 0 0,r 103,i 27 0,i 0 0,r 110,i 29 0,i 0 0,r 117,i 31 0,i 0 0,r 124,i 38 0,i 0 0,r 129,i 44 0,i 0 0,r 136,i 53 0,i 0 0,r 143,i 61 0,i 0 0,r 150,i 77 0,i 0 0,r 185,i 84 0,i 0 0,r 213,i 92 0,i 0 0,r 239,i 100 0,i 0 0,r 265,i 114 0,i 0 0,r 291,i 122 0,i 0 0,r 298,i 154 0,i 0 0,r 360,i 165 0,i 0 0,r 367,i 188 0,i 0 0,r 410,i 194 0,i 0 0,r 417,i 200 0,i 0 0,r 424,i 214 0,i 0 0,r 431,i 222 0,i 0 0,r 438,i 230 0,i 0 0,r 446,i 245 0,i 0 0,r 453,i 259 0,i 0 0,r 460,i 264 0,i 0 0,r 481,i 272 0,i 0 0,r 507,i 281 0,i 0 0,r 531,i 285 0,i 0 0,r 536,i 305 0,i 0 0,r 543,i 313 0,i 0 0,r 571,i 325 0,i 0 0,r 603,i 334 0,i 0 0,r 630,i 342 0,i 0 0,r 657,i 354 0,i 0 0,r 691,i 363 0,i 0 0,r 718,i 392 0,i 0 0,r 779,i 434 0,i 0 0,r 840,i 442 0,i 0 0,r 847])),ar []⟩
def o842:Obj:=⟨.type "tuple",none,(.seq (ar []) 0),ar []⟩
def o843:Obj:=⟨.type "builtin_function_or_method",none,(.fields (ar [.builtin "type.__prepare__",.type "type"])),ar []⟩
def o844 (P:Params):Obj:=⟨.type "dict",none,(.dict (ar (([e z20 1302 (s z130 891),e z21 1304 (s z203 1303),e z22 1306 (i 442 1305),e z23 1312 (r 853),e z204 1320 (r 860),e z193 1329 (r 867),e z205 1338 (r 874),e z49 1348 (r 881),e z206 1361 (r 888),e z38 1369 (r 895),e z207 1380 (r 902),e z121 1390 (r 909),e z208 1404 (r 916),e z209 1413 (r 923),e z210 1423 (r 930),e z211 1434 (r 937),e z212 1443 (r 944),e z213 1453 (r 951),e z159 1465 (r 958),e z25 1469 (r 959)]:List (Params→DictEntry)).map (· P))) 20),ar []⟩
def o845:Obj:=⟨.type "tuple",none,(.seq (ar []) 0),ar []⟩
def o846:Obj:=⟨.none,none,(.fields (ar [i 444 0,i 4 0,r 852,i 452 0,i 4 0,r 859,i 460 0,i 4 0,r 866,i 465 0,i 4 0,r 873,i 468 0,i 4 0,r 880,i 474 0,i 4 0,r 887,i 501 0,i 4 0,r 894,i 504 0,i 4 0,r 901,i 515 0,i 4 0,r 908,i 521 0,i 4 0,r 915,i 534 0,i 4 0,r 922,i 541 0,i 4 0,r 929,i 551 0,i 4 0,r 936,i 559 0,i 4 0,r 943,i 564 0,i 4 0,r 950,i 572 0,i 4 0,r 957])),ar []⟩
def o847:Obj:=⟨.type "code",none,(.fields (ar [s z203 1297,s z203 1298,s z1 1299,i 442 0,i 0 0,i 0 0,i 0 0,i 0 0,r 845,.bool false,i 181 0,r 846,.none,.none,.none,.none,i 1300 0,i 442 0,s z1 1301])),ar []⟩
def o848:Obj:=⟨.type "frame",none,.plain,ar [some (r 847),some (r 3),some (r 844),none,some (s z130 891),none,some (r 0)]⟩
def o849:Obj:=⟨.type "tuple",none,(.seq (ar []) 0),ar []⟩
def o850:Obj:=⟨.none,none,(.fields (ar [])),ar []⟩
def o851:Obj:=⟨.none,none,(fnD z23 z214 (d2 52 0) .none .none .none .none none .none .none (g:=0) (b:=0)),ar []⟩
def o852:Obj:=⟨.type "code",none,(.fields (ar [s z23 1307,s z214 1308,s z1 1309,i 444 0,i 2 0,i 0 0,i 0 0,i 3 0,r 849,.bool true,i 181 0,r 850,.none,.none,.none,r 851,i 1310 0,i 444 0,s z1 1311])),ar []⟩
def o853:Obj:=⟨.type "function",none,(fnD z23 z214 (d2 52 0) .none .none .none (s z130 891) none (r 852) .none),ar []⟩
def o854:Obj:=⟨.type "tuple",none,(.seq (ar []) 0),ar []⟩
def o855:Obj:=⟨.none,none,(.fields (ar [])),ar []⟩
def o856:Obj:=⟨.type "tuple",none,(.seq (ar [s z26 1316,s z215 1317]) 0),ar []⟩
def o857:Obj:=⟨.type "tuple",none,(.seq (ar []) 0),ar []⟩
def o858:Obj:=⟨.none,none,(fnD z204 z216 (d2 52 1) .none .none .none .none none .none .none (g:=0) (b:=0)),ar []⟩
def o859:Obj:=⟨.type "code",none,(.fields (ar [s z204 1313,s z216 1314,s z1 1315,i 452 0,i 2 0,i 0 0,i 0 0,i 3 0,r 854,.bool true,i 181 0,r 855,.none,r 856,r 857,r 858,i 1318 0,i 452 0,s z1 1319])),ar []⟩
def o860:Obj:=⟨.type "function",none,(fnD z204 z216 (d2 52 1) .none .none .none (s z130 891) none (r 859) .none),ar []⟩
def o861:Obj:=⟨.type "tuple",none,(.seq (ar []) 0),ar []⟩
def o862:Obj:=⟨.none,none,(.fields (ar [])),ar []⟩
def o863:Obj:=⟨.type "tuple",none,(.seq (ar [s z26 1324,s z54 1325,s z28 1326]) 0),ar []⟩
def o864:Obj:=⟨.type "tuple",none,(.seq (ar []) 0),ar []⟩
def o865:Obj:=⟨.none,none,(fnD z193 z217 (d2 52 2) .none .none .none .none none .none .none (g:=0) (b:=0)),ar []⟩
def o866:Obj:=⟨.type "code",none,(.fields (ar [s z193 1321,s z217 1322,s z1 1323,i 460 0,i 3 0,i 0 0,i 0 0,i 3 0,r 861,.bool true,i 181 0,r 862,.none,r 863,r 864,r 865,i 1327 0,i 460 0,s z1 1328])),ar []⟩
def o867:Obj:=⟨.type "function",none,(fnD z193 z217 (d2 52 2) .none .none .none (s z130 891) none (r 866) .none),ar []⟩
def o868:Obj:=⟨.type "tuple",none,(.seq (ar []) 0),ar []⟩
def o869:Obj:=⟨.none,none,(.fields (ar [])),ar []⟩
def o870:Obj:=⟨.type "tuple",none,(.seq (ar [s z26 1333,s z218 1334,s z28 1335]) 0),ar []⟩
def o871:Obj:=⟨.type "tuple",none,(.seq (ar []) 0),ar []⟩
def o872:Obj:=⟨.none,none,(fnD z205 z219 (d2 52 3) .none .none .none .none none .none .none (g:=0) (b:=0)),ar []⟩
def o873:Obj:=⟨.type "code",none,(.fields (ar [s z205 1330,s z219 1331,s z1 1332,i 465 0,i 3 0,i 0 0,i 0 0,i 3 0,r 868,.bool true,i 181 0,r 869,.none,r 870,r 871,r 872,i 1336 0,i 465 0,s z1 1337])),ar []⟩
def o874:Obj:=⟨.type "function",none,(fnD z205 z219 (d2 52 3) .none .none .none (s z130 891) none (r 873) .none),ar []⟩
def o875:Obj:=⟨.type "tuple",none,(.seq (ar []) 0),ar []⟩
def o876:Obj:=⟨.none,none,(.fields (ar [])),ar []⟩
def o877:Obj:=⟨.type "tuple",none,(.seq (ar [s z26 1342,s z49 1343,s z147 1344,s z28 1345]) 0),ar []⟩
def o878:Obj:=⟨.type "tuple",none,(.seq (ar []) 0),ar []⟩
def o879:Obj:=⟨.none,none,(fnD z49 z220 (d2 52 4) .none .none .none .none none .none .none (g:=0) (b:=0)),ar []⟩
def o880:Obj:=⟨.type "code",none,(.fields (ar [s z49 1339,s z220 1340,s z1 1341,i 468 0,i 4 0,i 0 0,i 0 0,i 3 0,r 875,.bool true,i 181 0,r 876,.none,r 877,r 878,r 879,i 1346 0,i 468 0,s z1 1347])),ar []⟩
def o881:Obj:=⟨.type "function",none,(fnD z49 z220 (d2 52 4) .none .none .none (s z130 891) none (r 880) .none),ar []⟩
def o882:Obj:=⟨.type "tuple",none,(.seq (ar []) 0),ar []⟩
def o883:Obj:=⟨.none,none,(.fields (ar [])),ar []⟩
def o884:Obj:=⟨.type "tuple",none,(.seq (ar [s z26 1352,s z137 1353,s z138 1354,s z28 1355,s z54 1356,s z49 1357,s z81 1358]) 0),ar []⟩
def o885:Obj:=⟨.type "tuple",none,(.seq (ar []) 0),ar []⟩
def o886:Obj:=⟨.none,none,(fnD z206 z221 (d2 52 5) .none .none .none .none none .none .none (g:=0) (b:=0)),ar []⟩
def o887:Obj:=⟨.type "code",none,(.fields (ar [s z206 1349,s z221 1350,s z1 1351,i 474 0,i 4 0,i 0 0,i 0 0,i 3 0,r 882,.bool true,i 181 0,r 883,.none,r 884,r 885,r 886,i 1359 0,i 474 0,s z1 1360])),ar []⟩
def o888:Obj:=⟨.type "function",none,(fnD z206 z221 (d2 52 5) .none .none .none (s z130 891) none (r 887) .none),ar []⟩
def o889:Obj:=⟨.type "tuple",none,(.seq (ar []) 0),ar []⟩
def o890:Obj:=⟨.none,none,(.fields (ar [])),ar []⟩
def o891:Obj:=⟨.type "tuple",none,(.seq (ar [s z26 1365,s z81 1366]) 0),ar []⟩
def o892:Obj:=⟨.type "tuple",none,(.seq (ar []) 0),ar []⟩
def o893:Obj:=⟨.none,none,(fnD z38 z222 (d2 52 6) .none .none .none .none none .none .none (g:=0) (b:=0)),ar []⟩
def o894:Obj:=⟨.type "code",none,(.fields (ar [s z38 1362,s z222 1363,s z1 1364,i 501 0,i 2 0,i 0 0,i 0 0,i 3 0,r 889,.bool true,i 181 0,r 890,.none,r 891,r 892,r 893,i 1367 0,i 501 0,s z1 1368])),ar []⟩
def o895:Obj:=⟨.type "function",none,(fnD z38 z222 (d2 52 6) .none .none .none (s z130 891) none (r 894) .none),ar []⟩
def o896:Obj:=⟨.type "tuple",none,(.seq (ar []) 0),ar []⟩
def o897:Obj:=⟨.none,none,(.fields (ar [])),ar []⟩
def o898:Obj:=⟨.type "tuple",none,(.seq (ar [s z26 1373,s z81 1374,s z28 1375,s z115 1376,s z118 1377]) 0),ar []⟩
def o899:Obj:=⟨.type "tuple",none,(.seq (ar []) 0),ar []⟩
def o900:Obj:=⟨.none,none,(fnD z207 z223 (d2 52 7) .none .none .none .none none .none .none (g:=0) (b:=0)),ar []⟩
def o901:Obj:=⟨.type "code",none,(.fields (ar [s z207 1370,s z223 1371,s z1 1372,i 504 0,i 3 0,i 0 0,i 0 0,i 3 0,r 896,.bool true,i 181 0,r 897,.none,r 898,r 899,r 900,i 1378 0,i 504 0,s z1 1379])),ar []⟩
def o902:Obj:=⟨.type "function",none,(fnD z207 z223 (d2 52 7) .none .none .none (s z130 891) none (r 901) .none),ar []⟩
def o903:Obj:=⟨.type "tuple",none,(.seq (ar []) 0),ar []⟩
def o904:Obj:=⟨.none,none,(.fields (ar [])),ar []⟩
def o905:Obj:=⟨.type "tuple",none,(.seq (ar [s z26 1384,s z81 1385,s z28 1386,s z118 1387]) 0),ar []⟩
def o906:Obj:=⟨.type "tuple",none,(.seq (ar []) 0),ar []⟩
def o907:Obj:=⟨.none,none,(fnD z121 z224 (d2 52 8) .none .none .none .none none .none .none (g:=0) (b:=0)),ar []⟩
def o908:Obj:=⟨.type "code",none,(.fields (ar [s z121 1381,s z224 1382,s z1 1383,i 515 0,i 3 0,i 0 0,i 0 0,i 3 0,r 903,.bool true,i 181 0,r 904,.none,r 905,r 906,r 907,i 1388 0,i 515 0,s z1 1389])),ar []⟩
def o909:Obj:=⟨.type "function",none,(fnD z121 z224 (d2 52 8) .none .none .none (s z130 891) none (r 908) .none),ar []⟩
def o910:Obj:=⟨.type "tuple",none,(.seq (ar []) 0),ar []⟩
def o911:Obj:=⟨.none,none,(.fields (ar [])),ar []⟩
def o912:Obj:=⟨.type "tuple",none,(.seq (ar [s z26 1394,s z47 1395,s z225 1396,s z28 1397,s z49 1398,s z147 1399,s z81 1400,s z115 1401]) 0),ar []⟩
def o913:Obj:=⟨.type "tuple",none,(.seq (ar []) 0),ar []⟩
def o914:Obj:=⟨.none,none,(fnD z208 z226 (d2 52 9) .none .none .none .none none .none .none (g:=0) (b:=0)),ar []⟩
def o915:Obj:=⟨.type "code",none,(.fields (ar [s z208 1391,s z226 1392,s z1 1393,i 521 0,i 4 0,i 0 0,i 0 0,i 3 0,r 910,.bool true,i 181 0,r 911,.none,r 912,r 913,r 914,i 1402 0,i 521 0,s z1 1403])),ar []⟩
def o916:Obj:=⟨.type "function",none,(fnD z208 z226 (d2 52 9) .none .none .none (s z130 891) none (r 915) .none),ar []⟩
def o917:Obj:=⟨.type "tuple",none,(.seq (ar []) 0),ar []⟩
def o918:Obj:=⟨.none,none,(.fields (ar [])),ar []⟩
def o919:Obj:=⟨.type "tuple",none,(.seq (ar [s z26 1408,s z115 1409,s z28 1410]) 0),ar []⟩
def o920:Obj:=⟨.type "tuple",none,(.seq (ar []) 0),ar []⟩
def o921:Obj:=⟨.none,none,(fnD z209 z227 (d2 52 10) .none .none .none .none none .none .none (g:=0) (b:=0)),ar []⟩
def o922:Obj:=⟨.type "code",none,(.fields (ar [s z209 1405,s z227 1406,s z1 1407,i 534 0,i 3 0,i 0 0,i 0 0,i 3 0,r 917,.bool true,i 181 0,r 918,.none,r 919,r 920,r 921,i 1411 0,i 534 0,s z1 1412])),ar []⟩
def o923:Obj:=⟨.type "function",none,(fnD z209 z227 (d2 52 10) .none .none .none (s z130 891) none (r 922) .none),ar []⟩
def o924:Obj:=⟨.type "tuple",none,(.seq (ar []) 0),ar []⟩
def o925:Obj:=⟨.none,none,(.fields (ar [])),ar []⟩
def o926:Obj:=⟨.type "tuple",none,(.seq (ar [s z26 1417,s z115 1418,s z165 1419,s z28 1420]) 0),ar []⟩
def o927:Obj:=⟨.type "tuple",none,(.seq (ar []) 0),ar []⟩
def o928:Obj:=⟨.none,none,(fnD z210 z228 (d2 52 11) .none .none .none .none none .none .none (g:=0) (b:=0)),ar []⟩
def o929:Obj:=⟨.type "code",none,(.fields (ar [s z210 1414,s z228 1415,s z1 1416,i 541 0,i 4 0,i 0 0,i 0 0,i 3 0,r 924,.bool true,i 181 0,r 925,.none,r 926,r 927,r 928,i 1421 0,i 541 0,s z1 1422])),ar []⟩
def o930:Obj:=⟨.type "function",none,(fnD z210 z228 (d2 52 11) .none .none .none (s z130 891) none (r 929) .none),ar []⟩
def o931:Obj:=⟨.type "tuple",none,(.seq (ar []) 0),ar []⟩
def o932:Obj:=⟨.none,none,(.fields (ar [])),ar []⟩
def o933:Obj:=⟨.type "tuple",none,(.seq (ar [s z26 1427,s z207 1428,s z229 1429,s z28 1430,s z151 1431]) 0),ar []⟩
def o934:Obj:=⟨.type "tuple",none,(.seq (ar []) 0),ar []⟩
def o935:Obj:=⟨.none,none,(fnD z211 z230 (d2 52 12) .none .none .none .none none .none .none (g:=0) (b:=0)),ar []⟩
def o936:Obj:=⟨.type "code",none,(.fields (ar [s z211 1424,s z230 1425,s z1 1426,i 551 0,i 4 0,i 0 0,i 0 0,i 3 0,r 931,.bool true,i 181 0,r 932,.none,r 933,r 934,r 935,i 1432 0,i 551 0,s z1 1433])),ar []⟩
def o937:Obj:=⟨.type "function",none,(fnD z211 z230 (d2 52 12) .none .none .none (s z130 891) none (r 936) .none),ar []⟩
def o938:Obj:=⟨.type "tuple",none,(.seq (ar []) 0),ar []⟩
def o939:Obj:=⟨.none,none,(.fields (ar [])),ar []⟩
def o940:Obj:=⟨.type "tuple",none,(.seq (ar [s z26 1438,s z115 1439,s z28 1440]) 0),ar []⟩
def o941:Obj:=⟨.type "tuple",none,(.seq (ar []) 0),ar []⟩
def o942:Obj:=⟨.none,none,(fnD z212 z231 (d2 52 13) .none .none .none .none none .none .none (g:=0) (b:=0)),ar []⟩
def o943:Obj:=⟨.type "code",none,(.fields (ar [s z212 1435,s z231 1436,s z1 1437,i 559 0,i 3 0,i 0 0,i 0 0,i 3 0,r 938,.bool true,i 181 0,r 939,.none,r 940,r 941,r 942,i 1441 0,i 559 0,s z1 1442])),ar []⟩
def o944:Obj:=⟨.type "function",none,(fnD z212 z231 (d2 52 13) .none .none .none (s z130 891) none (r 943) .none),ar []⟩
def o945:Obj:=⟨.type "tuple",none,(.seq (ar []) 0),ar []⟩
def o946:Obj:=⟨.none,none,(.fields (ar [])),ar []⟩
def o947:Obj:=⟨.type "tuple",none,(.seq (ar [s z26 1447,s z138 1448,s z28 1449,s z159 1450]) 0),ar []⟩
def o948:Obj:=⟨.type "tuple",none,(.seq (ar []) 0),ar []⟩
def o949:Obj:=⟨.none,none,(fnD z213 z232 (d2 52 14) .none .none .none .none none .none .none (g:=0) (b:=0)),ar []⟩
def o950:Obj:=⟨.type "code",none,(.fields (ar [s z213 1444,s z232 1445,s z1 1446,i 564 0,i 3 0,i 0 0,i 0 0,i 3 0,r 945,.bool true,i 181 0,r 946,.none,r 947,r 948,r 949,i 1451 0,i 564 0,s z1 1452])),ar []⟩
def o951:Obj:=⟨.type "function",none,(fnD z213 z232 (d2 52 14) .none .none .none (s z130 891) none (r 950) .none),ar []⟩
def o952:Obj:=⟨.type "tuple",none,(.seq (ar []) 0),ar []⟩
def o953:Obj:=⟨.none,none,(.fields (ar [])),ar []⟩
def o954:Obj:=⟨.type "tuple",none,(.seq (ar [s z26 1457,s z138 1458,s z28 1459,s z47 1460,s z38 1461,s z121 1462]) 0),ar []⟩
def o955:Obj:=⟨.type "tuple",none,(.seq (ar []) 0),ar []⟩
def o956:Obj:=⟨.none,none,(fnD z159 z233 (d2 52 15) .none .none .none .none none .none .none (g:=0) (b:=0)),ar []⟩
def o957:Obj:=⟨.type "code",none,(.fields (ar [s z159 1454,s z233 1455,s z1 1456,i 572 0,i 3 0,i 0 0,i 0 0,i 3 0,r 952,.bool true,i 181 0,r 953,.none,r 954,r 955,r 956,i 1463 0,i 572 0,s z1 1464])),ar []⟩
def o958:Obj:=⟨.type "function",none,(fnD z159 z233 (d2 52 15) .none .none .none (s z130 891) none (r 957) .none),ar []⟩
def o959:Obj:=⟨.type "tuple",none,(.seq (ar [s z234 1466,s z122 1467,s z186 1468]) 0),ar []⟩
def o960 (P:Params):Obj:=⟨.type "dict",none,(.dict (ar (([e z20 1302 (s z130 891),e z22 1306 (i 442 1305),e z23 1312 (r 853),e z204 1320 (r 860),e z193 1329 (r 867),e z205 1338 (r 874),e z49 1348 (r 881),e z206 1361 (r 888),e z38 1369 (r 895),e z207 1380 (r 902),e z121 1390 (r 909),e z208 1404 (r 916),e z209 1413 (r 923),e z210 1423 (r 930),e z211 1434 (r 937),e z212 1443 (r 944),e z213 1453 (r 951),e z159 1465 (r 958),e z25 1469 (r 959),e z60 1471 (r 962),e z31 1473 (r 963),e z7 1474 .none]:List (Params→DictEntry)).map (· P))) 4),ar []⟩
def o961:Obj:=⟨.type "type",none,(.cls { name:=z203,bases:=[.type "object"],mro:=[r 961,.type "object"],ns:=960,qualname:=z203,hasDict:=true,slotNames:=[],subclasses:=[],abstract:=false,collection:=none,hasDel:=false }),ar [none,none,some (s z203 1295),some (s z203 1303),some (.builtin "object.__new__"),some (.bool true)]⟩
def o962:Obj:=⟨.type "getset_descriptor",none,(.fields (ar [s z60 1470,r 961,.builtin "function.__dict__",.builtin "function.__dict__#set"])),ar []⟩
def o963:Obj:=⟨.type "getset_descriptor",none,(.fields (ar [s z31 1472,r 961,.builtin "ExceptionGroup.__weakref__",.none])),ar []⟩
def o964:Obj:=⟨.type "super",none,(.fields (ar [r 961,r 961,r 961])),ar []⟩
def o965:Obj:=⟨.type "builtin_function_or_method",none,(.fields (ar [.builtin "object.__init_subclass__",r 961])),ar []⟩
def o3_14 (P:Params):Obj:=⟨.type "dict",none,(.dict (ar (([e z5 165 (s z235 1477),e z7 166 .none,e z8 167 .none,e z9 168 (.builtin "__main__.__loader__#opaque"),e z10 169 .none,e z11 170 (r 6),e z12 171 (r 4),e z13 173 (s z1 172),e z14 174 .none,e z15 193 (r 21),e z16 197 (i 10 196),e z17 235 (r 46),e z18 251 (r 59),e z32 267 (r 71),e z33 283 (r 83),e z34 299 (r 95),e z35 306 (r 104),e z36 314 (r 111),e z40 322 (r 118),e z41 333 (r 125),e z42 339 (r 130),e z43 348 (r 137),e z44 357 (r 144),e z45 411 (r 175),e z46 415 (i 63 414),e z61 451 (r 203),e z62 484 (r 231),e z68 517 (r 257),e z69 558 (r 283),e z70 567 (r 292),e z82 648 (r 352),e z83 654 (r 361),e z102 710 (r 400),e z103 718 (r 411),e z104 727 (r 418),e z105 736 (r 425),e z106 745 (r 432),e z107 753 (r 439),e z108 767 (r 447),e z109 777 (r 454),e z125 810 (r 471),e z126 843 (r 499),e z131 877 (r 523),e z132 884 (r 532),e z133 890 (r 537),e z134 896 (i 1048576 895),e z135 900 (i 32768 899),e z136 938 (r 561),e z145 979 (r 595),e z146 1014 (r 622),e z155 1047 (r 649),e z156 1089 (r 683),e z163 1124 (r 710),e z164 1202 (r 769),e z184 1287 (r 830),e z185 1294 (r 841),e z203 1476 (r 961),e z236 1486 (r 972),e z237 1498 (r 979),e z238 1514 (r 986),e z239 1528 (r 993),e z240 1534 (r 998)]:List (Params→DictEntry)).map (· P))) 62),ar []⟩
def o12_14:Obj:=⟨.none,none,(.fields (ar [i 1 0,i 0 0,r 20,i 6 0,i 0 0,r 27,i 17 0,i 0 0,r 55,i 19 0,i 0 0,r 67,i 21 0,i 0 0,r 79,i 23 0,i 0 0,r 91,i 25 0,i 0 0,r 103,i 27 0,i 0 0,r 110,i 29 0,i 0 0,r 117,i 31 0,i 0 0,r 124,i 38 0,i 0 0,r 129,i 44 0,i 0 0,r 136,i 53 0,i 0 0,r 143,i 61 0,i 0 0,r 150,i 77 0,i 0 0,r 185,i 84 0,i 0 0,r 213,i 92 0,i 0 0,r 239,i 100 0,i 0 0,r 265,i 114 0,i 0 0,r 291,i 122 0,i 0 0,r 298,i 154 0,i 0 0,r 360,i 165 0,i 0 0,r 367,i 188 0,i 0 0,r 410,i 194 0,i 0 0,r 417,i 200 0,i 0 0,r 424,i 214 0,i 0 0,r 431,i 222 0,i 0 0,r 438,i 230 0,i 0 0,r 446,i 245 0,i 0 0,r 453,i 259 0,i 0 0,r 460,i 264 0,i 0 0,r 481,i 272 0,i 0 0,r 507,i 281 0,i 0 0,r 531,i 285 0,i 0 0,r 536,i 305 0,i 0 0,r 543,i 313 0,i 0 0,r 571,i 325 0,i 0 0,r 603,i 334 0,i 0 0,r 630,i 342 0,i 0 0,r 657,i 354 0,i 0 0,r 691,i 363 0,i 0 0,r 718,i 392 0,i 0 0,r 779,i 434 0,i 0 0,r 840,i 442 0,i 0 0,r 847,i 580 0,i 0 0,r 971,i 585 0,i 0 0,r 978,i 593 0,i 0 0,r 985,i 616 0,i 0 0,r 992,i 631 0,i 0 0,r 997])),ar []⟩
def o966:Obj:=⟨.type "tuple",none,(.seq (ar []) 0),ar []⟩
def o967:Obj:=⟨.none,none,(.fields (ar [])),ar []⟩
def o968:Obj:=⟨.type "tuple",none,(.seq (ar [s z241 1482,s z242 1483]) 0),ar []⟩
def o969:Obj:=⟨.type "tuple",none,(.seq (ar []) 0),ar []⟩
def o970:Obj:=⟨.none,none,(fnD z236 z236 (d1 54) .none .none .none .none none .none .none (g:=0) (b:=0)),ar []⟩
def o971:Obj:=⟨.type "code",none,(.fields (ar [s z236 1479,s z236 1480,s z1 1481,i 580 0,i 2 0,i 0 0,i 0 0,i 3 0,r 966,.bool true,i 181 0,r 967,.none,r 968,r 969,r 970,i 1484 0,i 580 0,s z1 1485])),ar []⟩
def o972:Obj:=⟨.type "function",none,(fnD z236 z236 (d1 54) .none .none .none (s z235 1477) none (r 971) .none),ar []⟩
def o973:Obj:=⟨.type "tuple",none,(.seq (ar []) 0),ar []⟩
def o974:Obj:=⟨.none,none,(.fields (ar [])),ar []⟩
def o975:Obj:=⟨.type "tuple",none,(.seq (ar [s z88 1490,s z120 1491,s z97 1492,s z243 1493,s z244 1494,s z245 1495]) 0),ar []⟩
def o976:Obj:=⟨.type "tuple",none,(.seq (ar []) 0),ar []⟩
def o977:Obj:=⟨.none,none,(fnD z237 z237 (d1 55) .none .none .none .none none .none .none (g:=0) (b:=0)),ar []⟩
def o978:Obj:=⟨.type "code",none,(.fields (ar [s z237 1487,s z237 1488,s z1 1489,i 585 0,i 3 0,i 0 0,i 0 0,i 3 0,r 973,.bool true,i 181 0,r 974,.none,r 975,r 976,r 977,i 1496 0,i 585 0,s z1 1497])),ar []⟩
def o979:Obj:=⟨.type "function",none,(fnD z237 z237 (d1 55) .none .none .none (s z235 1477) none (r 978) .none),ar []⟩
def o980:Obj:=⟨.type "tuple",none,(.seq (ar []) 0),ar []⟩
def o981:Obj:=⟨.none,none,(.fields (ar [])),ar []⟩
def o982:Obj:=⟨.type "tuple",none,(.seq (ar [s z55 1502,s z241 1503,s z88 1504,s z121 1505,s z137 1506,s z47 1507,s z49 1508,s z201 1509,s z120 1510,s z97 1511]) 0),ar []⟩
def o983:Obj:=⟨.type "tuple",none,(.seq (ar []) 0),ar []⟩
def o984:Obj:=⟨.none,none,(fnD z238 z238 (d1 56) .none .none .none .none none .none .none (g:=0) (b:=0)),ar []⟩
def o985:Obj:=⟨.type "code",none,(.fields (ar [s z238 1499,s z238 1500,s z1 1501,i 593 0,i 3 0,i 0 0,i 0 0,i 3 0,r 980,.bool true,i 181 0,r 981,.none,r 982,r 983,r 984,i 1512 0,i 593 0,s z1 1513])),ar []⟩
def o986:Obj:=⟨.type "function",none,(fnD z238 z238 (d1 56) .none .none .none (s z235 1477) none (r 985) .none),ar []⟩
def o987:Obj:=⟨.type "tuple",none,(.seq (ar []) 0),ar []⟩
def o988:Obj:=⟨.none,none,(.fields (ar [])),ar []⟩
def o989:Obj:=⟨.type "tuple",none,(.seq (ar [s z246 1518,s z88 1519,s z120 1520,s z97 1521,s z247 1522,s z248 1523,s z249 1524,s z242 1525]) 0),ar []⟩
def o990:Obj:=⟨.type "tuple",none,(.seq (ar []) 0),ar []⟩
def o991:Obj:=⟨.none,none,(fnD z239 z239 (d1 57) .none .none .none .none none .none .none (g:=0) (b:=0)),ar []⟩
def o992:Obj:=⟨.type "code",none,(.fields (ar [s z239 1515,s z239 1516,s z1 1517,i 616 0,i 4 0,i 0 0,i 0 0,i 3 0,r 987,.bool true,i 181 0,r 988,.none,r 989,r 990,r 991,i 1526 0,i 616 0,s z1 1527])),ar []⟩
def o993:Obj:=⟨.type "function",none,(fnD z239 z239 (d1 57) .none .none .none (s z235 1477) none (r 992) .none),ar []⟩
def o994:Obj:=⟨.type "tuple",none,(.seq (ar []) 0),ar []⟩
def o995:Obj:=⟨.none,none,(.fields (ar [])),ar []⟩
def o996:Obj:=⟨.none,none,(fnD z240 z240 (d1 58) .none .none .none .none none .none .none (g:=0) (b:=0)),ar []⟩
def o997:Obj:=⟨.type "code",none,(.fields (ar [s z240 1529,s z240 1530,s z1 1531,i 631 0,i 1 0,i 0 0,i 0 0,i 3 0,r 994,.bool true,i 181 0,r 995,.none,.none,.none,r 996,i 1532 0,i 631 0,s z1 1533])),ar []⟩
def o998:Obj:=⟨.type "function",none,(fnD z240 z240 (d1 58) .none .none .none (s z235 1477) none (r 997) .none),ar []⟩
def l_a (P:Params):List Obj:=[boot_o_0 P,boot_o_1 P,boot_o_2 P,boot_o_3 P,boot_o_4 P,boot_o_5 P,boot_o_6 P,boot_o_7 P,boot_o_8 P,boot_o_9 P,boot_o_10 P,o11,o12,o13,o14]
def l_b (P:Params):List Obj:=[boot_o_0 P,boot_o_1 P,boot_o_2 P,boot_o_3 P,boot_o_4 P,boot_o_5 P,boot_o_6 P,boot_o_7 P,boot_o_8 P,boot_o_9 P,boot_o_10 P,o11,o12,o13,o14]
def g_0 (P:Params):List Obj:=[o15,o16,o17,o18,o19,o20,o21,o22,o23,o24 P,o25,o26,o27,o28,o29,o30,o31,o32,o33,o34,o35,o36,o37,o38,o39,o40,o41,o42,o43,o44,o45 P,o46,o47,o48,o49,o50,o51,o52 P,o53,o54,o55,o56,o57,o58 P,o59,o60,o61]
def l_0 (P:Params):List Obj:=([boot_o_0 P,boot_o_1 P,o2_0 P,o3_0 P,boot_o_4 P,boot_o_5 P,boot_o_6 P,boot_o_7 P,boot_o_8 P,boot_o_9 P,boot_o_10 P,o11,o12_0,o13,o14]++g_0 P)
def g_1 (P:Params):List Obj:=g_0 P++[o62,o63,o64 P,o65,o66,o67,o68,o69,o70 P,o71,o72,o73,o74,o75,o76 P,o77,o78,o79,o80,o81,o82 P,o83,o84,o85,o86,o87,o88 P,o89,o90,o91,o92,o93,o94 P,o95,o96,o97,o98,o99,o100,o101,o102,o103,o104,o105,o106,o107,o108,o109,o110,o111]
def l_1 (P:Params):List Obj:=upd ([boot_o_0 P,boot_o_1 P,o2_0 P,o3_1 P,boot_o_4 P,boot_o_5 P,boot_o_6 P,boot_o_7 P,boot_o_8 P,boot_o_9 P,boot_o_10 P,o11,o12_1,o13,o14]++g_1 P) [(46,o46_1)]
def g_2 (P:Params):List Obj:=g_1 P++[o112,o113,o114,o115,o116,o117,o118,o119,o120,o121,o122,o123,o124,o125,o126,o127,o128,o129,o130,o131,o132,o133,o134,o135,o136,o137,o138,o139,o140,o141,o142,o143,o144,o145,o146,o147 P,o148,o149,o150,o151,o152,o153,o154,o155,o156,o157,o158,o159,o160,o161,o162,o163,o164,o165,o166,o167,o168,o169,o170,o171,o172,o173,o174 P,o175,o176,o177,o178,o179]
def l_2 (P:Params):List Obj:=upd ([boot_o_0 P,boot_o_1 P,o2_0 P,o3_2 P,boot_o_4 P,boot_o_5 P,boot_o_6 P,boot_o_7 P,boot_o_8 P,boot_o_9 P,boot_o_10 P,o11,o12_2,o13,o14]++g_2 P) [(46,o46_1)]
def g_3 (P:Params):List Obj:=g_2 P++[o180,o181,o182 P,o183,o184,o185,o186,o187,o188,o189,o190,o191,o192,o193,o194,o195,o196,o197,o198,o199,o200,o201,o202 P,o203,o204,o205,o206,o207,o208,o209,o210 P,o211,o212,o213,o214,o215,o216,o217,o218,o219,o220,o221,o222,o223,o224,o225,o226,o227,o228,o229,o230 P,o231,o232,o233]
def l_3 (P:Params):List Obj:=upd ([boot_o_0 P,boot_o_1 P,o2_0 P,o3_3 P,boot_o_4 P,boot_o_5 P,boot_o_6 P,boot_o_7 P,boot_o_8 P,boot_o_9 P,boot_o_10 P,o11,o12_3,o13,o14]++g_3 P) [(46,o46_1)]
def g_4 (P:Params):List Obj:=g_3 P++[o234,o235,o236 P,o237,o238,o239,o240,o241,o242,o243,o244,o245,o246,o247,o248,o249,o250,o251,o252,o253,o254,o255,o256 P,o257,o258,o259,o260,o261,o262 P,o263,o264,o265,o266,o267,o268,o269,o270,o271,o272,o273,o274,o275,o276,o277,o278,o279,o280,o281,o282 P,o283,o284,o285,o286,o287,o288,o289,o290,o291,o292]
def l_4 (P:Params):List Obj:=upd ([boot_o_0 P,boot_o_1 P,o2_0 P,o3_4 P,boot_o_4 P,boot_o_5 P,boot_o_6 P,boot_o_7 P,boot_o_8 P,boot_o_9 P,boot_o_10 P,o11,o12_4,o13,o14]++g_4 P) [(46,o46_1),(203,o203_4)]
def g_5 (P:Params):List Obj:=g_4 P++[o293,o294,o295 P,o296,o297,o298,o299,o300,o301,o302,o303,o304,o305,o306,o307,o308,o309,o310,o311,o312,o313,o314,o315,o316,o317,o318,o319,o320,o321,o322,o323,o324,o325,o326,o327,o328,o329,o330,o331,o332,o333,o334,o335,o336,o337,o338,o339,o340,o341,o342,o343,o344,o345,o346,o347,o348,o349,o350,o351 P,o352,o353,o354,o355,o356,o357,o358,o359,o360,o361]
def l_5 (P:Params):List Obj:=upd ([boot_o_0 P,boot_o_1 P,o2_0 P,o3_5 P,boot_o_4 P,boot_o_5 P,boot_o_6 P,boot_o_7 P,boot_o_8 P,boot_o_9 P,boot_o_10 P,o11,o12_5,o13,o14]++g_5 P) [(46,o46_1),(203,o203_4)]
def g_6 (P:Params):List Obj:=g_5 P++[o362,o363,o364 P,o365,o366,o367,o368,o369,o370,o371,o372,o373,o374,o375,o376,o377,o378,o379,o380,o381,o382,o383,o384,o385,o386,o387,o388,o389,o390,o391,o392,o393,o394,o395,o396,o397,o398,o399 P,o400,o401,o402,o403,o404,o405,o406,o407,o408,o409,o410,o411,o412,o413,o414,o415,o416,o417,o418,o419,o420,o421,o422,o423,o424,o425,o426,o427,o428,o429,o430,o431,o432,o433,o434,o435,o436,o437,o438,o439,o440,o441,o442,o443,o444,o445,o446,o447,o448,o449,o450,o451,o452,o453,o454]
def l_6 (P:Params):List Obj:=upd ([boot_o_0 P,boot_o_1 P,o2_0 P,o3_6 P,boot_o_4 P,boot_o_5 P,boot_o_6 P,boot_o_7 P,boot_o_8 P,boot_o_9 P,boot_o_10 P,o11,o12_6,o13,o14]++g_6 P) [(46,o46_1),(203,o203_4)]
def g_7 (P:Params):List Obj:=g_6 P++[o455,o456,o457 P,o458,o459,o460,o461,o462,o463,o464,o465,o466,o467,o468,o469,o470 P,o471,o472,o473,o474,o475,o476,o477,o478 P,o479,o480,o481,o482,o483,o484,o485,o486,o487,o488,o489,o490,o491,o492,o493,o494,o495,o496,o497,o498 P,o499,o500,o501]
def l_7 (P:Params):List Obj:=upd ([boot_o_0 P,boot_o_1 P,o2_0 P,o3_7 P,boot_o_4 P,boot_o_5 P,boot_o_6 P,boot_o_7 P,boot_o_8 P,boot_o_9 P,boot_o_10 P,o11,o12_7,o13,o14]++g_7 P) [(46,o46_1),(203,o203_4)]
def g_8 (P:Params):List Obj:=g_7 P++[o502,o503,o504 P,o505,o506,o507,o508,o509,o510,o511,o512,o513,o514,o515,o516,o517,o518,o519,o520,o521,o522 P,o523,o524,o525,o526,o527,o528,o529,o530,o531,o532,o533,o534,o535,o536,o537,o538,o539,o540 P,o541,o542,o543,o544,o545,o546,o547,o548,o549,o550,o551,o552,o553,o554,o555,o556,o557,o558,o559,o560 P,o561,o562,o563,o564,o565]
def l_8 (P:Params):List Obj:=upd ([boot_o_0 P,boot_o_1 P,o2_0 P,o3_8 P,boot_o_4 P,boot_o_5 P,boot_o_6 P,boot_o_7 P,boot_o_8 P,boot_o_9 P,boot_o_10 P,o11,o12_8,o13,o14]++g_8 P) [(46,o46_1),(203,o203_4),(471,o471_8)]
def g_9 (P:Params):List Obj:=g_8 P++[o566,o567,o568 P,o569,o570,o571,o572,o573,o574,o575,o576,o577,o578,o579,o580,o581,o582,o583,o584,o585,o586,o587,o588,o589,o590,o591,o592,o593,o594 P,o595,o596,o597,o598,o599,o600 P,o601,o602,o603,o604,o605,o606,o607,o608,o609,o610,o611,o612,o613,o614,o615,o616,o617,o618,o619,o620,o621 P,o622,o623,o624]
def l_9 (P:Params):List Obj:=upd ([boot_o_0 P,boot_o_1 P,o2_0 P,o3_9 P,boot_o_4 P,boot_o_5 P,boot_o_6 P,boot_o_7 P,boot_o_8 P,boot_o_9 P,boot_o_10 P,o11,o12_9,o13,o14]++g_9 P) [(46,o46_1),(203,o203_4),(471,o471_8),(561,o561_9)]
def g_10 (P:Params):List Obj:=g_9 P++[o625,o626,o627 P,o628,o629,o630,o631,o632,o633,o634,o635,o636,o637,o638,o639,o640,o641,o642,o643,o644,o645,o646,o647,o648 P,o649,o650,o651,o652,o653,o654 P,o655,o656,o657,o658,o659,o660,o661,o662,o663,o664,o665,o666,o667,o668,o669,o670,o671,o672,o673,o674,o675,o676,o677,o678,o679,o680,o681,o682 P,o683,o684,o685]
def l_10 (P:Params):List Obj:=upd ([boot_o_0 P,boot_o_1 P,o2_0 P,o3_10 P,boot_o_4 P,boot_o_5 P,boot_o_6 P,boot_o_7 P,boot_o_8 P,boot_o_9 P,boot_o_10 P,o11,o12_10,o13,o14]++g_10 P) [(46,o46_1),(203,o203_4),(471,o471_8),(561,o561_10)]
def g_11 (P:Params):List Obj:=g_10 P++[o686,o687,o688 P,o689,o690,o691,o692,o693,o694,o695,o696,o697,o698,o699,o700,o701,o702,o703,o704,o705,o706,o707,o708,o709 P,o710,o711,o712,o713,o714,o715 P,o716,o717,o718,o719,o720,o721,o722,o723,o724,o725,o726,o727,o728,o729,o730,o731,o732,o733,o734,o735,o736,o737,o738,o739,o740,o741,o742,o743,o744,o745,o746,o747,o748,o749,o750,o751,o752,o753,o754,o755,o756,o757,o758,o759,o760,o761,o762,o763,o764,o765,o766,o767,o768 P,o769,o770,o771,o772,o773]
def l_11 (P:Params):List Obj:=upd ([boot_o_0 P,boot_o_1 P,o2_0 P,o3_11 P,boot_o_4 P,boot_o_5 P,boot_o_6 P,boot_o_7 P,boot_o_8 P,boot_o_9 P,boot_o_10 P,o11,o12_11,o13,o14]++g_11 P) [(46,o46_1),(203,o203_4),(471,o471_8),(561,o561_11)]
def g_12 (P:Params):List Obj:=g_11 P++[o774,o775,o776 P,o777,o778,o779,o780,o781,o782,o783,o784,o785,o786,o787,o788,o789,o790,o791,o792,o793,o794,o795,o796,o797,o798,o799,o800,o801,o802,o803,o804,o805,o806,o807,o808,o809,o810,o811,o812,o813,o814,o815,o816,o817,o818,o819,o820,o821,o822,o823,o824,o825,o826,o827,o828,o829 P,o830,o831,o832,o833,o834,o835,o836,o837,o838,o839,o840,o841]
def l_12 (P:Params):List Obj:=upd ([boot_o_0 P,boot_o_1 P,o2_0 P,o3_12 P,boot_o_4 P,boot_o_5 P,boot_o_6 P,boot_o_7 P,boot_o_8 P,boot_o_9 P,boot_o_10 P,o11,o12_12,o13,o14]++g_12 P) [(46,o46_1),(203,o203_4),(471,o471_8),(561,o561_11)]
def g_13 (P:Params):List Obj:=g_12 P++[o842,o843,o844 P,o845,o846,o847,o848,o849,o850,o851,o852,o853,o854,o855,o856,o857,o858,o859,o860,o861,o862,o863,o864,o865,o866,o867,o868,o869,o870,o871,o872,o873,o874,o875,o876,o877,o878,o879,o880,o881,o882,o883,o884,o885,o886,o887,o888,o889,o890,o891,o892,o893,o894,o895,o896,o897,o898,o899,o900,o901,o902,o903,o904,o905,o906,o907,o908,o909,o910,o911,o912,o913,o914,o915,o916,o917,o918,o919,o920,o921,o922,o923,o924,o925,o926,o927,o928,o929,o930,o931,o932,o933,o934,o935,o936,o937,o938,o939,o940,o941,o942,o943,o944,o945,o946,o947,o948,o949,o950,o951,o952,o953,o954,o955,o956,o957,o958,o959,o960 P,o961,o962,o963,o964,o965]
def l_13 (P:Params):List Obj:=upd ([boot_o_0 P,boot_o_1 P,o2_0 P,o3_13 P,boot_o_4 P,boot_o_5 P,boot_o_6 P,boot_o_7 P,boot_o_8 P,boot_o_9 P,boot_o_10 P,o11,o12_13,o13,o14]++g_13 P) [(46,o46_1),(203,o203_4),(471,o471_8),(561,o561_11)]
def g_14 (P:Params):List Obj:=g_13 P++[o966,o967,o968,o969,o970,o971,o972,o973,o974,o975,o976,o977,o978,o979,o980,o981,o982,o983,o984,o985,o986,o987,o988,o989,o990,o991,o992,o993,o994,o995,o996,o997,o998]
def l_14 (P:Params):List Obj:=upd ([boot_o_0 P,boot_o_1 P,o2_0 P,o3_14 P,boot_o_4 P,boot_o_5 P,boot_o_6 P,boot_o_7 P,boot_o_8 P,boot_o_9 P,boot_o_10 P,o11,o12_14,o13,o14]++g_14 P) [(46,o46_1),(203,o203_4),(471,o471_8),(561,o561_11)]
def K (P:Params):Frag:=(nat_lit 2,o2_0 P)::(nat_lit 3,o3_14 P)::(nat_lit 6,boot_o_6 P)::(nat_lit 7,boot_o_7 P)::(nat_lit 9,boot_o_9 P)::(nat_lit 11,o11)::(nat_lit 13,o13)::(nat_lit 15,o15)::(nat_lit 17,o17)::(nat_lit 18,o18)::(nat_lit 20,o20)::(nat_lit 21,o21)::(nat_lit 22,o22)::(nat_lit 24,o24 P)::(nat_lit 25,o25)::(nat_lit 27,o27)::(nat_lit 29,o29)::(nat_lit 30,o30)::(nat_lit 32,o32)::(nat_lit 33,o33)::(nat_lit 35,o35)::(nat_lit 36,o36)::(nat_lit 37,o37)::(nat_lit 39,o39)::(nat_lit 40,o40)::(nat_lit 42,o42)::(nat_lit 43,o43)::(nat_lit 44,o44)::(nat_lit 45,o45 P)::(nat_lit 46,o46_1)::(nat_lit 50,o50)::(nat_lit 52,o52 P)::(nat_lit 53,o53)::(nat_lit 55,o55)::(nat_lit 57,o57)::(nat_lit 58,o58 P)::(nat_lit 59,o59)::(nat_lit 62,o62)::(nat_lit 64,o64 P)::(nat_lit 65,o65)::(nat_lit 67,o67)::(nat_lit 69,o69)::(nat_lit 70,o70 P)::(nat_lit 71,o71)::(nat_lit 74,o74)::(nat_lit 76,o76 P)::(nat_lit 77,o77)::(nat_lit 79,o79)::(nat_lit 81,o81)::(nat_lit 82,o82 P)::(nat_lit 83,o83)::(nat_lit 86,o86)::(nat_lit 88,o88 P)::(nat_lit 89,o89)::(nat_lit 91,o91)::(nat_lit 93,o93)::(nat_lit 94,o94 P)::(nat_lit 95,o95)::(nat_lit 98,o98)::(nat_lit 100,o100)::(nat_lit 101,o101)::(nat_lit 103,o103)::(nat_lit 104,o104)::(nat_lit 105,o105)::(nat_lit 107,o107)::(nat_lit 108,o108)::(nat_lit 110,o110)::(nat_lit 111,o111)::(nat_lit 112,o112)::(nat_lit 114,o114)::(nat_lit 115,o115)::(nat_lit 117,o117)::(nat_lit 118,o118)::(nat_lit 119,o119)::(nat_lit 121,o121)::(nat_lit 122,o122)::(nat_lit 124,o124)::(nat_lit 125,o125)::(nat_lit 126,o126)::(nat_lit 129,o129)::(nat_lit 130,o130)::(nat_lit 131,o131)::(nat_lit 133,o133)::(nat_lit 134,o134)::(nat_lit 136,o136)::(nat_lit 137,o137)::(nat_lit 138,o138)::(nat_lit 140,o140)::(nat_lit 141,o141)::(nat_lit 143,o143)::(nat_lit 144,o144)::(nat_lit 145,o145)::(nat_lit 147,o147 P)::(nat_lit 148,o148)::(nat_lit 150,o150)::(nat_lit 152,o152)::(nat_lit 154,o154)::(nat_lit 155,o155)::(nat_lit 157,o157)::(nat_lit 158,o158)::(nat_lit 159,o159)::(nat_lit 161,o161)::(nat_lit 162,o162)::(nat_lit 164,o164)::(nat_lit 165,o165)::(nat_lit 166,o166)::(nat_lit 168,o168)::(nat_lit 169,o169)::(nat_lit 171,o171)::(nat_lit 172,o172)::(nat_lit 173,o173)::(nat_lit 174,o174 P)::(nat_lit 175,o175)::(nat_lit 180,o180)::(nat_lit 182,o182 P)::(nat_lit 183,o183)::(nat_lit 185,o185)::(nat_lit 187,o187)::(nat_lit 189,o189)::(nat_lit 190,o190)::(nat_lit 192,o192)::(nat_lit 193,o193)::(nat_lit 194,o194)::(nat_lit 196,o196)::(nat_lit 197,o197)::(nat_lit 199,o199)::(nat_lit 200,o200)::(nat_lit 201,o201)::(nat_lit 202,o202 P)::(nat_lit 203,o203_4)::(nat_lit 208,o208)::(nat_lit 210,o210 P)::(nat_lit 211,o211)::(nat_lit 213,o213)::(nat_lit 215,o215)::(nat_lit 217,o217)::(nat_lit 218,o218)::(nat_lit 220,o220)::(nat_lit 221,o221)::(nat_lit 222,o222)::(nat_lit 224,o224)::(nat_lit 225,o225)::(nat_lit 227,o227)::(nat_lit 228,o228)::(nat_lit 229,o229)::(nat_lit 230,o230 P)::(nat_lit 231,o231)::(nat_lit 234,o234)::(nat_lit 236,o236 P)::(nat_lit 237,o237)::(nat_lit 239,o239)::(nat_lit 241,o241)::(nat_lit 243,o243)::(nat_lit 244,o244)::(nat_lit 246,o246)::(nat_lit 247,o247)::(nat_lit 248,o248)::(nat_lit 250,o250)::(nat_lit 251,o251)::(nat_lit 253,o253)::(nat_lit 254,o254)::(nat_lit 255,o255)::(nat_lit 256,o256 P)::(nat_lit 257,o257)::(nat_lit 260,o260)::(nat_lit 262,o262 P)::(nat_lit 263,o263)::(nat_lit 265,o265)::(nat_lit 267,o267)::(nat_lit 269,o269)::(nat_lit 270,o270)::(nat_lit 272,o272)::(nat_lit 273,o273)::(nat_lit 274,o274)::(nat_lit 276,o276)::(nat_lit 277,o277)::(nat_lit 279,o279)::(nat_lit 280,o280)::(nat_lit 281,o281)::(nat_lit 282,o282 P)::(nat_lit 283,o283)::(nat_lit 286,o286)::(nat_lit 288,o288)::(nat_lit 289,o289)::(nat_lit 291,o291)::(nat_lit 292,o292)::(nat_lit 293,o293)::(nat_lit 295,o295 P)::(nat_lit 296,o296)::(nat_lit 298,o298)::(nat_lit 300,o300)::(nat_lit 301,o301)::(nat_lit 303,o303)::(nat_lit 304,o304)::(nat_lit 306,o306)::(nat_lit 307,o307)::(nat_lit 308,o308)::(nat_lit 310,o310)::(nat_lit 311,o311)::(nat_lit 313,o313)::(nat_lit 314,o314)::(nat_lit 315,o315)::(nat_lit 317,o317)::(nat_lit 318,o318)::(nat_lit 320,o320)::(nat_lit 321,o321)::(nat_lit 322,o322)::(nat_lit 324,o324)::(nat_lit 325,o325)::(nat_lit 327,o327)::(nat_lit 328,o328)::(nat_lit 329,o329)::(nat_lit 331,o331)::(nat_lit 332,o332)::(nat_lit 334,o334)::(nat_lit 335,o335)::(nat_lit 336,o336)::(nat_lit 338,o338)::(nat_lit 339,o339)::(nat_lit 341,o341)::(nat_lit 342,o342)::(nat_lit 343,o343)::(nat_lit 345,o345)::(nat_lit 346,o346)::(nat_lit 348,o348)::(nat_lit 349,o349)::(nat_lit 350,o350)::(nat_lit 351,o351 P)::(nat_lit 352,o352)::(nat_lit 357,o357)::(nat_lit 360,o360)::(nat_lit 361,o361)::(nat_lit 362,o362)::(nat_lit 364,o364 P)::(nat_lit 365,o365)::(nat_lit 367,o367)::(nat_lit 369,o369)::(nat_lit 370,o370)::(nat_lit 372,o372)::(nat_lit 373,o373)::(nat_lit 375,o375)::(nat_lit 376,o376)::(nat_lit 377,o377)::(nat_lit 379,o379)::(nat_lit 380,o380)::(nat_lit 382,o382)::(nat_lit 383,o383)::(nat_lit 384,o384)::(nat_lit 386,o386)::(nat_lit 387,o387)::(nat_lit 389,o389)::(nat_lit 390,o390)::(nat_lit 391,o391)::(nat_lit 393,o393)::(nat_lit 394,o394)::(nat_lit 396,o396)::(nat_lit 397,o397)::(nat_lit 398,o398)::(nat_lit 399,o399 P)::(nat_lit 400,o400)::(nat_lit 405,o405)::(nat_lit 407,o407)::(nat_lit 408,o408)::(nat_lit 410,o410)::(nat_lit 411,o411)::(nat_lit 412,o412)::(nat_lit 414,o414)::(nat_lit 415,o415)::(nat_lit 417,o417)::(nat_lit 418,o418)::(nat_lit 419,o419)::(nat_lit 421,o421)::(nat_lit 422,o422)::(nat_lit 424,o424)::(nat_lit 425,o425)::(nat_lit 426,o426)::(nat_lit 428,o428)::(nat_lit 429,o429)::(nat_lit 431,o431)::(nat_lit 432,o432)::(nat_lit 433,o433)::(nat_lit 435,o435)::(nat_lit 436,o436)::(nat_lit 438,o438)::(nat_lit 439,o439)::(nat_lit 440,o440)::(nat_lit 441,o441)::(nat_lit 443,o443)::(nat_lit 444,o444)::(nat_lit 446,o446)::(nat_lit 447,o447)::(nat_lit 448,o448)::(nat_lit 450,o450)::(nat_lit 451,o451)::(nat_lit 453,o453)::(nat_lit 454,o454)::(nat_lit 455,o455)::(nat_lit 457,o457 P)::(nat_lit 458,o458)::(nat_lit 460,o460)::(nat_lit 462,o462)::(nat_lit 464,o464)::(nat_lit 465,o465)::(nat_lit 467,o467)::(nat_lit 468,o468)::(nat_lit 469,o469)::(nat_lit 470,o470 P)::(nat_lit 471,o471_8)::(nat_lit 476,o476)::(nat_lit 478,o478 P)::(nat_lit 479,o479)::(nat_lit 481,o481)::(nat_lit 483,o483)::(nat_lit 485,o485)::(nat_lit 486,o486)::(nat_lit 488,o488)::(nat_lit 489,o489)::(nat_lit 490,o490)::(nat_lit 492,o492)::(nat_lit 493,o493)::(nat_lit 495,o495)::(nat_lit 496,o496)::(nat_lit 497,o497)::(nat_lit 498,o498 P)::(nat_lit 499,o499)::(nat_lit 502,o502)::(nat_lit 504,o504 P)::(nat_lit 505,o505)::(nat_lit 507,o507)::(nat_lit 509,o509)::(nat_lit 511,o511)::(nat_lit 512,o512)::(nat_lit 514,o514)::(nat_lit 515,o515)::(nat_lit 516,o516)::(nat_lit 519,o519)::(nat_lit 520,o520)::(nat_lit 521,o521)::(nat_lit 522,o522 P)::(nat_lit 523,o523)::(nat_lit 526,o526)::(nat_lit 528,o528)::(nat_lit 529,o529)::(nat_lit 531,o531)::(nat_lit 532,o532)::(nat_lit 533,o533)::(nat_lit 536,o536)::(nat_lit 537,o537)::(nat_lit 538,o538)::(nat_lit 540,o540 P)::(nat_lit 541,o541)::(nat_lit 543,o543)::(nat_lit 545,o545)::(nat_lit 547,o547)::(nat_lit 548,o548)::(nat_lit 550,o550)::(nat_lit 551,o551)::(nat_lit 552,o552)::(nat_lit 554,o554)::(nat_lit 555,o555)::(nat_lit 557,o557)::(nat_lit 558,o558)::(nat_lit 559,o559)::(nat_lit 560,o560 P)::(nat_lit 561,o561_11)::(nat_lit 566,o566)::(nat_lit 568,o568 P)::(nat_lit 569,o569)::(nat_lit 571,o571)::(nat_lit 573,o573)::(nat_lit 574,o574)::(nat_lit 576,o576)::(nat_lit 577,o577)::(nat_lit 579,o579)::(nat_lit 580,o580)::(nat_lit 581,o581)::(nat_lit 583,o583)::(nat_lit 584,o584)::(nat_lit 586,o586)::(nat_lit 587,o587)::(nat_lit 588,o588)::(nat_lit 591,o591)::(nat_lit 592,o592)::(nat_lit 593,o593)::(nat_lit 594,o594 P)::(nat_lit 595,o595)::(nat_lit 598,o598)::(nat_lit 600,o600 P)::(nat_lit 601,o601)::(nat_lit 603,o603)::(nat_lit 605,o605)::(nat_lit 606,o606)::(nat_lit 608,o608)::(nat_lit 609,o609)::(nat_lit 611,o611)::(nat_lit 612,o612)::(nat_lit 613,o613)::(nat_lit 615,o615)::(nat_lit 616,o616)::(nat_lit 618,o618)::(nat_lit 619,o619)::(nat_lit 620,o620)::(nat_lit 621,o621 P)::(nat_lit 622,o622)::(nat_lit 625,o625)::(nat_lit 627,o627 P)::(nat_lit 628,o628)::(nat_lit 630,o630)::(nat_lit 632,o632)::(nat_lit 633,o633)::(nat_lit 635,o635)::(nat_lit 636,o636)::(nat_lit 638,o638)::(nat_lit 639,o639)::(nat_lit 640,o640)::(nat_lit 642,o642)::(nat_lit 643,o643)::(nat_lit 645,o645)::(nat_lit 646,o646)::(nat_lit 647,o647)::(nat_lit 648,o648 P)::(nat_lit 649,o649)::(nat_lit 652,o652)::(nat_lit 654,o654 P)::(nat_lit 655,o655)::(nat_lit 657,o657)::(nat_lit 659,o659)::(nat_lit 660,o660)::(nat_lit 662,o662)::(nat_lit 663,o663)::(nat_lit 665,o665)::(nat_lit 666,o666)::(nat_lit 667,o667)::(nat_lit 669,o669)::(nat_lit 670,o670)::(nat_lit 672,o672)::(nat_lit 673,o673)::(nat_lit 674,o674)::(nat_lit 676,o676)::(nat_lit 677,o677)::(nat_lit 679,o679)::(nat_lit 680,o680)::(nat_lit 681,o681)::(nat_lit 682,o682 P)::(nat_lit 683,o683)::(nat_lit 686,o686)::(nat_lit 688,o688 P)::(nat_lit 689,o689)::(nat_lit 691,o691)::(nat_lit 693,o693)::(nat_lit 694,o694)::(nat_lit 696,o696)::(nat_lit 697,o697)::(nat_lit 699,o699)::(nat_lit 700,o700)::(nat_lit 701,o701)::(nat_lit 703,o703)::(nat_lit 704,o704)::(nat_lit 706,o706)::(nat_lit 707,o707)::(nat_lit 708,o708)::(nat_lit 709,o709 P)::(nat_lit 710,o710)::(nat_lit 713,o713)::(nat_lit 715,o715 P)::(nat_lit 716,o716)::(nat_lit 718,o718)::(nat_lit 720,o720)::(nat_lit 722,o722)::(nat_lit 723,o723)::(nat_lit 725,o725)::(nat_lit 726,o726)::(nat_lit 727,o727)::(nat_lit 729,o729)::(nat_lit 730,o730)::(nat_lit 732,o732)::(nat_lit 733,o733)::(nat_lit 734,o734)::(nat_lit 736,o736)::(nat_lit 737,o737)::(nat_lit 739,o739)::(nat_lit 740,o740)::(nat_lit 741,o741)::(nat_lit 743,o743)::(nat_lit 744,o744)::(nat_lit 746,o746)::(nat_lit 747,o747)::(nat_lit 748,o748)::(nat_lit 750,o750)::(nat_lit 751,o751)::(nat_lit 753,o753)::(nat_lit 754,o754)::(nat_lit 755,o755)::(nat_lit 757,o757)::(nat_lit 758,o758)::(nat_lit 760,o760)::(nat_lit 761,o761)::(nat_lit 762,o762)::(nat_lit 765,o765)::(nat_lit 766,o766)::(nat_lit 767,o767)::(nat_lit 768,o768 P)::(nat_lit 769,o769)::(nat_lit 774,o774)::(nat_lit 776,o776 P)::(nat_lit 777,o777)::(nat_lit 779,o779)::(nat_lit 781,o781)::(nat_lit 783,o783)::(nat_lit 784,o784)::(nat_lit 786,o786)::(nat_lit 787,o787)::(nat_lit 788,o788)::(nat_lit 790,o790)::(nat_lit 791,o791)::(nat_lit 793,o793)::(nat_lit 794,o794)::(nat_lit 795,o795)::(nat_lit 797,o797)::(nat_lit 798,o798)::(nat_lit 800,o800)::(nat_lit 801,o801)::(nat_lit 802,o802)::(nat_lit 804,o804)::(nat_lit 805,o805)::(nat_lit 807,o807)::(nat_lit 808,o808)::(nat_lit 809,o809)::(nat_lit 811,o811)::(nat_lit 812,o812)::(nat_lit 814,o814)::(nat_lit 815,o815)::(nat_lit 816,o816)::(nat_lit 818,o818)::(nat_lit 819,o819)::(nat_lit 821,o821)::(nat_lit 822,o822)::(nat_lit 823,o823)::(nat_lit 826,o826)::(nat_lit 827,o827)::(nat_lit 828,o828)::(nat_lit 829,o829 P)::(nat_lit 830,o830)::(nat_lit 835,o835)::(nat_lit 837,o837)::(nat_lit 838,o838)::(nat_lit 840,o840)::(nat_lit 841,o841)::(nat_lit 842,o842)::(nat_lit 844,o844 P)::(nat_lit 845,o845)::(nat_lit 847,o847)::(nat_lit 849,o849)::(nat_lit 852,o852)::(nat_lit 853,o853)::(nat_lit 854,o854)::(nat_lit 856,o856)::(nat_lit 857,o857)::(nat_lit 859,o859)::(nat_lit 860,o860)::(nat_lit 861,o861)::(nat_lit 863,o863)::(nat_lit 864,o864)::(nat_lit 866,o866)::(nat_lit 867,o867)::(nat_lit 868,o868)::(nat_lit 870,o870)::(nat_lit 871,o871)::(nat_lit 873,o873)::(nat_lit 874,o874)::(nat_lit 875,o875)::(nat_lit 877,o877)::(nat_lit 878,o878)::(nat_lit 880,o880)::(nat_lit 881,o881)::(nat_lit 882,o882)::(nat_lit 884,o884)::(nat_lit 885,o885)::(nat_lit 887,o887)::(nat_lit 888,o888)::(nat_lit 889,o889)::(nat_lit 891,o891)::(nat_lit 892,o892)::(nat_lit 894,o894)::(nat_lit 895,o895)::(nat_lit 896,o896)::(nat_lit 898,o898)::(nat_lit 899,o899)::(nat_lit 901,o901)::(nat_lit 902,o902)::(nat_lit 903,o903)::(nat_lit 905,o905)::(nat_lit 906,o906)::(nat_lit 908,o908)::(nat_lit 909,o909)::(nat_lit 910,o910)::(nat_lit 912,o912)::(nat_lit 913,o913)::(nat_lit 915,o915)::(nat_lit 916,o916)::(nat_lit 917,o917)::(nat_lit 919,o919)::(nat_lit 920,o920)::(nat_lit 922,o922)::(nat_lit 923,o923)::(nat_lit 924,o924)::(nat_lit 926,o926)::(nat_lit 927,o927)::(nat_lit 929,o929)::(nat_lit 930,o930)::(nat_lit 931,o931)::(nat_lit 933,o933)::(nat_lit 934,o934)::(nat_lit 936,o936)::(nat_lit 937,o937)::(nat_lit 938,o938)::(nat_lit 940,o940)::(nat_lit 941,o941)::(nat_lit 943,o943)::(nat_lit 944,o944)::(nat_lit 945,o945)::(nat_lit 947,o947)::(nat_lit 948,o948)::(nat_lit 950,o950)::(nat_lit 951,o951)::(nat_lit 952,o952)::(nat_lit 954,o954)::(nat_lit 955,o955)::(nat_lit 957,o957)::(nat_lit 958,o958)::(nat_lit 959,o959)::(nat_lit 960,o960 P)::(nat_lit 961,o961)::(nat_lit 966,o966)::(nat_lit 968,o968)::(nat_lit 969,o969)::(nat_lit 971,o971)::(nat_lit 972,o972)::(nat_lit 973,o973)::(nat_lit 975,o975)::(nat_lit 976,o976)::(nat_lit 978,o978)::(nat_lit 979,o979)::(nat_lit 980,o980)::(nat_lit 982,o982)::(nat_lit 983,o983)::(nat_lit 985,o985)::(nat_lit 986,o986)::(nat_lit 987,o987)::(nat_lit 989,o989)::(nat_lit 990,o990)::(nat_lit 992,o992)::(nat_lit 993,o993)::(nat_lit 994,o994)::(nat_lit 997,o997)::(nat_lit 998,o998)::[]
noncomputable def q1:Program:={ PG with main:={ PG.main with body:=[d1 58] } }
def Ha (P:Params):Heap:=absHeap (bt 20 (l_b P)) 15 {}
def H1 (P:Params):Heap:=absHeap (bt 20 (l_14 P)) 999 {}
noncomputable def asK:List Addr:=[2,3,6,7,9,11,13,15,17,18,20,21,22,24,25,27,29,30,32,33,35,36,37,39,40,42,43,44,45,46,50,52,53,55,57,58,59,62,64,65,67,69,70,71,74,76,77,79,81,82,83,86,88,89,91,93,94,95,98,100,101,103,104,105,107,108,110,111,112,114,115,117,118,119,121,122,124,125,126,129,130,131,133,134,136,137,138,140,141,143,144,145,147,148,150,152,154,155,157,158,159,161,162,164,165,166,168,169,171,172,173,174,175,180,182,183,185,187,189,190,192,193,194,196,197,199,200,201,202,203,208,210,211,213,215,217,218,220,221,222,224,225,227,228,229,230,231,234,236,237,239,241,243,244,246,247,248,250,251,253,254,255,256,257,260,262,263,265,267,269,270,272,273,274,276,277,279,280,281,282,283,286,288,289,291,292,293,295,296,298,300,301,303,304,306,307,308,310,311,313,314,315,317,318,320,321,322,324,325,327,328,329,331,332,334,335,336,338,339,341,342,343,345,346,348,349,350,351,352,357,360,361,362,364,365,367,369,370,372,373,375,376,377,379,380,382,383,384,386,387,389,390,391,393,394,396,397,398,399,400,405,407,408,410,411,412,414,415,417,418,419,421,422,424,425,426,428,429,431,432,433,435,436,438,439,440,441,443,444,446,447,448,450,451,453,454,455,457,458,460,462,464,465,467,468,469,470,471,476,478,479,481,483,485,486,488,489,490,492,493,495,496,497,498,499,502,504,505,507,509,511,512,514,515,516,519,520,521,522,523,526,528,529,531,532,533,536,537,538,540,541,543,545,547,548,550,551,552,554,555,557,558,559,560,561,566,568,569,571,573,574,576,577,579,580,581,583,584,586,587,588,591,592,593,594,595,598,600,601,603,605,606,608,609,611,612,613,615,616,618,619,620,621,622,625,627,628,630,632,633,635,636,638,639,640,642,643,645,646,647,648,649,652,654,655,657,659,660,662,663,665,666,667,669,670,672,673,674,676,677,679,680,681,682,683,686,688,689,691,693,694,696,697,699,700,701,703,704,706,707,708,709,710,713,715,716,718,720,722,723,725,726,727,729,730,732,733,734,736,737,739,740,741,743,744,746,747,748,750,751,753,754,755,757,758,760,761,762,765,766,767,768,769,774,776,777,779,781,783,784,786,787,788,790,791,793,794,795,797,798,800,801,802,804,805,807,808,809,811,812,814,815,816,818,819,821,822,823,826,827,828,829,830,835,837,838,840,841,842,844,845,847,849,852,853,854,856,857,859,860,861,863,864,866,867,868,870,871,873,874,875,877,878,880,881,882,884,885,887,888,889,891,892,894,895,896,898,899,901,902,903,905,906,908,909,910,912,913,915,916,917,919,920,922,923,924,926,927,929,930,931,933,934,936,937,938,940,941,943,944,945,947,948,950,951,952,954,955,957,958,959,960,961,966,968,969,971,972,973,975,976,978,979,980,982,983,985,986,987,989,990,992,993,994,997,998]
def loose1:List Str:=[z15,z16,z17,z18,z32,z33,z34,z35,z36,z40,z41,z42,z43,z44,z45,z46,z61,z62,z68,z69,z70,z82,z83,z102,z103,z104,z105,z106,z107,z108,z109,z125,z126,z131,z132,z133,z134,z135,z136,z145,z146,z155,z156,z163,z164,z184,z185,z203,z236,z237,z238,z239]
noncomputable abbrev shT (h:Heap) (tk:Nat) (os:OsState):Shared:=⟨h,#[],{},tk,os⟩
end
end Mine.H
namespace Mine.H
theorem pp0 (w:World) (os:OsState):(segRunT treeTable PG w 11 (some (.ref 6)) 1 582 (stT (l_b w.params) 15 187 os) (piecesOf (sts 0 5) env0 cd0 ⟨0,0,0,0⟩ [topFrame q0])=some (.next,stT (l_0 w.params) 62 252 os,cd0,⟨17,0,18,8⟩))∧(segRunT treeTable PG w 11 (some (.ref 6)) 1 758 (stT (l_0 w.params) 62 252 os) (piecesOf (sts 5 5) env0 cd0 ⟨17,0,18,8⟩ [topFrame q0])=some (.next,stT (l_1 w.params) 112 315 os,cd0,⟨27,0,28,29⟩))∧(segRunT treeTable PG w 11 (some (.ref 6)) 1 531 (stT (l_1 w.params) 112 315 os) (piecesOf (sts 10 9) env0 cd0 ⟨27,0,28,29⟩ [topFrame q0])=some (.next,stT (l_2 w.params) 180 416 os,cd0,⟨76,0,76,10⟩))∧(segRunT treeTable PG w 11 (some (.ref 6)) 1 590 (stT (l_2 w.params) 180 416 os) (piecesOf (sts 19 2) env0 cd0 ⟨76,0,76,10⟩ [topFrame q0])=some (.next,stT (l_3 w.params) 234 485 os,cd0,⟨84,0,91,37⟩)) :=
  ⟨by kernel_rfl,by kernel_rfl,by kernel_rfl,by kernel_rfl⟩
theorem pp1 (w:World) (os:OsState):(segRunT treeTable PG w 11 (some (.ref 6)) 1 653 (stT (l_3 w.params) 234 485 os) (piecesOf (sts 21 3) env0 cd0 ⟨84,0,91,37⟩ [topFrame q0])=some (.next,stT (l_4 w.params) 293 568 os,cd0,⟨114,0,121,25⟩))∧(segRunT treeTable PG w 11 (some (.ref 6)) 1 505 (stT (l_4 w.params) 293 568 os) (piecesOf (sts 24 2) env0 cd0 ⟨114,0,121,25⟩ [topFrame q0])=some (.next,stT (l_5 w.params) 362 655 os,cd0,⟨154,0,164,90⟩))∧(segRunT treeTable PG w 11 (some (.ref 6)) 1 613 (stT (l_5 w.params) 362 655 os) (piecesOf (sts 26 9) env0 cd0 ⟨154,0,164,90⟩ [topFrame q0])=some (.next,stT (l_6 w.params) 455 780 os,cd0,⟨258,0,258,8⟩))∧(segRunT treeTable PG w 11 (some (.ref 6)) 1 561 (stT (l_6 w.params) 455 780 os) (piecesOf (sts 35 2) env0 cd0 ⟨258,0,258,8⟩ [topFrame q0])=some (.next,stT (l_7 w.params) 502 844 os,cd0,⟨264,0,271,35⟩)) :=
  ⟨by kernel_rfl,by kernel_rfl,by kernel_rfl,by kernel_rfl⟩
theorem pp2 (w:World) (os:OsState):(segRunT treeTable PG w 11 (some (.ref 6)) 1 685 (stT (l_7 w.params) 502 844 os) (piecesOf (sts 37 7) env0 cd0 ⟨264,0,271,35⟩ [topFrame q0])=some (.next,stT (l_8 w.params) 566 939 os,cd0,⟨305,0,312,17⟩))∧(segRunT treeTable PG w 11 (some (.ref 6)) 1 648 (stT (l_8 w.params) 566 939 os) (piecesOf (sts 44 2) env0 cd0 ⟨305,0,312,17⟩ [topFrame q0])=some (.next,stT (l_9 w.params) 625 1015 os,cd0,⟨325,0,333,49⟩))∧(segRunT treeTable PG w 11 (some (.ref 6)) 1 649 (stT (l_9 w.params) 625 1015 os) (piecesOf (sts 46 2) env0 cd0 ⟨325,0,333,49⟩ [topFrame q0])=some (.next,stT (l_10 w.params) 686 1090 os,cd0,⟨342,0,353,47⟩))∧(segRunT treeTable PG w 11 (some (.ref 6)) 1 753 (stT (l_10 w.params) 686 1090 os) (piecesOf (sts 48 2) env0 cd0 ⟨342,0,353,47⟩ [topFrame q0])=some (.next,stT (l_11 w.params) 774 1203 os,cd0,⟨363,0,391,110⟩)) :=
  ⟨by kernel_rfl,by kernel_rfl,by kernel_rfl,by kernel_rfl⟩
theorem pp3 (w:World) (os:OsState):(segRunT treeTable PG w 11 (some (.ref 6)) 1 509 (stT (l_11 w.params) 774 1203 os) (piecesOf (sts 50 2) env0 cd0 ⟨363,0,391,110⟩ [topFrame q0])=some (.next,stT (l_12 w.params) 842 1295 os,cd0,⟨434,0,441,38⟩))∧(segRunT treeTable PG w 11 (some (.ref 6)) 1 793 (stT (l_12 w.params) 842 1295 os) (piecesOf (sts 52 1) env0 cd0 ⟨434,0,441,38⟩ [topFrame q0])=some (.next,stT (l_13 w.params) 966 1477 os,cd0,⟨442,0,578,67⟩))∧(segRunT treeTable PG w 11 (some (.ref 6)) 1 233 (stT (l_13 w.params) 966 1477 os) (piecesOf (sts 53 6) env0 cd0 ⟨442,0,578,67⟩ [topFrame q0])=some (.next,stT (l_14 w.params) 999 1535 os,cd0,⟨631,0,658,115⟩)) :=
  ⟨by kernel_rfl,by kernel_rfl,by kernel_rfl⟩
theorem pre (w:World) (os:OsState):topGo treeTable PG w 11 (some (.ref 6)) 12 ⟨boot_heap w.params,Array.mk [],boot_drawn,boot_toks,os⟩ (topStub PG)=some (shT (Ha w.params) 187 os,⟨denote treeTable cd0,cd0,q0,[topFrame q0]⟩):=by
  kernel_rfl
theorem block (w:World) (os:OsState):segRun treeTable PG w 11 (some (.ref 6)) 1 1 (shT (Ha w.params) 187 os) (blockOf (behindTheImports PG) env0 cd0 q0 [topFrame q0])=some (.next,shT (Ha w.params) 187 os,cd0,q0):=by
  kernel_rfl
theorem fin (w:World) (os:OsState):topRun treeTable PG w 11 (some (.ref 6)) 3 (shT (H1 w.params) 1535 os) ⟨doneF .next,cd0,⟨631,0,658,115⟩,[topFrame q0]⟩=some (shT (H1 w.params) 1535 os):=by
  kernel_rfl
noncomputable def R_15:List Stmt:=[]
def M_15:Nat:=3
noncomputable def R_14:List Stmt:=sts 53 6++R_15
def M_14:Nat:=233+M_15
noncomputable def R_13:List Stmt:=sts 52 1++R_14
def M_13:Nat:=793+M_14
noncomputable def R_12:List Stmt:=sts 50 2++R_13
def M_12:Nat:=509+M_13
noncomputable def R_11:List Stmt:=sts 48 2++R_12
def M_11:Nat:=753+M_12
noncomputable def R_10:List Stmt:=sts 46 2++R_11
def M_10:Nat:=649+M_11
noncomputable def R_9:List Stmt:=sts 44 2++R_10
def M_9:Nat:=648+M_10
noncomputable def R_8:List Stmt:=sts 37 7++R_9
def M_8:Nat:=685+M_9
noncomputable def R_7:List Stmt:=sts 35 2++R_8
def M_7:Nat:=561+M_8
noncomputable def R_6:List Stmt:=sts 26 9++R_7
def M_6:Nat:=613+M_7
noncomputable def R_5:List Stmt:=sts 24 2++R_6
def M_5:Nat:=505+M_6
noncomputable def R_4:List Stmt:=sts 21 3++R_5
def M_4:Nat:=653+M_5
noncomputable def R_3:List Stmt:=sts 19 2++R_4
def M_3:Nat:=590+M_4
noncomputable def R_2:List Stmt:=sts 10 9++R_3
def M_2:Nat:=531+M_3
noncomputable def R_1:List Stmt:=sts 5 5++R_2
def M_1:Nat:=758+M_2
noncomputable def R_0:List Stmt:=sts 0 5++R_1
def M_0:Nat:=582+M_1
theorem abs_fin (w:World) (os:OsState):SharedT.abs (stT (l_14 w.params) 999 1535 os)=shT (H1 w.params) 1535 os:=by
  kernel_rfl
theorem c_15 (w:World) (os:OsState):topRun treeTable PG w 11 (some (.ref 6)) M_15 (SharedT.abs (stT (l_14 w.params) 999 1535 os)) (restOf R_15 env0 cd0 ⟨631,0,658,115⟩ [topFrame q0])=some (shT (H1 w.params) 1535 os):=by
  delta M_15 R_15
  rw [abs_fin]
  exact @piece_nil treeTable PG w 11 (some (.ref 6)) env0 q0 3 _ _ cd0 _ (fin w os)
theorem c_14 (w:World) (os:OsState):topRun treeTable PG w 11 (some (.ref 6)) M_14 (SharedT.abs (stT (l_13 w.params) 966 1477 os)) (restOf R_14 env0 cd0 ⟨442,0,578,67⟩ [topFrame q0])=some (shT (H1 w.params) 1535 os):=by
  delta M_14 R_14
  exact @piece_app treeTable PG w 11 (some (.ref 6)) env0 q0 233 M_15 (SharedT.abs (stT (l_13 w.params) 966 1477 os)) (SharedT.abs (stT (l_14 w.params) 999 1535 os)) (shT (H1 w.params) 1535 os) (sts 53 6) R_15 cd0 ⟨442,0,578,67⟩ ⟨631,0,658,115⟩ (segRun_of (pp3 w os).2.2) (c_15 w os)
theorem c_13 (w:World) (os:OsState):topRun treeTable PG w 11 (some (.ref 6)) M_13 (SharedT.abs (stT (l_12 w.params) 842 1295 os)) (restOf R_13 env0 cd0 ⟨434,0,441,38⟩ [topFrame q0])=some (shT (H1 w.params) 1535 os):=by
  delta M_13 R_13
  exact @piece_app treeTable PG w 11 (some (.ref 6)) env0 q0 793 M_14 (SharedT.abs (stT (l_12 w.params) 842 1295 os)) (SharedT.abs (stT (l_13 w.params) 966 1477 os)) (shT (H1 w.params) 1535 os) (sts 52 1) R_14 cd0 ⟨434,0,441,38⟩ ⟨442,0,578,67⟩ (segRun_of (pp3 w os).2.1) (c_14 w os)
theorem c_12 (w:World) (os:OsState):topRun treeTable PG w 11 (some (.ref 6)) M_12 (SharedT.abs (stT (l_11 w.params) 774 1203 os)) (restOf R_12 env0 cd0 ⟨363,0,391,110⟩ [topFrame q0])=some (shT (H1 w.params) 1535 os):=by
  delta M_12 R_12
  exact @piece_app treeTable PG w 11 (some (.ref 6)) env0 q0 509 M_13 (SharedT.abs (stT (l_11 w.params) 774 1203 os)) (SharedT.abs (stT (l_12 w.params) 842 1295 os)) (shT (H1 w.params) 1535 os) (sts 50 2) R_13 cd0 ⟨363,0,391,110⟩ ⟨434,0,441,38⟩ (segRun_of (pp3 w os).1) (c_13 w os)
theorem c_11 (w:World) (os:OsState):topRun treeTable PG w 11 (some (.ref 6)) M_11 (SharedT.abs (stT (l_10 w.params) 686 1090 os)) (restOf R_11 env0 cd0 ⟨342,0,353,47⟩ [topFrame q0])=some (shT (H1 w.params) 1535 os):=by
  delta M_11 R_11
  exact @piece_app treeTable PG w 11 (some (.ref 6)) env0 q0 753 M_12 (SharedT.abs (stT (l_10 w.params) 686 1090 os)) (SharedT.abs (stT (l_11 w.params) 774 1203 os)) (shT (H1 w.params) 1535 os) (sts 48 2) R_12 cd0 ⟨342,0,353,47⟩ ⟨363,0,391,110⟩ (segRun_of (pp2 w os).2.2.2) (c_12 w os)
theorem c_10 (w:World) (os:OsState):topRun treeTable PG w 11 (some (.ref 6)) M_10 (SharedT.abs (stT (l_9 w.params) 625 1015 os)) (restOf R_10 env0 cd0 ⟨325,0,333,49⟩ [topFrame q0])=some (shT (H1 w.params) 1535 os):=by
  delta M_10 R_10
  exact @piece_app treeTable PG w 11 (some (.ref 6)) env0 q0 649 M_11 (SharedT.abs (stT (l_9 w.params) 625 1015 os)) (SharedT.abs (stT (l_10 w.params) 686 1090 os)) (shT (H1 w.params) 1535 os) (sts 46 2) R_11 cd0 ⟨325,0,333,49⟩ ⟨342,0,353,47⟩ (segRun_of (pp2 w os).2.2.1) (c_11 w os)
theorem c_9 (w:World) (os:OsState):topRun treeTable PG w 11 (some (.ref 6)) M_9 (SharedT.abs (stT (l_8 w.params) 566 939 os)) (restOf R_9 env0 cd0 ⟨305,0,312,17⟩ [topFrame q0])=some (shT (H1 w.params) 1535 os):=by
  delta M_9 R_9
  exact @piece_app treeTable PG w 11 (some (.ref 6)) env0 q0 648 M_10 (SharedT.abs (stT (l_8 w.params) 566 939 os)) (SharedT.abs (stT (l_9 w.params) 625 1015 os)) (shT (H1 w.params) 1535 os) (sts 44 2) R_10 cd0 ⟨305,0,312,17⟩ ⟨325,0,333,49⟩ (segRun_of (pp2 w os).2.1) (c_10 w os)
theorem c_8 (w:World) (os:OsState):topRun treeTable PG w 11 (some (.ref 6)) M_8 (SharedT.abs (stT (l_7 w.params) 502 844 os)) (restOf R_8 env0 cd0 ⟨264,0,271,35⟩ [topFrame q0])=some (shT (H1 w.params) 1535 os):=by
  delta M_8 R_8
  exact @piece_app treeTable PG w 11 (some (.ref 6)) env0 q0 685 M_9 (SharedT.abs (stT (l_7 w.params) 502 844 os)) (SharedT.abs (stT (l_8 w.params) 566 939 os)) (shT (H1 w.params) 1535 os) (sts 37 7) R_9 cd0 ⟨264,0,271,35⟩ ⟨305,0,312,17⟩ (segRun_of (pp2 w os).1) (c_9 w os)
theorem c_7 (w:World) (os:OsState):topRun treeTable PG w 11 (some (.ref 6)) M_7 (SharedT.abs (stT (l_6 w.params) 455 780 os)) (restOf R_7 env0 cd0 ⟨258,0,258,8⟩ [topFrame q0])=some (shT (H1 w.params) 1535 os):=by
  delta M_7 R_7
  exact @piece_app treeTable PG w 11 (some (.ref 6)) env0 q0 561 M_8 (SharedT.abs (stT (l_6 w.params) 455 780 os)) (SharedT.abs (stT (l_7 w.params) 502 844 os)) (shT (H1 w.params) 1535 os) (sts 35 2) R_8 cd0 ⟨258,0,258,8⟩ ⟨264,0,271,35⟩ (segRun_of (pp1 w os).2.2.2) (c_8 w os)
theorem c_6 (w:World) (os:OsState):topRun treeTable PG w 11 (some (.ref 6)) M_6 (SharedT.abs (stT (l_5 w.params) 362 655 os)) (restOf R_6 env0 cd0 ⟨154,0,164,90⟩ [topFrame q0])=some (shT (H1 w.params) 1535 os):=by
  delta M_6 R_6
  exact @piece_app treeTable PG w 11 (some (.ref 6)) env0 q0 613 M_7 (SharedT.abs (stT (l_5 w.params) 362 655 os)) (SharedT.abs (stT (l_6 w.params) 455 780 os)) (shT (H1 w.params) 1535 os) (sts 26 9) R_7 cd0 ⟨154,0,164,90⟩ ⟨258,0,258,8⟩ (segRun_of (pp1 w os).2.2.1) (c_7 w os)
theorem c_5 (w:World) (os:OsState):topRun treeTable PG w 11 (some (.ref 6)) M_5 (SharedT.abs (stT (l_4 w.params) 293 568 os)) (restOf R_5 env0 cd0 ⟨114,0,121,25⟩ [topFrame q0])=some (shT (H1 w.params) 1535 os):=by
  delta M_5 R_5
  exact @piece_app treeTable PG w 11 (some (.ref 6)) env0 q0 505 M_6 (SharedT.abs (stT (l_4 w.params) 293 568 os)) (SharedT.abs (stT (l_5 w.params) 362 655 os)) (shT (H1 w.params) 1535 os) (sts 24 2) R_6 cd0 ⟨114,0,121,25⟩ ⟨154,0,164,90⟩ (segRun_of (pp1 w os).2.1) (c_6 w os)
theorem c_4 (w:World) (os:OsState):topRun treeTable PG w 11 (some (.ref 6)) M_4 (SharedT.abs (stT (l_3 w.params) 234 485 os)) (restOf R_4 env0 cd0 ⟨84,0,91,37⟩ [topFrame q0])=some (shT (H1 w.params) 1535 os):=by
  delta M_4 R_4
  exact @piece_app treeTable PG w 11 (some (.ref 6)) env0 q0 653 M_5 (SharedT.abs (stT (l_3 w.params) 234 485 os)) (SharedT.abs (stT (l_4 w.params) 293 568 os)) (shT (H1 w.params) 1535 os) (sts 21 3) R_5 cd0 ⟨84,0,91,37⟩ ⟨114,0,121,25⟩ (segRun_of (pp1 w os).1) (c_5 w os)
theorem c_3 (w:World) (os:OsState):topRun treeTable PG w 11 (some (.ref 6)) M_3 (SharedT.abs (stT (l_2 w.params) 180 416 os)) (restOf R_3 env0 cd0 ⟨76,0,76,10⟩ [topFrame q0])=some (shT (H1 w.params) 1535 os):=by
  delta M_3 R_3
  exact @piece_app treeTable PG w 11 (some (.ref 6)) env0 q0 590 M_4 (SharedT.abs (stT (l_2 w.params) 180 416 os)) (SharedT.abs (stT (l_3 w.params) 234 485 os)) (shT (H1 w.params) 1535 os) (sts 19 2) R_4 cd0 ⟨76,0,76,10⟩ ⟨84,0,91,37⟩ (segRun_of (pp0 w os).2.2.2) (c_4 w os)
theorem c_2 (w:World) (os:OsState):topRun treeTable PG w 11 (some (.ref 6)) M_2 (SharedT.abs (stT (l_1 w.params) 112 315 os)) (restOf R_2 env0 cd0 ⟨27,0,28,29⟩ [topFrame q0])=some (shT (H1 w.params) 1535 os):=by
  delta M_2 R_2
  exact @piece_app treeTable PG w 11 (some (.ref 6)) env0 q0 531 M_3 (SharedT.abs (stT (l_1 w.params) 112 315 os)) (SharedT.abs (stT (l_2 w.params) 180 416 os)) (shT (H1 w.params) 1535 os) (sts 10 9) R_3 cd0 ⟨27,0,28,29⟩ ⟨76,0,76,10⟩ (segRun_of (pp0 w os).2.2.1) (c_3 w os)
theorem c_1 (w:World) (os:OsState):topRun treeTable PG w 11 (some (.ref 6)) M_1 (SharedT.abs (stT (l_0 w.params) 62 252 os)) (restOf R_1 env0 cd0 ⟨17,0,18,8⟩ [topFrame q0])=some (shT (H1 w.params) 1535 os):=by
  delta M_1 R_1
  exact @piece_app treeTable PG w 11 (some (.ref 6)) env0 q0 758 M_2 (SharedT.abs (stT (l_0 w.params) 62 252 os)) (SharedT.abs (stT (l_1 w.params) 112 315 os)) (shT (H1 w.params) 1535 os) (sts 5 5) R_2 cd0 ⟨17,0,18,8⟩ ⟨27,0,28,29⟩ (segRun_of (pp0 w os).2.1) (c_2 w os)
theorem c_0 (w:World) (os:OsState):topRun treeTable PG w 11 (some (.ref 6)) M_0 (SharedT.abs (stT (l_b w.params) 15 187 os)) (restOf R_0 env0 cd0 q0 [topFrame q0])=some (shT (H1 w.params) 1535 os):=by
  delta M_0 R_0
  exact @piece_app treeTable PG w 11 (some (.ref 6)) env0 q0 582 M_1 (SharedT.abs (stT (l_b w.params) 15 187 os)) (SharedT.abs (stT (l_0 w.params) 62 252 os)) (shT (H1 w.params) 1535 os) (sts 0 5) R_1 cd0 q0 ⟨17,0,18,8⟩ (segRun_of (pp0 w os).1) (c_1 w os)
theorem body_is:behindTheImports PG=R_0:=by
  kernel_rfl
def M1:Nat:=12+(1+M_0)
theorem run (w:World) (os:OsState):topRun treeTable PG w 11 (some (.ref 6)) M1 ⟨boot_heap w.params,Array.mk [],boot_drawn,boot_toks,os⟩ (topStub PG)=some (shT (H1 w.params) 1535 os):=by
  have h:=c_0 w os
  rw [← body_is] at h
  delta M1
  exact @go_top treeTable PG w 11 (some (.ref 6)) 12 (1+M_0) _ _ _ _ _ (pre w os) (@piece_block treeTable PG w 11 (some (.ref 6)) env0 q0 1 M_0 _ _ _ _ _ _ _ (block w os) h)
theorem open_:∀ w:World,(fencedOpening treeTable PG w 20000).map (fun s=>(s.heap,s.gens,s.drawn,s.toks))=some (boot_heap w.params,Array.mk [],boot_drawn,boot_toks) :=
  boot_open (by kernel_rfl) (by kernel_rfl) (fun s=>by kernel_rfl)
theorem size_ (w:World):((boot_heap w.params).isNs mainGlobals && (Array.mk []:Array GenState).size == 0,(boot_heap w.params).objs.size,(boot_heap w.params).nsMap mainGlobals "__annotations__")=(true,11,some (.ref 6)):=by
  kernel_rfl
theorem lk1 (w:World) (os:OsState):(staticsOk (importedModules PG.main.body) (boot_heap w.params) (H1 w.params) && namesBound PG (H1 w.params) && gensDone (shT (H1 w.params) 1535 os) && laidKept (boot_heap w.params) (H1 w.params))=true:=by
  kernel_rfl
theorem lk2 (w:World) (os:OsState):openSeen q1 loose1 (importedModules PG.main.body) (fun _=>true) true (shT (H1 w.params) 1535 os)=openGood q1 loose1:=by
  kernel_rfl
theorem asK_is (P:Params):asK=(K P).map (·.1):=by
  kernel_rfl
theorem lk3g {t:BT} {n:Nat} {life:Life} {A:List Addr} {K:List (Addr×Obj)} (hA:A=K.map (·.1)) (h1:(K.all fun p=>Nat.blt p.1 n)=true) (h2:A.map t.get=K.map fun p=>some p.2) (h3:(K.map fun p=>alive p.2)=K.map fun p=>some p.2):A.map (absHeap t n life).get?=K.map fun p=>some p.2:=by
  subst hA
  rw [List.map_map] at h2 ⊢
  refine List.map_inj_left.mpr fun p hp=>?_
  have a:=List.map_inj_left.mp h2 p hp
  have b:=List.map_inj_left.mp h3 p hp
  have c:p.1<n:=by simpa using List.all_eq_true.mp h1 p hp
  exact (abs_get c a).trans b
theorem lk3 (w:World):asK.map (H1 w.params).get?=(K w.params).map fun p=>some p.2 :=
  lk3g (asK_is _) (by kernel_rfl) (by kernel_rfl) (by kernel_rfl)
noncomputable abbrev HK:Hook:=kHook K asK asK_is
theorem left1:LeftO PG q1 loose1 (fun _=>true) HK.obs HK.val 20000 :=
  LeftO.of_pieces (H₀:=boot_heap) (H₁:=H1) (gs₀:=Array.mk []) (gs₁:=#[]) (d₀:=boot_drawn) (d₁:={}) (k₀:=boot_toks) (k₁:=1535) (m₀:=11) (ann:=some (.ref 6)) (M:=M1) open_ size_ run (by kernel_rfl)
    (fun w=>funext fun os=>looks_pair (lk1 w os) (looks_pair (lk2 w os) (lk3 w)))
noncomputable def dLaw:DefRec:={ name := "law",params:=fPar (d1 58),body:=fBod (d1 58),scope:=fSco (d1 58),pos:=(d1 58).pos }
abbrev lw:OpenLaw:=PySem.Challenge.rw_pb0428_01
theorem sd1:noRoadLSs { strict:=!(importedModules lw.row.prog.main.body).all cThrough.contains,foot:=none,bare:=(["vars", "dir", "locals"]:List Str).filter (readsOut lw.row.prog lw.row.prog.main.body) } lw.row.prog.main.body=true:=by
  kernel_rfl
theorem sd2:(namesMeet lw.row.prog lw.row.prog.main.body fun _ n=>attrL n)=true:=by
  kernel_rfl
theorem sd3:namesResolve lw.row.prog=true:=by
  kernel_rfl
theorem sd4:lw.row.wellSaid=true:=by
  delta OpenRow.wellSaid OpenRow.partSaid looksOpen
  repeat' with_reducible refine look_both ?_ ?_
  all_goals first | with_reducible exact sd1 | with_reducible exact sd2 | with_reducible exact sd3 | kernel_rfl
theorem sd5:lw.bound'.all (fun n=>!builtinNamed n || lw.about == [n] || !lw.reads n)=true:=by
  kernel_rfl
theorem said:PySem.Challenge.rw_pb0428_01.wellSaid=true:=by
  show lw.wellSaid=true
  delta OpenLaw.wellSaid
  repeat' with_reducible refine look_both ?_ ?_
  all_goals first | with_reducible exact sd4 | with_reducible exact sd5 | kernel_rfl
theorem hdef:defOf q1 PySem.Challenge.rw_pb0428_01.row.name=some (dLaw,[]):=by
  kernel_rfl
theorem htheDef:PG.theDef PySem.Challenge.rw_pb0428_01.row.name=some (dLaw.params,dLaw.body,dLaw.scope):=by
  kernel_rfl
theorem hkw:kwWritten? dLaw.params.kwonlyargs dLaw.params.kw_defaults=some []:=by
  kernel_rfl
theorem hok:(chainsOk q1 && opensWell PG && (frees PySem.Challenge.rw_pb0428_01.row.toRowW && PySem.Challenge.rw_pb0428_01.row.within.isEmpty))=true:=by
  kernel_rfl
theorem hbare:PG.bare:=⟨rfl,rfl,rfl,rfl,rfl,by decide +kernel⟩
theorem hwit:PySem.Challenge.rw_pb0428_01.row.toRowW.promised:=by
  w_witness2
abbrev WALK:Prop:=WalkO q1 loose1 (fun _ _=>True) HK.says PySem.Challenge.rw_pb0428_01.row.toRowW dLaw [] fun f vs=>PySem.call f vs
theorem head (call:WALK):PySem.Challenge.rw_pb0428_01.Holds :=
  holds_law said fun k1=>holds_open left1 HK.of HK.keeps (fun _ _=>trivial) (fun _ _ _ _ _=>trivial) hdef htheDef hkw (fun _ _=>recFacts_nil rfl) (by kernel_rfl) k1 hok hbare hwit call
end Mine.H
set_option maxHeartbeats 4000000
namespace Mine
def Zp (P:Prop):Prop:=P
theorem zp {P:Prop} (h:Zp P):P:=h
theorem zq {P:Prop} (h:P):Zp P=True:=eq_true h
theorem le0 {a c C:Nat} (h:a≤c) (e:Nat.ble c C=true):a≤C:=Nat.le_trans h (Nat.le_of_ble_eq_true e)
theorem le1 {a c k C:Nat} (h:a≤c) (e:Nat.ble (c+k) C=true):a+k≤C:=Nat.le_trans (Nat.add_le_add_right h k) (Nat.le_of_ble_eq_true e)
theorem le2 {a c k l C:Nat} (h:a≤c) (e:Nat.ble (c+k+l) C=true):a+k+l≤C:=Nat.le_trans (Nat.add_le_add_right (Nat.add_le_add_right h k) l) (Nat.le_of_ble_eq_true e)
theorem lt0 {a c C:Nat} (h:a≤c) (e:Nat.ble (c+1) C=true):a<C:=Nat.lt_of_le_of_lt h (Nat.le_of_ble_eq_true e)
theorem lt1 {a c k C:Nat} (h:a≤c) (e:Nat.ble (c+k+1) C=true):a+k<C:=Nat.lt_of_le_of_lt (Nat.add_le_add_right h k) (Nat.le_of_ble_eq_true e)
theorem neG {a b:Nat} (h:b<a):a≠b:=Nat.ne_of_gt h
theorem neK {a b:Nat} (h:a<b):a≠b:=Nat.ne_of_lt h
theorem ylb {a x B:Nat} {R:Prop} (_:x<B∧R) (k:a<B):a<B:=k
theorem yl0 {a B:Nat} {R:Prop} (h:a<B∧R):a<B:=h.1
theorem yl1 {a B x0:Nat} {R:Prop} (h:x0<B∧a<B∧R):a<B:=h.2.1
theorem yl2 {a B x0 x1:Nat} {R:Prop} (h:x0<B∧x1<B∧a<B∧R):a<B:=h.2.2.1
theorem yl3 {a B x0 x1 x2:Nat} {R:Prop} (h:x0<B∧x1<B∧x2<B∧a<B∧R):a<B:=h.2.2.2.1
theorem yl4 {a B x0 x1 x2 x3:Nat} {R:Prop} (h:x0<B∧x1<B∧x2<B∧x3<B∧a<B∧R):a<B:=h.2.2.2.2.1
theorem yl5 {a B x0 x1 x2 x3 x4:Nat} {R:Prop} (h:x0<B∧x1<B∧x2<B∧x3<B∧x4<B∧a<B∧R):a<B:=h.2.2.2.2.2.1
theorem yl6 {a B x0 x1 x2 x3 x4 x5:Nat} {R:Prop} (h:x0<B∧x1<B∧x2<B∧x3<B∧x4<B∧x5<B∧a<B∧R):a<B:=h.2.2.2.2.2.2.1
theorem yl7 {a B x0 x1 x2 x3 x4 x5 x6:Nat} {R:Prop} (h:x0<B∧x1<B∧x2<B∧x3<B∧x4<B∧x5<B∧x6<B∧a<B∧R):a<B:=h.2.2.2.2.2.2.2.1
theorem yl8 {a B x0 x1 x2 x3 x4 x5 x6 x7:Nat} {R:Prop} (h:x0<B∧x1<B∧x2<B∧x3<B∧x4<B∧x5<B∧x6<B∧x7<B∧a<B∧R):a<B:=h.2.2.2.2.2.2.2.2.1
theorem yl9 {a B x0 x1 x2 x3 x4 x5 x6 x7 x8:Nat} {R:Prop} (h:x0<B∧x1<B∧x2<B∧x3<B∧x4<B∧x5<B∧x6<B∧x7<B∧x8<B∧a<B∧R):a<B:=h.2.2.2.2.2.2.2.2.2.1
theorem yl10 {a B x0 x1 x2 x3 x4 x5 x6 x7 x8 x9:Nat} {R:Prop} (h:x0<B∧x1<B∧x2<B∧x3<B∧x4<B∧x5<B∧x6<B∧x7<B∧x8<B∧x9<B∧a<B∧R):a<B:=h.2.2.2.2.2.2.2.2.2.2.1
theorem yl11 {a B x0 x1 x2 x3 x4 x5 x6 x7 x8 x9 x10:Nat} {R:Prop} (h:x0<B∧x1<B∧x2<B∧x3<B∧x4<B∧x5<B∧x6<B∧x7<B∧x8<B∧x9<B∧x10<B∧a<B∧R):a<B:=h.2.2.2.2.2.2.2.2.2.2.2.1
theorem yl12 {a B x0 x1 x2 x3 x4 x5 x6 x7 x8 x9 x10 x11:Nat} {R:Prop} (h:x0<B∧x1<B∧x2<B∧x3<B∧x4<B∧x5<B∧x6<B∧x7<B∧x8<B∧x9<B∧x10<B∧x11<B∧a<B∧R):a<B:=h.2.2.2.2.2.2.2.2.2.2.2.2.1
theorem yl13 {a B x0 x1 x2 x3 x4 x5 x6 x7 x8 x9 x10 x11 x12:Nat} {R:Prop} (h:x0<B∧x1<B∧x2<B∧x3<B∧x4<B∧x5<B∧x6<B∧x7<B∧x8<B∧x9<B∧x10<B∧x11<B∧x12<B∧a<B∧R):a<B:=h.2.2.2.2.2.2.2.2.2.2.2.2.2.1
theorem an0 {X P:Prop} (h:X∧P):X:=h.1
theorem an1 {X P Q:Prop} (h:P∧X∧Q):X:=h.2.1
theorem an2 {X P Q R:Prop} (h:P∧Q∧X∧R):X:=h.2.2.1
theorem an3 {X P Q R S:Prop} (h:P∧Q∧R∧X∧S):X:=h.2.2.2.1
theorem an4 {X P Q R S T:Prop} (h:P∧Q∧R∧S∧X∧T):X:=h.2.2.2.2.1
theorem an5 {X P Q R S T U:Prop} (h:P∧Q∧R∧S∧T∧X∧U):X:=h.2.2.2.2.2.1
theorem an6 {X P Q R S T U V:Prop} (h:P∧Q∧R∧S∧T∧U∧X∧V):X:=h.2.2.2.2.2.2.1
theorem an7 {X P Q R S T U V W:Prop} (h:P∧Q∧R∧S∧T∧U∧V∧X∧W):X:=h.2.2.2.2.2.2.2.1
theorem ae1 {X P:Prop} (h:P∧X):X:=h.2
theorem ae2 {X P Q:Prop} (h:P∧Q∧X):X:=h.2.2
theorem ae3 {X P Q R:Prop} (h:P∧Q∧R∧X):X:=h.2.2.2
theorem ae4 {X P Q R S:Prop} (h:P∧Q∧R∧S∧X):X:=h.2.2.2.2
theorem ae6 {X P Q R S T U:Prop} (h:P∧Q∧R∧S∧T∧U∧X):X:=h.2.2.2.2.2.2
theorem ae7 {X P Q R S T U V:Prop} (h:P∧Q∧R∧S∧T∧U∧V∧X):X:=h.2.2.2.2.2.2.2
theorem an10 {X P0 P1 P2 P3 P4 P5 P6 P7 P8 P9 Z:Prop} (h:P0∧P1∧P2∧P3∧P4∧P5∧P6∧P7∧P8∧P9∧X∧Z):X:=h.2.2.2.2.2.2.2.2.2.2.1
theorem an11 {X P0 P1 P2 P3 P4 P5 P6 P7 P8 P9 P10 Z:Prop} (h:P0∧P1∧P2∧P3∧P4∧P5∧P6∧P7∧P8∧P9∧P10∧X∧Z):X:=h.2.2.2.2.2.2.2.2.2.2.2.1
theorem an12 {X P0 P1 P2 P3 P4 P5 P6 P7 P8 P9 P10 P11 Z:Prop} (h:P0∧P1∧P2∧P3∧P4∧P5∧P6∧P7∧P8∧P9∧P10∧P11∧X∧Z):X:=h.2.2.2.2.2.2.2.2.2.2.2.2.1
theorem an13 {X P0 P1 P2 P3 P4 P5 P6 P7 P8 P9 P10 P11 P12 Z:Prop} (h:P0∧P1∧P2∧P3∧P4∧P5∧P6∧P7∧P8∧P9∧P10∧P11∧P12∧X∧Z):X:=h.2.2.2.2.2.2.2.2.2.2.2.2.2.1
theorem absG {G:Prop} (h:∀ Q:Prop,(G→Q)→Q):G:=h G id
theorem sufRefl {l:List (Addr×Obj)}:∀ p∈l,p∈l:=fun _ h=>h
theorem sufCons {Z l:List (Addr×Obj)} {x:Addr×Obj} (h:∀ p∈Z,p∈l):∀ p∈Z,p∈x::l:=fun p hp=>.tail _ (h p hp)
theorem ltTail {Z l:List (Addr×Obj)} {a:Addr} (h:∀ p∈l,p.1<a) (s:∀ p∈Z,p∈l):∀ p∈Z,p.1≠a:=fun p hp=>Nat.ne_of_lt (h p (s p hp))
theorem szq:(Str.ofString "").length≤sizeLine:=by rw [PySem.ofString_length,PySem.sizeLine_eq];decide
abbrev PG:=Mine.H.PG
theorem exc {M:Model} {A:Around} {env:Env} {E:Value→Shared→Prop} {s:Shared} {st:Stmt} {rest:List Stmt} {Q:Flow→Shared→Prop}
  (h:let qk:Flow→Shared→Prop:=fun f s'=>match f with | .next=>wpAny M A (execs rest env) Q E s' | f=>Q f s';let ek:=E;wpAny M A (exec st env) qk ek s):wpAny M A (execs (st::rest) env) Q E s:=wpAny_execs_cons h
def Stop (p:Prop):Prop:=p
theorem stop_ {p:Prop} (h:Stop p):p:=h
def Ext (h h':Heap):Prop:=∀ b o,h.get? b=some o→h'.get? b=some o
def Keep (ks:List Addr) (h h':Heap):Prop:=∀ b o,b ∉ ks→h.get? b=some o→h'.get? b=some o
theorem Ext.keep {h h':Heap} (x:Ext h h') (ks):Keep ks h h':=fun b o _ e=>x b o e
theorem Keep.ext {h h':Heap} (x:Keep [] h h'):Ext h h':=fun b o e=>x b o (by simp) e
theorem Ext.trans {a b c:Heap} (x:Ext a b) (y:Ext b c):Ext a c:=fun d o e=>y d o (x d o e)
theorem Ext.refl (a:Heap):Ext a a:=fun _ _ e=>e
theorem Keep.mono {ks ks':List Addr} {a b:Heap} (x:Keep ks a b) (h:∀ k∈ks,k∈ks'):Keep ks' a b:=fun d o n e=>x d o (fun q=>n (h _ q)) e
structure Cx (w:World) (lse:List Str) (mg mb:Str→Option Value) (hB h:Heap):Prop where
  kin:(Mine.H.K w.params).In hB
  top:TopRead Mine.H.q1 lse mg mb hB
  ext:Ext hB h
theorem Cx.step {w lse mg mb hB h h'} (c:Cx w lse mg mb hB h) (e:Ext h h'):Cx w lse mg mb hB h':=⟨c.kin,c.top,c.ext.trans e⟩
theorem Cx.kin' {w lse mg mb hB h} (c:Cx w lse mg mb hB h):(Mine.H.K w.params).In h:=c.kin.keeps c.ext
theorem Cx.top' {w lse mg mb hB h} (c:Cx w lse mg mb hB h):TopRead Mine.H.q1 lse mg mb h:=c.top.keeps c.ext
theorem Cx.but {w lse mg mb hB h h'} {ks:List Addr} (c:Cx w lse mg mb hB h) (e:Keep ks h h') (hn:∀ k∈ks,hB.get? k=none):Cx w lse mg mb hB h' :=
  ⟨c.kin,c.top,fun b o q=>e b o (fun m=>by rw [hn b m] at q;cases q) (c.ext b o q)⟩
def Own (hB h:Heap) (a:Addr) (o:Obj):Prop:=h.get? a=some o∧hB.get? a=none
def FootOk (hB h:Heap):List (Addr×Obj)→Prop
  | []=>True
  | p::r=>Own hB h p.1 p.2∧FootOk hB h r
theorem footOk {hB h:Heap} {l:List (Addr×Obj)} (x:FootOk hB h l):∀ p∈l,h.get? p.1=some p.2∧hB.get? p.1=none:=zp (by simp(disch:=k_dflt(
  induction l with
  | nil=>intro p hp;cases hp
  | cons q r ih =>
    have x1:Own hB h q.1 q.2:=And.left x
    have x2:FootOk hB h r:=And.right x
    intro p hp
    rcases List.mem_cons.mp hp with e | hp
    · rw [e];exact x1
    · exact ih x2 p hp))only[↓zq])
noncomputable abbrev Ar (dp un:Nat) (fr:Option (List Env)) (gd:Option (List Code)):Around:={ handled:=none,depth:=dp,frames:=fr,guards:=gd,units:=un }
def Raised (w:World) (A:Around) (env:Env) (R:Result→Shared→Prop) (e:Value) (s':Shared):Prop :=
  wpAny (model Mine.H.PG w) A (leaving env e) (fun _ s''=>R (.error e) s'') (fun e' s''=>R (.error e') s'') s'
theorem enter {w:World} {lse:List Str} {mg mb:Str→Option Value} {hB:Heap} {dp un:Nat} {fr:Option (List Env)} {gd:Option (List Code)} {R:Result→Shared→Prop} {s:Shared} (foot:List (Addr×Obj)) (binds:List (Str×Value))
    {name qual:Str} {params:Arguments} {body B:List Stmt} {scope Sc:Scope} {dV kV doc pm cdv ct oc:Value} {an od:Option Addr} {osl:Array (Option Value)} {f:Addr} {args:Args}
    (c:Cx w lse mg mb hB s.heap) (hfo:FootOk hB s.heap foot)
    (ho:(Mine.H.K w.params).lookup f=some ⟨oc,od,.func (fnOf name qual params B Sc dV kV doc pm an cdv ct),osl⟩) (hcd:codeIn (Mine.H.K w.params) cdv qual=true)
    (hbody:B=body) (hscope:Sc=scope)
    (hroom:dp<recursionLimit) (hbind:BindsTo s (fnOf name qual params body scope dV kV doc pm an cdv ct) args binds)
    (hloc:(binds.all fun x=>decide (scope.names.lookup x.1=some .local))=true) (hcell:(scope.names.all fun x=>decide (x.2≠.cell))=true)
    (hco:scope.isCoroutine=false) (hgen:scope.isGenerator=false) (hk:scope.kind=.function)
    (h:∀ g L' h₁ tk,let fr':=fr.map (envOf qual scope L' f cdv::·);let A:=Ar (dp+1) (un+3) fr' gd;let ev:=envOf qual scope L' f cdv;FootOk hB s.heap foot→Cx w lse mg mb hB g→Keep (foot.map (·.1)) s.heap g→Ext g s.heap→s.heap.get? L'=none →
      Fr g L' h₁ (fun y=>binds.reverse.lookup y)→News g L' h₁ foot→(Mine.H.K w.params).In g→TopRead Mine.H.q1 lse mg mb g →
      wpAny (model Mine.H.PG w) A (execs body ev)
        (fun fl s'=>R (.ok (.ret (match fl with | .ret v=>v | _=>.none))) s')
        (Raised w A ev R)
        { s with heap:=h₁,toks:=tk }) :
    codeAny (model Mine.H.PG w) (Ar dp un fr gd) (.call (.ref f) args) R s:=zp (by simp(disch:=k_dflt(
  have X:=c.kin'
  subst hbody hscope
  have hfoot:=footOk hfo
  refine codeAny_call_def (fd:=fnOf name qual params B Sc dV kV doc pm an cdv ct) (body:=B) (binds:=binds) hroom (X _ _ ho) rfl (c.top'.nolimit) (codeRec_of X hcd) rfl hbind
    (fun x hx=>of_decide_eq_true (List.all_eq_true.mp hcell x hx)) (locs hloc) (fun h₁ hns hk₁=>?_) hco hgen hk
  have kp:Keep (foot.map (·.1)) s.heap (hideAll s.heap (foot.map (·.1))):=fun b o n e=>hideAll_get _ e n
  have nB:∀ k∈foot.map (·.1),hB.get? k=none:=fun k hk=>by
    obtain ⟨p,hp,rfl⟩:=List.mem_map.mp hk
    exact (hfoot p hp).2
  have c':=c.but kp nB
  exact h _ s.heap.objs.size h₁ _ hfo c' kp (fun b o e=>of_hideAll _ e) (by
      cases q:s.heap.get? s.heap.objs.size with
      | none=>rfl
      | some o=>exact absurd (Heap.lt_size q) (Nat.lt_irrefl _))
    ⟨hns,fun b o e=>hk₁ b o (of_hideAll _ e),Nat.le_of_eq (hideAll_size _ _)⟩
    (fun p hp=>⟨hk₁ _ _ (hfoot p hp).1,Nat.ne_of_lt (Heap.lt_size (hfoot p hp).1),hideAll_none _ (List.mem_map_of_mem hp)⟩) c'.kin' c'.top'))only[↓zq])
theorem Yd {w:World} {lse:List Str} {mg mb:Str→Option Value} {hB:Heap} {dp un:Nat} {fr:Option (List Env)} {gd:Option (List Code)} {R:Result→Shared→Prop} {s:Shared} (foot:List (Addr×Obj)) (binds:List (Str×Value))
    {name qual:Str} {params:Arguments} {body B:List Stmt} {scope Sc:Scope} {dV kV doc pm cdv ct oc:Value} {an od:Option Addr} {osl:Array (Option Value)} {f:Addr} {args:Args}
    (c:Cx w lse mg mb hB s.heap) (hfo:FootOk hB s.heap foot)
    (ho:(Mine.H.K w.params).lookup f=some ⟨oc,od,.func (fnOf name qual params B Sc dV kV doc pm an cdv ct),osl⟩) (hcd:codeIn (Mine.H.K w.params) cdv qual=true)
    (hbody:B=body) (hscope:Sc=scope)
    (hroom:dp<recursionLimit) (hbind:BindsTo s (fnOf name qual params body scope dV kV doc pm an cdv ct) args binds)
    (hloc:(binds.all fun x=>decide (scope.names.lookup x.1=some .local))=true) (hcell:(scope.names.all fun x=>decide (x.2≠.cell))=true)
    (hco:scope.isCoroutine=false) (hgen:scope.isGenerator=false) (hk:scope.kind=.function)
    (h:∀ g L' h₁ tk fr',let A:=Ar (dp+1) (un+3) fr' gd;let ev:=envOf qual scope L' f cdv;FootOk hB s.heap foot→Cx w lse mg mb hB g→Keep (foot.map (·.1)) s.heap g→Ext g s.heap→s.heap.get? L'=none →
      Fr g L' h₁ (fun y=>binds.reverse.lookup y)→News g L' h₁ foot→(Mine.H.K w.params).In g→TopRead Mine.H.q1 lse mg mb g →
      wpAny (model Mine.H.PG w) A (execs body ev)
        (fun fl s'=>R (.ok (.ret (match fl with | .ret v=>v | _=>.none))) s') (fun _ _=>False) { s with heap:=h₁,toks:=tk }) :
    codeAny (model Mine.H.PG w) (Ar dp un fr gd) (.call (.ref f) args) R s :=
  enter foot binds c hfo ho hcd hbody hscope hroom hbind hloc hcell hco hgen hk fun g L' h₁ tk a0 a1 a2 a3 a4 a5 a6 a7 a8=>wpAny_mono (h g L' h₁ tk _ a0 a1 a2 a3 a4 a5 a6 a7 a8) (fun _ _ x=>x) fun _ _ x=>x.elim
theorem keep_of {ks:List Addr} {foot foot':List (Addr×Obj)} {h g h':Heap} {L':Addr} {m':Str→Option Value} (kp:Keep (foot.map (·.1)) h g) (F':Fr g L' h' m') (N':News g L' h' foot')
    (hfoot:∀ p∈foot,h.get? p.1=some p.2) (hs:∀ p∈foot,p.1∈ks∨p∈foot'):Keep ks h h':=fun b o n e=>by
  by_cases q:b∈foot.map (·.1)
  · obtain ⟨p,hp,rfl⟩:=List.mem_map.mp q
    rcases hs p hp with q | q
    · exact absurd q n
    · have:=hfoot p hp
      rw [e] at this
      cases this
      exact (N' p q).1
  · exact F'.keep b o (kp b o q e)
theorem Yg {h g h':Heap} {L':Addr} {m':Str→Option Value} {foot:List (Addr×Obj)} (kp:Keep ((foot).map (·.1)) h g) (F':Fr g L' h' m') (e:foot=[]):Ext h h':=fun b o q=>F'.keep b o (kp b o (by subst e;simp) q)
theorem Yh {ks:List Addr} {h g:Heap} {x:Addr} (kp:Keep ks h g) (hx:g.get? x=none) (hn:x ∉ ks):h.get? x=none:=by
  cases q:h.get? x with
  | none=>rfl
  | some o=>have:=kp x o hn q;rw [hx] at this;cases this
theorem Ye {h₀ h h':Heap} {L:Addr} {m:Str→Option Value} (F:Fr h₀ L h m) (e:Ext h h'):Fr h₀ L h' m:=⟨F.ns.keeps e,fun b o q=>e b o (F.keep b o q),F.above⟩
theorem Ya {h₀ h h':Heap} {L:Addr} {news:List (Addr×Obj)} (N:News h₀ L h news) (e:Ext h h'):News h₀ L h' news:=fun p hp=>⟨e _ _ (N p hp).1,(N p hp).2⟩
theorem Yb {h₀ h h':Heap} {L x:Addr} {o:Obj} {m:Str→Option Value} {news:List (Addr×Obj)} (F:Fr h₀ L h m) (N:News h₀ L h' news) (hn:h.get? x=none) (hx:h'.get? x=some o):News h₀ L h' ((x,o)::news):=fun p hp=>by
  rcases List.mem_cons.mp hp with rfl | hp
  · refine ⟨hx,fun q=>?_,?_⟩
    · obtain ⟨oL,_,_,hL,_⟩:=F.ns
      have q':x=L:=q
      rw [q',hL] at hn;cases hn
    · cases q:h₀.get? x with
      | none=>rfl
      | some o'=>rw [F.keep _ _ q] at hn;cases hn
  · exact N p hp
theorem frBut {h₀ h h':Heap} {L:Addr} {m:Str→Option Value} {ks:List Addr} (F:Fr h₀ L h m) (e:Keep ks h h') (hL:∀ k∈ks,k≠L∧h₀.get? k=none):Fr h₀ L h' m:=by
  obtain ⟨oL,a,b,hl,r⟩:=F.ns
  exact ⟨⟨oL,a,b,e _ _ (fun q=>(hL _ q).1 rfl) hl,r⟩,fun b o q=>e b o (fun m=>by rw [(hL _ m).2] at q;cases q) (F.keep b o q),F.above⟩
theorem newsBut {h₀ h h':Heap} {L:Addr} {news news':List (Addr×Obj)} {ks:List Addr} (N:News h₀ L h news) (e:Keep ks h h') (hs:∀ p∈news',p∈news∧p.1 ∉ ks):News h₀ L h' news':=fun p hp =>
  ⟨e _ _ (hs p hp).2 (N p (hs p hp).1).1,(N p (hs p hp).1).2⟩
theorem Yl {h₀ h':Heap} {L x:Addr} {o:Obj} {news:List (Addr×Obj)} (N:News h₀ L h' news) (hx:h'.get? x=some o) (hL:x≠L∧h₀.get? x=none):News h₀ L h' ((x,o)::news):=fun p hp=>by
  rcases List.mem_cons.mp hp with rfl | hp
  · exact ⟨hx,hL⟩
  · exact N p hp
noncomputable abbrev en (w:World) (n:String) (t:Tok) (v:Value):DictEntry:=⟨PyData.keyHash w.params (Str.ofString n),.str (Str.ofString n) t,v⟩
noncomputable abbrev lst (vs:List Value) (n:Nat):Obj:={ cls:=.type "list",data:=.seq vs.toArray n }
noncomputable abbrev tupO (vs:List Value):Obj:={ cls:=.type "tuple",data:=.seq vs.toArray }
theorem inst_base {h₀ h:Heap} {L x C dx:Addr} {m:Str→Option Value} {od:Obj} (F:Fr h₀ L h m) (h1:h₀.get? x=some (instObj C dx)) (h2:h₀.get? dx=some od):PySem.W.InstAt h x (instObj C dx) C (some od) :=
  ⟨F.keep _ _ h1,rfl,rfl,F.keep _ _ h2⟩
abbrev Back (Q:Value→Shared→Prop) (E:Value→Shared→Prop):Result→Shared→Prop:=fun r s'=>match r with
  | .ok (.ret v)=>Q v s'
  | .ok _=>False
  | .error e=>E e s'
theorem make {w:World} {lse:List Str} {mg mb:Str→Option Value} {hB:Heap} {dp un:Nat} {fr:Option (List Env)} {gd:Option (List Code)} {R:Result→Shared→Prop} {s:Shared} {C fI:Addr} {pos:List Value}
    (c:Cx w lse mg mb hB s.heap) (hm:makesIn (Mine.H.K w.params) C=true) (hi:findIn (Mine.H.K w.params) (.ref C) "__init__" = some (some (.ref fI))) (hf:isFn (Mine.H.K w.params) (.ref fI)=true)
    (h:∀ x dx h₁,Ext s.heap h₁→s.heap.get? x=none→s.heap.get? dx=none→Own hB h₁ x (instObj C dx)→Own hB h₁ dx (dictOf [] 0)→dx≠x →
      codeAny (model Mine.H.PG w) (Ar (dp+1) (un+1) fr gd) (.call (.ref fI) ⟨.ref x::pos,[]⟩) (InitBack x R) { s with heap:=h₁ }) :
    codeAny (model Mine.H.PG w) (Ar dp un fr gd) (.call (.ref C) ⟨pos,[]⟩) R s:=zp (by simp(disch:=k_dflt(
  have X:=c.kin'
  have cx:=c
  obtain ⟨hp,g,d,tk,os⟩:=s
  refine PySem.W.make_core (makes_of X hm) (looks_findIn X hi) (fun self=>bind_fn X self (beq_iff_eq.mp hf)) (.inl (by simp)) ?_
  have n1:hp.get? hp.objs.size=none:=by
    cases q:hp.get? hp.objs.size with
    | none=>rfl
    | some o=>exact absurd (Heap.lt_size q) (Nat.lt_irrefl _)
  have n2:hp.get? (hp.objs.size+1)=none:=by
    cases q:hp.get? (hp.objs.size+1) with
    | none=>rfl
    | some o=>exact absurd (Heap.lt_size q) (Nat.not_lt.mpr (Nat.le_succ _))
  have e1:Ext hp ((hp.push emptyDict).push (instObj C hp.objs.size)):=fun b o e=>Heap.get?_push_of_some _ (Heap.get?_push_of_some _ e)
  have nB:∀ a,hp.get? a=none→hB.get? a=none:=fun a e=>by
    cases q:hB.get? a with
    | none=>rfl
    | some o=>rw [c.ext a o q] at e;cases e
  refine h (hp.objs.size+1) hp.objs.size _ e1 n2 n1 ⟨?_,nB _ n2⟩ ⟨?_,nB _ n1⟩ (Nat.ne_of_lt (Nat.lt_succ_self _))
  · have:=Heap.get?_push_size (hp.push emptyDict) (o:=instObj C hp.objs.size) rfl
    rw [Heap.size_push] at this
    exact this
  · exact Heap.get?_push_of_some _ (Heap.get?_push_size hp (o:=emptyDict) rfl)))only[↓zq])
def Kept (ks:List Addr) (foot':List (Addr×Obj)):List (Addr×Obj)→Prop
  | []=>True
  | p::r=>(p.1∈ks∨p∈foot')∧Kept ks foot' r
theorem keptOk {ks:List Addr} {foot' l:List (Addr×Obj)} (x:Kept ks foot' l):∀ p∈l,p.1∈ks∨p∈foot':=zp (by simp(disch:=k_dflt(
  induction l with
  | nil=>intro p hp;cases hp
  | cons q r ih =>
    have x1:q.1∈ks∨q∈foot':=And.left x
    have x2:Kept ks foot' r:=And.right x
    intro p hp
    rcases List.mem_cons.mp hp with e | hp
    · rw [e];exact x1
    · exact ih x2 p hp))only[↓zq])
theorem keptS {ks:List Addr} {foot':List (Addr×Obj)}:∀ {foot:List (Addr×Obj)},(∀ p∈foot,p∈foot')→Kept ks foot' foot
  | [],_=>trivial
  | p::_,h=>⟨.inr (h p (.head _)),keptS fun q hq=>h q (.tail _ hq)⟩
theorem keptN {ks:List Addr} {foot' r:List (Addr×Obj)} {p:Addr×Obj} (h:p∈foot') (t:Kept ks foot' r):Kept ks foot' (p::r):=⟨.inr h,t⟩
theorem keptK {ks:List Addr} {foot' r:List (Addr×Obj)} {p:Addr×Obj} (h:p.1∈ks) (t:Kept ks foot' r):Kept ks foot' (p::r):=⟨.inl h,t⟩
def Rest (d:Nat) (news:List (Addr×Obj)):List (Addr×Obj)→Prop
  | []=>True
  | p::r=>(p∈news∧@Ne Nat p.1 d)∧Rest d news r
theorem restC {d:Nat} {news r:List (Addr×Obj)} {p:Addr×Obj} (h:p∈news) (n:@Ne Nat p.1 d) (t:Rest d news r):Rest d news (p::r):=⟨⟨h,n⟩,t⟩
theorem Yn {d:Nat} {news l:List (Addr×Obj)} (x:Rest d news l):∀ p∈l,p∈news∧p.1 ∉ [d]:=zp (by simp(disch:=k_dflt(
  induction l with
  | nil=>intro p hp;cases hp
  | cons q r ih =>
    have x1:q∈news∧@Ne Nat q.1 d:=And.left x
    have x2:Rest d news r:=And.right x
    intro p hp
    rcases List.mem_cons.mp hp with e | hp
    · rw [e];exact ⟨x1.1,fun q=>x1.2 (List.mem_singleton.mp q)⟩
    · exact ih x2 p hp))only[↓zq])
theorem Yv {w:World} {lse:List Str} {mg mb:Str→Option Value} {hB g h:Heap} {L x:Addr} {o:Obj} {news:List (Addr×Obj)} (c:Cx w lse mg mb hB g) (N:News g L h news) (hm:(x,o)∈news):Own hB h x o :=
  ⟨(N _ hm).1,by
    cases q:hB.get? x with
    | none=>rfl
    | some o'=>have:=c.ext x o' q;rw [(N _ hm).2.2] at this;cases this⟩
theorem ownNew {w:World} {lse:List Str} {mg mb:Str→Option Value} {hB h h':Heap} {x:Addr} {o:Obj} (c:Cx w lse mg mb hB h) (hn:h.get? x=none) (hx:h'.get? x=some o):Own hB h' x o :=
  ⟨hx,by
    cases q:hB.get? x with
    | none=>rfl
    | some o'=>have:=c.ext x o' q;rw [hn] at this;cases this⟩
theorem Own.ext {hB h h':Heap} {x:Addr} {o:Obj} (a:Own hB h x o) (e:Ext h h'):Own hB h' x o:=⟨e _ _ a.1,a.2⟩
theorem Own.but {hB h h':Heap} {x:Addr} {o:Obj} {ks:List Addr} (a:Own hB h x o) (e:Keep ks h h') (n:x ∉ ks):Own hB h' x o:=⟨e _ _ n a.1,a.2⟩
theorem Yp {g h h':Heap} {L d:Addr} {o:Obj} {m:Str→Option Value} {news:List (Addr×Obj)} (F:Fr g L h m) (N:News g L h news) (k:Keep [d] h h') (hm:(d,o)∈news):Fr g L h' m :=
  frBut F k fun x hx=>by rw [List.mem_singleton.mp hx];exact (N _ hm).2
theorem Yj {g h h':Heap} {L d:Addr} {o o':Obj} {news rest:List (Addr×Obj)} (N:News g L h news) (k:Keep [d] h h') (hm:(d,o)∈news) (hd:h'.get? d=some o') (hs:∀ p∈rest,p∈news∧p.1 ∉ [d]):News g L h' ((d,o')::rest) :=
  Yl (newsBut N k hs) hd (N _ hm).2
theorem extNew {h h₁ h':Heap} {ks:List Addr} (e1:Ext h h₁) (kq:Keep ks h₁ h') (n:∀ d∈ks,h.get? d=none):Ext h h':=fun b o q=>kq b o (fun m=>by rw [n b m] at q;cases q) (e1 b o q)
theorem Yw {h h₁ h':Heap} {d:Addr} (e1:Ext h h₁) (kq:Keep [d] h₁ h') (n:h.get? d=none):Ext h h':=extNew e1 kq fun x hx=>by rw [List.mem_singleton.mp hx];exact n
theorem Yf {h h':Heap} {a:Addr} (e:∀ b o,h.get? b=some o→h'.get? b=some o) (n:h'.get? a=none):h.get? a=none:=by
  cases q:h.get? a with
  | none=>rfl
  | some o=>rw [e a o q] at n;cases n
theorem nc1 {C d:Addr} {v:List Value} {n:Nat}:(instObj C d).cls≠(lst v n).cls:=nofun
theorem nc2 {es:List DictEntry} {m:Nat} {v:List Value} {n:Nat}:(dictOf es m).cls≠(lst v n).cls:=by simp
theorem nc3 {C d:Addr} {v:List Value} {n:Nat}:(lst v n).cls≠(instObj C d).cls:=nofun
theorem nc4 {es:List DictEntry} {m:Nat} {v:List Value} {n:Nat}:(lst v n).cls≠(dictOf es m).cls:=by simp
theorem nc5 {C d:Addr} {es:List DictEntry} {m:Nat}:(instObj C d).cls≠(dictOf es m).cls:=nofun
theorem nc6 {C d:Addr} {es:List DictEntry} {m:Nat}:(dictOf es m).cls≠(instObj C d).cls:=nofun
theorem mm2 {α:Type} {a x y:α} {l:List α}:a∈x::y::a::l:=.tail _ (.tail _ (.head _))
theorem mm3 {α:Type} {a x y z:α} {l:List α}:a∈x::y::z::a::l:=.tail _ (.tail _ (.tail _ (.head _)))
theorem mt4 {α:Type} {a x y z u:α} {l:List α} (h:a∈l):a∈x::y::z::u::l:=.tail _ (.tail _ (.tail _ (.tail _ h)))
theorem fac {α:Type} {P:α→Prop} {a:α} {l:List α} (h:P a) (t:∀ q∈l,P q):∀ q∈a::l,P q:=List.forall_mem_cons.mpr ⟨h,t⟩
theorem faa {α:Type} {P:α→Prop} {k l:List α} (h:∀ q∈k,P q) (t:∀ q∈l,P q):∀ q∈k++l,P q:=List.forall_mem_append.mpr ⟨h,t⟩
theorem fan {α:Type} {P:α→Prop}:∀ q∈([]:List α),P q:=List.forall_mem_nil _
theorem keepNL {hB h h':Heap} {x:Addr} {o:Obj} {ks:List Addr} (a:Own hB h x o) (e:Keep ks h h') (hn:∀ k∈ks,h.get? k=none∨∃ o,h.get? k=some o∧o.cls=.type "list") (hc:o.cls≠.type "list"):Own hB h' x o:=a.but e fun m=>by
  rcases hn _ m with q | ⟨o',q,r⟩
  · rw [a.1] at q;cases q
  · rw [a.1] at q;cases q;exact hc r
theorem inst_nl {C dx:Addr}:(instObj C dx).cls≠.type "list" := nofun
theorem Za {es:List DictEntry} {n:Nat}:(dictOf es n).cls≠.type "list" := by simp
theorem foot1 {h0 h:Heap} {foot:List (Addr×Obj)} (hfo:FootOk h0 h foot):∀ p∈foot,h.get? p.1=some p.2:=fun p hp=>(footOk hfo p hp).1
theorem kqo {ks:List Addr} {foot foot':List (Addr×Obj)} {h0 h g h':Heap} {L':Addr} {m':Str→Option Value} (kp:Keep (foot.map (·.1)) h g) (F':Fr g L' h' m') (N':News g L' h' foot') (hfo:FootOk h0 h foot) (hk:Kept ks foot' foot):Keep ks h h':=keep_of kp F' N' (foot1 hfo) (keptOk hk)
theorem footC {hB h:Heap} {p:Addr×Obj} {r:List (Addr×Obj)} (x:Own hB h p.1 p.2) (t:FootOk hB h r):FootOk hB h (p::r):=⟨x,t⟩
noncomputable def h0:Heap:={}
theorem h0_none (a:Addr):h0.get? a=none:=rfl
theorem h0_ext {h:Heap}:Ext h0 h:=fun b o e=>by rw [h0_none] at e;cases e
theorem ite_b {α:Type} {c r:Bool} {P:α→Prop} {b o:α} (hr:c=r) (h:P (cond r b o)):if c=true then P b else P o:=by subst hr;cases c <;> exact h
inductive SimE (m:Str→Option Value) (env:Env):PySem.Expr→Tok→Value→Tok→Prop
  | name {x:Str} {p:Pos} {t:Tok} {v:Value} (hx:env.kindOf x=some .local) (hd:(x == ("__debug__" : Str))=false) (hv:m x=some v):SimE m env (.Name x p) t v t
  | int {i:Int} {k:Nat} {p:Pos} {t:Tok}:SimE m env (.Constant (.int i) k p) t (.int i t) (t+1)
  | str {x:Str} {k:Nat} {p:Pos} {t:Tok}:SimE m env (.Constant (.str x) k p) t (.str x t) (t+1)
  | none {k:Nat} {p:Pos} {t:Tok}:SimE m env (.Constant .none k p) t .none t
  | bool {b:Bool} {k:Nat} {p:Pos} {t:Tok}:SimE m env (.Constant (.bool b) k p) t (.bool b) t
inductive SimA (m:Str→Option Value) (env:Env):List PySem.Expr→Tok→List Value→Tok→Prop
  | nil {t:Tok}:SimA m env [] t [] t
  | cons {ea9:PySem.Expr} {eb9:List PySem.Expr} {ta9 tb9 tc9:Tok} {va9:Value} {vb9:List Value} (ha9:SimE m env ea9 ta9 va9 tb9) (hb9:SimA m env eb9 tb9 vb9 tc9):SimA m env (ea9::eb9) ta9 (va9::vb9) tc9
theorem SimE.star {m:Str→Option Value} {env:Env} {e:PySem.Expr} {t t':Tok} {v:Value} (h:SimE m env e t v t') (r:List PySem.Expr):starEach (e::r) env=(false,eval e env)::starEach r env:=by cases h <;> rfl
theorem SimA.any {m:Str→Option Value} {env:Env} {P:Pos} {es:List PySem.Expr} {t t':Tok} {vs:List Value} (h:SimA m env es t vs t'):(backTo P (starEach es env)).any (·.1)=false:=by
  induction h with
  | nil=>rfl
  | cons h _ ih=>rw [h.star];exact ih
theorem SimA.tail {m:Str→Option Value} {env:Env} {P:Pos} {e:PySem.Expr} {es:List PySem.Expr} {t t':Tok} {vs:List Value} (h:SimA m env (e::es) t vs t'):(backTo P (starEach es env)).any (·.1)=false:=by cases h with | cons _ r=>exact r.any
theorem SimA.star {m:Str→Option Value} {env:Env} {e:PySem.Expr} {es:List PySem.Expr} {t t':Tok} {vs:List Value} (h:SimA m env (e::es) t vs t'):starEach (e::es) env=(false,eval e env)::starEach es env:=by cases h with | cons h _=>exact h.star _
section
variable {M:Model} {A:Around} {E:Value→Shared→Prop} {h₀:Heap} {L a:Addr} {m:Str→Option Value} {cn:Str} {cs:Scope} {ccd:Value} {cl:List (Str×Addr)}
theorem simE_ok {e:PySem.Expr} {s:Shared} {t t':Tok} {v:Value} {Q:Value→Shared→Prop} (he:SimE m (envX cn cs L a ccd cl) e t v t') (F:Fr h₀ L s.heap m) (ht:t=s.toks) (hk:cs.kind=.function) (h:Q v { s with toks:=t' }):wpAny M A (eval e (envX cn cs L a ccd cl)) Q E s:=by
  cases he with
  | name hx hd hv=>subst ht;exact nameX_L F hv h hk hx hd
  | int=>subst ht;exact wpAny_Constant_int h
  | str=>subst ht;exact wpAny_Constant_str h
  | none=>subst ht;exact wpAny_Constant_none h
  | bool=>subst ht;exact wpAny_Constant_bool h
theorem args_ind {pos:Pos} {es:List PySem.Expr} {t t':Tok} {vs:List Value} (he:SimA m (envX cn cs L a ccd cl) es t vs t'):∀ {s:Shared} {Q:List Value→Shared→Prop},Fr h₀ L s.heap m→t=s.toks→cs.kind=.function→Q vs { s with toks:=t' } →
    wpAny M A (spliced (backTo pos (starEach es (envX cn cs L a ccd cl)))) Q E s:=by
  induction he with
  | nil=>intro s Q F ht hk h;subst ht;exact args_nil h
  | cons h r ih=>intro s Q F ht hk q;exact args_cons (simE_ok h F ht hk (ih (s:={ s with toks:=_ }) F rfl hk q)) (h.star _)
theorem args_sim {pos:Pos} {es:List PySem.Expr} {s:Shared} {t':Tok} {vs:List Value} {Q:List Value→Shared→Prop} (F:Fr h₀ L s.heap m) (he:SimA m (envX cn cs L a ccd cl) es s.toks vs t') (hk:cs.kind=.function) (h:Q vs { s with toks:=t' }) :
    wpAny M A (spliced (backTo pos (starEach es (envX cn cs L a ccd cl)))) Q E s:=args_ind he F rfl hk h
end
section
variable {w:World} {A:Around} {E:Value→Shared→Prop} {s:Shared} {h₀:Heap} {L a:Addr} {m:Str→Option Value} {cn:Str} {cs:Scope} {ccd:Value} {cl:List (Str×Addr)} {x W:Str} {xp cp ip tp p1 p2 p3:Pos} {tw:Tok} {Q:Flow→Shared→Prop} {news:List (Addr×Obj)} {body orelse:List Stmt} {s1 s2 s3:Str} {k k1 k2 k3:Nat} {i c:Int}
theorem if_eqS {r:Bool} (F:Fr h₀ L s.heap m) (hv:m x=some (.str W tw)) (hx:(envX cn cs L a ccd cl).kindOf x=some .local) (hk:cs.kind=.function) (hd:(x == ("__debug__" : Str))=false) (hr:(W == s1)=r) (h:wpAny (model PG w) A (execs (cond r body orelse) (envX cn cs L a ccd cl)) Q E { s with toks:=s.toks+1 }) :
    wpAny (model PG w) A (exec (.If (.Compare (.Name x xp) [.Eq] [.Constant (.str s1) k1 p1] cp) body orelse ip) (envX cn cs L a ccd cl)) Q E s :=
  wpAny_If (wpAny_isTrue_Compare1 (nameX_L F hv (Constant_str (PyProof.Rows.eq_str (wpAny_truthy_bool (ite_b (P:=fun l=>wpAny (model PG w) A (execs l (envX cn cs L a ccd cl)) Q E { s with toks:=s.toks+1 }) hr h)))) hk hx hd) rfl)
theorem if_eqI {r:Bool} (F:Fr h₀ L s.heap m) (hv:m x=some (.int i tw)) (hx:(envX cn cs L a ccd cl).kindOf x=some .local) (hk:cs.kind=.function) (hd:(x == ("__debug__" : Str))=false) (hr:(i == c)=r) (h:wpAny (model PG w) A (execs (cond r body orelse) (envX cn cs L a ccd cl)) Q E { s with toks:=s.toks+1 }) :
    wpAny (model PG w) A (exec (.If (.Compare (.Name x xp) [.Eq] [.Constant (.int c) k1 p1] cp) body orelse ip) (envX cn cs L a ccd cl)) Q E s :=
  wpAny_If (wpAny_isTrue_Compare1 (nameX_L F hv (wpAny_Constant_int (PyProof.Rows.eq_int (wpAny_truthy_bool (ite_b (P:=fun l=>wpAny (model PG w) A (execs l (envX cn cs L a ccd cl)) Q E { s with toks:=s.toks+1 }) hr h)))) hk hx hd) rfl)
theorem if_inS {r:Bool} {es:List PySem.Expr} {vs:List Value} {ss:List Str} {t':Tok} (F:Fr h₀ L s.heap m) (N:News h₀ L s.heap news) (hv:m x=some (.str W tw)) (hx:(envX cn cs L a ccd cl).kindOf x=some .local) (hk:cs.kind=.function) (hd:(x == ("__debug__" : Str))=false) (he:SimA m (envX cn cs L a ccd cl) es s.toks vs t') (hs:StrsAre vs ss) (hl:vs.length≤sizeLine) (hr:ss.any (· == W)=r)
    (h:∀ h' tk,Fr h₀ L h' m→News h₀ L h' news→wpAny (model PG w) A (execs (cond r body orelse) (envX cn cs L a ccd cl)) Q E { s with heap:=h',toks:=tk }) :
    wpAny (model PG w) A (exec (.If (.Compare (.Name x xp) [.In] [.Tuple es k tp] cp) body orelse ip) (envX cn cs L a ccd cl)) Q E s :=
  wpAny_If (wpAny_isTrue_Compare1 (nameX_L F hv (Tuple_ (args_sim F he hk (kup_newTuple (s:={ s with toks:=t' }) F N (fun D h' F' N' _=>in_tuple_strs (News.isTup N' (.head _)) hs (wpAny_truthy_bool (ite_b (P:=fun l=>wpAny (model PG w) A (execs l (envX cn cs L a ccd cl)) Q E { s with heap:=h',toks:=t' }) hr (h h' t' F' fun p hp=>N' p (.tail _ hp))))) hl))) hk hx hd) rfl)
theorem if_eqF (F:Fr h₀ L s.heap m) (hv:m x=some (.str W tw)) (hx:(envX cn cs L a ccd cl).kindOf x=some .local) (hk:cs.kind=.function) (hd:(x == ("__debug__" : Str))=false) (hr:(W == s1)=false) (h:wpAny (model PG w) A (execs orelse (envX cn cs L a ccd cl)) Q E { s with toks:=s.toks+1 }) :
    wpAny (model PG w) A (exec (.If (.Compare (.Name x xp) [.Eq] [.Constant (.str s1) k1 p1] cp) body orelse ip) (envX cn cs L a ccd cl)) Q E s:=if_eqS F hv hx hk hd hr h
theorem if_eqIF (F:Fr h₀ L s.heap m) (hv:m x=some (.int i tw)) (hx:(envX cn cs L a ccd cl).kindOf x=some .local) (hk:cs.kind=.function) (hd:(x == ("__debug__" : Str))=false) (hr:(i == c)=false) (h:wpAny (model PG w) A (execs orelse (envX cn cs L a ccd cl)) Q E { s with toks:=s.toks+1 }) :
    wpAny (model PG w) A (exec (.If (.Compare (.Name x xp) [.Eq] [.Constant (.int c) k1 p1] cp) body orelse ip) (envX cn cs L a ccd cl)) Q E s:=if_eqI F hv hx hk hd hr h
theorem if_in3F (F:Fr h₀ L s.heap m) (N:News h₀ L s.heap news) (hv:m x=some (.str W tw)) (hx:(envX cn cs L a ccd cl).kindOf x=some .local) (hk:cs.kind=.function) (hd:(x == ("__debug__" : Str))=false) (hr:[s1,s2,s3].any (· == W)=false) (h:∀ h' tk,Fr h₀ L h' m→News h₀ L h' news→wpAny (model PG w) A (execs orelse (envX cn cs L a ccd cl)) Q E { s with heap:=h',toks:=tk }) :
    wpAny (model PG w) A (exec (.If (.Compare (.Name x xp) [.In] [.Tuple [.Constant (.str s1) k1 p1,.Constant (.str s2) k2 p2,.Constant (.str s3) k3 p3] k tp] cp) body orelse ip) (envX cn cs L a ccd cl)) Q E s :=
  if_inS F N hv hx hk hd (.cons .str (.cons .str (.cons .str .nil))) (.cons _ _ (.cons _ _ (.cons _ _ .nil))) (Nat.le_of_ble_eq_true rfl) hr h
theorem if_in2F (F:Fr h₀ L s.heap m) (N:News h₀ L s.heap news) (hv:m x=some (.str W tw)) (hx:(envX cn cs L a ccd cl).kindOf x=some .local) (hk:cs.kind=.function) (hd:(x == ("__debug__" : Str))=false) (hr:[s1,s2].any (· == W)=false) (h:∀ h' tk,Fr h₀ L h' m→News h₀ L h' news→wpAny (model PG w) A (execs orelse (envX cn cs L a ccd cl)) Q E { s with heap:=h',toks:=tk }) :
    wpAny (model PG w) A (exec (.If (.Compare (.Name x xp) [.In] [.Tuple [.Constant (.str s1) k1 p1,.Constant (.str s2) k2 p2] k tp] cp) body orelse ip) (envX cn cs L a ccd cl)) Q E s :=
  if_inS F N hv hx hk hd (.cons .str (.cons .str .nil)) (.cons _ _ (.cons _ _ .nil)) (Nat.le_of_ble_eq_true rfl) hr h
theorem if_eqT (F:Fr h₀ L s.heap m) (hv:m x=some (.str W tw)) (hx:(envX cn cs L a ccd cl).kindOf x=some .local) (hk:cs.kind=.function) (hd:(x == ("__debug__" : Str))=false) (hr:(W == s1)=true) (h:wpAny (model PG w) A (execs body (envX cn cs L a ccd cl)) Q E { s with toks:=s.toks+1 }) :
    wpAny (model PG w) A (exec (.If (.Compare (.Name x xp) [.Eq] [.Constant (.str s1) k1 p1] cp) body orelse ip) (envX cn cs L a ccd cl)) Q E s:=if_eqS F hv hx hk hd hr h
theorem if_eqIT (F:Fr h₀ L s.heap m) (hv:m x=some (.int i tw)) (hx:(envX cn cs L a ccd cl).kindOf x=some .local) (hk:cs.kind=.function) (hd:(x == ("__debug__" : Str))=false) (hr:(i == c)=true) (h:wpAny (model PG w) A (execs body (envX cn cs L a ccd cl)) Q E { s with toks:=s.toks+1 }) :
    wpAny (model PG w) A (exec (.If (.Compare (.Name x xp) [.Eq] [.Constant (.int c) k1 p1] cp) body orelse ip) (envX cn cs L a ccd cl)) Q E s:=if_eqI F hv hx hk hd hr h
theorem if_in3T (F:Fr h₀ L s.heap m) (N:News h₀ L s.heap news) (hv:m x=some (.str W tw)) (hx:(envX cn cs L a ccd cl).kindOf x=some .local) (hk:cs.kind=.function) (hd:(x == ("__debug__" : Str))=false) (hr:[s1,s2,s3].any (· == W)=true) (h:∀ h' tk,Fr h₀ L h' m→News h₀ L h' news→wpAny (model PG w) A (execs body (envX cn cs L a ccd cl)) Q E { s with heap:=h',toks:=tk }) :
    wpAny (model PG w) A (exec (.If (.Compare (.Name x xp) [.In] [.Tuple [.Constant (.str s1) k1 p1,.Constant (.str s2) k2 p2,.Constant (.str s3) k3 p3] k tp] cp) body orelse ip) (envX cn cs L a ccd cl)) Q E s :=
  if_inS F N hv hx hk hd (.cons .str (.cons .str (.cons .str .nil))) (.cons _ _ (.cons _ _ (.cons _ _ .nil))) (Nat.le_of_ble_eq_true rfl) hr h
theorem if_in2T (F:Fr h₀ L s.heap m) (N:News h₀ L s.heap news) (hv:m x=some (.str W tw)) (hx:(envX cn cs L a ccd cl).kindOf x=some .local) (hk:cs.kind=.function) (hd:(x == ("__debug__" : Str))=false) (hr:[s1,s2].any (· == W)=true) (h:∀ h' tk,Fr h₀ L h' m→News h₀ L h' news→wpAny (model PG w) A (execs body (envX cn cs L a ccd cl)) Q E { s with heap:=h',toks:=tk }) :
    wpAny (model PG w) A (exec (.If (.Compare (.Name x xp) [.In] [.Tuple [.Constant (.str s1) k1 p1,.Constant (.str s2) k2 p2] k tp] cp) body orelse ip) (envX cn cs L a ccd cl)) Q E s :=
  if_inS F N hv hx hk hd (.cons .str (.cons .str .nil)) (.cons _ _ (.cons _ _ .nil)) (Nat.le_of_ble_eq_true rfl) hr h
end
section
variable {w:World} {A:Around} {E:Value→Shared→Prop} {s:Shared} {K:Frag} {h₀:Heap} {L a:Addr} {m mg mb:Str→Option Value} {cn:Str} {cs:Scope} {ccd:Value} {cl:List (Str×Addr)} {p:Program} {loose:List Str} {x name:Str} {xp ap pos:Pos} {y C:Addr} {ox:Obj} {es:List DictEntry} {n:Nat} {attr:Option Value} {v:Value} {vs:List Value} {t:Tok} {e:PySem.Expr} {r:List PySem.Expr} {Q:Value→Shared→Prop} {f:Addr}
theorem attrL (F:Fr h₀ L s.heap m) (hv:m x=some (.ref y)) (hx:(envX cn cs L a ccd cl).kindOf x=some .local) (hk:cs.kind=.function) (hd:(x == ("__debug__" : Str))=false) (X:K.In h₀) (I:InstAt s.heap y ox C (some (dictOf es n)))
    (hg:plainGet K C name=true) (hh:hasDictIn K C=true) (ha:findIn K (.ref C) name=some attr) (hn:noGet K attr=true) (hl:getL name es=some (some v)) (hi:handedIn v=true) (h:Q v { s with toks:=s.toks+1 }) :
    wpAny (model PG w) A (eval (.Attribute (.Name x xp) name pos) (envX cn cs L a ccd cl)) Q E s:=Attribute_Name_ (nameX_L F hv (get_own F X I hg hh ha hn hl hi h) hk hx hd)
theorem callK (F:Fr h₀ L s.heap m) (X:K.In h₀) (T:TopRead p loose mg mb h₀) (hx:(envX cn cs L a ccd cl).kindOf x=some .globalImplicit) (hk:cs.kind=.function) (hd:(x == ("__debug__" : Str))=false) (hf:nsIn K mainGlobals x=some (some v)) (hp:keepIn K v=true)
    (he:SimA m (envX cn cs L a ccd cl) (e::r) s.toks vs t) (h:wpAny (model PG w) A (call v vs) Q E { s with toks:=t }):wpAny (model PG w) A (eval (.Call (.Name x xp) (e::r) [] pos) (envX cn cs L a ccd cl)) Q E s :=
  Call_ (nameX_K F X T hf (callWith_K (first:=[]) X hp (args_sim F he hk ⟨X.keeps F.keep,h⟩) he.star he.tail) hk hx hd)
theorem methK {pl:Sem Bool} (F:Fr h₀ L s.heap m) (hv:m x=some (.ref y)) (hx:(envX cn cs L a ccd cl).kindOf x=some .local) (hk:cs.kind=.function) (hd:(x == ("__debug__" : Str))=false) (X:K.In h₀) (I:InstAt s.heap y ox C (some (dictOf es n))) (hg:plainGet K C name=true)
    (hf:findIn K (.ref C) name=some (some (.ref f))) (ht:isFn K (.ref f)=true) (hl:getL name es=some none) (hp:keepIn K (.ref f)=true) (he:SimA m (envX cn cs L a ccd cl) (e::r) s.toks vs t)
    (hc:eval (.Call (.Attribute (.Name x xp) name ap) (e::r) [] pos) (envX cn cs L a ccd cl)=(do
      let ov ← eval (.Name x xp) (envX cn cs L a ccd cl)
      standAt ap.atName
      let (f,first) ← holding [ov] (getMethod ov name pl)
      callWith pos f first (backTo pos (starEach (e::r) (envX cn cs L a ccd cl))) []))
    (h:wpAny (model PG w) A (call (.ref f) (.ref y::vs)) Q E { s with toks:=t }):wpAny (model PG w) A (eval (.Call (.Attribute (.Name x xp) name ap) (e::r) [] pos) (envX cn cs L a ccd cl)) Q E s :=
  MethodCall_ (pl:=pl) (nameX_L F hv (method_inst F X I hg hf ht hl (callWith_K X hp (args_sim F he hk ⟨X.keeps F.keep,h⟩) he.star he.tail)) hk hx hd) hc
theorem methK0 {pl:Sem Bool} (F:Fr h₀ L s.heap m) (hv:m x=some (.ref y)) (hx:(envX cn cs L a ccd cl).kindOf x=some .local) (hk:cs.kind=.function) (hd:(x == ("__debug__" : Str))=false) (X:K.In h₀) (I:InstAt s.heap y ox C (some (dictOf es n))) (hg:plainGet K C name=true)
    (hf:findIn K (.ref C) name=some (some (.ref f))) (ht:isFn K (.ref f)=true) (hl:getL name es=some none) (hp:keepIn K (.ref f)=true)
    (hc:eval (.Call (.Attribute (.Name x xp) name ap) [] [] pos) (envX cn cs L a ccd cl)=(do
      let ov ← eval (.Name x xp) (envX cn cs L a ccd cl)
      standAt ap.atName
      let (f,first) ← holding [ov] (getMethod ov name pl)
      callWith pos f first (backTo pos (starEach [] (envX cn cs L a ccd cl))) []))
    (h:wpAny (model PG w) A (call (.ref f) [.ref y]) Q E s):wpAny (model PG w) A (eval (.Call (.Attribute (.Name x xp) name ap) [] [] pos) (envX cn cs L a ccd cl)) Q E s :=
  MethodCall_ (pl:=pl) (nameX_L F hv (method_inst F X I hg hf ht hl (callWith_K0 (X.keeps F.keep) hp h)) hk hx hd) hc
theorem callKg (F:Fr h₀ L s.heap m) (X:K.In h₀) (T:TopRead p loose mg mb h₀) (hx:(envX cn cs L a ccd cl).kindOf x=some .globalImplicit) (hk:cs.kind=.function) (hd:(x == ("__debug__" : Str))=false) (hf:nsIn K mainGlobals x=some (some v)) (hp:keepIn K v=true)
    (he:starEach (e::r) (envX cn cs L a ccd cl)=(false,eval e (envX cn cs L a ccd cl))::starEach r (envX cn cs L a ccd cl)) (hq:(backTo pos (starEach r (envX cn cs L a ccd cl))).any (·.1)=false)
    (h:wpAny (model PG w) A (spliced (backTo pos (starEach (e::r) (envX cn cs L a ccd cl)))) (fun vs s₁=>K.In s₁.heap∧wpAny (model PG w) A (call v vs) Q E s₁) E s):wpAny (model PG w) A (eval (.Call (.Name x xp) (e::r) [] pos) (envX cn cs L a ccd cl)) Q E s :=
  Call_ (nameX_K F X T hf (callWith_K (first:=[]) X hp h he hq) hk hx hd)
theorem methKg {pl:Sem Bool} (F:Fr h₀ L s.heap m) (hv:m x=some (.ref y)) (hx:(envX cn cs L a ccd cl).kindOf x=some .local) (hk:cs.kind=.function) (hd:(x == ("__debug__" : Str))=false) (X:K.In h₀) (I:InstAt s.heap y ox C (some (dictOf es n))) (hg:plainGet K C name=true)
    (hf:findIn K (.ref C) name=some (some (.ref f))) (ht:isFn K (.ref f)=true) (hl:getL name es=some none) (hp:keepIn K (.ref f)=true)
    (he:starEach (e::r) (envX cn cs L a ccd cl)=(false,eval e (envX cn cs L a ccd cl))::starEach r (envX cn cs L a ccd cl)) (hq:(backTo pos (starEach r (envX cn cs L a ccd cl))).any (·.1)=false)
    (hc:eval (.Call (.Attribute (.Name x xp) name ap) (e::r) [] pos) (envX cn cs L a ccd cl)=(do
      let ov ← eval (.Name x xp) (envX cn cs L a ccd cl)
      standAt ap.atName
      let (f,first) ← holding [ov] (getMethod ov name pl)
      callWith pos f first (backTo pos (starEach (e::r) (envX cn cs L a ccd cl))) []))
    (h:wpAny (model PG w) A (spliced (backTo pos (starEach (e::r) (envX cn cs L a ccd cl)))) (fun vs s₁=>K.In s₁.heap∧wpAny (model PG w) A (call (.ref f) (.ref y::vs)) Q E s₁) E s):wpAny (model PG w) A (eval (.Call (.Attribute (.Name x xp) name ap) (e::r) [] pos) (envX cn cs L a ccd cl)) Q E s :=
  MethodCall_ (pl:=pl) (nameX_L F hv (method_inst F X I hg hf ht hl (callWith_K X hp h he hq)) hk hx hd) hc
end
inductive A3 (p0 p1 p2:Prop):Prop
  | mk (h0:p0) (h1:p1) (h2:p2):A3 p0 p1 p2
inductive A5 (p0 p1 p2 p3 p4:Prop):Prop
  | mk (h0:p0) (h1:p1) (h2:p2) (h3:p3) (h4:p4):A5 p0 p1 p2 p3 p4
inductive A7 (p0 p1 p2 p3 p4 p5 p6:Prop):Prop
  | mk (h0:p0) (h1:p1) (h2:p2) (h3:p3) (h4:p4) (h5:p5) (h6:p6):A7 p0 p1 p2 p3 p4 p5 p6
inductive A8 (p0 p1 p2 p3 p4 p5 p6 p7:Prop):Prop
  | mk (h0:p0) (h1:p1) (h2:p2) (h3:p3) (h4:p4) (h5:p5) (h6:p6) (h7:p7):A8 p0 p1 p2 p3 p4 p5 p6 p7
inductive A10 (p0 p1 p2 p3 p4 p5 p6 p7 p8 p9:Prop):Prop
  | mk (h0:p0) (h1:p1) (h2:p2) (h3:p3) (h4:p4) (h5:p5) (h6:p6) (h7:p7) (h8:p8) (h9:p9):A10 p0 p1 p2 p3 p4 p5 p6 p7 p8 p9
inductive Ex3 {α0 α1 α2:Type} (P:α0→α1→α2→Prop):Prop
  | mk (x0:α0) (x1:α1) (x2:α2) (h:P x0 x1 x2):Ex3 P
inductive Ex4 {α0 α1 α2 α3:Type} (P:α0→α1→α2→α3→Prop):Prop
  | mk (x0:α0) (x1:α1) (x2:α2) (x3:α3) (h:P x0 x1 x2 x3):Ex4 P
inductive Ex5 {α0 α1 α2 α3 α4:Type} (P:α0→α1→α2→α3→α4→Prop):Prop
  | mk (x0:α0) (x1:α1) (x2:α2) (x3:α3) (x4:α4) (h:P x0 x1 x2 x3 x4):Ex5 P
inductive Ex8 {α0 α1 α2 α3 α4 α5 α6 α7:Type} (P:α0→α1→α2→α3→α4→α5→α6→α7→Prop):Prop
  | mk (x0:α0) (x1:α1) (x2:α2) (x3:α3) (x4:α4) (x5:α5) (x6:α6) (x7:α7) (h:P x0 x1 x2 x3 x4 x5 x6 x7):Ex8 P
inductive Ex6 {α0 α1 α2 α3 α4 α5:Type} (P:α0→α1→α2→α3→α4→α5→Prop):Prop
  | mk (x0:α0) (x1:α1) (x2:α2) (x3:α3) (x4:α4) (x5:α5) (h:P x0 x1 x2 x3 x4 x5):Ex6 P
inductive Ex7 {α0 α1 α2 α3 α4 α5 α6:Type} (P:α0→α1→α2→α3→α4→α5→α6→Prop):Prop
  | mk (x0:α0) (x1:α1) (x2:α2) (x3:α3) (x4:α4) (x5:α5) (x6:α6) (h:P x0 x1 x2 x3 x4 x5 x6):Ex7 P
inductive Ex9 {α0 α1 α2 α3 α4 α5 α6 α7 α8:Type} (P:α0→α1→α2→α3→α4→α5→α6→α7→α8→Prop):Prop
  | mk (x0:α0) (x1:α1) (x2:α2) (x3:α3) (x4:α4) (x5:α5) (x6:α6) (x7:α7) (x8:α8) (h:P x0 x1 x2 x3 x4 x5 x6 x7 x8):Ex9 P
inductive Ex1 {α0:Type} (P:α0→Prop):Prop
  | mk (x0:α0) (h:P x0):Ex1 P
theorem fill:(fun (_:OpenLaw) (_:Params→Frag)=>True) PySem.Challenge.rw_pb0428_01 Mine.H.K:=by
  k_fill
  trivial
section
variable {w:World} {lse:List Str} {mg mb:Str→Option Value} {hB:Heap} {dp un:Nat} {fr:Option (List Env)} {gd:Option (List Code)} {s:Shared} {Q E:Value→Shared→Prop}
theorem row1:True:=by
  k_with "e" => ((case kf=>k_extra "kf");(case k6=>k_dflt k_is);(case k7=>kernel_rfl!);(case eb=>(conv=>lhs;whnf));(case es=>(conv=>lhs;whnf));(case k8=>(simp only [recursionLimit];omega));(case k9=>first | exact BindsTo.of_eq rfl | exact binds_K (Cx.kin' c) rfl (by k_dflt k_is) rfl rfl rfl);(case c5=>exact rfl);(case kB=>exact rfl);(case c2=>exact rfl);(case c3=>exact rfl);(case c4=>exact rfl);(intro g L' h₁ tk fr' cA ev hfo cg kp sub fresh F N X T))
  k_with "e0" => ((k_extra "e");(try dsimp only);k_fold)
  k_with "n" => ((rename Fr _ _ _ _=>F);(rename News _ _ _ _=>N))
  k_with "f" => repeat' (first | exact List.forall_mem_nil _ | refine List.forall_mem_cons.mpr ⟨?_,?_⟩)
  trivial
local macro_rules | `(tactic| size_fits) => `(tactic| with_reducible exact szq)
local macro_rules | `(tactic| walk_at $s:str) => `(tactic| k_extra $(Lean.Syntax.mkStrLit ("." ++ s.getString)))
local macro_rules | `(tactic| omega) => `(tactic| k_extra "omega")
local macro_rules | `(tactic| simp) => `(tactic| k_extra "simp")
local macro_rules | `(tactic| k_ne) => `(tactic| k_extra "k_ne")
local macro_rules | `(tactic| k_inst) => `(tactic| k_extra "k_inst")
local macro_rules | `(tactic| k_all) => `(tactic| k_extra "k_all")
local macro_rules | `(tactic| k_mem) => `(tactic| k_extra "k_mem")
local macro_rules | `(tactic| k_lt $h:ident) => `(tactic| ((try (have hz9 := ltTail $h (by k_extra "lt1"))); (replace $h := allLt_of $h); dsimp only [AllLt] at $h:ident))
theorem row2:True:=by
  k_with "dat" => (first | exact DAt.ofFr (by assumption) (by k_asm) | exact DAt.ofN (by k_asm) (by k_mem) (by k_asm) (by k_asm))
  k_with "isin" => (first | assumption | exact (show _=false from rfl) | exact (show _=true from rfl) | rfl)
  k_with "bool" => (first | assumption | rfl)
  k_with ".call ref" => (k_here;refine stop_ ?_)
  k_with "k_ne" => (refine neN ?_;(try dsimp only);first | assumption | (refine Ne.symm ?_;assumption) | omega)
  k_with ".aq" => with_reducible first | assumption | ((fail_if_success (fail_if_success (refine' ylb (by assumption) ?_)));first | (apply yl0;assumption) | (apply yl1;assumption) | (apply yl2;assumption) | (apply yl3;assumption) | (apply yl4;assumption) | (apply yl5;assumption) | (apply yl6;assumption) | (apply yl7;assumption) | (apply yl8;assumption) | (apply yl9;assumption) | (apply yl10;assumption) | (apply yl11;assumption) | (apply yl12;assumption) | (apply yl13;assumption))
  k_with ".an" => with_reducible first | assumption | (apply an0;assumption) | (apply ae1;assumption) | (apply an1;assumption) | (apply ae2;assumption) | (apply an2;assumption) | (apply ae3;assumption) | (apply an3;assumption) | (apply ae4;assumption) | (apply an4;assumption) | (apply an5;assumption) | (apply ae6;assumption) | (apply an6;assumption) | (apply ae7;assumption) | (apply an7;assumption) | (apply an10;assumption) | (apply an11;assumption) | (apply an12;assumption) | (apply an13;assumption)
  k_with ".om" => omega +splitDisjunctions
  k_with ".om" => lia
  k_with "omega" => first | ((with_reducible show @Ne Nat _ _);first | (with_reducible assumption) | ((with_reducible refine Ne.symm ?_);with_reducible assumption) | ((with_reducible refine neG ?_);k_extra ".aq") | ((with_reducible refine neK ?_);k_extra ".aq")) | exact Nat.zero_le _ | (with_reducible exact le1 (by assumption) rfl) | (with_reducible exact le0 (by assumption) rfl) | (with_reducible exact le2 (by assumption) rfl) | (with_reducible exact lt0 (by assumption) rfl) | (with_reducible exact lt1 (by assumption) rfl) | k_extra ".aq" | k_extra ".an" | ((with_reducible refine neG ?_);k_extra ".an") | ((with_reducible refine neK ?_);k_extra ".an") | ((with_reducible refine Ne.symm ?_);k_extra ".an") | k_extra ".om"
  k_with ".execs cons" => (k_here;(try k_made);(try k_gentoks);(with_reducible refine exc ?_);intro qk ek)
  k_with ".ite" => (k_closed;first | with_reducible refine ite_pos (by decide) ?_ | with_reducible refine ite_neg (by decide) ?_)
  k_with ".isTrue Compare" => (k_here;k_fold)
  k_with ".isTrue BoolOp" => (k_here;k_fold)
  k_with ".eval IfExp" => (k_here;k_fold)
  k_with "simp" => first | exact List.not_mem_nil | exact List.forall_mem_nil _ | exact nc1 | exact nc2 | exact nc3 | exact nc4 | exact nc5 | exact nc6
  k_with "mb" => repeat (first | exact List.Mem.head _ | refine List.Mem.tail _ ?_)
  k_with ".spliced" => ((fail_if_success have:=@splOff);(k_here;(fail_if_success (with_reducible show wpAny _ _ (spliced (backTo _ (starEach _ (compEnvC _ _ _ _)))) _ _ _));(with_reducible show wpAny _ _ (spliced (backTo _ (starEach (_::_) _))) _ _ _);k_dflt (refine @args_sim _ _ _ _ _ _ _ _ _ _ _ _ _ _ _ _ _ (by k_asm) (by k_extra "sa") (by exact rfl) ?_);(try dsimp only [List.nil_append,List.cons_append])))
  k_with ".eval Attribute Name" => (k_here;(fail_if_success (with_reducible show wpAny _ _ (eval _ (compEnvC _ _ _ _)) _ _ _));k_dflt (refine' @attrL _ _ _ _ _ _ _ _ _ _ _ _ _ _ _ _ _ _ _ _ _ _ _ _ _ (by k_asm) (by exact rfl) (by exact rfl) (by exact rfl) (by decide) (by k_asm) (by k_inst) (by k_is) (by k_is) (by k_is) (by k_is) (by k_get) (by k_handed) ?_;k_whole))
  k_with ".eval Call Name" => ((fail_if_success have:=@callOff);(k_here;(fail_if_success (with_reducible show wpAny _ _ (eval _ (compEnvC _ _ _ _)) _ _ _));(with_reducible show wpAny _ _ (eval (PySem.Expr.Call (PySem.Expr.Name _ _) (_::_) [] _) _) _ _ _);k_dflt (first | (refine' @callK _ _ _ _ _ _ _ _ _ _ _ _ _ _ _ _ _ _ _ _ _ _ _ _ _ _ (by k_asm) (by k_asm) (by k_asm) (by exact rfl) (by exact rfl) (by decide) (by k_is) (by k_is) (by k_extra "sa") ?_;k_whole) | (refine' @callKg _ _ _ _ _ _ _ _ _ _ _ _ _ _ _ _ _ _ _ _ _ _ _ _ (by k_asm) (by k_asm) (by k_asm) (by exact rfl) (by exact rfl) (by decide) (by k_is) (by k_is) (by exact rfl) (by exact rfl) ?_;k_whole))))
  k_with ".eval Call Attribute" => ((fail_if_success have:=@callOff);(k_here;(fail_if_success (with_reducible show wpAny _ _ (eval _ (compEnvC _ _ _ _)) _ _ _));first | ((with_reducible show wpAny _ _ (eval (PySem.Expr.Call (PySem.Expr.Attribute (PySem.Expr.Name _ _) _ _) (_::_) [] _) _) _ _ _);k_dflt (refine' @methK _ _ _ _ _ _ _ _ _ _ _ _ _ _ _ _ _ _ _ _ _ _ _ _ _ _ _ _ _ _ (by k_asm) (by exact rfl) (by exact rfl) (by exact rfl) (by decide) (by k_asm) (by k_inst) (by k_is) (by k_is) (by k_is) (by k_get) (by k_is) (by k_extra "sa") (by exact rfl) ?_;k_whole)) | ((with_reducible show wpAny _ _ (eval (PySem.Expr.Call (PySem.Expr.Attribute (PySem.Expr.Name _ _) _ _) (_::_) [] _) _) _ _ _);k_dflt (refine' @methKg _ _ _ _ _ _ _ _ _ _ _ _ _ _ _ _ _ _ _ _ _ _ _ _ _ _ _ _ (by k_asm) (by exact rfl) (by exact rfl) (by exact rfl) (by decide) (by k_asm) (by k_inst) (by k_is) (by k_is) (by k_is) (by k_get) (by k_is) (by exact rfl) (by exact rfl) (by exact rfl) ?_;k_whole)) | ((with_reducible show wpAny _ _ (eval (PySem.Expr.Call (PySem.Expr.Attribute (PySem.Expr.Name _ _) _ _) [] [] _) _) _ _ _);k_dflt (refine' @methK0 _ _ _ _ _ _ _ _ _ _ _ _ _ _ _ _ _ _ _ _ _ _ _ _ _ _ (by k_asm) (by exact rfl) (by exact rfl) (by exact rfl) (by decide) (by k_asm) (by k_inst) (by k_is) (by k_is) (by k_is) (by k_get) (by k_is) (by exact rfl) ?_;k_whole))))
  k_with ".exec If Compare" => (k_here;first | ((with_reducible show wpAny _ _ (exec (Stmt.If (PySem.Expr.Compare (PySem.Expr.Name _ _) [CmpOp.Eq] [PySem.Expr.Constant (Const.int _) _ _] _) _ _ _) _) _ _ _);k_dflt (first | (refine' @if_eqIF _ _ _ _ _ _ _ _ _ _ _ _ _ _ _ _ _ _ _ _ _ _ _ _ (by k_asm) (by exact rfl) (by exact rfl) (by exact rfl) (by decide) (by decide) ?_) | (refine' @if_eqIT _ _ _ _ _ _ _ _ _ _ _ _ _ _ _ _ _ _ _ _ _ _ _ _ (by k_asm) (by exact rfl) (by exact rfl) (by exact rfl) (by decide) (by decide) ?_))) | ((with_reducible show wpAny _ _ (exec (Stmt.If (PySem.Expr.Compare (PySem.Expr.Name _ _) [CmpOp.Eq] [PySem.Expr.Constant (Const.str _) _ _] _) _ _ _) _) _ _ _);k_dflt (first | (refine' @if_eqF _ _ _ _ _ _ _ _ _ _ _ _ _ _ _ _ _ _ _ _ _ _ _ _ (by k_asm) (by exact rfl) (by exact rfl) (by exact rfl) (by decide) (by decide) ?_) | (refine' @if_eqT _ _ _ _ _ _ _ _ _ _ _ _ _ _ _ _ _ _ _ _ _ _ _ _ (by k_asm) (by exact rfl) (by exact rfl) (by exact rfl) (by decide) (by decide) ?_))) | ((with_reducible show wpAny _ _ (exec (Stmt.If (PySem.Expr.Compare (PySem.Expr.Name _ _) [CmpOp.In] [PySem.Expr.Tuple [PySem.Expr.Constant (Const.str _) _ _,_,_] _ _] _) _ _ _) _) _ _ _);k_dflt (first | (refine' @if_in3F _ _ _ _ _ _ _ _ _ _ _ _ _ _ _ _ _ _ _ _ _ _ _ _ _ _ _ _ _ _ _ _ _ (by k_asm) (by k_asm) (by exact rfl) (by exact rfl) (by exact rfl) (by decide) (by decide) ?_;intro _ _ _ _) | (refine' @if_in3T _ _ _ _ _ _ _ _ _ _ _ _ _ _ _ _ _ _ _ _ _ _ _ _ _ _ _ _ _ _ _ _ _ (by k_asm) (by k_asm) (by exact rfl) (by exact rfl) (by exact rfl) (by decide) (by decide) ?_;intro _ _ _ _))) | ((with_reducible show wpAny _ _ (exec (Stmt.If (PySem.Expr.Compare (PySem.Expr.Name _ _) [CmpOp.In] [PySem.Expr.Tuple [PySem.Expr.Constant (Const.str _) _ _,_] _ _] _) _ _ _) _) _ _ _);k_dflt (first | (refine' @if_in2F _ _ _ _ _ _ _ _ _ _ _ _ _ _ _ _ _ _ _ _ _ _ _ _ _ _ _ _ _ _ (by k_asm) (by k_asm) (by exact rfl) (by exact rfl) (by exact rfl) (by decide) (by decide) ?_;intro _ _ _ _) | (refine' @if_in2T _ _ _ _ _ _ _ _ _ _ _ _ _ _ _ _ _ _ _ _ _ _ _ _ _ _ _ _ _ _ (by k_asm) (by k_asm) (by exact rfl) (by exact rfl) (by exact rfl) (by decide) (by decide) ?_;intro _ _ _ _))))
  k_with "q" => first | (refine keptS ?_;(repeat (first | with_reducible exact sufRefl | apply sufCons));done) | repeat (first | exact True.intro | refine keptN (by k_mem) ?_ | refine keptK (by k_mem) ?_)
  k_with "r" => repeat (first | exact True.intro | refine restC (by k_mem) (by k_ne) ?_)
  k_with "kf" => repeat (first | exact True.intro | refine footC (by assumption) ?_)
  k_with "k_mem" => with_reducible first | exact List.Mem.head _ | exact List.Mem.tail _ (List.Mem.head _) | exact mm2 | exact mm3 | (refine mt4 ?_;k_mem)
  k_with "se" => first | exact SimE.name (by exact rfl) (by decide) (by exact rfl) | exact SimE.int | exact SimE.str | exact SimE.none | exact SimE.bool
  k_with "sa" => ((repeat (first | exact SimA.nil | (apply SimA.cons;(· k_extra "se"))));done)
  trivial
theorem piece_init {C x dx:Nat} {way:Str} {tw:Tok} {at_:Value} {R} (c:Cx w lse mg mb hB s.heap) (hd:dp≤790) (hC:C=595∨C=622∨C=649∨C=683∨C=710) (hx:Own hB s.heap x (instObj C dx)) (hdx:Own hB s.heap dx (dictOf [] 0)) (hne:dx≠x)
    (ret:∀ h' tk t1 t2,Keep [dx] s.heap h'→h'.get? dx=some (dictOf [en w "way" t1 (.str way tw),en w "at" t2 at_] 2)→R (.ok (.ret .none)) { s with heap:=h',toks:=tk }) :
    codeAny (model PG w) (Ar dp un fr gd) (.call (.ref 551) ⟨[.ref x,.str way tw,at_],[]⟩) R s:=zp (by simp(disch:=k_dflt(
  rcases hC with rfl | rfl | rfl | rfl | rfl
  all_goals
    refine' Yd [(x,instObj _ dx),(dx,dictOf [] 0)] [(Str.ofString "self",.ref x),(Str.ofString "way",.str way tw),(Str.ofString "at",at_)] c ?kf ?k6 ?k7 ?eb ?es ?k8 ?k9 ?kB ?c5 ?c2 ?c3 ?c4 ?_
    k_extra "e0"
    k_steps
    k_extra "n"
    have kq:=kqo (ks:=[dx]) kp F N hfo (by k_extra "q")
    exact ret _ _ _ _ kq (N.get (by k_mem))))only[↓zq])
theorem stmt_init {C x dx:Nat} {way:Str} {tw:Tok} {at_:Value} {R} (c:Cx w lse mg mb hB s.heap) (hd:dp≤790) (hC:C=499∨C=523) (hx:Own hB s.heap x (instObj C dx)) (hdx:Own hB s.heap dx (dictOf [] 0)) (hne:dx≠x)
    (ret:∀ h' tk t1 t2,Keep [dx] s.heap h'→h'.get? dx=some (dictOf [en w "way" t1 (.str way tw),en w "at" t2 at_] 2)→R (.ok (.ret .none)) { s with heap:=h',toks:=tk }) :
    codeAny (model PG w) (Ar dp un fr gd) (.call (.ref 468) ⟨[.ref x,.str way tw,at_],[]⟩) R s:=zp (by simp(disch:=k_dflt(
  rcases hC with rfl | rfl
  all_goals
    refine' Yd [(x,instObj _ dx),(dx,dictOf [] 0)] [(Str.ofString "self",.ref x),(Str.ofString "way",.str way tw),(Str.ofString "at",at_)] c ?kf ?k6 ?k7 ?eb ?es ?k8 ?k9 ?kB ?c5 ?c2 ?c3 ?c4 ?_
    k_extra "e0"
    k_steps
    k_extra "n"
    have kq:=kqo (ks:=[dx]) kp F N hfo (by k_extra "q")
    exact ret _ _ _ _ kq (N.get (by k_mem))))only[↓zq])
def NumberAt (w:World) (hB h:Heap) (x:Nat) (v:Int):Prop :=
  Ex6 fun (dx:Nat) (n:Nat) (t1 t2 tk_a tk_b:Tok)=>Own hB h x (instObj 231 dx)∧Own hB h dx (dictOf [en w "kind" t1 (.str (Str.ofString "number") tk_a),en w "worth" t2 (.int v tk_b)] n)
theorem NumberAt.in_ {w:World} {hB h:Heap} {x:Nat} {v:Int} {dx:Nat} {n:Nat} {t1 t2 tk_a tk_b:Tok} (a1:Own hB h x (instObj 231 dx)) (a2:Own hB h dx (dictOf [en w "kind" t1 (.str (Str.ofString "number") tk_a),en w "worth" t2 (.int v tk_b)] n)):NumberAt w hB h x v:=⟨dx,n,t1,t2,tk_a,tk_b,a1,a2⟩
theorem NumberAt.el {w:World} {hB h:Heap} {x:Nat} {v:Int} {P:Prop} (a:NumberAt w hB h x v) (k:∀ (dx:Nat) (n:Nat) (t1 t2 tk_a tk_b:Tok),Own hB h x (instObj 231 dx)→Own hB h dx (dictOf [en w "kind" t1 (.str (Str.ofString "number") tk_a),en w "worth" t2 (.int v tk_b)] n)→P):P:=by
  obtain ⟨dx,n,t1,t2,tk_a,tk_b,a1,a2⟩:=a
  exact k dx n t1 t2 tk_a tk_b a1 a2
theorem NumberAt.ob {w:World} {hB h:Heap} {x:Nat} {v:Int} {P:Prop} (a:NumberAt w hB h x v) (k:∀ (dx:Nat) (o:Obj),o.cls≠.type "list" → (∀ {hB h:Heap},Own hB h x (instObj 231 dx)→Own hB h dx o→NumberAt w hB h x v)→Own hB h x (instObj 231 dx)→Own hB h dx o→P):P :=
  a.el fun dx n t1 t2 tk_a tk_b a1 a2=>k dx _ Za (fun b1 b2=>.in_ b1 b2) a1 a2
theorem NumberAt.keep {w hB h h'} {x:Nat} {v:Int} {ks:List Addr} (a:NumberAt w hB h x v) (e:Keep ks h h') (hn:∀ k∈ks,h.get? k=none∨∃ o,h.get? k=some o∧o.cls=.type "list"):NumberAt w hB h' x v :=
  a.el fun _ _ _ _ _ _ h1 h2=>.in_ (keepNL h1 e hn inst_nl) (keepNL h2 e hn Za)
theorem new_Number {v:Int} {t:Tok} {R} (c:Cx w lse mg mb hB s.heap) (hd:dp≤780)
    (ret:∀ (x:Nat) h' tk,Ext s.heap h'→s.heap.get? x=none→NumberAt w s.heap h' x v→R (.ok (.ret (.ref x))) { s with heap:=h',toks:=tk }) :
    codeAny (model PG w) (Ar dp un fr gd) (.call (.ref 231) ⟨[.int v t],[]⟩) R s:=zp (by simp(disch:=k_dflt(
  refine make c (by k_dflt k_is) (by k_dflt k_is) (by k_dflt k_is) ?_
  intro x dx h₁ e1 n1 n2 o1 o2 hne
  replace hne:@Ne Nat dx x:=hne
  have c0:=c
  replace c:=c.step e1
  refine' Yd [(x,instObj 231 dx),(dx,dictOf [] 0)] [(Str.ofString "self",.ref x),(Str.ofString "worth",.int v t)] c ?kf ?k6 ?k7 ?eb ?es ?k8 ?k9 ?kB ?c5 ?c2 ?c3 ?c4 ?_
  k_extra "e0"
  k_steps
  k_extra "n"
  have kq:=kqo (ks:=[dx]) kp F N hfo (by k_extra "q")
  refine ⟨rfl,ret x _ _ (Yw e1 kq n2) n1 (.in_ ⟨N.get (by k_mem),n1⟩ ⟨N.get (by k_mem),n2⟩)⟩))only[↓zq])
def SymbolAt (w:World) (hB h:Heap) (x:Nat) (v:Str):Prop :=
  Ex6 fun (dx:Nat) (n:Nat) (t1 t2 tk_a tk_b:Tok)=>Own hB h x (instObj 257 dx)∧Own hB h dx (dictOf [en w "kind" t1 (.str (Str.ofString "symbol") tk_a),en w "name" t2 (.str v tk_b)] n)
theorem SymbolAt.in_ {w:World} {hB h:Heap} {x:Nat} {v:Str} {dx:Nat} {n:Nat} {t1 t2 tk_a tk_b:Tok} (a1:Own hB h x (instObj 257 dx)) (a2:Own hB h dx (dictOf [en w "kind" t1 (.str (Str.ofString "symbol") tk_a),en w "name" t2 (.str v tk_b)] n)):SymbolAt w hB h x v:=⟨dx,n,t1,t2,tk_a,tk_b,a1,a2⟩
theorem SymbolAt.el {w:World} {hB h:Heap} {x:Nat} {v:Str} {P:Prop} (a:SymbolAt w hB h x v) (k:∀ (dx:Nat) (n:Nat) (t1 t2 tk_a tk_b:Tok),Own hB h x (instObj 257 dx)→Own hB h dx (dictOf [en w "kind" t1 (.str (Str.ofString "symbol") tk_a),en w "name" t2 (.str v tk_b)] n)→P):P:=by
  obtain ⟨dx,n,t1,t2,tk_a,tk_b,a1,a2⟩:=a
  exact k dx n t1 t2 tk_a tk_b a1 a2
theorem SymbolAt.ob {w:World} {hB h:Heap} {x:Nat} {v:Str} {P:Prop} (a:SymbolAt w hB h x v) (k:∀ (dx:Nat) (o:Obj),o.cls≠.type "list" → (∀ {hB h:Heap},Own hB h x (instObj 257 dx)→Own hB h dx o→SymbolAt w hB h x v)→Own hB h x (instObj 257 dx)→Own hB h dx o→P):P :=
  a.el fun dx n t1 t2 tk_a tk_b a1 a2=>k dx _ Za (fun b1 b2=>.in_ b1 b2) a1 a2
theorem SymbolAt.keep {w hB h h'} {x:Nat} {v:Str} {ks:List Addr} (a:SymbolAt w hB h x v) (e:Keep ks h h') (hn:∀ k∈ks,h.get? k=none∨∃ o,h.get? k=some o∧o.cls=.type "list"):SymbolAt w hB h' x v :=
  a.el fun _ _ _ _ _ _ h1 h2=>.in_ (keepNL h1 e hn inst_nl) (keepNL h2 e hn Za)
theorem new_Symbol {v:Str} {t:Tok} {R} (c:Cx w lse mg mb hB s.heap) (hd:dp≤780)
    (ret:∀ (x:Nat) h' tk,Ext s.heap h'→s.heap.get? x=none→SymbolAt w s.heap h' x v→R (.ok (.ret (.ref x))) { s with heap:=h',toks:=tk }) :
    codeAny (model PG w) (Ar dp un fr gd) (.call (.ref 257) ⟨[.str v t],[]⟩) R s:=zp (by simp(disch:=k_dflt(
  refine make c (by k_dflt k_is) (by k_dflt k_is) (by k_dflt k_is) ?_
  intro x dx h₁ e1 n1 n2 o1 o2 hne
  replace hne:@Ne Nat dx x:=hne
  have c0:=c
  replace c:=c.step e1
  refine' Yd [(x,instObj 257 dx),(dx,dictOf [] 0)] [(Str.ofString "self",.ref x),(Str.ofString "name",.str v t)] c ?kf ?k6 ?k7 ?eb ?es ?k8 ?k9 ?kB ?c5 ?c2 ?c3 ?c4 ?_
  k_extra "e0"
  k_steps
  k_extra "n"
  have kq:=kqo (ks:=[dx]) kp F N hfo (by k_extra "q")
  refine ⟨rfl,ret x _ _ (Yw e1 kq n2) n1 (.in_ ⟨N.get (by k_mem),n1⟩ ⟨N.get (by k_mem),n2⟩)⟩))only[↓zq])
def BinaryAt (w:World) (hB h:Heap) (x:Nat) (sg:Str) (l r:Nat):Prop :=
  Ex8 fun (dx:Nat) (n:Nat) (t1 t2 t3 t4 tk_a tk_b:Tok)=>Own hB h x (instObj 283 dx)∧Own hB h dx (dictOf [en w "kind" t1 (.str (Str.ofString "binary") tk_a),en w "sign" t2 (.str sg tk_b),en w "left" t3 (.ref l),en w "right" t4 (.ref r)] n)
theorem BinaryAt.in_ {w:World} {hB h:Heap} {x:Nat} {sg:Str} {l r:Nat} {dx:Nat} {n:Nat} {t1 t2 t3 t4 tk_a tk_b:Tok} (a1:Own hB h x (instObj 283 dx)) (a2:Own hB h dx (dictOf [en w "kind" t1 (.str (Str.ofString "binary") tk_a),en w "sign" t2 (.str sg tk_b),en w "left" t3 (.ref l),en w "right" t4 (.ref r)] n)):BinaryAt w hB h x sg l r:=⟨dx,n,t1,t2,t3,t4,tk_a,tk_b,a1,a2⟩
theorem BinaryAt.el {w:World} {hB h:Heap} {x:Nat} {sg:Str} {l r:Nat} {P:Prop} (a:BinaryAt w hB h x sg l r) (k:∀ (dx:Nat) (n:Nat) (t1 t2 t3 t4 tk_a tk_b:Tok),Own hB h x (instObj 283 dx)→Own hB h dx (dictOf [en w "kind" t1 (.str (Str.ofString "binary") tk_a),en w "sign" t2 (.str sg tk_b),en w "left" t3 (.ref l),en w "right" t4 (.ref r)] n)→P):P:=by
  obtain ⟨dx,n,t1,t2,t3,t4,tk_a,tk_b,a1,a2⟩:=a
  exact k dx n t1 t2 t3 t4 tk_a tk_b a1 a2
theorem BinaryAt.ob {w:World} {hB h:Heap} {x:Nat} {sg:Str} {l r:Nat} {P:Prop} (a:BinaryAt w hB h x sg l r) (k:∀ (dx:Nat) (o:Obj),o.cls≠.type "list" → (∀ {hB h:Heap},Own hB h x (instObj 283 dx)→Own hB h dx o→BinaryAt w hB h x sg l r)→Own hB h x (instObj 283 dx)→Own hB h dx o→P):P :=
  a.el fun dx n t1 t2 t3 t4 tk_a tk_b a1 a2=>k dx _ Za (fun b1 b2=>.in_ b1 b2) a1 a2
theorem BinaryAt.keep {w hB h h'} {x:Nat} {sg:Str} {l r:Nat} {ks:List Addr} (a:BinaryAt w hB h x sg l r) (e:Keep ks h h') (hn:∀ k∈ks,h.get? k=none∨∃ o,h.get? k=some o∧o.cls=.type "list"):BinaryAt w hB h' x sg l r :=
  a.el fun _ _ _ _ _ _ _ _ h1 h2=>.in_ (keepNL h1 e hn inst_nl) (keepNL h2 e hn Za)
theorem new_Binary {sg:Str} {l r:Nat} {t:Tok} {R} (c:Cx w lse mg mb hB s.heap) (hd:dp≤780)
    (ret:∀ (x:Nat) h' tk,Ext s.heap h'→s.heap.get? x=none→BinaryAt w s.heap h' x sg l r→R (.ok (.ret (.ref x))) { s with heap:=h',toks:=tk }) :
    codeAny (model PG w) (Ar dp un fr gd) (.call (.ref 283) ⟨[.str sg t,.ref l,.ref r],[]⟩) R s:=zp (by simp(disch:=k_dflt(
  refine make c (by k_dflt k_is) (by k_dflt k_is) (by k_dflt k_is) ?_
  intro x dx h₁ e1 n1 n2 o1 o2 hne
  replace hne:@Ne Nat dx x:=hne
  have c0:=c
  replace c:=c.step e1
  refine' Yd [(x,instObj 283 dx),(dx,dictOf [] 0)] [(Str.ofString "self",.ref x),(Str.ofString "sign",.str sg t),(Str.ofString "left",.ref l),(Str.ofString "right",.ref r)] c ?kf ?k6 ?k7 ?eb ?es ?k8 ?k9 ?kB ?c5 ?c2 ?c3 ?c4 ?_
  k_extra "e0"
  k_steps
  k_extra "n"
  have kq:=kqo (ks:=[dx]) kp F N hfo (by k_extra "q")
  refine ⟨rfl,ret x _ _ (Yw e1 kq n2) n1 (.in_ ⟨N.get (by k_mem),n1⟩ ⟨N.get (by k_mem),n2⟩)⟩))only[↓zq])
def OctetsAt (w:World) (hB h:Heap) (x:Nat) (b:Array UInt8) (l:Nat):Prop :=
  Ex8 fun (dx:Nat) (n:Nat) (t1 t2 t3 t4 tk_a tk_b:Tok)=>Own hB h x (instObj 595 dx)∧Own hB h dx (dictOf [en w "way" t1 (.str (Str.ofString "octets") tk_a),en w "at" t2 .none,en w "octets" t3 (.bytes b tk_b),en w "fixups" t4 (.ref l)] n)
theorem OctetsAt.in_ {w:World} {hB h:Heap} {x:Nat} {b:Array UInt8} {l:Nat} {dx:Nat} {n:Nat} {t1 t2 t3 t4 tk_a tk_b:Tok} (a1:Own hB h x (instObj 595 dx)) (a2:Own hB h dx (dictOf [en w "way" t1 (.str (Str.ofString "octets") tk_a),en w "at" t2 .none,en w "octets" t3 (.bytes b tk_b),en w "fixups" t4 (.ref l)] n)):OctetsAt w hB h x b l:=⟨dx,n,t1,t2,t3,t4,tk_a,tk_b,a1,a2⟩
theorem OctetsAt.el {w:World} {hB h:Heap} {x:Nat} {b:Array UInt8} {l:Nat} {P:Prop} (a:OctetsAt w hB h x b l) (k:∀ (dx:Nat) (n:Nat) (t1 t2 t3 t4 tk_a tk_b:Tok),Own hB h x (instObj 595 dx)→Own hB h dx (dictOf [en w "way" t1 (.str (Str.ofString "octets") tk_a),en w "at" t2 .none,en w "octets" t3 (.bytes b tk_b),en w "fixups" t4 (.ref l)] n)→P):P:=by
  obtain ⟨dx,n,t1,t2,t3,t4,tk_a,tk_b,a1,a2⟩:=a
  exact k dx n t1 t2 t3 t4 tk_a tk_b a1 a2
theorem OctetsAt.keep {w hB h h'} {x:Nat} {b:Array UInt8} {l:Nat} {ks:List Addr} (a:OctetsAt w hB h x b l) (e:Keep ks h h') (hn:∀ k∈ks,h.get? k=none∨∃ o,h.get? k=some o∧o.cls=.type "list"):OctetsAt w hB h' x b l :=
  a.el fun _ _ _ _ _ _ _ _ h1 h2=>.in_ (keepNL h1 e hn inst_nl) (keepNL h2 e hn Za)
theorem new_Octets {b:Array UInt8} {l:Nat} {t:Tok} {R} (c:Cx w lse mg mb hB s.heap) (hd:dp≤780)
    (ret:∀ (x:Nat) h' tk,Ext s.heap h'→s.heap.get? x=none→OctetsAt w s.heap h' x b l→R (.ok (.ret (.ref x))) { s with heap:=h',toks:=tk }) :
    codeAny (model PG w) (Ar dp un fr gd) (.call (.ref 595) ⟨[.bytes b t,.ref l,.none],[]⟩) R s:=zp (by simp(disch:=k_dflt(
  refine make c (by k_dflt k_is) (by k_dflt k_is) (by k_dflt k_is) ?_
  intro x dx h₁ e1 n1 n2 o1 o2 hne
  replace hne:@Ne Nat dx x:=hne
  have c0:=c
  replace c:=c.step e1
  refine' Yd [(x,instObj 595 dx),(dx,dictOf [] 0)] [(Str.ofString "self",.ref x),(Str.ofString "octets",.bytes b t),(Str.ofString "fixups",.ref l),(Str.ofString "at",.none)] c ?kf ?k6 ?k7 ?eb ?es ?k8 ?k9 ?kB ?c5 ?c2 ?c3 ?c4 ?_
  k_extra "e0"
  k_steps
  refine wpAny_call (piece_init (C:=595) (x:=x) (dx:=dx) (cg.step F.keep) (by omega) (by omega) (Yv cg N (by k_mem)) (Yv cg N (by k_mem)) hne fun h2 tk2 t1 t2 k2 d2=>?_)
  have N9:=Yj (rest:=[(x,instObj 595 dx)]) N k2 (by k_mem) d2 (Yn (by k_extra "r"))
  replace F:=Yp F N k2 (by k_mem)
  clear N
  (rename News _ _ _ _=>N)
  k_steps
  k_extra "n"
  have kq:=kqo (ks:=[dx]) kp F N hfo (by k_extra "q")
  refine ⟨rfl,ret x _ _ (Yw e1 kq n2) n1 (.in_ ⟨N.get (by k_mem),n1⟩ ⟨N.get (by k_mem),n2⟩)⟩))only[↓zq])
def AlignAt (w:World) (hB h:Heap) (x:Nat) (v:Int) (b:Bool):Prop :=
  Ex8 fun (dx:Nat) (n:Nat) (t1 t2 t3 t4 tk_a tk_b:Tok)=>Own hB h x (instObj 622 dx)∧Own hB h dx (dictOf [en w "way" t1 (.str (Str.ofString "align") tk_a),en w "at" t2 .none,en w "step" t3 (.int v tk_b),en w "is_code" t4 (.bool b)] n)
theorem AlignAt.in_ {w:World} {hB h:Heap} {x:Nat} {v:Int} {b:Bool} {dx:Nat} {n:Nat} {t1 t2 t3 t4 tk_a tk_b:Tok} (a1:Own hB h x (instObj 622 dx)) (a2:Own hB h dx (dictOf [en w "way" t1 (.str (Str.ofString "align") tk_a),en w "at" t2 .none,en w "step" t3 (.int v tk_b),en w "is_code" t4 (.bool b)] n)):AlignAt w hB h x v b:=⟨dx,n,t1,t2,t3,t4,tk_a,tk_b,a1,a2⟩
theorem AlignAt.el {w:World} {hB h:Heap} {x:Nat} {v:Int} {b:Bool} {P:Prop} (a:AlignAt w hB h x v b) (k:∀ (dx:Nat) (n:Nat) (t1 t2 t3 t4 tk_a tk_b:Tok),Own hB h x (instObj 622 dx)→Own hB h dx (dictOf [en w "way" t1 (.str (Str.ofString "align") tk_a),en w "at" t2 .none,en w "step" t3 (.int v tk_b),en w "is_code" t4 (.bool b)] n)→P):P:=by
  obtain ⟨dx,n,t1,t2,t3,t4,tk_a,tk_b,a1,a2⟩:=a
  exact k dx n t1 t2 t3 t4 tk_a tk_b a1 a2
theorem AlignAt.keep {w hB h h'} {x:Nat} {v:Int} {b:Bool} {ks:List Addr} (a:AlignAt w hB h x v b) (e:Keep ks h h') (hn:∀ k∈ks,h.get? k=none∨∃ o,h.get? k=some o∧o.cls=.type "list"):AlignAt w hB h' x v b :=
  a.el fun _ _ _ _ _ _ _ _ h1 h2=>.in_ (keepNL h1 e hn inst_nl) (keepNL h2 e hn Za)
theorem new_Align {v:Int} {b:Bool} {t:Tok} {R} (c:Cx w lse mg mb hB s.heap) (hd:dp≤780)
    (ret:∀ (x:Nat) h' tk,Ext s.heap h'→s.heap.get? x=none→AlignAt w s.heap h' x v b→R (.ok (.ret (.ref x))) { s with heap:=h',toks:=tk }) :
    codeAny (model PG w) (Ar dp un fr gd) (.call (.ref 622) ⟨[.int v t,.bool b,.none],[]⟩) R s:=zp (by simp(disch:=k_dflt(
  refine make c (by k_dflt k_is) (by k_dflt k_is) (by k_dflt k_is) ?_
  intro x dx h₁ e1 n1 n2 o1 o2 hne
  replace hne:@Ne Nat dx x:=hne
  have c0:=c
  replace c:=c.step e1
  refine' Yd [(x,instObj 622 dx),(dx,dictOf [] 0)] [(Str.ofString "self",.ref x),(Str.ofString "step",.int v t),(Str.ofString "is_code",.bool b),(Str.ofString "at",.none)] c ?kf ?k6 ?k7 ?eb ?es ?k8 ?k9 ?kB ?c5 ?c2 ?c3 ?c4 ?_
  k_extra "e0"
  k_steps
  refine wpAny_call (piece_init (C:=622) (x:=x) (dx:=dx) (cg.step F.keep) (by omega) (by omega) (Yv cg N (by k_mem)) (Yv cg N (by k_mem)) hne fun h2 tk2 t1 t2 k2 d2=>?_)
  have N9:=Yj (rest:=[(x,instObj 622 dx)]) N k2 (by k_mem) d2 (Yn (by k_extra "r"))
  replace F:=Yp F N k2 (by k_mem)
  clear N
  (rename News _ _ _ _=>N)
  k_steps
  k_extra "n"
  have kq:=kqo (ks:=[dx]) kp F N hfo (by k_extra "q")
  refine ⟨rfl,ret x _ _ (Yw e1 kq n2) n1 (.in_ ⟨N.get (by k_mem),n1⟩ ⟨N.get (by k_mem),n2⟩)⟩))only[↓zq])
def OrgAt (w:World) (hB h:Heap) (x:Nat) (l:Nat):Prop :=
  Ex6 fun (dx:Nat) (n:Nat) (t1 t2 t3 tk_a:Tok)=>Own hB h x (instObj 649 dx)∧Own hB h dx (dictOf [en w "way" t1 (.str (Str.ofString "org") tk_a),en w "at" t2 .none,en w "affine" t3 (.ref l)] n)
theorem OrgAt.in_ {w:World} {hB h:Heap} {x:Nat} {l:Nat} {dx:Nat} {n:Nat} {t1 t2 t3 tk_a:Tok} (a1:Own hB h x (instObj 649 dx)) (a2:Own hB h dx (dictOf [en w "way" t1 (.str (Str.ofString "org") tk_a),en w "at" t2 .none,en w "affine" t3 (.ref l)] n)):OrgAt w hB h x l:=⟨dx,n,t1,t2,t3,tk_a,a1,a2⟩
theorem OrgAt.el {w:World} {hB h:Heap} {x:Nat} {l:Nat} {P:Prop} (a:OrgAt w hB h x l) (k:∀ (dx:Nat) (n:Nat) (t1 t2 t3 tk_a:Tok),Own hB h x (instObj 649 dx)→Own hB h dx (dictOf [en w "way" t1 (.str (Str.ofString "org") tk_a),en w "at" t2 .none,en w "affine" t3 (.ref l)] n)→P):P:=by
  obtain ⟨dx,n,t1,t2,t3,tk_a,a1,a2⟩:=a
  exact k dx n t1 t2 t3 tk_a a1 a2
theorem OrgAt.keep {w hB h h'} {x:Nat} {l:Nat} {ks:List Addr} (a:OrgAt w hB h x l) (e:Keep ks h h') (hn:∀ k∈ks,h.get? k=none∨∃ o,h.get? k=some o∧o.cls=.type "list"):OrgAt w hB h' x l :=
  a.el fun _ _ _ _ _ _ h1 h2=>.in_ (keepNL h1 e hn inst_nl) (keepNL h2 e hn Za)
theorem new_Org {l:Nat}  {R} (c:Cx w lse mg mb hB s.heap) (hd:dp≤780)
    (ret:∀ (x:Nat) h' tk,Ext s.heap h'→s.heap.get? x=none→OrgAt w s.heap h' x l→R (.ok (.ret (.ref x))) { s with heap:=h',toks:=tk }) :
    codeAny (model PG w) (Ar dp un fr gd) (.call (.ref 649) ⟨[.ref l,.none],[]⟩) R s:=zp (by simp(disch:=k_dflt(
  refine make c (by k_dflt k_is) (by k_dflt k_is) (by k_dflt k_is) ?_
  intro x dx h₁ e1 n1 n2 o1 o2 hne
  replace hne:@Ne Nat dx x:=hne
  have c0:=c
  replace c:=c.step e1
  refine' Yd [(x,instObj 649 dx),(dx,dictOf [] 0)] [(Str.ofString "self",.ref x),(Str.ofString "affine",.ref l),(Str.ofString "at",.none)] c ?kf ?k6 ?k7 ?eb ?es ?k8 ?k9 ?kB ?c5 ?c2 ?c3 ?c4 ?_
  k_extra "e0"
  k_steps
  refine wpAny_call (piece_init (C:=649) (x:=x) (dx:=dx) (cg.step F.keep) (by omega) (by omega) (Yv cg N (by k_mem)) (Yv cg N (by k_mem)) hne fun h2 tk2 t1 t2 k2 d2=>?_)
  have N9:=Yj (rest:=[(x,instObj 649 dx)]) N k2 (by k_mem) d2 (Yn (by k_extra "r"))
  replace F:=Yp F N k2 (by k_mem)
  clear N
  (rename News _ _ _ _=>N)
  k_steps
  k_extra "n"
  have kq:=kqo (ks:=[dx]) kp F N hfo (by k_extra "q")
  refine ⟨rfl,ret x _ _ (Yw e1 kq n2) n1 (.in_ ⟨N.get (by k_mem),n1⟩ ⟨N.get (by k_mem),n2⟩)⟩))only[↓zq])
def SpaceAt (w:World) (hB h:Heap) (x:Nat) (v u:Int):Prop :=
  Ex9 fun (dx:Nat) (n:Nat) (t1 t2 t3 t4 tk_a tk_b tk_c:Tok)=>Own hB h x (instObj 683 dx)∧Own hB h dx (dictOf [en w "way" t1 (.str (Str.ofString "space") tk_a),en w "at" t2 .none,en w "count" t3 (.int v tk_b),en w "fill" t4 (.int u tk_c)] n)
theorem SpaceAt.in_ {w:World} {hB h:Heap} {x:Nat} {v u:Int} {dx:Nat} {n:Nat} {t1 t2 t3 t4 tk_a tk_b tk_c:Tok} (a1:Own hB h x (instObj 683 dx)) (a2:Own hB h dx (dictOf [en w "way" t1 (.str (Str.ofString "space") tk_a),en w "at" t2 .none,en w "count" t3 (.int v tk_b),en w "fill" t4 (.int u tk_c)] n)):SpaceAt w hB h x v u:=⟨dx,n,t1,t2,t3,t4,tk_a,tk_b,tk_c,a1,a2⟩
theorem SpaceAt.el {w:World} {hB h:Heap} {x:Nat} {v u:Int} {P:Prop} (a:SpaceAt w hB h x v u) (k:∀ (dx:Nat) (n:Nat) (t1 t2 t3 t4 tk_a tk_b tk_c:Tok),Own hB h x (instObj 683 dx)→Own hB h dx (dictOf [en w "way" t1 (.str (Str.ofString "space") tk_a),en w "at" t2 .none,en w "count" t3 (.int v tk_b),en w "fill" t4 (.int u tk_c)] n)→P):P:=by
  obtain ⟨dx,n,t1,t2,t3,t4,tk_a,tk_b,tk_c,a1,a2⟩:=a
  exact k dx n t1 t2 t3 t4 tk_a tk_b tk_c a1 a2
theorem SpaceAt.keep {w hB h h'} {x:Nat} {v u:Int} {ks:List Addr} (a:SpaceAt w hB h x v u) (e:Keep ks h h') (hn:∀ k∈ks,h.get? k=none∨∃ o,h.get? k=some o∧o.cls=.type "list"):SpaceAt w hB h' x v u :=
  a.el fun _ _ _ _ _ _ _ _ _ h1 h2=>.in_ (keepNL h1 e hn inst_nl) (keepNL h2 e hn Za)
theorem new_Space {v u:Int} {t t2:Tok} {R} (c:Cx w lse mg mb hB s.heap) (hd:dp≤780)
    (ret:∀ (x:Nat) h' tk,Ext s.heap h'→s.heap.get? x=none→SpaceAt w s.heap h' x v u→R (.ok (.ret (.ref x))) { s with heap:=h',toks:=tk }) :
    codeAny (model PG w) (Ar dp un fr gd) (.call (.ref 683) ⟨[.int v t,.int u t2,.none],[]⟩) R s:=zp (by simp(disch:=k_dflt(
  refine make c (by k_dflt k_is) (by k_dflt k_is) (by k_dflt k_is) ?_
  intro x dx h₁ e1 n1 n2 o1 o2 hne
  replace hne:@Ne Nat dx x:=hne
  have c0:=c
  replace c:=c.step e1
  refine' Yd [(x,instObj 683 dx),(dx,dictOf [] 0)] [(Str.ofString "self",.ref x),(Str.ofString "count",.int v t),(Str.ofString "fill",.int u t2),(Str.ofString "at",.none)] c ?kf ?k6 ?k7 ?eb ?es ?k8 ?k9 ?kB ?c5 ?c2 ?c3 ?c4 ?_
  k_extra "e0"
  k_steps
  refine wpAny_call (piece_init (C:=683) (x:=x) (dx:=dx) (cg.step F.keep) (by omega) (by omega) (Yv cg N (by k_mem)) (Yv cg N (by k_mem)) hne fun h2 tk2 t1 t2 k2 d2=>?_)
  have N9:=Yj (rest:=[(x,instObj 683 dx)]) N k2 (by k_mem) d2 (Yn (by k_extra "r"))
  replace F:=Yp F N k2 (by k_mem)
  clear N
  (rename News _ _ _ _=>N)
  k_steps
  k_extra "n"
  have kq:=kqo (ks:=[dx]) kp F N hfo (by k_extra "q")
  refine ⟨rfl,ret x _ _ (Yw e1 kq n2) n1 (.in_ ⟨N.get (by k_mem),n1⟩ ⟨N.get (by k_mem),n2⟩)⟩))only[↓zq])
def LebAt (w:World) (hB h:Heap) (x:Nat) (l:Nat) (b:Bool):Prop :=
  Ex7 fun (dx:Nat) (n:Nat) (t1 t2 t3 t4 tk_a:Tok)=>Own hB h x (instObj 710 dx)∧Own hB h dx (dictOf [en w "way" t1 (.str (Str.ofString "leb") tk_a),en w "at" t2 .none,en w "affine" t3 (.ref l),en w "is_signed" t4 (.bool b)] n)
theorem LebAt.in_ {w:World} {hB h:Heap} {x:Nat} {l:Nat} {b:Bool} {dx:Nat} {n:Nat} {t1 t2 t3 t4 tk_a:Tok} (a1:Own hB h x (instObj 710 dx)) (a2:Own hB h dx (dictOf [en w "way" t1 (.str (Str.ofString "leb") tk_a),en w "at" t2 .none,en w "affine" t3 (.ref l),en w "is_signed" t4 (.bool b)] n)):LebAt w hB h x l b:=⟨dx,n,t1,t2,t3,t4,tk_a,a1,a2⟩
theorem LebAt.el {w:World} {hB h:Heap} {x:Nat} {l:Nat} {b:Bool} {P:Prop} (a:LebAt w hB h x l b) (k:∀ (dx:Nat) (n:Nat) (t1 t2 t3 t4 tk_a:Tok),Own hB h x (instObj 710 dx)→Own hB h dx (dictOf [en w "way" t1 (.str (Str.ofString "leb") tk_a),en w "at" t2 .none,en w "affine" t3 (.ref l),en w "is_signed" t4 (.bool b)] n)→P):P:=by
  obtain ⟨dx,n,t1,t2,t3,t4,tk_a,a1,a2⟩:=a
  exact k dx n t1 t2 t3 t4 tk_a a1 a2
theorem LebAt.keep {w hB h h'} {x:Nat} {l:Nat} {b:Bool} {ks:List Addr} (a:LebAt w hB h x l b) (e:Keep ks h h') (hn:∀ k∈ks,h.get? k=none∨∃ o,h.get? k=some o∧o.cls=.type "list"):LebAt w hB h' x l b :=
  a.el fun _ _ _ _ _ _ _ h1 h2=>.in_ (keepNL h1 e hn inst_nl) (keepNL h2 e hn Za)
theorem new_Leb {l:Nat} {b:Bool}  {R} (c:Cx w lse mg mb hB s.heap) (hd:dp≤780)
    (ret:∀ (x:Nat) h' tk,Ext s.heap h'→s.heap.get? x=none→LebAt w s.heap h' x l b→R (.ok (.ret (.ref x))) { s with heap:=h',toks:=tk }) :
    codeAny (model PG w) (Ar dp un fr gd) (.call (.ref 710) ⟨[.ref l,.bool b,.none],[]⟩) R s:=zp (by simp(disch:=k_dflt(
  refine make c (by k_dflt k_is) (by k_dflt k_is) (by k_dflt k_is) ?_
  intro x dx h₁ e1 n1 n2 o1 o2 hne
  replace hne:@Ne Nat dx x:=hne
  have c0:=c
  replace c:=c.step e1
  refine' Yd [(x,instObj 710 dx),(dx,dictOf [] 0)] [(Str.ofString "self",.ref x),(Str.ofString "affine",.ref l),(Str.ofString "is_signed",.bool b),(Str.ofString "at",.none)] c ?kf ?k6 ?k7 ?eb ?es ?k8 ?k9 ?kB ?c5 ?c2 ?c3 ?c4 ?_
  k_extra "e0"
  k_steps
  refine wpAny_call (piece_init (C:=710) (x:=x) (dx:=dx) (cg.step F.keep) (by omega) (by omega) (Yv cg N (by k_mem)) (Yv cg N (by k_mem)) hne fun h2 tk2 t1 t2 k2 d2=>?_)
  have N9:=Yj (rest:=[(x,instObj 710 dx)]) N k2 (by k_mem) d2 (Yn (by k_extra "r"))
  replace F:=Yp F N k2 (by k_mem)
  clear N
  (rename News _ _ _ _=>N)
  k_steps
  k_extra "n"
  have kq:=kqo (ks:=[dx]) kp F N hfo (by k_extra "q")
  refine ⟨rfl,ret x _ _ (Yw e1 kq n2) n1 (.in_ ⟨N.get (by k_mem),n1⟩ ⟨N.get (by k_mem),n2⟩)⟩))only[↓zq])
def LabelAt (w:World) (hB h:Heap) (x:Nat) (v:Str):Prop :=
  Ex7 fun (dx:Nat) (n:Nat) (t1 t2 t3 tk_a tk_b:Tok)=>Own hB h x (instObj 499 dx)∧Own hB h dx (dictOf [en w "way" t1 (.str (Str.ofString "label") tk_a),en w "at" t2 .none,en w "name" t3 (.str v tk_b)] n)
theorem LabelAt.in_ {w:World} {hB h:Heap} {x:Nat} {v:Str} {dx:Nat} {n:Nat} {t1 t2 t3 tk_a tk_b:Tok} (a1:Own hB h x (instObj 499 dx)) (a2:Own hB h dx (dictOf [en w "way" t1 (.str (Str.ofString "label") tk_a),en w "at" t2 .none,en w "name" t3 (.str v tk_b)] n)):LabelAt w hB h x v:=⟨dx,n,t1,t2,t3,tk_a,tk_b,a1,a2⟩
theorem LabelAt.el {w:World} {hB h:Heap} {x:Nat} {v:Str} {P:Prop} (a:LabelAt w hB h x v) (k:∀ (dx:Nat) (n:Nat) (t1 t2 t3 tk_a tk_b:Tok),Own hB h x (instObj 499 dx)→Own hB h dx (dictOf [en w "way" t1 (.str (Str.ofString "label") tk_a),en w "at" t2 .none,en w "name" t3 (.str v tk_b)] n)→P):P:=by
  obtain ⟨dx,n,t1,t2,t3,tk_a,tk_b,a1,a2⟩:=a
  exact k dx n t1 t2 t3 tk_a tk_b a1 a2
theorem new_Label {v:Str} {t:Tok} {R} (c:Cx w lse mg mb hB s.heap) (hd:dp≤780)
    (ret:∀ (x:Nat) h' tk,Ext s.heap h'→s.heap.get? x=none→LabelAt w s.heap h' x v→R (.ok (.ret (.ref x))) { s with heap:=h',toks:=tk }) :
    codeAny (model PG w) (Ar dp un fr gd) (.call (.ref 499) ⟨[.str v t,.none],[]⟩) R s:=zp (by simp(disch:=k_dflt(
  refine make c (by k_dflt k_is) (by k_dflt k_is) (by k_dflt k_is) ?_
  intro x dx h₁ e1 n1 n2 o1 o2 hne
  replace hne:@Ne Nat dx x:=hne
  have c0:=c
  replace c:=c.step e1
  refine' Yd [(x,instObj 499 dx),(dx,dictOf [] 0)] [(Str.ofString "self",.ref x),(Str.ofString "name",.str v t),(Str.ofString "at",.none)] c ?kf ?k6 ?k7 ?eb ?es ?k8 ?k9 ?kB ?c5 ?c2 ?c3 ?c4 ?_
  k_extra "e0"
  k_steps
  refine wpAny_call (stmt_init (C:=499) (x:=x) (dx:=dx) (cg.step F.keep) (by omega) (by omega) (Yv cg N (by k_mem)) (Yv cg N (by k_mem)) hne fun h2 tk2 t1 t2 k2 d2=>?_)
  have N9:=Yj (rest:=[(x,instObj 499 dx)]) N k2 (by k_mem) d2 (Yn (by k_extra "r"))
  replace F:=Yp F N k2 (by k_mem)
  clear N
  (rename News _ _ _ _=>N)
  k_steps
  k_extra "n"
  have kq:=kqo (ks:=[dx]) kp F N hfo (by k_extra "q")
  refine ⟨rfl,ret x _ _ (Yw e1 kq n2) n1 (.in_ ⟨N.get (by k_mem),n1⟩ ⟨N.get (by k_mem),n2⟩)⟩))only[↓zq])
def DeedAt (w:World) (hB h:Heap) (x:Nat) (v:Str) (l:Nat):Prop :=
  Ex8 fun (dx:Nat) (n:Nat) (t1 t2 t3 t4 tk_a tk_b:Tok)=>Own hB h x (instObj 523 dx)∧Own hB h dx (dictOf [en w "way" t1 (.str (Str.ofString "deed") tk_a),en w "at" t2 .none,en w "word" t3 (.str v tk_b),en w "args" t4 (.ref l)] n)
theorem DeedAt.in_ {w:World} {hB h:Heap} {x:Nat} {v:Str} {l:Nat} {dx:Nat} {n:Nat} {t1 t2 t3 t4 tk_a tk_b:Tok} (a1:Own hB h x (instObj 523 dx)) (a2:Own hB h dx (dictOf [en w "way" t1 (.str (Str.ofString "deed") tk_a),en w "at" t2 .none,en w "word" t3 (.str v tk_b),en w "args" t4 (.ref l)] n)):DeedAt w hB h x v l:=⟨dx,n,t1,t2,t3,t4,tk_a,tk_b,a1,a2⟩
theorem DeedAt.el {w:World} {hB h:Heap} {x:Nat} {v:Str} {l:Nat} {P:Prop} (a:DeedAt w hB h x v l) (k:∀ (dx:Nat) (n:Nat) (t1 t2 t3 t4 tk_a tk_b:Tok),Own hB h x (instObj 523 dx)→Own hB h dx (dictOf [en w "way" t1 (.str (Str.ofString "deed") tk_a),en w "at" t2 .none,en w "word" t3 (.str v tk_b),en w "args" t4 (.ref l)] n)→P):P:=by
  obtain ⟨dx,n,t1,t2,t3,t4,tk_a,tk_b,a1,a2⟩:=a
  exact k dx n t1 t2 t3 t4 tk_a tk_b a1 a2
theorem DeedAt.ob {w:World} {hB h:Heap} {x:Nat} {v:Str} {l:Nat} {P:Prop} (a:DeedAt w hB h x v l) (k:∀ (dx:Nat) (o:Obj),o.cls≠.type "list" → (∀ {hB h:Heap},Own hB h x (instObj 523 dx)→Own hB h dx o→DeedAt w hB h x v l)→Own hB h x (instObj 523 dx)→Own hB h dx o→P):P :=
  a.el fun dx n t1 t2 t3 t4 tk_a tk_b a1 a2=>k dx _ Za (fun b1 b2=>.in_ b1 b2) a1 a2
theorem new_Deed {v:Str} {l:Nat} {t:Tok} {R} (c:Cx w lse mg mb hB s.heap) (hd:dp≤780)
    (ret:∀ (x:Nat) h' tk,Ext s.heap h'→s.heap.get? x=none→DeedAt w s.heap h' x v l→R (.ok (.ret (.ref x))) { s with heap:=h',toks:=tk }) :
    codeAny (model PG w) (Ar dp un fr gd) (.call (.ref 523) ⟨[.str v t,.ref l,.none],[]⟩) R s:=zp (by simp(disch:=k_dflt(
  refine make c (by k_dflt k_is) (by k_dflt k_is) (by k_dflt k_is) ?_
  intro x dx h₁ e1 n1 n2 o1 o2 hne
  replace hne:@Ne Nat dx x:=hne
  have c0:=c
  replace c:=c.step e1
  refine' Yd [(x,instObj 523 dx),(dx,dictOf [] 0)] [(Str.ofString "self",.ref x),(Str.ofString "word",.str v t),(Str.ofString "args",.ref l),(Str.ofString "at",.none)] c ?kf ?k6 ?k7 ?eb ?es ?k8 ?k9 ?kB ?c5 ?c2 ?c3 ?c4 ?_
  k_extra "e0"
  k_steps
  refine wpAny_call (stmt_init (C:=523) (x:=x) (dx:=dx) (cg.step F.keep) (by omega) (by omega) (Yv cg N (by k_mem)) (Yv cg N (by k_mem)) hne fun h2 tk2 t1 t2 k2 d2=>?_)
  have N9:=Yj (rest:=[(x,instObj 523 dx)]) N k2 (by k_mem) d2 (Yn (by k_extra "r"))
  replace F:=Yp F N k2 (by k_mem)
  clear N
  (rename News _ _ _ _=>N)
  k_steps
  k_extra "n"
  have kq:=kqo (ks:=[dx]) kp F N hfo (by k_extra "q")
  refine ⟨rfl,ret x _ _ (Yw e1 kq n2) n1 (.in_ ⟨N.get (by k_mem),n1⟩ ⟨N.get (by k_mem),n2⟩)⟩))only[↓zq])
theorem z89_is:Mine.H.z89=Str.ofString "" := by kernel_rfl
noncomputable def nz (a b:Str):Str:=if a=b then Str.ofString "" else a
def AffineAt (w:World) (hB h:Heap) (x:Nat) (v:Int) (p m:Str):Prop :=
  Ex8 fun (dx:Nat) (n:Nat) (t1 t2 t3 tk_a tk_b tk_c:Tok)=>Own hB h x (instObj 352 dx)∧Own hB h dx (dictOf [en w "worth" t1 (.int v tk_a),en w "plus" t2 (.str p tk_b),en w "minus" t3 (.str m tk_c)] n)
theorem AffineAt.in_ {w:World} {hB h:Heap} {x:Nat} {v:Int} {p m:Str} {dx:Nat} {n:Nat} {t1 t2 t3 tk_a tk_b tk_c:Tok} (a1:Own hB h x (instObj 352 dx)) (a2:Own hB h dx (dictOf [en w "worth" t1 (.int v tk_a),en w "plus" t2 (.str p tk_b),en w "minus" t3 (.str m tk_c)] n)):AffineAt w hB h x v p m:=⟨dx,n,t1,t2,t3,tk_a,tk_b,tk_c,a1,a2⟩
theorem AffineAt.el {w:World} {hB h:Heap} {x:Nat} {v:Int} {p m:Str} {P:Prop} (a:AffineAt w hB h x v p m) (k:∀ (dx:Nat) (n:Nat) (t1 t2 t3 tk_a tk_b tk_c:Tok),Own hB h x (instObj 352 dx)→Own hB h dx (dictOf [en w "worth" t1 (.int v tk_a),en w "plus" t2 (.str p tk_b),en w "minus" t3 (.str m tk_c)] n)→P):P:=by
  obtain ⟨dx,n,t1,t2,t3,tk_a,tk_b,tk_c,a1,a2⟩:=a
  exact k dx n t1 t2 t3 tk_a tk_b tk_c a1 a2
theorem AffineAt.keep {w hB h h'} {x:Nat} {v:Int} {p m:Str} {ks:List Addr} (a:AffineAt w hB h x v p m) (e:Keep ks h h') (hn:∀ k∈ks,h.get? k=none∨∃ o,h.get? k=some o∧o.cls=.type "list"):AffineAt w hB h' x v p m :=
  a.el fun _ _ _ _ _ _ _ _ h1 h2=>.in_ (keepNL h1 e hn inst_nl) (keepNL h2 e hn Za)
theorem new_Affine3 {v:Int} {p m:Str} {t t2 t3:Tok} {R} (c:Cx w lse mg mb hB s.heap) (hd:dp≤780)
    (ret:∀ (x:Nat) h' tk,Ext s.heap h'→s.heap.get? x=none→AffineAt w s.heap h' x v (nz p m) (nz m p)→R (.ok (.ret (.ref x))) { s with heap:=h',toks:=tk }) :
    codeAny (model PG w) (Ar dp un fr gd) (.call (.ref 352) ⟨[.int v t,.str p t2,.str m t3],[]⟩) R s:=zp (by simp(disch:=k_dflt(
  refine make c (by k_dflt k_is) (by k_dflt k_is) (by k_dflt k_is) ?_
  intro x dx h₁ e1 n1 n2 o1 o2 hne
  replace hne:@Ne Nat dx x:=hne
  have c0:=c
  replace c:=c.step e1
  refine' Yd [(x,instObj 352 dx),(dx,dictOf [] 0)] [(Str.ofString "self",.ref x),(Str.ofString "worth",.int v t),(Str.ofString "plus",.str p t2),(Str.ofString "minus",.str m t3)] c ?kf ?k6 ?k7 ?eb ?es ?k8 ?k9 ?kB ?c5 ?c2 ?c3 ?c4 ?_
  k_extra "e0"
  k_steps
  all_goals
    (rename (_:Bool)=_=>hq)
    k_extra "n"
    have kq:=kqo (ks:=[dx]) kp F N hfo (by k_extra "q")
    refine ⟨rfl,ret x _ _ (Yw e1 kq n2) n1 ?_⟩
  · have q:p≠m:=by simpa using hq
    rw [nz,nz,if_neg q,if_neg (Ne.symm q)]
    exact .in_ ⟨N.get (by k_mem),n1⟩ ⟨N.get (by k_mem),n2⟩
  · have q:p=m:=by simpa using hq
    rw [nz,nz,if_pos q,if_pos q.symm]
    exact .in_ ⟨N.get (by k_mem),n1⟩ ⟨N.get (by k_mem),n2⟩))only[↓zq])
theorem new_Affine2 {v:Int} {p:Str} {t t2:Tok} {R} (c:Cx w lse mg mb hB s.heap) (hd:dp≤780)
    (ret:∀ (x:Nat) h' tk,Ext s.heap h'→s.heap.get? x=none→AffineAt w s.heap h' x v p (Str.ofString "")→R (.ok (.ret (.ref x))) { s with heap:=h',toks:=tk }) :
    codeAny (model PG w) (Ar dp un fr gd) (.call (.ref 352) ⟨[.int v t,.str p t2],[]⟩) R s:=zp (by simp(disch:=k_dflt(
  refine make c (by k_dflt k_is) (by k_dflt k_is) (by k_dflt k_is) ?_
  intro x dx h₁ e1 n1 n2 o1 o2 hne
  replace hne:@Ne Nat dx x:=hne
  have c0:=c
  replace c:=c.step e1
  refine' Yd [(x,instObj 352 dx),(dx,dictOf [] 0)] [(Str.ofString "self",.ref x),(Str.ofString "worth",.int v t),(Str.ofString "plus",.str p t2),(Str.ofString "minus",.str Mine.H.z89 581)] c ?kf ?k6 ?k7 ?eb ?es ?k8 ?k9 ?kB ?c5 ?c2 ?c3 ?c4 ?_
  k_extra "e0"
  simp only [z89_is] at F
  k_steps
  all_goals
    (rename (_:Bool)=_=>hq)
    k_extra "n"
    have kq:=kqo (ks:=[dx]) kp F N hfo (by k_extra "q")
    refine ⟨rfl,ret x _ _ (Yw e1 kq n2) n1 ?_⟩
  · exact .in_ ⟨N.get (by k_mem),n1⟩ ⟨N.get (by k_mem),n2⟩
  · have q:p=Str.ofString "" := by simpa using hq
    rw [q]
    exact .in_ ⟨N.get (by k_mem),n1⟩ ⟨N.get (by k_mem),n2⟩))only[↓zq])
theorem new_Affine1 {v:Int} {t:Tok} {R} (c:Cx w lse mg mb hB s.heap) (hd:dp≤780)
    (ret:∀ (x:Nat) h' tk,Ext s.heap h'→s.heap.get? x=none→AffineAt w s.heap h' x v (Str.ofString "") (Str.ofString "")→R (.ok (.ret (.ref x))) { s with heap:=h',toks:=tk }) :
    codeAny (model PG w) (Ar dp un fr gd) (.call (.ref 352) ⟨[.int v t],[]⟩) R s:=zp (by simp(disch:=k_dflt(
  refine make c (by k_dflt k_is) (by k_dflt k_is) (by k_dflt k_is) ?_
  intro x dx h₁ e1 n1 n2 o1 o2 hne
  replace hne:@Ne Nat dx x:=hne
  have c0:=c
  replace c:=c.step e1
  refine' Yd [(x,instObj 352 dx),(dx,dictOf [] 0)] [(Str.ofString "self",.ref x),(Str.ofString "worth",.int v t),(Str.ofString "plus",.str Mine.H.z89 580),(Str.ofString "minus",.str Mine.H.z89 581)] c ?kf ?k6 ?k7 ?eb ?es ?k8 ?k9 ?kB ?c5 ?c2 ?c3 ?c4 ?_
  k_extra "e0"
  simp only [z89_is] at F
  k_steps
  k_extra "n"
  have kq:=kqo (ks:=[dx]) kp F N hfo (by k_extra "q")
  exact ⟨rfl,ret x _ _ (Yw e1 kq n2) n1 (.in_ ⟨N.get (by k_mem),n1⟩ ⟨N.get (by k_mem),n2⟩)⟩))only[↓zq])
theorem row3:True:=by
  k_with "k_inst" => (refine' inst_base (by k_asm) (by assumption) (by assumption))
  trivial
theorem ne_len {A:Around} {l b:Addr} {items items2:Array Value} (hl:s.heap.IsList l items) (hb:s.heap.IsList b items2) (hsz:(items.size != items2.size)=true) (hu:A.units<cLine) (h:Q (.bool true) s) :
    wpAny (model PG w) A (compareOp .NotEq (.ref l) (.ref b)) Q E s:=cmp_ofNotEq (PySem.SeqAt.RcNeAt.lists_lengths hl hb hsz hu _ _ _ _ h)
theorem ne_nil {A:Around} {l b:Addr} (hl:s.heap.IsList l #[]) (hb:s.heap.IsList b #[]) (hu:A.units<cLine) (h:Q (.bool false) s) :
    wpAny (model PG w) A (compareOp .NotEq (.ref l) (.ref b)) Q E s :=
  cmp_ofNotEq (PySem.SeqAt.RcNeAt.lists (e:=fun _=>true) hl hb rfl hu (fun j h1=>absurd h1 (by simp)) _ _ _ _ h)
theorem remove_one {A:Around} {g:Heap} {L D:Addr} {m:Str→Option Value} {news news':List (Addr×Obj)} {x y:Str} {t u:Tok} {n:Nat} (F:Fr g L s.heap m) (N:News g L s.heap news) (hxy:x=y)
    (U:Upd D { cls:=.type "list",data:=.seq #[.str x t] n } { cls:=.type "list",data:=.seq #[] (n+1) } news news')
    (h:∀ h',Fr g L h' m→News g L h' news'→Q .none { s with heap:=h' }):wpAny (model PG w) A (call (.builtin "list.remove") [.ref D,.str y u]) Q E s:=zp (by simp(disch:=k_dflt(
  subst hxy
  refine absG fun _ kQ=>?_
  obtain ⟨pre,post,rfl,rfl,h1,h2⟩:=U.split
  refine kQ ?_
  clear kQ
  have hD:=N.get (List.mem_append_right _ (.head _))
  refine call_meets PySem.F.slot_list_remove ⟨_,hD,rfl⟩ PySem.F.entry_list_remove (PySem.F.args_list_remove_2 _ _) (PySem.MeetsSeq.list_remove D #[.str x t] n (.str x u) (fun v=>match v with | .str z _=>z.cps.toList == x.cps.toList | _=>false) (fun v hv=>?_) 0 (by simp) (by simp) (fun m hm h=>absurd h (Nat.not_lt_zero _)) (by rw [sizeLine_eq];simp)) ⟨hD,?_⟩
  · obtain rfl:v=.str x t:=by simpa using hv
    exact PySem.SeqRoads2.EqGives.str _ _ _ _
  · have z:=news_upd F N h1 h2 (f:=Obj.mapSeq fun xs=>xs.eraseIdxIfInBounds 0) (o':={ cls:=.type "list",data:=.seq #[] (n+1) }) (by simp [Obj.mapSeq,Array.eraseIdxIfInBounds]) rfl
    exact h _ z.1 z.2))only[↓zq])
theorem late0_L4:True:=by
  k_with ".compareOp NotEq ref ref" => ((fail_if_success have:=@off0);(k_here;(with_reducible show wpAny _ _ (compareOp CmpOp.NotEq (Value.ref _) (Value.ref _)) _ _ _);k_dflt (first | refine @ne_nil _ _ _ _ _ _ _ (by is_list) (by is_list) (by first | omega | (simp only [cLine];omega)) ?_ | refine @ne_len _ _ _ _ _ _ _ _ _ (by is_list) (by is_list) (by first | exact rfl | decide) (by first | omega | (simp only [cLine];omega)) ?_)))
  trivial
theorem late1_L4:True:=by
  k_with ".subscriptTail Name Constant ref int" => ((fail_if_success have:=@off0);(k_here;(with_reducible show wpAny _ _ (subscriptTail _ _ (Value.ref _) (Value.int _ _)) _ _ _);kim_at))
  trivial
theorem late2_L4:True:=by
  k_with ".call builtin:list.remove" => ((fail_if_success have:=@off0);(k_here;k_dflt (refine' @remove_one _ _ _ _ _ _ _ _ _ _ _ _ _ _ _ _ (by k_asm) (by k_asm) ?_ (by k_upd) ?_;(· (simp_all;done));k_whole);intro _ _ _;(try k_sweep)))
  trivial
theorem isnum_t {x:Nat} {v:Int} {R} (c:Cx w lse mg mb hB s.heap) (hd:dp≤780) (a:AffineAt w h0 s.heap x v (Str.ofString "") (Str.ofString ""))
    (ret:∀ h' tk,Ext s.heap h'→R (.ok (.ret (.bool true))) { s with heap:=h',toks:=tk }) :
    codeAny (model PG w) (Ar dp un fr gd) (.call (.ref 321) ⟨[.ref x],[]⟩) R s:=zp (by simp(disch:=k_dflt(
  refine a.el fun dx n t1 t2 t3 ta tb tc a1 a2=>?_
  refine' Yd [] [(Str.ofString "self",.ref x)] c ?kf ?k6 ?k7 ?eb ?es ?k8 ?k9 ?kB ?c5 ?c2 ?c3 ?c4 ?_
  k_extra "e0"
  have b1:=kp _ _ (by simp) a1.1
  have b2:=kp _ _ (by simp) a2.1
  k_steps
  k_extra "n"
  exact ret _ _ (Yg kp F rfl)))only[↓zq])
theorem isnum_f {x:Nat} {v:Int} {p m:Str} {R} (c:Cx w lse mg mb hB s.heap) (hd:dp≤780) (a:AffineAt w h0 s.heap x v p m) (hp:(p == Str.ofString "")=false)
    (ret:∀ h' tk,Ext s.heap h'→R (.ok (.ret (.bool false))) { s with heap:=h',toks:=tk }) :
    codeAny (model PG w) (Ar dp un fr gd) (.call (.ref 321) ⟨[.ref x],[]⟩) R s:=zp (by simp(disch:=k_dflt(
  refine a.el fun dx n t1 t2 t3 ta tb tc a1 a2=>?_
  refine' Yd [] [(Str.ofString "self",.ref x)] c ?kf ?k6 ?k7 ?eb ?es ?k8 ?k9 ?kB ?c5 ?c2 ?c3 ?c4 ?_
  k_extra "e0"
  have b1:=kp _ _ (by simp) a1.1
  have b2:=kp _ _ (by simp) a2.1
  k_steps
  k_extra "n"
  try dsimp only
  rw [hp]
  exact ret _ _ (Yg kp F rfl)))only[↓zq])
theorem AffineAt.down {h0 h1 h:Heap} {x:Nat} {v:Int} {p m:Str} (a:AffineAt w h1 h x v p m) (e:Ext h0 h1):AffineAt w h0 h x v p m:=by
  refine a.el fun dx n t1 t2 t3 tk_a tk_b tk_c a1 a2=>?_
  exact (.in_ ⟨a1.1,Yf e a1.2⟩ ⟨a2.1,Yf e a2.2⟩)
theorem negate_spec {x:Nat} {v:Int} {p m:Str} {R} (c:Cx w lse mg mb hB s.heap) (hd:dp≤770) (a:AffineAt w h0 s.heap x v p m)
    (ret:∀ (y:Nat) h' tk,Ext s.heap h'→s.heap.get? y=none→AffineAt w s.heap h' y (-v) (nz m p) (nz p m)→R (.ok (.ret (.ref y))) { s with heap:=h',toks:=tk }) :
    codeAny (model PG w) (Ar dp un fr gd) (.call (.ref 335) ⟨[.ref x],[]⟩) R s:=zp (by simp(disch:=k_dflt(
  refine a.el fun dx n t1 t2 t3 ta tb tc a1 a2=>?_
  refine' Yd [] [(Str.ofString "self",.ref x)] c ?kf ?k6 ?k7 ?eb ?es ?k8 ?k9 ?kB ?c5 ?c2 ?c3 ?c4 ?_
  k_extra "e0"
  have b1:=kp _ _ (by simp) a1.1
  have b2:=kp _ _ (by simp) a2.1
  k_steps
  have Fk:=F
  refine wpAny_call (new_Affine3 (cg.step F.keep) (by omega) fun y h2 tk2 e2 n2 a2=>?_)
  have n3:=Yh kp (Yf F.keep n2) (by simp)
  replace F:=Ye F e2
  replace N:=Ya N e2
  try dsimp only
  k_steps
  exact ret y _ _ (Yg kp F rfl) n3 (a2.down (Yg kp Fk rfl))))only[↓zq])
theorem affine_of_spec {v:Int} {one other:Str} {l1 l2:Nat} {ta tb tc td te:Tok} {R} (c:Cx w lse mg mb hB s.heap) (hd:dp≤770) (hu:un≤5000) (h1:(one != Str.ofString "")=true) (h2:(other != Str.ofString "")=true)
    (a1:Own hB s.heap l1 (lst [.str one ta,.str (Str.ofString "") tb] 0)) (a2:Own hB s.heap l2 (lst [.str (Str.ofString "") tc,.str other td] 0))
    (ret:∀ (y:Nat) h' tk,Ext s.heap h'→s.heap.get? y=none→AffineAt w s.heap h' y v (nz one other) (nz other one)→R (.ok (.ret (.ref y))) { s with heap:=h',toks:=tk }) :
    codeAny (model PG w) (Ar dp un fr gd) (.call (.ref 361) ⟨[.int v te,.ref l1,.ref l2],[]⟩) R s:=zp (by simp(disch:=k_dflt(
  refine' Yd [(l1,lst [.str one ta,.str (Str.ofString "") tb] 0),(l2,lst [.str (Str.ofString "") tc,.str other td] 0)] [(Str.ofString "worth",.int v te),(Str.ofString "pluses",.ref l1),(Str.ofString "minuses",.ref l2)] c ?kf ?k6 ?k7 ?eb ?es ?k8 ?k9 ?kB ?c5 ?c2 ?c3 ?c4 ?_
  k_extra "e0"
  k_steps
  · (rename (_:Bool)=_=>hq)
    k_extra "n"
    have kq:=kqo (ks:=[]) kp F N hfo (by k_extra "q")
    refine wpAny_call (new_Affine3 (cg.step F.keep) (by omega) fun y h2 tk2 e2 n2 a3=>?_)
    try dsimp only
    k_steps
    have q:one=other:=by simpa using hq
    subst q
    have z:nz one one=nz (Str.ofString "") (Str.ofString ""):=by simp [nz]
    rw [← z] at a3
    exact ret y _ _ (kq.ext.trans e2) (Yf kq.ext n2) (a3.down kq.ext)
  · skip
    k_extra "n"
    have kq:=kqo (ks:=[]) kp F N hfo (by k_extra "q")
    refine wpAny_call (new_Affine3 (cg.step F.keep) (by omega) fun y h2 tk2 e2 n2 a3=>?_)
    try dsimp only
    k_steps
    exact ret y _ _ (kq.ext.trans e2) (Yf kq.ext n2) (a3.down kq.ext)))only[↓zq])
theorem off0:True:=trivial
theorem row4:True:=by
  k_with ".exec While" => (k_here;k_dflt (refine whl_start 20 ?_))
  k_with ".exec While Compare" => (k_here;k_dflt (refine whl_start 20 ?_))
  k_with ".exec While BoolOp" => (k_here;k_dflt (refine whl_start 20 ?_))
  trivial
def ScopeAt (w:World) (hB h:Heap) (x d:Nat):Prop :=
  ∃ (dx:Nat) (n:Nat) (t1:Tok),Own hB h x (instObj 400 dx)∧Own hB h dx (dictOf [en w "equates" t1 (.ref d)] n)
theorem new_Scope {d:Nat} {R} (c:Cx w lse mg mb hB s.heap) (hd:dp≤780)
    (ret:∀ (x:Nat) h' tk,Ext s.heap h'→s.heap.get? x=none→ScopeAt w s.heap h' x d→R (.ok (.ret (.ref x))) { s with heap:=h',toks:=tk }) :
    codeAny (model PG w) (Ar dp un fr gd) (.call (.ref 400) ⟨[.ref d],[]⟩) R s:=zp (by simp(disch:=k_dflt(
  refine make c (by k_dflt k_is) (by k_dflt k_is) (by k_dflt k_is) ?_
  intro x dx h₁ e1 n1 n2 o1 o2 hne
  replace hne:@Ne Nat dx x:=hne
  have c0:=c
  replace c:=c.step e1
  refine' Yd [(x,instObj 400 dx),(dx,dictOf [] 0)] [(Str.ofString "self",.ref x),(Str.ofString "equates",.ref d)] c ?kf ?k6 ?k7 ?eb ?es ?k8 ?k9 ?kB ?c5 ?c2 ?c3 ?c4 ?_
  k_extra "e0"
  k_steps
  k_extra "n"
  have kq:=kqo (ks:=[dx]) kp F N hfo (by k_extra "q")
  exact ⟨rfl,ret x _ _ (Yw e1 kq n2) n1 ⟨dx,_,_,⟨N.get (by k_mem),n1⟩,⟨N.get (by k_mem),n2⟩⟩⟩))only[↓zq])
theorem spine_symbol {x:Nat} {v:Str} {R} (c:Cx w lse mg mb hB s.heap) (hd:dp≤780) (hu:un≤5000) (a:SymbolAt w h0 s.heap x v)
    (ret:∀ (y l:Nat) h' tk k,Ext s.heap h'→s.heap.get? y=none→s.heap.get? l=none→h'.get? y=some (tupO [.ref x,.ref l])→h'.get? l=some (lst [] k)→R (.ok (.ret (.ref y))) { s with heap:=h',toks:=tk }) :
    codeAny (model PG w) (Ar dp un fr gd) (.call (.ref 292) ⟨[.ref x],[]⟩) R s:=zp (by simp(disch:=k_dflt(
  refine a.el fun dx n t1 t2 ta tb a1 a2=>?_
  refine' Yd [] [(Str.ofString "node",.ref x)] c ?kf ?k6 ?k7 ?eb ?es ?k8 ?k9 ?kB ?c5 ?c2 ?c3 ?c4 ?_
  k_extra "e0"
  have b1:=kp _ _ (by simp) a1.1
  have b2:=kp _ _ (by simp) a2.1
  k_steps
  k_extra "n"
  exact ret _ _ _ _ _ (Yg kp F rfl) (Yh kp (N _ (.head _)).2.2 (by simp)) (Yh kp (N _ (.tail _ (.head _))).2.2 (by simp)) (N _ (.head _)).1 (N _ (.tail _ (.head _))).1))only[↓zq])
theorem spine_number {x:Nat} {v:Int} {R} (c:Cx w lse mg mb hB s.heap) (hd:dp≤780) (hu:un≤5000) (a:NumberAt w h0 s.heap x v)
    (ret:∀ (y l:Nat) h' tk k,Ext s.heap h'→s.heap.get? y=none→s.heap.get? l=none→h'.get? y=some (tupO [.ref x,.ref l])→h'.get? l=some (lst [] k)→R (.ok (.ret (.ref y))) { s with heap:=h',toks:=tk }) :
    codeAny (model PG w) (Ar dp un fr gd) (.call (.ref 292) ⟨[.ref x],[]⟩) R s:=zp (by simp(disch:=k_dflt(
  refine a.el fun dx n t1 t2 ta tb a1 a2=>?_
  refine' Yd [] [(Str.ofString "node",.ref x)] c ?kf ?k6 ?k7 ?eb ?es ?k8 ?k9 ?kB ?c5 ?c2 ?c3 ?c4 ?_
  k_extra "e0"
  have b1:=kp _ _ (by simp) a1.1
  have b2:=kp _ _ (by simp) a2.1
  k_steps
  k_extra "n"
  exact ret _ _ _ _ _ (Yg kp F rfl) (Yh kp (N _ (.head _)).2.2 (by simp)) (Yh kp (N _ (.tail _ (.head _))).2.2 (by simp)) (N _ (.head _)).1 (N _ (.tail _ (.head _))).1))only[↓zq])
theorem spine_binary {x l r:Nat} {sg v:Str} {R} (c:Cx w lse mg mb hB s.heap) (hd:dp≤780) (hu:un≤5000) (a:BinaryAt w h0 s.heap x sg l r) (al:SymbolAt w h0 s.heap l v)
    (ret:∀ (y q:Nat) h' tk k,Ext s.heap h'→s.heap.get? y=none→s.heap.get? q=none→h'.get? y=some (tupO [.ref l,.ref q])→h'.get? q=some (lst [.ref x] k)→R (.ok (.ret (.ref y))) { s with heap:=h',toks:=tk }) :
    codeAny (model PG w) (Ar dp un fr gd) (.call (.ref 292) ⟨[.ref x],[]⟩) R s:=zp (by simp(disch:=k_dflt(
  refine a.el fun dx n t1 t2 t3 t4 ta tb a1 a2=>?_
  refine al.el fun dl nl u1 u2 ua ub a3 a4=>?_
  refine' Yd [] [(Str.ofString "node",.ref x)] c ?kf ?k6 ?k7 ?eb ?es ?k8 ?k9 ?kB ?c5 ?c2 ?c3 ?c4 ?_
  k_extra "e0"
  have b1:=kp _ _ (by simp) a1.1
  have b2:=kp _ _ (by simp) a2.1
  have b3:=kp _ _ (by simp) a3.1
  have b4:=kp _ _ (by simp) a4.1
  k_steps
  k_extra "n"
  exact ret _ _ _ _ _ (Yg kp F rfl) (Yh kp (N _ (.head _)).2.2 (by simp)) (Yh kp (N _ (.tail _ (.head _))).2.2 (by simp)) (N _ (.head _)).1 (N _ (.tail _ (.head _))).1))only[↓zq])
theorem add_spec {x y:Nat} {v u:Int} {one other:Str} {R} (c:Cx w lse mg mb hB s.heap) (hd:dp≤760) (hu:un≤4900) (h1:(one != Str.ofString "")=true) (h2:(other != Str.ofString "")=true) (hv:v=0) (hu':u=0)
    (a:AffineAt w h0 s.heap x v one (Str.ofString "")) (b:AffineAt w h0 s.heap y u (Str.ofString "") other)
    (ret:∀ (y:Nat) h' tk,Ext s.heap h'→s.heap.get? y=none→AffineAt w s.heap h' y (v+u) (nz one other) (nz other one)→R (.ok (.ret (.ref y))) { s with heap:=h',toks:=tk }) :
    codeAny (model PG w) (Ar dp un fr gd) (.call (.ref 342) ⟨[.ref x,.ref y],[]⟩) R s:=zp (by simp(disch:=k_dflt(
  refine a.el fun dx n t1 t2 t3 ta tb tc a1 a2=>?_
  refine b.el fun dy n' u1 u2 u3 ua ub uc a3 a4=>?_
  refine' Yd [] [(Str.ofString "self",.ref x),(Str.ofString "other",.ref y)] c ?kf ?k6 ?k7 ?eb ?es ?k8 ?k9 ?kB ?c5 ?c2 ?c3 ?c4 ?_
  k_extra "e0"
  have b1:=kp _ _ (by simp) a1.1
  have b2:=kp _ _ (by simp) a2.1
  have b3:=kp _ _ (by simp) a3.1
  have b4:=kp _ _ (by simp) a4.1
  k_steps
  k_extra "n"
  subst hv
  subst hu'
  have Fk:=F.keep
  have ek:=Yg kp F rfl
  refine wpAny_call (affine_of_spec (cg.step F.keep) (by omega) (by omega) h1 h2 (Yv cg N (.tail _ (.head _))) (Yv cg N (.head _)) fun y h2 tk2 e2 n2 a9=>?_)
  replace F:=Ye F e2
  replace N:=Ya N e2
  try dsimp only
  k_steps
  exact ret y _ _ (Yg kp F rfl) (Yh kp (Yf Fk n2) (by simp)) (a9.down ek)))only[↓zq])
def DAt (w:World) (h:Heap) (d:Nat) (kvs:List (Str×Value)):Prop:=(@BEq.beq Addr _ d sysModules)=false∧∃ o:Obj,h.get? d=some o∧o.IsDictOf (PySem.strKind PG w) kvs
theorem DAt.dict {h:Heap} {d:Nat} {kvs} (T:DAt w h d kvs):h.DictOf (PySem.strKind PG w) d kvs:=Heap.dictOf_iff.mpr T.2
theorem DAt.ext {h h':Heap} {d:Nat} {kvs} (T:DAt w h d kvs) (e:Ext h h'):DAt w h' d kvs:=⟨T.1,by obtain ⟨_,o,a,b⟩:=T;exact ⟨o,e _ _ a,b⟩⟩
theorem DAt.keep {h h':Heap} {d:Nat} {kvs} {ks} (T:DAt w h d kvs) (e:Keep ks h h') (n:(d:Addr) ∉ ks):DAt w h' d kvs:=⟨T.1,by obtain ⟨_,o,a,b⟩:=T;exact ⟨o,e _ _ n a,b⟩⟩
theorem DAt.ofFr {g h:Heap} {L:Addr} {m} {d:Nat} {kvs} (T:DAt w g d kvs) (F:Fr g L h m):DAt w h d kvs:=T.ext F.keep
theorem DAt.ofN {g h:Heap} {L:Addr} {news} {o:Obj} {d:Nat} {kvs} (N:News g L h news) (hm:(d,o)∈news) (lo:(@BEq.beq Addr _ d sysModules)=false) (hd:o.IsDictOf (PySem.strKind PG w) kvs):DAt w h d kvs:=⟨lo,o,(N _ hm).1,hd⟩
theorem ScopeAt.keep {h h':Heap} {x d:Nat} {ks:List Addr} (a:ScopeAt w hB h x d) (e:Keep ks h h') (hn:∀ k∈ks,h.get? k=none∨∃ o,h.get? k=some o∧o.cls=.type "list"):ScopeAt w hB h' x d := 
  absG fun _ kQ=>a.elim fun dx b=>b.elim fun n c=>c.elim fun t1 q=>kQ ⟨dx,n,t1,keepNL q.1 e hn inst_nl,keepNL q.2 e hn Za⟩
theorem NumberAt.xkeep {h h':Heap} {x:Nat} {v:Int} (a:NumberAt w hB h x v) (e:Ext h h'):NumberAt w hB h' x v:=a.keep (e.keep []) (by simp)
theorem SymbolAt.xkeep {h h':Heap} {x:Nat} {v:Str} (a:SymbolAt w hB h x v) (e:Ext h h'):SymbolAt w hB h' x v:=a.keep (e.keep []) (by simp)
theorem BinaryAt.xkeep {h h':Heap} {x:Nat} {sg:Str} {l r:Nat} (a:BinaryAt w hB h x sg l r) (e:Ext h h'):BinaryAt w hB h' x sg l r:=a.keep (e.keep []) (by simp)
theorem OctetsAt.xkeep {h h':Heap} {x:Nat} {b:Array UInt8} {l:Nat} (a:OctetsAt w hB h x b l) (e:Ext h h'):OctetsAt w hB h' x b l:=a.keep (e.keep []) (by simp)
theorem OctetsAt.down {h0 h1 h:Heap} {x:Nat} {b:Array UInt8} {l:Nat} (a:OctetsAt w h1 h x b l) (e:Ext h0 h1):OctetsAt w h0 h x b l:=by
  refine a.el fun dx n t1 t2 t3 t4 tk_a tk_b a1 a2=>?_
  exact (.in_ ⟨a1.1,Yf e a1.2⟩ ⟨a2.1,Yf e a2.2⟩)
theorem AlignAt.xkeep {h h':Heap} {x:Nat} {v:Int} {b:Bool} (a:AlignAt w hB h x v b) (e:Ext h h'):AlignAt w hB h' x v b:=a.keep (e.keep []) (by simp)
theorem AlignAt.down {h0 h1 h:Heap} {x:Nat} {v:Int} {b:Bool} (a:AlignAt w h1 h x v b) (e:Ext h0 h1):AlignAt w h0 h x v b:=by
  refine a.el fun dx n t1 t2 t3 t4 tk_a tk_b a1 a2=>?_
  exact (.in_ ⟨a1.1,Yf e a1.2⟩ ⟨a2.1,Yf e a2.2⟩)
theorem OrgAt.xkeep {h h':Heap} {x:Nat} {l:Nat} (a:OrgAt w hB h x l) (e:Ext h h'):OrgAt w hB h' x l:=a.keep (e.keep []) (by simp)
theorem OrgAt.down {h0 h1 h:Heap} {x:Nat} {l:Nat} (a:OrgAt w h1 h x l) (e:Ext h0 h1):OrgAt w h0 h x l:=by
  refine a.el fun dx n t1 t2 t3 tk_a a1 a2=>?_
  exact (.in_ ⟨a1.1,Yf e a1.2⟩ ⟨a2.1,Yf e a2.2⟩)
theorem SpaceAt.xkeep {h h':Heap} {x:Nat} {v u:Int} (a:SpaceAt w hB h x v u) (e:Ext h h'):SpaceAt w hB h' x v u:=a.keep (e.keep []) (by simp)
theorem SpaceAt.down {h0 h1 h:Heap} {x:Nat} {v u:Int} (a:SpaceAt w h1 h x v u) (e:Ext h0 h1):SpaceAt w h0 h x v u:=by
  refine a.el fun dx n t1 t2 t3 t4 tk_a tk_b tk_c a1 a2=>?_
  exact (.in_ ⟨a1.1,Yf e a1.2⟩ ⟨a2.1,Yf e a2.2⟩)
theorem LebAt.xkeep {h h':Heap} {x:Nat} {l:Nat} {b:Bool} (a:LebAt w hB h x l b) (e:Ext h h'):LebAt w hB h' x l b:=a.keep (e.keep []) (by simp)
theorem LebAt.down {h0 h1 h:Heap} {x:Nat} {l:Nat} {b:Bool} (a:LebAt w h1 h x l b) (e:Ext h0 h1):LebAt w h0 h x l b:=by
  refine a.el fun dx n t1 t2 t3 t4 tk_a a1 a2=>?_
  exact (.in_ ⟨a1.1,Yf e a1.2⟩ ⟨a2.1,Yf e a2.2⟩)
theorem AffineAt.xkeep {h h':Heap} {x:Nat} {v:Int} {p m:Str} (a:AffineAt w hB h x v p m) (e:Ext h h'):AffineAt w hB h' x v p m:=a.keep (e.keep []) (by simp)
theorem AffineAt.newsE {g h1 h':Heap} {L:Addr} {mm:Str→Option Value} {news:List (Addr×Obj)} {x:Nat} {v:Int} {p m:Str} (F:Fr g L h1 mm) (N:News g L h' news) (a:AffineAt w h1 h' x v p m) {P:Prop} (k:∀ (dx:Nat) (n:Nat) (t1 t2 t3 tk_a tk_b tk_c:Tok),News g L h' ((dx,dictOf [en w "worth" t1 (.int v tk_a),en w "plus" t2 (.str p tk_b),en w "minus" t3 (.str m tk_c)] n)::(x,instObj 352 dx)::news)→P):P :=
  a.el fun dx n t1 t2 t3 tk_a tk_b tk_c a1 a2=>k dx n t1 t2 t3 tk_a tk_b tk_c (Yb F (Yb F N a1.2 a1.1) a2.2 a2.1)
theorem AffineAt.ofN {h0 g h:Heap} {L:Addr} {news:List (Addr×Obj)} {x:Nat} {dx n:Nat} {t1 t2 t3 tk_a tk_b tk_c:Tok} {v:Int} {p m:Str} (kp:Keep [] h0 g) (N:News g L h news) (m1:(x,instObj 352 dx)∈news) (m2:(dx,dictOf [en w "worth" t1 (.int v tk_a),en w "plus" t2 (.str p tk_b),en w "minus" t3 (.str m tk_c)] n)∈news):AffineAt w h0 h x v p m :=
  (.in_ ⟨N.get m1,Yf kp.ext (N _ m1).2.2⟩ ⟨N.get m2,Yf kp.ext (N _ m2).2.2⟩)
theorem AffineAt.ofNB {g h:Heap} {L:Addr} {news:List (Addr×Obj)} {x:Nat} {dx n:Nat} {t1 t2 t3 tk_a tk_b tk_c:Tok} {v:Int} {p m:Str} (cg:Cx w lse mg mb hB g) (N:News g L h news) (m1:(x,instObj 352 dx)∈news) (m2:(dx,dictOf [en w "worth" t1 (.int v tk_a),en w "plus" t2 (.str p tk_b),en w "minus" t3 (.str m tk_c)] n)∈news):AffineAt w h0 h x v p m :=
  (.in_ ⟨N.get m1,rfl⟩ ⟨N.get m2,rfl⟩)
theorem ScopeAt.xkeep {h h':Heap} {x:Nat} {d:Nat} (a:ScopeAt w hB h x d) (e:Ext h h'):ScopeAt w hB h' x d:=a.keep (e.keep []) (by simp)
theorem in_D {A:Around} {d:Nat} {kvs} {k:Str} {t:Tok} (T:DAt w s.heap d kvs) (b:Bool) (hb:(valueAt kvs k).isSome=b) (h:Q (.bool b) { s with toks:=s.toks+1 }) :
    wpAny (model PG w) A (compareOp .In (.str k t) (.ref d)) Q E s:=wpAny_in_of (PySem.strKind_is _ _ _ _) T.1 T.dict.mapOf (by rw [hb];exact h)
theorem notin_D {A:Around} {d:Nat} {kvs} {k:Str} {t:Tok} (T:DAt w s.heap d kvs) (b:Bool) (hb:(valueAt kvs k).isSome=b) (h:Q (.bool (!b)) { s with toks:=s.toks+1 }) :
    wpAny (model PG w) A (compareOp .NotIn (.str k t) (.ref d)) Q E s:=wpAny_notIn_of (PySem.strKind_is _ _ _ _) T.1 T.dict.mapOf (by rw [hb];exact h)
theorem item_D {A:Around} {d:Nat} {kvs} {k:Str} {t:Tok} {v:Value} {value slice:PySem.Expr} (T:DAt w s.heap d kvs) (hl:valueAt kvs k=some v) (h:Q v { s with toks:=s.toks+1 })
    (hs:subscripted slice false (.ref d) (.str k t)=operate [.ref d,.str k t] (getItem (.ref d) (.str k t)):=by with_unfolding_all rfl) (hg:∀ r,letTemporaryGo value (.ref d) r=pure ():=by intro _;with_unfolding_all rfl) :
    wpAny (model PG w) A (subscriptTail value slice (.ref d) (.str k t)) Q E s :=
  PyProof.Rows.subscriptTail_builtin T.dict.typeIs slot_dict_getitem.lookup (wpAny_getItem_of (PySem.strKind_is _ _ _ _) T.dict.mapOf hl h) hs hg
theorem len_D {A:Around} {d:Nat} {kvs} (T:DAt w s.heap d kvs) (hfit:kvs.length≤16777216) (h:Q (.int kvs.length (s.toks+1)) { s with toks:=s.toks+1+1 }) :
    wpAny (model PG w) A (call (.builtin "len") [.ref d]) Q E s:=call_len_dict T.1 T.dict (by omega) h
theorem getItem_D {A:Around} {d:Nat} {kvs} {k:Str} {t:Tok} {v:Value} (T:DAt w s.heap d kvs) (hl:valueAt kvs k=some v) (h:Q v { s with toks:=s.toks+1 }):wpAny (model PG w) A (getItem (.ref d) (.str k t)) Q E s :=
  wpAny_getItem_of (PySem.strKind_is _ _ _ _) T.dict.mapOf hl h
theorem Yi {h:Heap} {a b:Nat} {o:Obj} (e:h.get? a=some o) (n:h.get? b=none):@Ne Nat a b:=fun q=>by
  have q':(a:Addr)=b:=q
  rw [q',n] at e
  cases e
theorem fresh2 {h g h₁:Heap} {x a b:Nat} (kp:Keep [a,b] h g) (e:∀ c o,g.get? c=some o→h₁.get? c=some o) (n:h₁.get? x=none) (h1:@Ne Nat a x) (h2:@Ne Nat b x):h.get? x=none :=
  Yh kp (Yf e n) (by
    intro hm
    rcases List.mem_cons.mp hm with q | hm
    · exact h1 q.symm
    · exact h2 (List.mem_singleton.mp hm).symm)
theorem lst_push {vs:List Value} {v:Value} {n:Nat}:PySem.W.listOf (vs.toArray.push v) n=lst (vs++[v]) n:=by simp [PySem.W.listOf,lst]
theorem len_L {A:Around} {l:Addr} {items:Array Value} (hl:s.heap.IsList l items) (hz:items.size≤16384) (h:Q (.int (items.size:Int) (s.toks+1)) { s with toks:=s.toks+1+1 }) :
    wpAny (model PG w) A (call (.builtin "len") [.ref l]) Q E s:=kun_lenL hl rfl (by omega) h
theorem pick_run {vs:List Value} {a b:Nat} (h1:a≤b) (h2:b≤vs.length):slicePick vs.toArray (some (a:Int)) (some (b:Int)) none=((vs.drop a).take (b - a)).toArray:=zp (by simp(disch:=k_dflt(
  have e:sliceBounds (some (a:Int)) (some (b:Int)) none vs.toArray.size=((a:Int),(b:Int),1):=by
    rw [List.size_toArray]
    simp only [sliceBounds,Option.getD_none,show (1:Int) > 0 by decide,if_true,if_neg (show ¬ ((a:Int)<0) by omega),if_neg (show ¬ ((b:Int)<0) by omega)]
    have mx:∀ {c n:Nat},c≤n→max 0 (min (c:Int) (n:Int))=(c:Int):=fun {c n} h=>by
      rw [Int.min_eq_left (Int.ofNat_le.mpr h)]
      exact Int.max_eq_right (Int.natCast_nonneg c)
    rw [mx (Nat.le_trans h1 h2),mx h2]
  exact kmk_pick_nat vs.toArray e))only[↓zq])
section
variable {A:Around} {h₀:Heap} {env:Env} {target:PySem.Expr} {body:List Stmt} {QF:Flow→Shared→Prop}
theorem items_ind {I:Nat} {keep news0:List (Addr×Obj)} (J:List Value→(Str→Option Value)→Prop)
    (hK:∀ n',(∀ p∈news0,p∈n')→SubL keep n')
    (zero:∀ m h tk,J [] m→Fr h₀ env.locals h m→News h₀ env.locals h news0→QF .next { s with heap:=h,toks:=tk })
    (turn:∀ v r m h tk it,J (v::r) m→it.cls=.type "list_iterator" → Fr h₀ env.locals h m→News h₀ env.locals h ((I,it)::news0) →
      wpAny (model PG w) A (assign target env v) (fun _ s₂=>wpAny (model PG w) A (execs body env) (UnrPostW h₀ env.locals { s with heap:=h,toks:=tk } [(I,it)] (fun m' n'=>(∀ p∈news0,p∈n')∧J r m') QF) E s₂) E { s with heap:=h,toks:=tk }) :
    ∀ (r:List Value) m n,J r m→(∀ p∈news0,p∈n)→ItemsRest PG w A E h₀ env target body QF s [(I, "list_iterator")] keep (r.map .val) m n:=zp (by simp(disch:=k_dflt(
  have endM:∀ {f:Flow} {s₁ s₂:Shared} {its:List (Addr×Obj)} {P P':(Str→Option Value)→List (Addr×Obj)→Prop},(∀ m n,P m n→P' m n)→UnrPostW h₀ env.locals s₁ its P QF f s₂→UnrPostW h₀ env.locals s₁ its P' QF f s₂:=by
    intro f s₁ s₂ its P P' hP x
    cases f with
    | ret v=>exact x
    | brk=>exact x
    | next=>obtain ⟨h',tk,m',n',e,a,b,c,d⟩:=x;exact ⟨h',tk,m',n',e,a,b,c,hP _ _ d⟩
    | cont=>obtain ⟨h',tk,m',n',e,a,b,c,d⟩:=x;exact ⟨h',tk,m',n',e,a,b,c,hP _ _ d⟩
  intro r
  induction r with
  | nil=>exact fun m n hJ hn=>ItemsRest.zero fun h tk F N=>zero m h tk hJ F fun p hp=>N p (hn p hp)
  | cons v r ih =>
    intro m n hJ hn
    refine ItemsRest.val fun h tk F=>AllObj.cons fun it hc=>AllObj.nil fun N=>?_
    refine wpAny_mono (turn v r m h tk it hJ hc F fun p hp=>N p ?_) (fun _ s₂ x=>wpAny_mono x (fun f s₃ y=>endM (fun m' n' z=>⟨hK _ z.1,ih m' n' z.2 z.1⟩) y) fun _ _ e=>e) fun _ _ e=>e
    rcases List.mem_cons.mp hp with rfl | hp
    · exact List.mem_append_left _ (.head _)
    · exact List.mem_append_right _ (hn _ hp)))only[↓zq])
end
theorem subL {keep n':List (Addr×Obj)} (h:∀ p∈keep,p∈n'):SubL keep n':=by
  induction keep with
  | nil=>trivial
  | cons p r ih=>exact ⟨h p (.head _),ih fun q hq=>h q (.tail _ hq)⟩
theorem unr_end {h₀ h':Heap} {L:Addr} {I:Nat} {it:Obj} {news0 all:List (Addr×Obj)} {m':Str→Option Value} {tk:Nat} {P:(Str→Option Value)→List (Addr×Obj)→Prop} (F:Fr h₀ L h' m') (N:News h₀ L h' all) (h1:(I,it)∈all) (h2:∀ p∈news0,p∈all) (l1:∀ p∈news0,@LT.lt Nat _ p.1 I) (r:P m' news0) :
    UnrEndW h₀ L s [(I,it)] P { s with heap:=h',toks:=tk } :=
  ⟨h',tk,m',news0,rfl,F,fun p hp=>by
    rcases List.mem_cons.mp hp with rfl | hp
    · exact N _ h1
    · exact N _ (h2 p hp),fun p hp q hq e=>by
    rw [List.mem_singleton.mp hq] at e
    exact Nat.lt_irrefl _ (e ▸ l1 p hp),r⟩
theorem comp_ind {A:Around} {h₀:Heap} {L:Addr} {m:Str→Option Value} {env:Env} {elt:PySem.Expr} {x:Str} {scope:Scope} {cl:List (Str×Addr)} {S:List (Addr×Obj)→Prop} {P:Nat→Value→Prop} {Fin:List Value→List (Addr×Obj)→Prop} {news0:List (Addr×Obj)}
    (J:Nat→List Value→Prop) (n:Nat)
    (fin:∀ ys n',J n ys→(∀ p∈news0,p∈n')→Fin ys n')
    (turn:∀ i ys v I oI C oC D m₂ h tk (E':Value→Shared→Prop),i<n→J i ys→P i v→LCg.NsObj oC m₂→m₂ x=some v→Fr h₀ L h m→News h₀ L h ((I,oI)::(C,oC)::(D,LCg.lst ys)::news0)→LCg.Off3 I C D news0→((@Ne Nat I C)∧(@Ne Nat I D)∧(@Ne Nat C D)) →
      wpAny (model PG w) A (eval elt (compEnvC scope cl C env)) (LCg.CompEnd h₀ L m { s with heap:=h,toks:=tk } I oI C oC D (LCg.lst ys) S (fun y n'=>(∀ p∈news0,p∈n')∧J (i+1) (ys++[y]))) E' { s with heap:=h,toks:=tk }) :
    ∀ k i ys n',i+k=n→J i ys→(∀ p∈news0,p∈n')→LCg.CompRest PG w A h₀ L m env elt x scope cl s S P Fin k i ys n':=zp (by simp(disch:=k_dflt(
  intro k
  induction k with
  | zero => intro i ys n' e hJ hn; obtain rfl : i = n := by omega
            exact LCg.CompRest.zero (fin ys n' hJ hn)
  | succ k ih =>
    intro i ys n' e hJ hn
    refine LCg.CompRest.succ fun v I oI C oC D m₂ h tk E' hP hC hx F N off ne=>?_
    refine wpAny_mono (turn i ys v I oI C oC D m₂ h tk E' (by omega) hJ hP hC hx F (fun p hp=>N p ?_) (LCg.Off3.of fun p hp=>off.mem p (hn p hp)) ne) (fun y s₂ z=>?_) fun _ _ e=>e
    · rcases List.mem_cons.mp hp with rfl | hp
      · exact .head _
      · rcases List.mem_cons.mp hp with rfl | hp
        · exact .tail _ (.head _)
        · rcases List.mem_cons.mp hp with rfl | hp
          · exact .tail _ (.tail _ (.head _))
          · exact .tail _ (.tail _ (.tail _ (hn p hp)))
    · obtain ⟨h',tk',n2,e2,a,b,c,d,r⟩:=z
      exact ⟨h',tk',n2,e2,a,b,c,d,ih (i+1) _ _ (by omega) r.2 r.1⟩))only[↓zq])
theorem off1_mem {D:Addr}:∀ {l:List (Addr×Obj)},LCg.Off1 D l→∀ p∈l,@Ne Nat p.1 D
  | [],_,_,h=>nomatch h
  | _::_,x,p,h=>by
    rcases List.mem_cons.mp h with rfl | h
    · exact x.1
    · exact off1_mem x.2 p h
theorem off1_of {D:Addr}:∀ {l:List (Addr×Obj)},(∀ p∈l,@Ne Nat p.1 D)→LCg.Off1 D l
  | [],_=>trivial
  | _::_,h=>⟨h _ (.head _),off1_of fun p hp=>h p (.tail _ hp)⟩
theorem fin_E {h₀:Heap} {L:Addr} {m:Str→Option Value} {QV:Value→Shared→Prop} {ys:List Value} {news0 n':List (Addr×Obj)} (hn:∀ p∈news0,p∈n')
    (h:∀ (D:Nat) h tk,Fr h₀ L h m→News h₀ L h ((D,LCg.lst ys)::news0)→LCg.Off1 D news0→QV (.ref D) { s with heap:=h,toks:=tk }):LCg.FinE h₀ L m s QV ys n':=by
  unfold LCg.FinE
  intro D g tk F N o
  refine h D g tk F (fun p hp=>N p ?_) (off1_of fun p hp=>off1_mem o p (hn p hp))
  rcases List.mem_cons.mp hp with rfl | hp
  · exact .head _
  · exact .tail _ (hn p hp)
noncomputable def mLook (m:Str→Option Value):List (Str×Option Value)→Str→Option Value
  | [],y=>m y
  | p::r,y=>if y=p.1 then p.2 else mLook m r y
theorem Yr {m:Str→Option Value}:∀ l:List (Str×Option Value),(∀ p∈l,m p.1=p.2)→m=mLook m l
  | [],_=>rfl
  | p::r,h=>by
    funext y
    unfold mLook
    by_cases e:y=p.1
    · rw [if_pos e,e,h p (.head _)]
    · rw [if_neg e]
      exact congrFun (Yr r fun q hq=>h q (.tail _ hq)) y
section
variable {A:Around} {E:Value→Shared→Prop} {h₀:Heap} {env:Env} {body:List Stmt} {QF:Flow→Shared→Prop}
theorem iter_rangeTurns {x:Str} {xp:Pos} {r:Addr} {b₀:Int} {t u v:Tok} {n:Nat} {m₀:Str→Option Value} {news:List (Addr×Obj)} (hh:A.handled=none) (hr:IsRange s.heap r 0 b₀ 1 t u v) (hsmall:Builtin.Range.small 0 b₀ 1=true) (hn:Builtin.Range.rangeSize 0 b₀ 1=(n:Int))
    (F:Fr h₀ env.locals s.heap m₀) (N:News h₀ env.locals s.heap news)
    (rest:∀ I:Addr,(∀ p∈news,p.1<I)→ItemsRest PG w A E h₀ env (.Name x xp) body QF s [(I, "range_iterator")] [] ((List.range n).map fun i=>Itm.tok fun t=>.int ((i:Nat):Int) t) m₀ news) :
    wpAny (model PG w) A (pyIter (.ref r)) (fun it s₂=>TurnsAt PG w A h₀ env (.Name x xp) body QF E it s₂) E s:=zp (by simp(disch:=k_dflt(
  refine wpAny_pyIter_range hr hsmall ?_
  have W:Walks PG w A s.heap.objs.size [s.heap.objs.size] [s.heap.objs.size] n (fun i v=>i<n∧∃ t,v=.int (0+i * 1) t)
      (fun i h=>IsRangeIter h s.heap.objs.size (0+(i:Nat) * 1) ((n:Int) - (i:Nat)) 1):=(Walks.range hh _ 0 1 n).bound
  refine ktu_core (tk0:=s.toks) (keep:=[]) (KTurns.ofWalks W fun i v s Q E st q=>by unfold letOwnedTupleGo;exact wpAny_pure q) (by simp) (fun i v h hp=>?_) (fun i h st=>?_)
    (fun b hb=>?_) (fun b hb=>by simpa using hb) (fun b hb=>.inl (by simpa using hb)) ?_ (fun p hp hI=>?_) ?_ (F.push _) (fun p hp=>⟨Heap.get?_push_of_some _ (N p hp).1,(N p hp).2⟩) trivial (rest _ fun p hp=>Heap.lt_size (N p hp).1)
  · have hp':i<n∧∃ t,v=.int (0+(i:Int) * 1) t:=hp
    obtain ⟨hi,t,e⟩:=hp'
    refine ⟨Itm.tok fun t=>.int ((i:Nat):Int) t,?_,?_⟩
    · rw [List.getElem?_map,List.getElem?_range hi];rfl
    · show ∃ t,v=.int ((i:Nat):Int) t
      exact ⟨t,by rw [e];congr 1;omega⟩
  · have st':IsRangeIter h s.heap.objs.size (0+(i:Nat) * 1) ((n:Int) - (i:Nat)) 1:=st
    exact ⟨[(s.heap.objs.size,{ cls:=.type "range_iterator",dict:=none,data:=.fields #[rawInt (0+(i:Nat) * 1),rawInt ((n:Int) - (i:Nat)),rawInt 1],slots:=#[] })],⟨⟨rfl,rfl⟩,trivial⟩,fun p hp=>by rw [List.mem_singleton.mp hp];exact st'⟩
  · have hb':b=s.heap.objs.size:=by simpa using hb
    rw [hb']
    exact ⟨.head _,next_is_new F⟩
  · intro hm
    exact absurd F.ns.lt ((List.mem_singleton.mp hm) ▸ Nat.lt_irrefl _)
  · exact absurd (Heap.lt_size (N p hp).1) ((List.mem_singleton.mp hI) ▸ Nat.lt_irrefl _)
  · show IsRangeIter _ _ _ _ _
    rw [hn]
    simpa using Heap.get?_push_size _ rfl))only[↓zq])
theorem range_ind {target:PySem.Expr} {I:Nat} (J:Nat→(Str→Option Value)→List (Addr×Obj)→Prop)
    (zero:∀ m news h tk,J 0 m news→Fr h₀ env.locals h m→News h₀ env.locals h news→QF .next { s with heap:=h,toks:=tk })
    (turn:∀ k m news h tk it (i:Nat) t,J (k+1) m news→it.cls=.type "range_iterator" → Fr h₀ env.locals h m→News h₀ env.locals h ((I,it)::news) →
      wpAny (model PG w) A (assign target env (.int (i:Int) t)) (fun _ s₂=>wpAny (model PG w) A (execs body env) (UnrPostW h₀ env.locals { s with heap:=h,toks:=tk } [(I,it)] (fun m' n'=>J k m' n') QF) E s₂) E { s with heap:=h,toks:=tk }) :
    ∀ (is:List Nat) m news,J is.length m news→ItemsRest PG w A E h₀ env target body QF s [(I, "range_iterator")] [] (is.map fun i=>Itm.tok fun t=>.int ((i:Nat):Int) t) m news:=zp (by simp(disch:=k_dflt(
  intro is
  induction is with
  | nil=>exact fun m news hJ=>ItemsRest.zero fun h tk F N=>zero m news h tk hJ F N
  | cons i r ih =>
    intro m news hJ
    refine ItemsRest.tok fun t h tk F=>AllObj.cons fun it hc=>AllObj.nil fun N=>?_
    refine wpAny_mono (turn r.length m news h tk it i t hJ hc F N) (fun _ s₂ x=>wpAny_mono x (fun f s₃ y=>?_) fun _ _ e=>e) fun _ _ e=>e
    cases f with
    | ret v=>exact y
    | brk=>exact y
    | next=>obtain ⟨h',tk,m',n',e,a,b,c,d⟩:=y;exact ⟨h',tk,m',n',e,a,b,c,trivial,ih _ _ d⟩
    | cont=>obtain ⟨h',tk,m',n',e,a,b,c,d⟩:=y;exact ⟨h',tk,m',n',e,a,b,c,trivial,ih _ _ d⟩))only[↓zq])
end
open PySem.W
noncomputable def inRs (n:Nat):KasT (Array Nat)→Bool
  | .ret p=>Nat.beq p.size n && p.toList.all fun i=>Nat.blt i n
  | .ask i j k=>Nat.blt i n && Nat.blt j n && not (Nat.beq i j) && inRs n (k true) && inRs n (k false)
theorem inRs_wp {n:Nat} {cmp:Nat→Nat→(Bool→Shared→Prop)→Shared→Prop} {G:Array Nat→Shared→Prop} {s:Shared} (hG:∀ p,p.size=n→(∀ i∈p.toList,i<n)→G p s)
    (ask:∀ i j (C:Bool→Shared→Prop),i<n→j<n→i≠j→(∀ b,C b s)→cmp i j C s):∀ t:KasT (Array Nat),inRs n t=true→t.kasWp cmp G s
  | .ret p,h=>by
    simp only [inRs,Bool.and_eq_true,Nat.beq_eq,List.all_eq_true,Nat.blt_eq] at h
    exact hG p h.1 h.2
  | .ask i j k,h=>by
    simp only [inRs,Bool.and_eq_true,Nat.blt_eq,Bool.not_eq_true'] at h
    refine absG fun _ kQ=>?_
    obtain ⟨⟨⟨⟨h1,h2⟩,h3⟩,h4⟩,h5⟩:=h
    refine kQ ?_
    clear kQ
    refine ask i j _ h1 h2 (Nat.ne_of_beq_eq_false h3) fun b=>?_
    cases b with
    | true=>exact inRs_wp hG ask (k true) h4
    | false=>exact inRs_wp hG ask (k false) h5
theorem inRs_all {n:Nat} (h1:2≤n) (h2:n≤6):inRs n (kas_sort n)=true:=(by decide +kernel:∀ n,n<7→2≤n→inRs n (kas_sort n)=true) n (Nat.lt_succ_of_le h2) h1
noncomputable abbrev itemO (p:(Tok→Value)×Value) (t:Tok):Obj:={ cls:=.type "tuple",data:=.seq #[p.1 t,p.2] }
def TupsOf (ps:List ((Tok→Value)×Value)) (vs:List Value) (tups:List (Addr×Obj)):Prop :=
  vs.length=ps.length∧∀ (i:Nat) (p:(Tok→Value)×Value),ps[i]?=some p→∃ a t,vs[i]?=some (Value.ref a)∧(a,itemO p t)∈tups
theorem open_of {lo:Addr} {news:List (Addr×Obj)} {C:List Value→List (Addr×Obj)→Prop} (all:List ((Tok→Value)×Value)) (hC:∀ vs tups,TupsOf all vs tups→C vs tups) :
    ∀ (r pre:List ((Tok→Value)×Value)) vs tups,pre++r=all→TupsOf pre vs tups→KdxOpen lo news r vs tups C:=zp (by simp(disch:=k_dflt(
  intro r
  induction r with
  | nil=>exact fun pre vs tups e T=>KdxOpen.nil (hC _ _ (by rw [List.append_nil] at e;exact e ▸ T))
  | cons p r ih =>
    intro pre vs tups e T
    refine KdxOpen.cons fun a t _ _ _=>?_
    refine ih (pre++[p]) _ _ (by simpa using e) ⟨by simp [T.1],fun i q hq=>?_⟩
    by_cases hi:i<pre.length
    · rw [List.getElem?_append_left hi] at hq
      obtain ⟨a',t',e1,e2⟩:=T.2 i q hq
      exact ⟨a',t',by rw [List.getElem?_append_left (by rw [T.1];exact hi)];exact e1,.tail _ e2⟩
    · obtain rfl:i=pre.length:=by
        have:=(List.getElem?_eq_some_iff.mp hq).1
        simp at this;omega
      have:p=q:=by simpa using hq
      subst this
      exact ⟨a,t,by rw [← T.1];simp,.head _⟩))only[↓zq])
theorem small_sort {A:Around} {E:Value→Shared→Prop} {h₀:Heap} {L a:Addr} {m:Str→Option Value} {news:List (Addr×Obj)} {vs:List Value} {n:Nat} {P:PySem.Fin→Shared→Prop} (F:Fr h₀ L s.heap m) (N:News h₀ L s.heap news) (ho:s.heap.get? a=some (seqObj "list" vs.toArray n)) (haL:a≠L) (ha0:h₀.get? a=none) (hna:∀ p∈news,p.1≠a)
    (h1:vs.length<2) (h:∀ h' c,Fr h₀ L h' m→News h₀ L h' ((a,PySem.W.listOf vs.toArray c)::news)→P (.done (.ret .none)) { s with heap:=h' }) :
    wpAny (model PG w) A (Builtin.«list.sort» ⟨[.ref a],[]⟩) P E s:=zp (by simp(disch:=k_dflt(
  have s1:=Heap.SameBut.update s.heap a (Obj.mapSeq fun _=>(#[]:Array Value))
  obtain ⟨e1,ho1⟩:∃ e1,(s.heap.update a (Obj.mapSeq fun _=>(#[]:Array Value))).get? a=some (seqObj "list" #[] e1):=⟨_,get?_update_seq ho fun _=>#[]⟩
  have ho3:=Heap.get?_push_of_some (seqObj "list" #[] 0) (Heap.get?_push_of_some (seqObj "tuple" vs.toArray 0) ho1)
  have F3:=((kas_fr F s1 haL ha0).push (seqObj "tuple" vs.toArray 0)).push (seqObj "list" #[] 0)
  have N3:=(kas_news N s1 hna).grown fun b x e=>Heap.get?_push_of_some (seqObj "list" #[] 0) (Heap.get?_push_of_some (seqObj "tuple" vs.toArray 0) e)
  generalize hg:((s.heap.update a (Obj.mapSeq fun _=>(#[]:Array Value))).push (seqObj "tuple" vs.toArray 0)).push (seqObj "list" #[] 0)=g at ho3 F3 N3
  have s2:=Heap.SameBut.update g a (Obj.mapSeq fun _=>vs.toArray)
  obtain ⟨c2,hc2⟩:∃ c2,(g.update a (Obj.mapSeq fun _=>vs.toArray)).get? a=some (seqObj "list" vs.toArray c2):=⟨_,get?_update_seq ho3 fun _=>vs.toArray⟩
  rw [list_sort_plain]
  refine wpAny_bind (listItems_at ho rfl ?_)
  refine wpAny_bind (listUpdate_at ho rfl ?_ (by rw [List.size_toArray,sizeLine_eq];omega) (Nat.zero_le _))
  refine wpAny_bind (seqEpoch_at ho1 rfl ?_)
  refine wpAny_bind (wpAny_newTuple ?_ (by show vs.length≤_;rw [sizeLine_eq];omega))
  refine wpAny_bind (wpAny_newList ?_ (Nat.zero_le _))
  refine wpAny_holding ?_
  have hn2:vs.toArray.size<2:=by rw [List.size_toArray];exact h1
  rw [if_pos hn2,if_pos hn2]
  show wpAny (model PG w) A _ P E { s with heap:=((s.heap.update a (Obj.mapSeq fun _=>(#[]:Array Value))).push (seqObj "tuple" vs.toArray 0)).push (seqObj "list" #[] 0) }
  rw [hg]
  refine wpAny_bind (wpAny_pure ?_)
  refine wpAny_bind (m:=pure _) (wpAny_pure ?_)
  dsimp only
  have hout:(arrOf (SortSt.mk' general' (vs.toArray.zip vs.toArray) #[] 7 none)).map (·.2)=vs.toArray:=by
    show (vs.toArray.zip vs.toArray).map (·.2)=_
    apply Array.toList_inj.mp
    simp [List.map_snd_zip]
  rw [hout]
  refine wpAny_bind (seqEpoch_at ho3 rfl ?_)
  refine wpAny_bind (listUpdate_at ho3 rfl ?_ (Nat.zero_le _) (by rw [List.size_toArray,sizeLine_eq];omega))
  rw [if_neg (by simp)]
  refine wpAny_pure (h _ c2 (kas_fr F3 s2 haL ha0) fun p hp=>?_)
  rcases List.mem_cons.mp hp with rfl | hp
  · exact ⟨hc2,haL,ha0⟩
  · exact kas_news N3 s2 hna p hp))only[↓zq])
theorem news_sub {h₀ h:Heap} {L:Addr} {n n':List (Addr×Obj)} (N:News h₀ L h n) (hs:∀ p∈n',p∈n):News h₀ L h n':=fun p hp=>N p (hs p hp)
theorem tups_kat {h₀ h:Heap} {L:Addr} {kvs:List (Str×Value)} {vs:List Value} {tups:List (Addr×Obj)} (N:News h₀ L h tups) (T:TupsOf (kvs.map fun p=>(fun t=>Value.str p.1 t,p.2)) vs tups):∃ fs:List Value,KatTups h vs fs∧fs.length=kvs.length∧∀ f∈fs,∃ a t,f=Value.str a t:=zp (by simp(disch:=k_dflt(
  induction kvs generalizing vs with
  | nil =>
    obtain rfl:vs=[]:=List.eq_nil_of_length_eq_zero (by simpa using T.1)
    exact ⟨[],KatTups.nil,rfl,by simp⟩
  | cons p r ih =>
    obtain ⟨v,vs,rfl⟩:∃ v vs',vs=v::vs':=by
      cases vs with
      | nil=>exact absurd T.1 (by simp)
      | cons v vs=>exact ⟨v,vs,rfl⟩
    refine absG fun _ kQ=>?_
    obtain ⟨a,t,e1,e2⟩:=T.2 0 _ rfl
    refine kQ ?_
    clear kQ
    obtain rfl:v=.ref a:=by simpa using e1
    obtain ⟨fs,k1,k2,k3⟩:=ih (vs:=vs) ⟨by simpa using T.1,fun i q hq=>by
      have:=T.2 (i+1) q (by simpa using hq)
      simpa using this⟩
    refine ⟨.str p.1 t::fs,KatTups.cons (N _ e2).1 rfl rfl rfl k1,by simp [k2],fun f hf=>?_⟩
    rcases List.mem_cons.mp hf with rfl | hf
    · exact ⟨_,_,rfl⟩
    · exact k3 f hf))only[↓zq])
theorem sorted_items {A:Around} {E:Value→Shared→Prop} {h₀:Heap} {L v d:Addr} {m:Str→Option Value} {news:List (Addr×Obj)} {od:Obj} {kvs:List (Str×Value)} {Q:Value→Shared→Prop} (hh:A.handled=none) (F:Fr h₀ L s.heap m) (N:News h₀ L s.heap news)
    (hvw:(v,{ cls:=.type "dict_items",data:=.fields #[.ref d] })∈news) (hmd:(d,od)∈news) (hod:od.IsDictOf (PySem.strKind PG w) kvs) (h1:1≤kvs.length) (h6:kvs.length≤6) (nd:(kvs.map (·.1)).Nodup)
    (h:∀ (B:Nat) h' tk (vs:List Value) c,Fr h₀ L h' m→News h₀ L h' ((B,PySem.W.listOf vs.toArray c)::news)→vs.length≤6→Q (.ref B) { s with heap:=h',toks:=tk }) :
    wpAny (model PG w) A (call (.builtin "sorted") [.ref v]) Q E s:=zp (by simp(disch:=k_dflt(
  refine kdx_sortedN (knd:=PySem.strKind PG w) (enc:=PyData.str) hh F N hvw hmd hod (by omega) (fun _ _ h=>Value.isStrOf_shape h) rfl fun lo _=>?_
  refine open_of _ ?_ _ [] [] [] rfl ⟨rfl,by simp⟩
  intro vs tups T B h' tk hB F' N'
  have hl:vs.length=kvs.length:=by simpa using T.1
  have nz:=N' (B,PySem.W.listOf vs.toArray 0) (.head _)
  have T':TupsOf (kvs.map fun p=>(fun t=>Value.str p.1 t,p.2)) vs tups:=T
  have hna:∀ p∈tups++news,p.1≠B:=fun p hp=>Nat.ne_of_lt (hB p hp)
  have N2:News h₀ L h' (tups++news):=news_sub N' fun p hp=>.tail _ hp
  by_cases hs:vs.length<2
  · refine PySem.wpAny_call_entry slot_list_sort ⟨_,nz.1,rfl⟩ entry_list_sort (small_sort (news:=tups++news) F' N2 nz.1 nz.2.1 nz.2.2 hna hs fun h2 c2 F2 N3=>?_) (args_list_sort _)
    exact ⟨_,rfl,h B h2 _ vs c2 F2 (news_sub N3 fun p hp=>by
      rcases List.mem_cons.mp hp with rfl | hp
      · exact .head _
      · exact .tail _ (List.mem_append_right _ hp)) (by omega)⟩
  · have h2:2≤vs.length:=by omega
    refine PySem.wpAny_call_entry slot_list_sort ⟨_,nz.1,rfl⟩ entry_list_sort (kat_list_sort (news:=tups++news) F' N2 nz.1 nz.2.1 nz.2.2 hna h2 (by omega) fun e1 g F2 N3=>?_) (args_list_sort _)
    refine absG fun _ kQ=>?_
    obtain ⟨fs,k1,k2,k3⟩:=tups_kat (news_sub N3 fun p hp=>.tail _ (List.mem_append_left _ hp)) T'
    refine kQ ?_
    clear kQ
    refine kat_kind (T:=.type "str") k1 (by omega) (fun f hf=>?_) (by rfl) ?_
    · obtain ⟨a,t,rfl⟩:=k3 f hf
      exact Looks.of_pure rfl
    refine inRs_wp (n:=vs.length) (fun p hp _=>?_) (fun i j C hi hj hij hC=>?_) _ (inRs_all h2 (by omega))
    · refine KasFin.intro F2 N3 (UpdF.head (fun q hq=>hna q hq)) fun h3 c3 F3 N4=>?_
      exact ⟨_,rfl,h B h3 _ _ c3 F3 (news_sub N4 fun p hp=>by
        rcases List.mem_cons.mp hp with rfl | hp
        · exact .head _
        · exact .tail _ (List.mem_append_right _ hp)) (by simp;omega)⟩
    · obtain ⟨p,hp⟩:∃ p,kvs[i]?=some p:=⟨_,List.getElem?_eq_getElem (by omega)⟩
      obtain ⟨q,hq⟩:∃ q,kvs[j]?=some q:=⟨_,List.getElem?_eq_getElem (by omega)⟩
      refine absG fun _ kQ=>?_
      obtain ⟨a,t,e1,e2⟩:=T'.2 i (fun t=>Value.str p.1 t,p.2) (by simp [hp])
      obtain ⟨b,u,e3,e4⟩:=T'.2 j (fun t=>Value.str q.1 t,q.2) (by simp [hq])
      refine kQ ?_
      clear kQ
      have e5:vs.getD i Value.none=.ref a:=by rw [List.getD_eq_getElem?_getD,e1];rfl
      have e6:vs.getD j Value.none=.ref b:=by rw [List.getD_eq_getElem?_getD,e3];rfl
      show wpAny _ _ (keyLt' _ (vs.getD i Value.none) (vs.getD j Value.none)) _ _ _
      rw [e5,e6]
      refine kat_lt (N3 _ (.tail _ (List.mem_append_left _ e2))).1 rfl (N3 _ (.tail _ (List.mem_append_left _ e4))).1 rfl ?_
      refine kat_cons (wpAny_eqBool_str ?_)
      have hne:p.1≠q.1:=fun e=>hij ((List.getElem?_inj (i:=i) (j:=j) (by rw [List.length_map];omega) nd).mp (by rw [List.getElem?_map,List.getElem?_map,hp,hq];simp [e]))
      rw [decide_eq_false hne]
      exact kat_no (oneLt_str (hC _))))only[↓zq])
section
variable {M:Model} {A:Around} {E:Value→Shared→Prop} {h:Heap} {g:Array GenState} {d:Drawn} {t:Nat} {os:OsState}
variable {nm q:Str} {C N:Addr} {bs bm:List Value} {hdct:Bool} {sn:List Str} {sub:List Value} {ab:Bool} {col:Option Bool} {dd:Option Addr} {k0 k1 k2 k3 k5:Option Value}
abbrev oneB (Q:Unit→Shared→Prop):=Q
theorem wIfF {α:Type} {M:Model} {A:Around} {Q:α→Shared→Prop} {E:Value→Shared→Prop} {s:Shared} {c:Prop} [Decidable c] {a b:Sem α} (hc:¬ c) (h:wpAny M A b Q E s):wpAny M A (if c then a else b) Q E s:=by rw [if_neg hc];exact h
theorem wIfT {α:Type} {M:Model} {A:Around} {Q:α→Shared→Prop} {E:Value→Shared→Prop} {s:Shared} {c:Prop} [Decidable c] {a b:Sem α} (hc:c) (h:wpAny M A a Q E s):wpAny M A (if c then a else b) Q E s:=by rw [if_pos hc];exact h
theorem x_new_ok (b1:(Value.ref C::bm).contains (.type "Exception")=true) {rest:List Value} {Q:Unit→Shared→Prop} (hC:h.get? C=some (excClassObj nm q C N bs bm hdct sn sub ab col dd k0 k1 k2 k3 k5 "Exception.__new__"))
    (hq:Q () ⟨h,g,d,t,os⟩):wpAny M A (checkBuiltinCall "Exception.__new__" ⟨.ref C::rest,[]⟩) Q E ⟨h,g,d,t,os⟩:=by
  have Fn:=PySem.F.excBase_Exception
  have hstar:=Fn.noStar
  unfold checkBuiltinCall
  rw [Fn.newKind,Fn.newSplit]
  refine wIfT rfl ?_
  repeat (first | refine wpAny_loadPart_at hC ?_ | (refine wpAny_isSubtype_exc hC ?_;rw [b1]) | refine wpAny_staticBase_exc hC ?_ | refine wpAny_madeBy_exc hC ?_ | with_reducible refine wIfF (by rw [bne_self_eq_false];exact Bool.false_ne_true) ?_ | with_reducible refine wIfF (by decide) ?_ | with_reducible refine wIfT (by decide) ?_ | wp_step | simp only [bne_self_eq_false,Bool.false_eq_true,if_false])
  exact hq
end
section
variable {prog:Program} {w:World} {A:Around} {R:Result→Shared→Prop} {E:Value→Shared→Prop} {h:Heap} {g:Array GenState} {d:Drawn} {t:Nat} {os:OsState}
variable {nm q:Str} {C N:Addr} {bs bm:List Value} {hdct:Bool} {sn:List Str} {sub:List Value} {ab:Bool} {col:Option Bool} {dd:Option Addr} {k0 k1 k2 k3 k5:Option Value}
theorem x_new (b1:(Value.ref C::bm).contains (.type "Exception")=true) (b2:(Value.ref C::bm).contains (.type "AttributeError")=false) (b3:(Value.ref C::bm).contains (.type "NameError")=false) {rest:List Value}
    (hC:h.get? C=some (excClassObj nm q C N bs bm hdct sn sub ab col dd k0 k1 k2 k3 k5 "Exception.__new__"))
    (hq:R (.ok (.ret (.ref (h.objs.size+1)))) ⟨(h.push { cls:=.type "tuple",data:=.seq rest.toArray }).push
      { cls:=.ref C,data:=.fields #[.ref h.objs.size,.none,.none,.none,.bool false,.none] },g,d,t,os⟩) (hrest:rest.length≤sizeLine) :
    codeAny (model prog w) A (.builtin "Exception.__new__" ⟨.ref C::rest,[]⟩) R ⟨h,g,d,t,os⟩:=zp (by simp(disch:=k_dflt(
  have Fn:=PySem.F.excBase_Exception
  have hends:=Fn.ends
  refine codeAny_builtinAt Fn.entry ?_
  unfold Builtin.«BaseException.__new__»
  refine PySem.wpAt_bind ?_
  show PySem.wpAt _ _ _ (stack >>= _) _ _ _
  refine PySem.wpAt_bind (PySem.wpAt_stack fun p below=>PySem.wpAt_of_wpAny ?_)
  wp_walk
  refine PySem.wpAt_of_wpAny ?_
  rw [Fn.owner]
  repeat (first | with_reducible refine wpAny_madeHere_exc Fn.canon hC ?_ | with_reducible refine wpAny_loadPart_at hC ?_ | (with_reducible refine wpAny_isSubtype_exc hC ?_;first | rw [b1] | rw [b2] | rw [b3]) | wp_step)
  show R _ _
  rw [Heap.size_push]
  exact hq))only[↓zq])
theorem x_type_call (b1:(Value.ref C::bm).contains (.type "Exception")=true) (b2:(Value.ref C::bm).contains (.type "AttributeError")=false) (b3:(Value.ref C::bm).contains (.type "NameError")=false) {rest:List Value} {fI:Addr} {oI:Obj} {Q:PySem.Fin→Shared→Prop}
    (hC:h.get? C=some (excClassObj nm q C N bs bm hdct sn sub ab col dd k0 k1 k2 k3 k5 "Exception.__new__")) (hl:∀ h',Ext h h'→Looks (model prog w) h' (typeLookup (.ref C) "__init__") (some (.ref fI)))
    (hfI:h.get? fI=some oI) (hfc:oI.cls=.type "function") (hrest:rest.length≤sizeLine)
    (hq:∀ h' e,Heap.MadeExcOf h h' e (.ref C) rest →
      wpAny (model prog w) A (call (.ref fI) (.ref e::rest)) (fun r s'=>r=.none∧Q (.done (.ret (.ref e))) s') E ⟨h',g,d,t,os⟩) :
    wpAny (model prog w) A (Builtin.«type.__call__» ⟨.ref C::rest,[]⟩) Q E ⟨h,g,d,t,os⟩:=zp (by simp(disch:=k_dflt(
  have Fn:=PySem.F.excBase_Exception
  repeat (first | with_reducible refine wpAny_loadPart_at hC ?_ | with_reducible refine wpAny_madeBy_exc hC ?_ | wp_step)
  refine codeAny_call_builtin_code (Code.quiet_builtin _ Fn.quiet) (x_new_ok b1 hC ?_)
  refine x_new b1 b2 b3 hC ?_ hrest
  show wpAny _ _ _ _ _ _
  have k:Ext h ((h.push { cls:=.type "tuple",data:=.seq rest.toArray }).push { cls:=.ref C,data:=.fields #[.ref h.objs.size,.none,.none,.none,.bool false,.none] }):=fun b o e=>Heap.get?_push_of_some _ (Heap.get?_push_of_some _ e)
  have hC₁:=k _ _ hC
  have hfI₁:=k _ _ hfI
  have hget:((h.push { cls:=.type "tuple",data:=.seq rest.toArray }).push
      { cls:=.ref C,data:=.fields #[.ref h.objs.size,.none,.none,.none,.bool false,.none] }).get? (h.objs.size+1)=some
      { cls:=.ref C,data:=.fields #[.ref h.objs.size,.none,.none,.none,.bool false,.none] }:=by heap_get
  have hcC:(Value.ref C::bm).contains (.ref C)=true:=by simp
  unfold isInstance
  repeat (first | with_reducible refine wpAny_loadPart_at hget ?_ | (with_reducible refine wpAny_isSubtype_exc hC₁ ?_;rw [hcC]) | wp_step)
  show wpAny _ _ (typeLookup (.ref C) _) _ _ _
  refine (hl _ k).here ?_
  refine wpAny_holding (wpAny_bind ?_)
  unfold bindSpecial
  refine wpAny_bind (wpAny_typeOf (T := "function") ⟨_,hfI₁,hfc⟩ ?_)
  rw [if_pos (by decide)]
  refine wpAny_pure (wpAny_bind (wpAny_mono (hq _ (h.objs.size+1) ⟨k,Heap.get?_none_of_le (Nat.le_succ _),h.objs.size,hget,Heap.get?_none_of_le (Nat.le_refl _),?_⟩) (fun r s' hr=>?_) fun _ _ x=>x))
  · exact Heap.get?_push_of_some _ (Heap.get?_push_at rfl rfl)
  · obtain ⟨rfl,hQ⟩:=hr
    wp_walk
    exact hQ))only[↓zq])
theorem x_call (b1:(Value.ref C::bm).contains (.type "Exception")=true) (b2:(Value.ref C::bm).contains (.type "AttributeError")=false) (b3:(Value.ref C::bm).contains (.type "NameError")=false) {rest:List Value} {fI:Addr} {oI:Obj} {Q:Value→Shared→Prop}
    (hC:h.get? C=some (excClassObj nm q C N bs bm hdct sn sub ab col dd k0 k1 k2 k3 k5 "Exception.__new__")) (hl:∀ h',Ext h h'→Looks (model prog w) h' (typeLookup (.ref C) "__init__") (some (.ref fI)))
    (hfI:h.get? fI=some oI) (hfc:oI.cls=.type "function") (hrest:rest.length≤sizeLine)
    (hq:∀ h' e,Heap.MadeExcOf h h' e (.ref C) rest →
      wpAny (model prog w) (A.under (.builtin "type.__call__" ⟨.ref C::rest,[]⟩)) (call (.ref fI) (.ref e::rest)) (fun r s'=>r=.none∧Q (.ref e) s') E ⟨h',g,d,t,os⟩) :
    wpAny (model prog w) A (call (.ref C) rest) Q E ⟨h,g,d,t,os⟩:=zp (by simp(disch:=k_dflt(
  have f1:=tc_lookup
  have f2:=tc_bind (.ref C)
  have hT:(⟨h,g,d,t,os⟩:Shared).TypeIs (.ref C) "type" := ⟨_,hC,rfl⟩
  refine wpAny_call (codeAny_of_tree ?_)
  show wpAny _ _ (callAny (.ref C) _) _ _ _
  repeat (any_goals (first | assumption | with_reducible refine wpAny_loadPart_at hC ?_ | wp_step))
  refine ⟨rfl,?_⟩
  refine codeAny_call_builtin_at (Code.quiet_builtin _ (by decide +kernel)) entry_typeCall (wpAny_check_type_call_sub hC (x_type_call b1 b2 b3 hC hl hfI hfc hrest fun h' e hm=>?_))
  exact hq h' e hm))only[↓zq])
theorem x_raise {env:Env} {x:Sem Value} {Q:Flow→Shared→Prop} {s:Shared} (hh:A.handled=none)
    (hx:wpAny (model prog w) A x (fun v s₁=>∃ (e t:Nat) (nm q:Str) (C N:Addr) (bs bm:List Value) (hdct:Bool) (sn:List Str) (sub:List Value) (ab:Bool) (col:Option Bool) (dd:Option Addr) (k0 k1 k2 k3 k5:Option Value) (od:Option Addr) (sl:Array (Option Value)),v=.ref e∧s₁.heap.get? C=some (excClassObj nm q C N bs bm hdct sn sub ab col dd k0 k1 k2 k3 k5 "Exception.__new__")∧(Value.ref C::bm).contains (.type "BaseException")=true ∧
      s₁.heap.get? e=some { cls:=.ref C,dict:=od,data:=.fields #[.ref t,.none,.none,.none,.bool false,.none],slots:=sl }∧E (.ref e) s₁) E s) :
    wpAny (model prog w) A (raiseStmt env (some x) none) Q E s:=zp (by simp(disch:=k_dflt(
  unfold raiseStmt
  refine wpAny_bind (wpAny_mono hx (fun v s₁ h₁=>?_) fun _ _ x=>x)
  refine absG fun _ kQ=>?_
  obtain ⟨e,t,nm,q,C,N,bs,bm,hdct,sn,sub,ab,col,dd,k0,k1,k2,k3,k5,od,sl,rfl,hC,hcB,he,hE⟩:=h₁
  obtain ⟨hp,g,d,tk,os⟩:=s₁
  refine kQ ?_
  clear kQ
  repeat (first | with_reducible refine wpAny_loadPart_at he ?_ | with_reducible refine wpAny_loadPart_at hC ?_ | (with_reducible refine wpAny_isSubtype_exc hC ?_;rw [hcB]) | wp_step)
  exact wpAny_raiseNew_none hh hE))only[↓zq])
end
theorem row5:True:=by
  k_with ".setAttr ref" => ((fail_if_success have:=@off1);(k_here;refine stop_ ?_))
  trivial
theorem osa_openE {A:Around} {R:Result→Shared→Prop} {K:Frag} {x C:Addr} {ox:Obj} {od:Option Obj} {name:Str} {tk:Tok} {v:Value} {cd:ClassData} (X:K.In s.heap) (I:InstAt s.heap x ox C od) (hc:clsIn K C=some cd) (hpass:∀ self,refuseLoop self "__setattr__" cd.mro=pure ()) (hob:mroIn K C (.type "object")=some true) (ha:findIn K (.ref C) name=some none)
    (h:∀ b,wpAny (model PG w) A.in1 (Builtin.ObjectAttr.storeInOwnDict (.ref x) (.ref C) (.str name tk) name v b)
      (fun fin s'=>match fin with | .done f=>R (.ok f) s' | .again c'=>c'.quiet=true∧codeAny (model PG w) A c' R s') (fun e s'=>R (.error e) s') s) :
    codeAny (model PG w) A (.call (.builtin "object.__setattr__") ⟨[.ref x,.str name tk,v],[]⟩) R s:=zp (by simp(disch:=k_dflt(
  have SF:=PySem.F.store_object
  have sub:Looks (model PG w) s.heap (isInstance (.ref x) (.type "object")) true:=I.type.andThen (looks_mroIn X hob)
  refine codeAny_call_builtin SF.slot.plain SF.entry (@check_slot (model PG w) _ _ s "object.__setattr__" "object" "__setattr__" (.ref x) [.str name tk,v] [] _ SF.kind SF.split sub (SF.args (.ref x) (.str name tk) v) ?_)
  have hm:Looks (model PG w) s.heap (mroOf (.ref C)) cd.mro:=(looks_clsIn X hc).andThen .now
  rw [osa_eq,refuse_eq]
  refine wpAny_bind (wpAny_bind (I.type.here (wpAny_bind (hm.here ?_))))
  rw [hpass]
  refine wpAny_pure (wpAny_bind (I.type.here (wpAny_bind ((looks_findIn X ha).here (wpAny_bind ?_)))))
  exact wpAny_pure (h _)))only[↓zq])
theorem set_first {A:Around} {K:Frag} {x C L:Addr} {h₀:Heap} {m:Str→Option Value} {post:List (Addr×Obj)} {vs:Array Value} {name:Str} {v:Value} {Q:Unit→Shared→Prop} (F:Fr h₀ L s.heap m) (X₀:K.In h₀)
    (N:News h₀ L s.heap ((x,⟨.ref C,none,.fields vs,#[]⟩)::post)) (off:∀ p∈post,p.1≠x)
    (hs:findIn K (.ref C) "__setattr__" = some (some (.builtin "object.__setattr__"))) {cd:ClassData} (hc:clsIn K C=some cd) (hpass:∀ self,refuseLoop self "__setattr__" cd.mro=pure ()) (hob:mroIn K C (.type "object")=some true) (ha:findIn K (.ref C) name=some none) (hd':cd.hasDict=true)
    (h:∀ (d:Nat) h',Fr h₀ L h' m→News h₀ L h' ((d,dictOf [⟨PyData.keyHash w.params name,.str name (s.toks+1),v⟩] 1)::(x,⟨.ref C,some d,.fields vs,#[]⟩)::post)→(@Ne Nat x d)→(∀ p∈post,@Ne Nat p.1 d)→Q () { s with heap:=h',toks:=s.toks+2 }) :
    wpAny (model PG w) A (setAttr (.ref x) name v) Q E s:=zp (by simp(disch:=k_dflt(
  have X:=X₀.keeps F.keep
  have nx:=N (x,⟨.ref C,none,.fields vs,#[]⟩) (.head _)
  have I:InstAt s.heap x ⟨.ref C,none,.fields vs,#[]⟩ C none:=⟨nx.1,rfl,rfl,trivial⟩
  have hx:@LT.lt Nat _ x s.heap.objs.size:=Heap.lt_size nx.1
  have hL:@LT.lt Nat _ L s.heap.objs.size:=F.ns.lt
  have e1:Ext s.heap (s.heap.push emptyDict):=fun b o e=>Heap.get?_push_of_some _ e
  have gd0:(s.heap.push emptyDict).get? s.heap.objs.size=some emptyDict:=Heap.get?_push_size _ rfl
  have gx0:=e1 _ _ nx.1
  have s1:=Heap.SameBut.update (s.heap.push emptyDict) x (fun o=>{ o with dict:=some s.heap.objs.size })
  have gx1:((s.heap.push emptyDict).update x (fun o=>{ o with dict:=some s.heap.objs.size })).get? x=some ⟨.ref C,some s.heap.objs.size,.fields vs,#[]⟩:=Heap.get?_update_self _ gx0 rfl
  have F1:=kas_fr (Ye F e1) s1 nx.2.1 nx.2.2
  have ndL:(s.heap.objs.size:Addr)≠L:=Nat.ne_of_gt hL
  have nd0:h₀.get? s.heap.objs.size=none:=none_at_size F
  have hxd:(x:Addr)≠s.heap.objs.size:=Nat.ne_of_lt hx
  have N1:News h₀ L ((s.heap.push emptyDict).update x (fun o=>{ o with dict:=some s.heap.objs.size })) ((s.heap.objs.size,emptyDict)::(x,⟨.ref C,some s.heap.objs.size,.fields vs,#[]⟩)::post):=fun p hp=>by
    rcases List.mem_cons.mp hp with rfl | hp
    · exact ⟨(s1.2 _ hxd.symm).trans gd0,ndL,nd0⟩
    · rcases List.mem_cons.mp hp with rfl | hp
      · exact ⟨gx1,nx.2⟩
      · exact ⟨(s1.2 _ (off p hp)).trans (e1 _ _ (N p (.tail _ hp)).1),(N p (.tail _ hp)).2⟩
  generalize hg:(s.heap.push emptyDict).update x (fun o=>{ o with dict:=some s.heap.objs.size })=g1 at F1 N1
  have gd1:=(N1 _ (.head _)).1
  have offd:∀ p∈(x,(⟨.ref C,some s.heap.objs.size,.fields vs,#[]⟩:Obj))::post,p.1≠s.heap.objs.size:=fun p hp=>by
    rcases List.mem_cons.mp hp with rfl | hp
    · exact hxd
    · exact Nat.ne_of_lt (Heap.lt_size (N p (.tail _ hp)).1)
  refine set_plain X I hs (osa_openE X I hc hpass hob ha fun b=>?_)
  refine wpAny_bind (wpAny_pure (wpAny_bind (wpAny_bind (wpAny_loadPart nx.1 (wpAny_bind ((looks_clsIn (h:=({ s with toks:=s.toks+1 }:Shared).heap) X hc).here (s:={ s with toks:=s.toks+1 }) ?_))))))
  rw [hd']
  refine wpAny_bind (wpAny_alloc (wpAny_bind (wpAny_update gx0 (wpAny_pure ?_))))
  show wpAny (model PG w) A.in1 (Builtin.ObjectAttr.storeInDict _ (Value.str name s.toks) name v) _ _ { ({ s with toks:=s.toks+1 }:Shared) with heap:=(s.heap.push emptyDict).update x (fun o=>{ o with dict:=some s.heap.objs.size }) }
  rw [hg]
  have U2:∀ h',(∃ oo,oo=dictOf [⟨PyData.keyHash w.params name,.str name (s.toks+1),v⟩] 1∧h'.get? s.heap.objs.size=some oo)→Heap.SameBut s.heap.objs.size g1 h'→Q () { s with heap:=h',toks:=s.toks+2 }:=fun h' hd2 sb=>by
    obtain ⟨oo,rfl,gd⟩:=hd2
    refine h s.heap.objs.size h' (kas_fr F1 sb ndL nd0) (fun p hp=>?_) hxd (fun p hp=>offd p (.tail _ hp))
    rcases List.mem_cons.mp hp with rfl | hp
    · exact ⟨gd,ndL,nd0⟩
    · exact ⟨(sb.2 _ (offd p hp)).trans (N1 p (.tail _ hp)).1,(N1 p (.tail _ hp)).2⟩
  unfold Builtin.ObjectAttr.storeInDict
  refine wpAny_bind (wpAny_pure (wpAny_bind ?_))
  unfold nsSet
  refine wpAny_bind (wpAny_bind (wpAny_askSetting (wpAny_pure (wpAny_bind (wpAny_mkText (wpAny_bind (wpAny_loadPart gd1 ?_)))))))
  try dsimp only
  rw [aRefKeyMayBeTheName_at,if_neg (by simp)]
  have hput:Obj.putName name (if name.cps.isEmpty=true then 0 else reduceHash ((model PG w).w.params.strHash name.cps)) (Value.str name (s.toks+1)) v emptyDict=dictOf [⟨PyData.keyHash w.params name,.str name (s.toks+1),v⟩] 1:=by
    have:=putName_dict name (PyData.keyHash w.params name) (Value.str name (s.toks+1)) v [] 0
    exact this.trans (by simp [putL,putN])
  have gd2:(g1.update s.heap.objs.size (Obj.putName name (if name.cps.isEmpty=true then 0 else reduceHash ((model PG w).w.params.strHash name.cps)) (Value.str name (s.toks+1)) v)).get? s.heap.objs.size=some (dictOf [⟨PyData.keyHash w.params name,.str name (s.toks+1),v⟩] 1):=by
    rw [Heap.get?_update_self _ gd1 (by dsimp only;rw [hput];rfl)]
    exact congrArg some hput
  refine wpAny_updatePart gd1 ?_
  refine wpAny_bind (wpAny_lookBehind gd2 (pastItsLine_dict (by simp [sizeLine_eq])) ?_)
  exact wpAny_pure (U2 _ ⟨_,rfl,gd2⟩ (Heap.SameBut.update _ _ _))))only[↓zq])
section
variable {prog:Program} {w:World} {A:Around} {E:Value→Shared→Prop} {h:Heap} {g:Array GenState} {d:Drawn} {t:Nat} {os:OsState}
variable {nm q:Str} {C N:Addr} {bs bm:List Value} {hdct:Bool} {sn:List Str} {sub:List Value} {ab:Bool} {col:Option Bool} {dd:Option Addr} {k0 k1 k2 k3 k5:Option Value}
theorem x_init_ok (b1:(Value.ref C::bm).contains (.type "Exception")=true) {M:Model} {e:Addr} {oe:Obj} {rest:List Value} {Q:Unit→Shared→Prop}
    (hC:h.get? C=some (excClassObj nm q C N bs bm hdct sn sub ab col dd k0 k1 k2 k3 k5 "Exception.__new__")) (he:h.get? e=some oe) (hcls:oe.cls=.ref C) (hq:Q () ⟨h,g,d,t,os⟩) :
    wpAny M A (checkBuiltinCall "Exception.__init__" ⟨.ref e::rest,[]⟩) Q E ⟨h,g,d,t,os⟩:=zp (by simp(disch:=k_dflt(
  have F:=PySem.F.excBase_Exception
  have hshort:=F.noStar
  unfold checkBuiltinCall
  rw [F.initKind,F.initSplit,F.initRow]
  dsimp only
  repeat (first | (with_reducible refine wpAny_loadPart_at he ?_;rw [hcls]) | with_reducible refine wpAny_loadPart_at hC ?_ | (with_reducible refine wpAny_isSubtype_exc hC ?_;rw [b1]) | wp_step)
  refine wpAny_onRaise ?_
  rw [show ∀ (a b:String) (n:Nat),Bind.check ⟨.positional, "*", "Exception",.self,[⟨"args",.varPos,false⟩]⟩ a b n (List.map (fun x=>x.fst) ({ pos:=Value.ref e::rest }:Args).kw)=pure () from
    fun a b n=>check_star_args _ _ _ _ _ _]
  exact wpAny_pure hq))only[↓zq])
theorem x_init (b1:(Value.ref C::bm).contains (.type "Exception")=true) {e t0:Nat} {rest:List Value} {Q:Value→Shared→Prop} {s:Shared} (hC:s.heap.get? C=some (excClassObj nm q C N bs bm hdct sn sub ab col dd k0 k1 k2 k3 k5 "Exception.__new__"))
    (he:s.heap.get? e=some { cls:=.ref C,data:=.fields #[.ref t0,.none,.none,.none,.bool false,.none] }) (hrest:rest.length≤sizeLine)
    (hq:∀ h' (t':Nat),Keep [e] s.heap h'→h'.get? e=some { cls:=.ref C,data:=.fields #[.ref t',.none,.none,.none,.bool false,.none] }→Q .none { s with heap:=h' }) :
    wpAny (model prog w) A (call (.builtin "Exception.__init__") (.ref e::rest)) Q E s:=zp (by simp(disch:=k_dflt(
  have F:=PySem.F.excBase_Exception
  refine absG fun _ kQ=>?_
  obtain ⟨h,g,d,t,os⟩:=s
  refine kQ ?_
  clear kQ
  dsimp only at hC he hq
  refine wpAny_call (codeAny_call_builtin F.init.plain F.initEntry (x_init_ok b1 hC he rfl ?_))
  wp_walk
  have he1:=Heap.get?_push_of_some { cls:=.type "tuple",data:=.seq rest.toArray } he
  refine hq _ h.objs.size (fun b o hb hh=>?_) (Heap.get?_update_self _ he1 rfl)
  rw [Heap.get?_update_other _ _ (fun q=>hb (by rw [q];exact List.mem_singleton.mpr rfl))]
  exact Heap.get?_push_of_some _ hh))only[↓zq])
end
theorem looks_up {K:Frag} {h:Heap} {M:Model} {C:Addr} {f:Addr} (X:K.In h) (e:findIn K (.ref C) "__init__" = some (some (.ref f))):∀ h',Ext h h'→Looks M h' (typeLookup (.ref C) "__init__") (some (.ref f)):=fun h' k=>looks_findIn (X.keeps k) e
theorem set_more {A:Around} {K:Frag} {x C L:Addr} {dx:Nat} {h₀:Heap} {m:Str→Option Value} {post:List (Addr×Obj)} {vs:Array Value} {n0 name:Str} {t0:Tok} {v0 v:Value} {Q:Unit→Shared→Prop} (F:Fr h₀ L s.heap m) (X₀:K.In h₀)
    (N:News h₀ L s.heap ((dx,dictOf [⟨PyData.keyHash w.params n0,.str n0 t0,v0⟩] 1)::(x,⟨.ref C,some dx,.fields vs,#[]⟩)::post)) (off:∀ p∈(x,(⟨.ref C,some dx,.fields vs,#[]⟩:Obj))::post,p.1≠dx)
    (hs:findIn K (.ref C) "__setattr__" = some (some (.builtin "object.__setattr__"))) {cd:ClassData} (hc:clsIn K C=some cd) (hpass:∀ self,refuseLoop self "__setattr__" cd.mro=pure ()) (hob:mroIn K C (.type "object")=some true) (ha:findIn K (.ref C) name=some none) (hd':cd.hasDict=true)
    (h:∀ h' od,Fr h₀ L h' m→News h₀ L h' ((dx,od)::(x,⟨.ref C,some dx,.fields vs,#[]⟩)::post)→Q () { s with heap:=h',toks:=s.toks+2 }) :
    wpAny (model PG w) A (setAttr (.ref x) name v) Q E s:=zp (by simp(disch:=k_dflt(
  have X:=X₀.keeps F.keep
  have nd:=N _ (.head _)
  have nx:=N _ (.tail _ (.head _))
  have I:InstAt s.heap x ⟨.ref C,some dx,.fields vs,#[]⟩ C (some (dictOf [⟨PyData.keyHash w.params n0,.str n0 t0,v0⟩] 1)):=⟨nx.1,rfl,rfl,nd.1⟩
  refine set_plain X I hs (osa_openE X I hc hpass hob ha fun b=>?_)
  refine wpAny_bind (wpAny_pure (wpAny_bind (wpAny_bind (wpAny_loadPart nx.1 (wpAny_bind ((looks_clsIn (h:=({ s with toks:=s.toks+1 }:Shared).heap) X hc).here (s:={ s with toks:=s.toks+1 }) ?_))))))
  rw [hd']
  refine wpAny_pure (a:=some dx) (wpAny_bind (wpAny_pure (wpAny_bind ?_)))
  unfold nsSet
  refine wpAny_bind (wpAny_bind (wpAny_askSetting (wpAny_pure (wpAny_bind (wpAny_mkText (wpAny_bind (wpAny_loadPart nd.1 ?_)))))))
  try dsimp only
  rw [aRefKeyMayBeTheName_at,if_neg (by simp [DictEntry.refKey])]
  have hput:=putName_dict name (if name.cps.isEmpty=true then 0 else reduceHash ((model PG w).w.params.strHash name.cps)) (Value.str name (s.toks+1)) v [⟨PyData.keyHash w.params n0,.str n0 t0,v0⟩] 1
  have gd2:(s.heap.update dx (Obj.putName name (if name.cps.isEmpty=true then 0 else reduceHash ((model PG w).w.params.strHash name.cps)) (Value.str name (s.toks+1)) v)).get? dx=some (dictOf (putL name (if name.cps.isEmpty=true then 0 else reduceHash ((model PG w).w.params.strHash name.cps)) (Value.str name (s.toks+1)) v [⟨PyData.keyHash w.params n0,.str n0 t0,v0⟩]) (putN name [⟨PyData.keyHash w.params n0,.str n0 t0,v0⟩] 1)):=by
    rw [Heap.get?_update_self _ nd.1 (by dsimp only;rw [hput];rfl)]
    exact congrArg some hput
  have hlen:(putL name (if name.cps.isEmpty=true then 0 else reduceHash ((model PG w).w.params.strHash name.cps)) (Value.str name (s.toks+1)) v [⟨PyData.keyHash w.params n0,.str n0 t0,v0⟩]).length≤2:=by
    unfold putL
    split <;> simp [putL]
  refine wpAny_updatePart nd.1 ?_
  refine wpAny_bind (wpAny_lookBehind gd2 (pastItsLine_dict (by rw [List.size_toArray,sizeLine_eq];omega)) ?_)
  have sb:=Heap.SameBut.update s.heap dx (Obj.putName name (if name.cps.isEmpty=true then 0 else reduceHash ((model PG w).w.params.strHash name.cps)) (Value.str name (s.toks+1)) v)
  exact wpAny_pure (h _ _ (kas_fr F sb nd.2.1 nd.2.2) fun p hp=>by
    rcases List.mem_cons.mp hp with rfl | hp
    · exact ⟨gd2,nd.2⟩
    · exact ⟨(sb.2 _ (off p hp)).trans (N p (.tail _ hp)).1,(N p (.tail _ hp)).2⟩)))only[↓zq])
theorem exc_83 (P:Params):∃ cd,clsIn (Mine.H.K P) 83=some cd∧(∀ self,refuseLoop self "__setattr__" cd.mro=pure ())∧mroIn (Mine.H.K P) 83 (.type "object")=some true∧cd.hasDict=true :=
  ⟨_,rfl,fun self=>by
    show refuseLoop self "__setattr__" [.ref 83,.ref 46,.type "Exception",.type "BaseException",.type "object"]=pure ()
    rw [refuseLoop_ref,refuseLoop_ref]
    exact PySem.F.store_Exception.passes self,by k_dflt k_is,rfl⟩
theorem exc_init_83 {e t:Nat} {what:Str} {tw:Tok} {R} (c:Cx w lse mg mb hB s.heap) (hd:dp≤780) (hu:un≤5000)
    (he:Own hB s.heap e { cls:=.ref 83,data:=.fields #[.ref t,.none,.none,.none,.bool false,.none] })
    (ret:∀ h' tk (t' dx:Nat),Keep [e] s.heap h'→h'.get? e=some { cls:=.ref 83,dict:=some dx,data:=.fields #[.ref t',.none,.none,.none,.bool false,.none] }→R (.ok (.ret .none)) { s with heap:=h',toks:=tk }) :
    codeAny (model PG w) (Ar dp un fr gd) (.call (.ref 36) ⟨[.ref e,.str what tw,.none],[]⟩) R s:=zp (by simp(disch:=k_dflt(
  refine' Yd [(e,{ cls:=.ref 83,data:=.fields #[.ref t,.none,.none,.none,.bool false,.none] })] [(Str.ofString "self",.ref e),(Str.ofString "what",.str what tw),(Str.ofString "at",.none)] c ?kf ?k6 ?k7 ?eb ?es ?k8 ?k9 ?kB ?c5 ?c2 ?c3 ?c4 ?_
  k_extra "e0"
  refine absG fun _ kQ=>?_
  obtain ⟨cd,x1,x2,x3,x4⟩:=exc_83 w.params
  refine kQ ?_
  clear kQ
  k_steps
  k_extra "n"
  refine method_type (T := "Exception") F X rfl (by decide +kernel) (by k_dflt k_is) (by rfl) ?_
  k_steps
  k_extra "n"
  refine x_init (nm:=Mine.H.z33) (q:=Mine.H.z33) (C:=83) (bm:=[.ref 46,.type "Exception",.type "BaseException",.type "object"]) (by decide +kernel) (X.keeps F.keep _ _ (show (Mine.H.K w.params).lookup 83=some Mine.H.o83 from rfl)) (N.get (by k_mem)) (by simp [sizeLine_eq]) fun g2 t2 k2 q2=>?_
  have N9:=Yj (rest:=[]) N k2 (by k_mem) q2 (Yn (by k_extra "r"))
  replace F:=Yp F N k2 (by k_mem)
  clear N
  (rename News _ _ _ _=>N)
  k_steps
  k_extra "n"
  refine set_first F X N (fun p hp=>nomatch hp) (by k_dflt k_is) x1 x2 x3 (by k_dflt k_is) x4 fun dx g3 F N ne1 ne2=>?_
  try dsimp only
  k_steps
  k_extra "n"
  refine set_more F X N (fun p hp=>by rw [List.mem_singleton.mp hp];exact ne1) (by k_dflt k_is) x1 x2 x3 (by k_dflt k_is) x4 fun g4 od F N=>?_
  try dsimp only
  k_steps
  k_extra "n"
  have kq:=kqo (ks:=[e]) kp F N hfo (by k_extra "q")
  exact ret _ _ _ _ kq (N.get (by k_mem))))only[↓zq])
theorem exc_95 (P:Params):∃ cd,clsIn (Mine.H.K P) 95=some cd∧(∀ self,refuseLoop self "__setattr__" cd.mro=pure ())∧mroIn (Mine.H.K P) 95 (.type "object")=some true∧cd.hasDict=true :=
  ⟨_,rfl,fun self=>by
    show refuseLoop self "__setattr__" [.ref 95,.ref 46,.type "Exception",.type "BaseException",.type "object"]=pure ()
    rw [refuseLoop_ref,refuseLoop_ref]
    exact PySem.F.store_Exception.passes self,by k_dflt k_is,rfl⟩
theorem exc_init_95 {e t:Nat} {what:Str} {tw:Tok} {R} (c:Cx w lse mg mb hB s.heap) (hd:dp≤780) (hu:un≤5000)
    (he:Own hB s.heap e { cls:=.ref 95,data:=.fields #[.ref t,.none,.none,.none,.bool false,.none] })
    (ret:∀ h' tk (t' dx:Nat),Keep [e] s.heap h'→h'.get? e=some { cls:=.ref 95,dict:=some dx,data:=.fields #[.ref t',.none,.none,.none,.bool false,.none] }→R (.ok (.ret .none)) { s with heap:=h',toks:=tk }) :
    codeAny (model PG w) (Ar dp un fr gd) (.call (.ref 36) ⟨[.ref e,.str what tw,.none],[]⟩) R s:=zp (by simp(disch:=k_dflt(
  refine' Yd [(e,{ cls:=.ref 95,data:=.fields #[.ref t,.none,.none,.none,.bool false,.none] })] [(Str.ofString "self",.ref e),(Str.ofString "what",.str what tw),(Str.ofString "at",.none)] c ?kf ?k6 ?k7 ?eb ?es ?k8 ?k9 ?kB ?c5 ?c2 ?c3 ?c4 ?_
  k_extra "e0"
  refine absG fun _ kQ=>?_
  obtain ⟨cd,x1,x2,x3,x4⟩:=exc_95 w.params
  refine kQ ?_
  clear kQ
  k_steps
  k_extra "n"
  refine method_type (T := "Exception") F X rfl (by decide +kernel) (by k_dflt k_is) (by rfl) ?_
  k_steps
  k_extra "n"
  refine x_init (nm:=Mine.H.z34) (q:=Mine.H.z34) (C:=95) (bm:=[.ref 46,.type "Exception",.type "BaseException",.type "object"]) (by decide +kernel) (X.keeps F.keep _ _ (show (Mine.H.K w.params).lookup 95=some Mine.H.o95 from rfl)) (N.get (by k_mem)) (by simp [sizeLine_eq]) fun g2 t2 k2 q2=>?_
  have N9:=Yj (rest:=[]) N k2 (by k_mem) q2 (Yn (by k_extra "r"))
  replace F:=Yp F N k2 (by k_mem)
  clear N
  (rename News _ _ _ _=>N)
  k_steps
  k_extra "n"
  refine set_first F X N (fun p hp=>nomatch hp) (by k_dflt k_is) x1 x2 x3 (by k_dflt k_is) x4 fun dx g3 F N ne1 ne2=>?_
  try dsimp only
  k_steps
  k_extra "n"
  refine set_more F X N (fun p hp=>by rw [List.mem_singleton.mp hp];exact ne1) (by k_dflt k_is) x1 x2 x3 (by k_dflt k_is) x4 fun g4 od F N=>?_
  try dsimp only
  k_steps
  k_extra "n"
  have kq:=kqo (ks:=[e]) kp F N hfo (by k_extra "q")
  exact ret _ _ _ _ kq (N.get (by k_mem))))only[↓zq])
def RaisableO (E:Value→Shared→Prop) (v:Value) (s₁:Shared):Prop :=
  ∃ (e t:Nat) (nm q:Str) (C N:Addr) (bs bm:List Value) (hdct:Bool) (sn:List Str) (sub:List Value) (ab:Bool) (col:Option Bool) (dd:Option Addr) (k0 k1 k2 k3 k5:Option Value) (od:Option Addr) (sl:Array (Option Value)),v=.ref e∧s₁.heap.get? C=some (excClassObj nm q C N bs bm hdct sn sub ab col dd k0 k1 k2 k3 k5 "Exception.__new__")∧(Value.ref C::bm).contains (.type "BaseException")=true ∧
      s₁.heap.get? e=some { cls:=.ref C,dict:=od,data:=.fields #[.ref t,.none,.none,.none,.bool false,.none],slots:=sl }∧E (.ref e) s₁
theorem raise_own {A:Around} {env:Env} {e:PySem.Expr} {pos:Pos} {Q:Flow→Shared→Prop} {E:Value→Shared→Prop} (hh:A.handled=none)
    (h:wpAny (model PG w) A (eval e env) (RaisableO E) E s):wpAny (model PG w) A (exec (.Raise (some e) none pos) env) Q E s:=by
  show wpAny (model PG w) A (do standAt pos;raiseStmt env (some (do let v ← eval e env;standAt pos;pure v)) none) Q E s
  refine wpAny_bind (wpAny_standAt (x_raise hh ?_))
  exact wpAny_bind (wpAny_mono h (fun v s₁ h₁=>wpAny_bind (wpAny_standAt (wpAny_pure h₁))) fun _ _ x=>x)
theorem make_83 {what:Str} {tw:Tok} (c:Cx w lse mg mb hB s.heap) (hd:dp≤770) (hu:un≤4900)
    (h:∀ (e t dx:Nat) h' tk,Ext s.heap h'→s.heap.get? e=none→h'.get? e=some { cls:=.ref 83,dict:=some dx,data:=.fields #[.ref t,.none,.none,.none,.bool false,.none] }→E (.ref e) { s with heap:=h',toks:=tk }) :
    wpAny (model PG w) (Ar dp un fr gd) (call (.ref 83) [.str what tw,.none]) (RaisableO E) E s:=zp (by simp(disch:=k_dflt(
  have X:=c.kin'
  refine absG fun _ kQ=>?_
  obtain ⟨hp,g,d,tk,os⟩:=s
  refine kQ ?_
  clear kQ
  have hC:=X _ _ (show (Mine.H.K w.params).lookup 83=some Mine.H.o83 from rfl)
  refine x_call (nm:=Mine.H.z33) (q:=Mine.H.z33) (C:=83) (fI:=36) (oI:=Mine.H.o36) (bm:=[.ref 46,.type "Exception",.type "BaseException",.type "object"]) (by decide +kernel) (by decide +kernel) (by decide +kernel) hC (looks_up X (by k_dflt k_is)) (X _ _ (show (Mine.H.K w.params).lookup 36=some Mine.H.o36 from rfl)) rfl (by simp [sizeLine_eq]) fun h1 e hm=>?_
  refine absG fun _ kQ=>?_
  obtain ⟨t,q1,q2,q3⟩:=hm.there
  refine kQ ?_
  clear kQ
  have e1:Ext hp h1:=hm.keeps
  refine wpAny_call (exc_init_83 (c.step e1) (by show dp+1≤780;omega) (by show un+1≤5000;omega) (ownNew c hm.new q1) fun h2 tk2 t2 dx k2 q4=>?_)
  exact ⟨rfl,e,t2,_,_,83,_,_,[.ref 46,.type "Exception",.type "BaseException",.type "object"],_,_,_,_,_,_,_,_,_,_,_,_,_,rfl,(Yw e1 k2 hm.new) _ _ hC,by decide +kernel,q4,h e t2 dx h2 _ (Yw e1 k2 hm.new) hm.new q4⟩))only[↓zq])
theorem make_95 {what:Str} {tw:Tok} (c:Cx w lse mg mb hB s.heap) (hd:dp≤770) (hu:un≤4900)
    (h:∀ (e t dx:Nat) h' tk,Ext s.heap h'→s.heap.get? e=none→h'.get? e=some { cls:=.ref 95,dict:=some dx,data:=.fields #[.ref t,.none,.none,.none,.bool false,.none] }→E (.ref e) { s with heap:=h',toks:=tk }) :
    wpAny (model PG w) (Ar dp un fr gd) (call (.ref 95) [.str what tw,.none]) (RaisableO E) E s:=zp (by simp(disch:=k_dflt(
  have X:=c.kin'
  refine absG fun _ kQ=>?_
  obtain ⟨hp,g,d,tk,os⟩:=s
  refine kQ ?_
  clear kQ
  have hC:=X _ _ (show (Mine.H.K w.params).lookup 95=some Mine.H.o95 from rfl)
  refine x_call (nm:=Mine.H.z34) (q:=Mine.H.z34) (C:=95) (fI:=36) (oI:=Mine.H.o36) (bm:=[.ref 46,.type "Exception",.type "BaseException",.type "object"]) (by decide +kernel) (by decide +kernel) (by decide +kernel) hC (looks_up X (by k_dflt k_is)) (X _ _ (show (Mine.H.K w.params).lookup 36=some Mine.H.o36 from rfl)) rfl (by simp [sizeLine_eq]) fun h1 e hm=>?_
  refine absG fun _ kQ=>?_
  obtain ⟨t,q1,q2,q3⟩:=hm.there
  refine kQ ?_
  clear kQ
  have e1:Ext hp h1:=hm.keeps
  refine wpAny_call (exc_init_95 (c.step e1) (by show dp+1≤780;omega) (by show un+1≤5000;omega) (ownNew c hm.new q1) fun h2 tk2 t2 dx k2 q4=>?_)
  exact ⟨rfl,e,t2,_,_,95,_,_,[.ref 46,.type "Exception",.type "BaseException",.type "object"],_,_,_,_,_,_,_,_,_,_,_,_,_,rfl,(Yw e1 k2 hm.new) _ _ hC,by decide +kernel,q4,h e t2 dx h2 _ (Yw e1 k2 hm.new) hm.new q4⟩))only[↓zq])
theorem off1:True:=trivial
theorem row6:True:=by
  k_with ".compareOp In str ref" => (k_here;k_dflt (refine @in_D _ _ _ _ _ _ _ _ _ (by k_extra "dat") _ (by k_extra "isin") ?_))
  k_with ".compareOp NotIn str ref" => (k_here;k_dflt (refine @notin_D _ _ _ _ _ _ _ _ _ (by k_extra "dat") _ (by k_extra "isin") ?_))
  k_with ".call builtin:len" => (k_here;(with_reducible show wpAny _ _ (call (Value.builtin "len") [Value.ref _]) _ _ _);k_dflt (refine @len_D _ _ _ _ _ _ _ (by k_extra "dat") (by first | decide | (simp;done) | omega) ?_))
  k_with ".subscriptTail" => (k_here;(with_reducible show wpAny _ _ (subscriptTail _ _ (Value.ref _) (Value.str _ _)) _ _ _);k_dflt (refine item_D (by k_extra "dat") (by k_extra "bool") ?_))
  trivial
theorem settled_spec {x y d:Nat} {v:Int} {p m:Str} {R} (c:Cx w lse mg mb hB s.heap) (hd:dp≤780) (hu:un≤5000) (a:AffineAt w h0 s.heap x v p m) (sc:ScopeAt w h0 s.heap y d) (od:DAt w s.heap d [])
    (ret:∀ h' tk,Ext s.heap h'→R (.ok (.ret (.ref x))) { s with heap:=h',toks:=tk }) :
    codeAny (model PG w) (Ar dp un fr gd) (.call (.ref 397) ⟨[.ref y,.ref x],[]⟩) R s:=zp (by simp(disch:=k_dflt(
  refine a.el fun dx n t1 t2 t3 ta tb tc a1 a2=>?_
  refine absG fun _ kQ=>?_
  obtain ⟨dy,n',u1,a3,a4⟩:=sc
  refine kQ ?_
  clear kQ
  refine' Yd [] [(Str.ofString "self",.ref y),(Str.ofString "affine",.ref x)] c ?kf ?k6 ?k7 ?eb ?es ?k8 ?k9 ?kB ?c5 ?c2 ?c3 ?c4 ?_
  k_extra "e0"
  have b1:=kp _ _ (by simp) a1.1
  have b2:=kp _ _ (by simp) a2.1
  have b3:=kp _ _ (by simp) a3.1
  have b4:=kp _ _ (by simp) a4.1
  have b5:=od.keep kp (by simp)
  k_steps
  k_extra "n"
  exact ret _ _ (Yg kp F rfl)))only[↓zq])
theorem neg_eq {hB h:Heap} {z:Nat} {o:Str} (a:AffineAt w hB h z (-0) (nz (Str.ofString "") o) (nz o (Str.ofString ""))) (ho:(o != Str.ofString "")=true):AffineAt w hB h z 0 (Str.ofString "") o:=by
  have q:o≠Str.ofString "" := by simpa using ho
  rw [nz,nz,if_neg q,if_neg (Ne.symm q)] at a
  exact a
theorem combined_spec {x y:Nat} {one other:Str} {t:Tok} {R} (c:Cx w lse mg mb hB s.heap) (hd:dp≤750) (hu:un≤4800) (h1:(one != Str.ofString "")=true) (h2:(other != Str.ofString "")=true)
    (a:AffineAt w h0 s.heap x 0 one (Str.ofString "")) (b:AffineAt w h0 s.heap y 0 other (Str.ofString ""))
    (ret:∀ (y:Nat) h' tk,Ext s.heap h'→s.heap.get? y=none→AffineAt w s.heap h' y 0 (nz one other) (nz other one)→R (.ok (.ret (.ref y))) { s with heap:=h',toks:=tk }) :
    codeAny (model PG w) (Ar dp un fr gd) (.call (.ref 432) ⟨[.str (Str.ofString "-") t,.ref x,.ref y],[]⟩) R s:=zp (by simp(disch:=k_dflt(
  refine' Yd [] [(Str.ofString "sign",.str (Str.ofString "-") t),(Str.ofString "left",.ref x),(Str.ofString "right",.ref y)] c ?kf ?k6 ?k7 ?eb ?es ?k8 ?k9 ?kB ?c5 ?c2 ?c3 ?c4 ?_
  k_extra "e0"
  have b0:=a.keep kp (by simp)
  have c0:=b.keep kp (by simp)
  refine b0.el fun dx n t1 t2 t3 ta tb tc a1 a2=>?_
  refine c0.el fun dy n' u1 u2 u3 ua ub uc a3 a4=>?_
  have b1:=a1.1
  have b2:=a2.1
  have b3:=a3.1
  have b4:=a4.1
  k_steps
  k_extra "n"
  have eS:=Yg kp F rfl
  have cN:=cg.step F.keep
  have eB:=cN.ext
  refine wpAny_call (negate_spec (cg.step (Fr.keep (by assumption))) (by omega) (c0.keep (Ext.keep (Fr.keep (by assumption)) []) (by simp)) fun z g2 tk2 e2 n2 a9=>?_)
  have n3:=Yh kp (Yf (Fr.keep (by assumption)) n2) (by simp)
  k_extra "n"
  replace F:=Ye F e2
  replace N:=Ya N e2
  try dsimp only
  k_steps
  have Fk:=F.keep
  have eS2:=Yg kp F rfl
  refine wpAny_call (add_spec (cg.step F.keep) (by omega) (by omega) h1 h2 rfl rfl (b0.keep (Ext.keep F.keep []) (by simp)) (neg_eq (a9.down h0_ext) h2) fun z2 g3 tk3 e3 n4 a8=>?_)
  have n5:=Yh kp (Yf Fk n4) (by simp)
  replace F:=Ye F e3
  replace N:=Ya N e3
  try dsimp only
  k_steps
  exact ret z2 _ _ (Yg kp F rfl) n5 (a8.down eS2)))only[↓zq])
theorem find_spec {y d:Nat} {p:Str} {t:Tok} {R} (c:Cx w lse mg mb hB s.heap) (hd:dp≤770) (hu:un≤4990) (sc:ScopeAt w h0 s.heap y d) (od:DAt w s.heap d [])
    (ret:∀ (x:Nat) h' tk,Ext s.heap h'→s.heap.get? x=none→AffineAt w s.heap h' x 0 p (Str.ofString "")→R (.ok (.ret (.ref x))) { s with heap:=h',toks:=tk }) :
    codeAny (model PG w) (Ar dp un fr gd) (.call (.ref 390) ⟨[.ref y,.str p t],[]⟩) R s:=zp (by simp(disch:=k_dflt(
  refine' Yd [] [(Str.ofString "self",.ref y),(Str.ofString "name",.str p t)] c ?kf ?k6 ?k7 ?eb ?es ?k8 ?k9 ?kB ?c5 ?c2 ?c3 ?c4 ?_
  k_extra "e0"
  have sc0:=sc.keep kp (by simp)
  have od0:=od.keep kp (by simp)
  refine absG fun _ kQ=>?_
  obtain ⟨dy,n',u1,a3,a4⟩:=id sc0
  refine kQ ?_
  clear kQ
  have b3:=a3.1
  have b4:=a4.1
  k_steps
  k_extra "n"
  k_extra "n"
  have eS:=Yg kp F rfl
  have cN:=cg.step F.keep
  have eB:=cN.ext
  refine wpAny_call (new_Affine2 (cg.step F.keep) (by omega) fun x g2 tk2 e2 n2 a9=>?_)
  have n3:=Yh kp (Yf F.keep n2) (by simp)
  replace F:=Ye F e2
  replace N:=Ya N e2
  try dsimp only
  k_steps
  k_extra "n"
  refine wpAny_call (settled_spec (cg.step F.keep) (by omega) (by omega) (a9.down h0_ext) (sc0.xkeep F.keep) (od0.ext F.keep) fun g3 tk3 e3=>?_)
  replace F:=Ye F e3
  replace N:=Ya N e3
  try dsimp only
  k_steps
  exact ret x _ _ (Yg kp F rfl) n3 ((a9.xkeep e3).down eS)))only[↓zq])
theorem ev_number {x y d:Nat} {v:Int} {R} (c:Cx w lse mg mb hB s.heap) (hd:dp≤740) (hu:un≤4700) (a:NumberAt w h0 s.heap x v)
    (ret:∀ (x:Nat) h' tk,Ext s.heap h'→s.heap.get? x=none→AffineAt w s.heap h' x v (Str.ofString "") (Str.ofString "")→R (.ok (.ret (.ref x))) { s with heap:=h',toks:=tk }) :
    codeAny (model PG w) (Ar dp un fr gd) (.call (.ref 447) ⟨[.ref x,.ref y],[]⟩) R s:=zp (by simp(disch:=k_dflt(
  refine' Yd [] [(Str.ofString "node",.ref x),(Str.ofString "scope",.ref y),(Str.ofString "here",.str Mine.H.z89 754)] c ?kf ?k6 ?k7 ?eb ?es ?k8 ?k9 ?kB ?c5 ?c2 ?c3 ?c4 ?_
  k_extra "e0"
  simp only [z89_is] at F
  have a0:=a.keep kp (by simp)
  refine a0.el fun dx n t1 t2 ta tb a1 a2=>?_
  have b1:=a1.1
  have b2:=a2.1
  k_steps
  refine wpAny_call (spine_number (cg.step (Fr.keep (by assumption))) (by omega) (by omega) (a0.xkeep (Fr.keep (by assumption))) fun p q g2 tk2 kk e2 n2 n3 g4 g5=>?_)
  k_extra "n"
  have N9:=Ya N e2
  replace N9:=Yb F N9 n3 g5
  replace N9:=Yb F N9 n2 g4
  replace F:=Ye F e2
  clear N
  (rename News _ _ _ _=>N)
  try dsimp only
  k_steps
  k_extra "n"
  refine wpAny_call (new_Affine1 (cg.step F.keep) (by omega) fun z g3 tk3 e3 n4 a9=>?_)
  have n5:=Yh kp (Yf F.keep n4) (by simp)
  k_extra "n"
  refine AffineAt.newsE F (Ya N e3) a9 fun dz _ _ _ _ _ _ _ N9=>?_
  replace F:=Ye F e3
  clear N
  (rename News _ _ _ _=>N)
  try dsimp only
  k_steps
  k_extra "n"
  exact ret z _ _ (Yg kp F rfl) n5 (AffineAt.ofN kp N (by k_mem) (by k_mem))))only[↓zq])
theorem ev_symbol {x y d:Nat} {v:Str} {R} (c:Cx w lse mg mb hB s.heap) (hd:dp≤740) (hu:un≤4700) (a:SymbolAt w h0 s.heap x v) (sc:ScopeAt w h0 s.heap y d) (od:DAt w s.heap d []) {th:Tok}
    (ret:∀ (x:Nat) h' tk,Ext s.heap h'→s.heap.get? x=none→AffineAt w s.heap h' x 0 v (Str.ofString "")→R (.ok (.ret (.ref x))) { s with heap:=h',toks:=tk }) :
    codeAny (model PG w) (Ar dp un fr gd) (.call (.ref 447) ⟨[.ref x,.ref y,.str (Str.ofString "") th],[]⟩) R s:=zp (by simp(disch:=k_dflt(
  refine' Yd [] [(Str.ofString "node",.ref x),(Str.ofString "scope",.ref y),(Str.ofString "here",.str (Str.ofString "") th)] c ?kf ?k6 ?k7 ?eb ?es ?k8 ?k9 ?kB ?c5 ?c2 ?c3 ?c4 ?_
  k_extra "e0"
  have a0:=a.keep kp (by simp)
  refine a0.el fun dx n t1 t2 ta tb a1 a2=>?_
  have b1:=a1.1
  have b2:=a2.1
  have sc0:=sc.keep kp (by simp)
  have od0:=od.keep kp (by simp)
  refine absG fun _ kQ=>?_
  obtain ⟨dy,n',u1,a3,a4⟩:=id sc0
  refine kQ ?_
  clear kQ
  have b3:=a3.1
  have b4:=a4.1
  k_steps
  refine wpAny_call (spine_symbol (cg.step (Fr.keep (by assumption))) (by omega) (by omega) (a0.xkeep (Fr.keep (by assumption))) fun p q g2 tk2 kk e2 n2 n3 g4 g5=>?_)
  k_extra "n"
  have N9:=Ya N e2
  replace N9:=Yb F N9 n3 g5
  replace N9:=Yb F N9 n2 g4
  replace F:=Ye F e2
  clear N
  (rename News _ _ _ _=>N)
  try dsimp only
  k_steps
  k_extra "n"
  refine wpAny_call (find_spec (cg.step F.keep) (by omega) (by omega) (sc0.xkeep F.keep) (od0.ext F.keep) fun z g3 tk3 e3 n4 a9=>?_)
  have n5:=Yh kp (Yf F.keep n4) (by simp)
  k_extra "n"
  refine AffineAt.newsE F (Ya N e3) a9 fun dz _ _ _ _ _ _ _ N9=>?_
  replace F:=Ye F e3
  clear N
  (rename News _ _ _ _=>N)
  try dsimp only
  k_steps
  k_extra "n"
  exact ret z _ _ (Yg kp F rfl) n5 (AffineAt.ofN kp N (by k_mem) (by k_mem))))only[↓zq])
theorem ev_binary {x y d l r:Nat} {one other:Str} {R} (c:Cx w lse mg mb hB s.heap) (hd:dp≤720) (hu:un≤4500) (h1:(one != Str.ofString "")=true) (h2:(other != Str.ofString "")=true) (a:BinaryAt w h0 s.heap x (Str.ofString "-") l r) (al:SymbolAt w h0 s.heap l one) (ar:SymbolAt w h0 s.heap r other) (sc:ScopeAt w h0 s.heap y d) (od:DAt w s.heap d [])
    (ret:∀ (x:Nat) h' tk,Ext s.heap h'→s.heap.get? x=none→AffineAt w s.heap h' x 0 (nz one other) (nz other one)→R (.ok (.ret (.ref x))) { s with heap:=h',toks:=tk }) :
    codeAny (model PG w) (Ar dp un fr gd) (.call (.ref 447) ⟨[.ref x,.ref y],[]⟩) R s:=zp (by simp(disch:=k_dflt(
  refine' Yd [] [(Str.ofString "node",.ref x),(Str.ofString "scope",.ref y),(Str.ofString "here",.str Mine.H.z89 754)] c ?kf ?k6 ?k7 ?eb ?es ?k8 ?k9 ?kB ?c5 ?c2 ?c3 ?c4 ?_
  k_extra "e0"
  simp only [z89_is] at F
  have a0:=a.keep kp (by simp)
  have al0:=al.keep kp (by simp)
  have ar0:=ar.keep kp (by simp)
  have sc0:=sc.keep kp (by simp)
  have od0:=od.keep kp (by simp)
  refine a0.el fun dx n t1 t2 t3 t4 ta tb a1 a2=>?_
  refine al0.el fun dl nl u1 u2 ua ub a3 a4=>?_
  have b1:=a1.1
  have b2:=a2.1
  have b3:=a3.1
  have b4:=a4.1
  refine absG fun _ kQ=>?_
  obtain ⟨dy,n',v1,a5,a6⟩:=id sc0
  refine kQ ?_
  clear kQ
  have b5:=a5.1
  have b6:=a6.1
  k_steps
  refine wpAny_call (spine_binary (cg.step (Fr.keep (by assumption))) (by omega) (by omega) (a0.xkeep (Fr.keep (by assumption))) (al0.xkeep (Fr.keep (by assumption))) fun p q g2 tk2 kk e2 n2 n3 g4 g5=>?_)
  k_extra "n"
  have N9:=Ya N e2
  replace N9:=Yb F N9 n3 g5
  replace N9:=Yb F N9 n2 g4
  replace F:=Ye F e2
  clear N
  (rename News _ _ _ _=>N)
  try dsimp only
  k_steps
  k_extra "n"
  refine wpAny_call (find_spec (cg.step F.keep) (by omega) (by omega) (sc0.xkeep F.keep) (od0.ext F.keep) fun z g3 tk3 e3 n4 a9=>?_)
  have n5:=Yh kp (Yf F.keep n4) (by simp)
  k_extra "n"
  refine AffineAt.newsE F (Ya N e3) a9 fun dz _ _ _ _ _ _ _ N9=>?_
  replace F:=Ye F e3
  clear N
  (rename News _ _ _ _=>N)
  try dsimp only
  k_steps
  k_extra "n"
  have eS:=Yg kp F rfl
  have cN:=cg.step F.keep
  have eB:=cN.ext
  refine wpAny_call (ev_symbol cN (by omega) (by omega) (by exact ar0.xkeep F.keep) (by exact sc0.xkeep F.keep) (by exact od0.ext F.keep) fun z2 g4 tk4 e4 n6 a8=>?_)
  k_extra "n"
  refine AffineAt.newsE F (Ya N e4) a8 fun dz2 _ _ _ _ _ _ _ N9=>?_
  replace F:=Ye F e4
  clear N
  (rename News _ _ _ _=>N)
  try dsimp only
  k_steps
  k_extra "n"
  have eS:=Yg kp F rfl
  have cN:=cg.step F.keep
  have eB:=cN.ext
  refine wpAny_call (combined_spec cN (by omega) (by omega) h1 h2 (by exact AffineAt.ofNB (dx:=dz) cg N (by k_mem) (by k_mem)) (by exact AffineAt.ofNB (dx:=dz2) cg N (by k_mem) (by k_mem)) fun z3 g5 tk5 e5 n7 a7=>?_)
  have n8:=Yf eS n7
  k_extra "n"
  refine AffineAt.newsE F (Ya N e5) a7 fun dz3 _ _ _ _ _ _ _ N9=>?_
  replace F:=Ye F e5
  clear N
  (rename News _ _ _ _=>N)
  try dsimp only
  k_steps
  k_extra "n"
  exact ret z3 _ _ (Yg kp F rfl) n8 (AffineAt.ofN kp N (by k_mem) (by k_mem))))only[↓zq])
theorem mask_spec {n:Int} {t:Tok} {R} (c:Cx w lse mg mb hB s.heap) (hd:dp≤785) (h0:0≤n) (h1:n≤64)
    (ret:∀ h' tk t',Ext s.heap h'→R (.ok (.ret (.int (1 * 2 ^ n.toNat - 1) t'))) { s with heap:=h',toks:=tk }) :
    codeAny (model PG w) (Ar dp un fr gd) (.call (.ref 104) ⟨[.int n t],[]⟩) R s:=zp (by simp(disch:=k_dflt(
  refine' Yd [] [(Str.ofString "size",.int n t)] c ?kf ?k6 ?k7 ?eb ?es ?k8 ?k9 ?kB ?c5 ?c2 ?c3 ?c4 ?_
  k_extra "e0"
  k_steps
  k_extra "n"
  exact ret _ _ _ (Yg kp F rfl)))only[↓zq])
theorem width_byte {t:Tok} {R} (c:Cx w lse mg mb hB s.heap) (hd:dp≤785)
    (ret:∀ h' tk t',Ext s.heap h'→R (.ok (.ret (.int 1 t'))) { s with heap:=h',toks:=tk }) :
    codeAny (model PG w) (Ar dp un fr gd) (.call (.ref 841) ⟨[.str (Str.ofString ".byte") t],[]⟩) R s:=zp (by simp(disch:=k_dflt(
  refine' Yd [] [(Str.ofString "word",.str (Str.ofString ".byte") t)] c ?kf ?k6 ?k7 ?eb ?es ?k8 ?k9 ?kB ?c5 ?c2 ?c3 ?c4 ?_
  k_extra "e0"
  k_steps
  k_extra "n"
  exact ret _ _ _ (Yg kp F rfl)))only[↓zq])
theorem width_short {t:Tok} {R} (c:Cx w lse mg mb hB s.heap) (hd:dp≤785)
    (ret:∀ h' tk t',Ext s.heap h'→R (.ok (.ret (.int 2 t'))) { s with heap:=h',toks:=tk }) :
    codeAny (model PG w) (Ar dp un fr gd) (.call (.ref 841) ⟨[.str (Str.ofString ".short") t],[]⟩) R s:=zp (by simp(disch:=k_dflt(
  refine' Yd [] [(Str.ofString "word",.str (Str.ofString ".short") t)] c ?kf ?k6 ?k7 ?eb ?es ?k8 ?k9 ?kB ?c5 ?c2 ?c3 ?c4 ?_
  k_extra "e0"
  k_steps
  k_extra "n"
  exact ret _ _ _ (Yg kp F rfl)))only[↓zq])
theorem width_long {t:Tok} {R} (c:Cx w lse mg mb hB s.heap) (hd:dp≤785)
    (ret:∀ h' tk t',Ext s.heap h'→R (.ok (.ret (.int 4 t'))) { s with heap:=h',toks:=tk }) :
    codeAny (model PG w) (Ar dp un fr gd) (.call (.ref 841) ⟨[.str (Str.ofString ".long") t],[]⟩) R s:=zp (by simp(disch:=k_dflt(
  refine' Yd [] [(Str.ofString "word",.str (Str.ofString ".long") t)] c ?kf ?k6 ?k7 ?eb ?es ?k8 ?k9 ?kB ?c5 ?c2 ?c3 ?c4 ?_
  k_extra "e0"
  k_steps
  k_extra "n"
  exact ret _ _ _ (Yg kp F rfl)))only[↓zq])
theorem width_quad {t:Tok} {R} (c:Cx w lse mg mb hB s.heap) (hd:dp≤785)
    (ret:∀ h' tk t',Ext s.heap h'→R (.ok (.ret (.int 8 t'))) { s with heap:=h',toks:=tk }) :
    codeAny (model PG w) (Ar dp un fr gd) (.call (.ref 841) ⟨[.str (Str.ofString ".quad") t],[]⟩) R s:=zp (by simp(disch:=k_dflt(
  refine' Yd [] [(Str.ofString "word",.str (Str.ofString ".quad") t)] c ?kf ?k6 ?k7 ?eb ?es ?k8 ?k9 ?kB ?c5 ?c2 ?c3 ?c4 ?_
  k_extra "e0"
  k_steps
  k_extra "n"
  exact ret _ _ _ (Yg kp F rfl)))only[↓zq])
theorem width_ascii {t:Tok} {R} (c:Cx w lse mg mb hB s.heap) (hd:dp≤785)
    (ret:∀ h' tk t',Ext s.heap h'→R (.ok (.ret (.int 0 t'))) { s with heap:=h',toks:=tk }) :
    codeAny (model PG w) (Ar dp un fr gd) (.call (.ref 841) ⟨[.str (Str.ofString ".ascii") t],[]⟩) R s:=zp (by simp(disch:=k_dflt(
  refine' Yd [] [(Str.ofString "word",.str (Str.ofString ".ascii") t)] c ?kf ?k6 ?k7 ?eb ?es ?k8 ?k9 ?kB ?c5 ?c2 ?c3 ?c4 ?_
  k_extra "e0"
  k_steps
  k_extra "n"
  exact ret _ _ _ (Yg kp F rfl)))only[↓zq])
theorem width_sleb128 {t:Tok} {R} (c:Cx w lse mg mb hB s.heap) (hd:dp≤785)
    (ret:∀ h' tk t',Ext s.heap h'→R (.ok (.ret (.int 0 t'))) { s with heap:=h',toks:=tk }) :
    codeAny (model PG w) (Ar dp un fr gd) (.call (.ref 841) ⟨[.str (Str.ofString ".sleb128") t],[]⟩) R s:=zp (by simp(disch:=k_dflt(
  refine' Yd [] [(Str.ofString "word",.str (Str.ofString ".sleb128") t)] c ?kf ?k6 ?k7 ?eb ?es ?k8 ?k9 ?kB ?c5 ?c2 ?c3 ?c4 ?_
  k_extra "e0"
  k_steps
  k_extra "n"
  exact ret _ _ _ (Yg kp F rfl)))only[↓zq])
theorem width_uleb128 {t:Tok} {R} (c:Cx w lse mg mb hB s.heap) (hd:dp≤785)
    (ret:∀ h' tk t',Ext s.heap h'→R (.ok (.ret (.int 0 t'))) { s with heap:=h',toks:=tk }) :
    codeAny (model PG w) (Ar dp un fr gd) (.call (.ref 841) ⟨[.str (Str.ofString ".uleb128") t],[]⟩) R s:=zp (by simp(disch:=k_dflt(
  refine' Yd [] [(Str.ofString "word",.str (Str.ofString ".uleb128") t)] c ?kf ?k6 ?k7 ?eb ?es ?k8 ?k9 ?kB ?c5 ?c2 ?c3 ?c4 ?_
  k_extra "e0"
  k_steps
  k_extra "n"
  exact ret _ _ _ (Yg kp F rfl)))only[↓zq])
theorem width_balign {t:Tok} {R} (c:Cx w lse mg mb hB s.heap) (hd:dp≤785)
    (ret:∀ h' tk t',Ext s.heap h'→R (.ok (.ret (.int 0 t'))) { s with heap:=h',toks:=tk }) :
    codeAny (model PG w) (Ar dp un fr gd) (.call (.ref 841) ⟨[.str (Str.ofString ".balign") t],[]⟩) R s:=zp (by simp(disch:=k_dflt(
  refine' Yd [] [(Str.ofString "word",.str (Str.ofString ".balign") t)] c ?kf ?k6 ?k7 ?eb ?es ?k8 ?k9 ?kB ?c5 ?c2 ?c3 ?c4 ?_
  k_extra "e0"
  k_steps
  k_extra "n"
  exact ret _ _ _ (Yg kp F rfl)))only[↓zq])
theorem width_org {t:Tok} {R} (c:Cx w lse mg mb hB s.heap) (hd:dp≤785)
    (ret:∀ h' tk t',Ext s.heap h'→R (.ok (.ret (.int 0 t'))) { s with heap:=h',toks:=tk }) :
    codeAny (model PG w) (Ar dp un fr gd) (.call (.ref 841) ⟨[.str (Str.ofString ".org") t],[]⟩) R s:=zp (by simp(disch:=k_dflt(
  refine' Yd [] [(Str.ofString "word",.str (Str.ofString ".org") t)] c ?kf ?k6 ?k7 ?eb ?es ?k8 ?k9 ?kB ?c5 ?c2 ?c3 ?c4 ?_
  k_extra "e0"
  k_steps
  k_extra "n"
  exact ret _ _ _ (Yg kp F rfl)))only[↓zq])
theorem width_skip {t:Tok} {R} (c:Cx w lse mg mb hB s.heap) (hd:dp≤785)
    (ret:∀ h' tk t',Ext s.heap h'→R (.ok (.ret (.int 0 t'))) { s with heap:=h',toks:=tk }) :
    codeAny (model PG w) (Ar dp un fr gd) (.call (.ref 841) ⟨[.str (Str.ofString ".skip") t],[]⟩) R s:=zp (by simp(disch:=k_dflt(
  refine' Yd [] [(Str.ofString "word",.str (Str.ofString ".skip") t)] c ?kf ?k6 ?k7 ?eb ?es ?k8 ?k9 ?kB ?c5 ?c2 ?c3 ?c4 ?_
  k_extra "e0"
  k_steps
  k_extra "n"
  exact ret _ _ _ (Yg kp F rfl)))only[↓zq])
theorem width_fill {t:Tok} {R} (c:Cx w lse mg mb hB s.heap) (hd:dp≤785)
    (ret:∀ h' tk t',Ext s.heap h'→R (.ok (.ret (.int 0 t'))) { s with heap:=h',toks:=tk }) :
    codeAny (model PG w) (Ar dp un fr gd) (.call (.ref 841) ⟨[.str (Str.ofString ".fill") t],[]⟩) R s:=zp (by simp(disch:=k_dflt(
  refine' Yd [] [(Str.ofString "word",.str (Str.ofString ".fill") t)] c ?kf ?k6 ?k7 ?eb ?es ?k8 ?k9 ?kB ?c5 ?c2 ?c3 ?c4 ?_
  k_extra "e0"
  k_steps
  k_extra "n"
  exact ret _ _ _ (Yg kp F rfl)))only[↓zq])
theorem wrap_spec {v n:Int} {t t2:Tok} {R} (c:Cx w lse mg mb hB s.heap) (hd:dp≤780) (h0:0≤n) (h1:n≤64) {u:Int} (h2:Builtin.bitAnd v (1 * 2 ^ n.toNat - 1)=u)
    (ret:∀ h' tk t',Ext s.heap h'→R (.ok (.ret (.int u t'))) { s with heap:=h',toks:=tk }) :
    codeAny (model PG w) (Ar dp un fr gd) (.call (.ref 111) ⟨[.int v t,.int n t2],[]⟩) R s:=zp (by simp(disch:=k_dflt(
  refine' Yd [] [(Str.ofString "worth",.int v t),(Str.ofString "size",.int n t2)] c ?kf ?k6 ?k7 ?eb ?es ?k8 ?k9 ?kB ?c5 ?c2 ?c3 ?c4 ?_
  k_extra "e0"
  k_steps
  k_extra "n"
  have eS:=Yg kp F rfl
  have cN:=cg.step F.keep
  have eB:=cN.ext
  refine wpAny_call (mask_spec cN (by omega) h0 h1 fun g2 tk2 t2 e2=>?_)
  replace F:=Ye F e2
  replace N:=Ya N e2
  try dsimp only
  k_steps
  rw [h2]
  exact ret _ _ _ (Yg kp F rfl)))only[↓zq])
theorem fits_spec {v n:Int} {t t2:Tok} {R} (c:Cx w lse mg mb hB s.heap) (hd:dp≤780) (h0:1≤n) (h1:n≤64) (h2:decide (-(1 * 2 ^ (n-1).toNat)≤v)=true) (h3:decide (v≤1 * 2 ^ n.toNat - 1)=true)
    (ret:∀ h' tk,Ext s.heap h'→R (.ok (.ret (.bool true))) { s with heap:=h',toks:=tk }) :
    codeAny (model PG w) (Ar dp un fr gd) (.call (.ref 118) ⟨[.int v t,.int n t2],[]⟩) R s:=zp (by simp(disch:=k_dflt(
  have h4:0≤n:=by omega
  have h5:0≤n - 1:=by omega
  have h6:n - 1≤64:=by omega
  refine' Yd [] [(Str.ofString "worth",.int v t),(Str.ofString "size",.int n t2)] c ?kf ?k6 ?k7 ?eb ?es ?k8 ?k9 ?kB ?c5 ?c2 ?c3 ?c4 ?_
  k_extra "e0"
  k_steps
  k_extra "n"
  have eS:=Yg kp F rfl
  have cN:=cg.step F.keep
  have eB:=cN.ext
  refine wpAny_call (mask_spec cN (by omega) h4 h1 fun g2 tk2 t2 e2=>?_)
  replace F:=Ye F e2
  replace N:=Ya N e2
  try dsimp only
  k_steps
  rw [h3]
  exact ret _ _ (Yg kp F rfl)))only[↓zq])
theorem row7:True:=by
  k_with ".call type:bytes" => ((fail_if_success have:=@off2);(k_here;fail "by hand"))
  k_with ".exec For Name Call cons nil" => ((fail_if_success have:=@off2);(k_here;refine stop_ ?_))
  k_with ".pyIter ref" => ((fail_if_success have:=@off2);(k_here;refine stop_ ?_))
  k_with ".call builtin:list.append" => ((fail_if_success have:=@off2);(k_here;(with_reducible show wpAny _ _ (call (Value.builtin _) [Value.ref _,_]) _ _ _);k_dflt (refine' append_K (by k_asm) (by k_asm) (by k_upd) ?_ (by exact Nat.le_trans (by assumption) (by rw [sizeLine_eq];decide));k_whole);intro _ _ _))
  k_with ".exec If Compare" => ((fail_if_success have:=@off2);(k_here;first | ((with_reducible show wpAny _ _ (exec (Stmt.If (PySem.Expr.Compare (PySem.Expr.Name _ _) [CmpOp.Eq] [PySem.Expr.Constant (Const.int _) _ _] _) _ _ _) _) _ _ _);k_dflt (first | (refine' @if_eqIF _ _ _ _ _ _ _ _ _ _ _ _ _ _ _ _ _ _ _ _ _ _ _ _ (by k_asm) (by exact rfl) (by exact rfl) (by exact rfl) (by decide) (by decide) ?_) | (refine' @if_eqIT _ _ _ _ _ _ _ _ _ _ _ _ _ _ _ _ _ _ _ _ _ _ _ _ (by k_asm) (by exact rfl) (by exact rfl) (by exact rfl) (by decide) (by decide) ?_))) | ((with_reducible show wpAny _ _ (exec (Stmt.If (PySem.Expr.Compare (PySem.Expr.Name _ _) [CmpOp.Eq] [PySem.Expr.Constant (Const.str _) _ _] _) _ _ _) _) _ _ _);k_dflt (first | (refine' @if_eqF _ _ _ _ _ _ _ _ _ _ _ _ _ _ _ _ _ _ _ _ _ _ _ _ (by k_asm) (by exact rfl) (by exact rfl) (by exact rfl) (by decide) (by decide) ?_) | (refine' @if_eqT _ _ _ _ _ _ _ _ _ _ _ _ _ _ _ _ _ _ _ _ _ _ _ _ (by k_asm) (by exact rfl) (by exact rfl) (by exact rfl) (by decide) (by decide) ?_))) | ((with_reducible show wpAny _ _ (exec (Stmt.If (PySem.Expr.Compare (PySem.Expr.Name _ _) [CmpOp.In] [PySem.Expr.Tuple [_,_,_] _ _] _) _ _ _) _) _ _ _);k_dflt (first | (refine' @if_in3F _ _ _ _ _ _ _ _ _ _ _ _ _ _ _ _ _ _ _ _ _ _ _ _ _ _ _ _ _ _ _ _ _ (by k_asm) (by k_asm) (by exact rfl) (by exact rfl) (by exact rfl) (by decide) (by decide) ?_;intro _ _ _ _) | (refine' @if_in3T _ _ _ _ _ _ _ _ _ _ _ _ _ _ _ _ _ _ _ _ _ _ _ _ _ _ _ _ _ _ _ _ _ (by k_asm) (by k_asm) (by exact rfl) (by exact rfl) (by exact rfl) (by decide) (by decide) ?_;intro _ _ _ _))) | ((with_reducible show wpAny _ _ (exec (Stmt.If (PySem.Expr.Compare (PySem.Expr.Name _ _) [CmpOp.In] [PySem.Expr.Tuple [_,_] _ _] _) _ _ _) _) _ _ _);k_dflt (first | (refine' @if_in2F _ _ _ _ _ _ _ _ _ _ _ _ _ _ _ _ _ _ _ _ _ _ _ _ _ _ _ _ _ _ (by k_asm) (by k_asm) (by exact rfl) (by exact rfl) (by exact rfl) (by decide) (by decide) ?_;intro _ _ _ _) | (refine' @if_in2T _ _ _ _ _ _ _ _ _ _ _ _ _ _ _ _ _ _ _ _ _ _ _ _ _ _ _ _ _ _ (by k_asm) (by k_asm) (by exact rfl) (by exact rfl) (by exact rfl) (by decide) (by decide) ?_;intro _ _ _ _)))))
  trivial
theorem ints_len {vs:List Value} {ns:List Int} (h:IntsAre vs ns):vs.length=ns.length:=by
  induction h with
  | nil=>rfl
  | cons n t h ih=>simp [ih]
theorem ints_snoc9 {vs:List Value} {ns:List Int} {n:Int} {t:Tok} (h:IntsAre vs ns):IntsAre (vs++[.int n t]) (ns++[n]):=by
  induction h with
  | nil=>exact .cons _ _ .nil
  | cons a b h ih=>exact .cons _ _ ih
theorem little_wrap {r:Int} {m:Nat} (hr:r=0∨r=7) (hm:m≤8):∃ u:Int,(u=0∨u=7)∧Builtin.bitAnd r (1 * 2 ^ (8 * (m:Int)).toNat - 1)=u:=by
  have h:m=0∨m=1∨m=2∨m=3∨m=4∨m=5∨m=6∨m=7∨m=8:=(by decide:∀ m,m<9→(m=0∨m=1∨m=2∨m=3∨m=4∨m=5∨m=6∨m=7∨m=8)) m (Nat.lt_succ_of_le hm)
  rcases hr with rfl | rfl <;> rcases h with rfl | rfl | rfl | rfl | rfl | rfl | rfl | rfl | rfl <;> exact ⟨_,by decide,rfl⟩
theorem little_any {r:Int} {m:Nat} {t t2:Tok} {R} (hr:r=0∨r=7) (hm:m≤8) (c:Cx w lse mg mb hB s.heap) (hd:dp≤770)
    (ret:∀ h' tk t' (b:Array UInt8),Ext s.heap h'→b.size=m→R (.ok (.ret (.bytes b t'))) { s with heap:=h',toks:=tk }) :
    codeAny (model PG w) (Ar dp un fr gd) (.call (.ref 125) ⟨[.int r t,.int (m:Int) t2],[]⟩) R s:=zp (by simp(disch:=k_dflt(
  obtain ⟨u,hu,hb⟩:=little_wrap hr hm
  refine' Yd [] [(Str.ofString "worth",.int r t),(Str.ofString "width",.int (m:Int) t2)] c ?kf ?k6 ?k7 ?eb ?es ?k8 ?k9 ?kB ?c5 ?c2 ?c3 ?c4 ?_
  k_extra "e0"
  k_steps
  k_extra "n"
  have eS:=Yg kp F rfl
  have cN:=cg.step F.keep
  have eB:=cN.ext
  refine wpAny_call (wrap_spec cN (by omega) (by omega) (by omega) (u:=u) hb fun g2 tk2 t2 e2=>?_)
  replace F:=Ye F e2
  replace N:=Ya N e2
  try dsimp only
  k_steps
  delta Stop
  k_extra "n"
  refine For_turns F ?_
  k_steps
  delta Stop
  k_extra "n"
  (rename (IsRange _ _ _ _ _ _ _ _)=>hrg)
  rename_i l _ _ _ _ _ _ _ _ _ _ _
  refine iter_rangeTurns (n:=m) rfl hrg (small_one (by omega) (by omega) (by omega) (by omega)) (by rw [rangeSize_nat];simp) F N fun I l1=>?_
  refine range_ind (I:=I) (fun k m' news=>Ex5 fun (v:Int) (tv:Tok) (arr:Array Value) (cnt:Nat) (ns:List Int)=>A7 (v=0∨v=7) (IntsAre arr.toList ns) (∀ q∈ns,0≤q∧q<256) (ns.length+k=m) (m' (Str.ofString "octets")=some (.ref l)) (m' (Str.ofString "rest")=some (.int v tv)) (news=[(l,PySem.W.listOf arr cnt)])) ?zero ?turn _ _ _ ?start
  case start=>exact ⟨u,t2,#[],0,[],hu,.nil,(fun _ hq=>by cases hq),by simp,rfl,rfl,rfl⟩
  case zero =>
    rintro m' news h tk ⟨v,tv,arr,cnt,ns,hv,hi,hq,hlen,m1,m2,rfl⟩ F N
    have hmm:=Yr (m:=m') [(Str.ofString "octets",some (.ref l)),(Str.ofString "rest",some (.int v tv))] (by simp [m1,m2])
    rw [hmm] at F
    simp only [mLook] at F
    k_steps
    k_extra "n"
    have hl:=ints_len hi
    exact ret _ _ _ _ (Yg kp F rfl) (by simp [byteArr];omega)
  case turn =>
    rintro k m' news h tk it i t ⟨v,tv,arr,cnt,ns,hv,hi,hq,hlen,m1,m2,rfl⟩ hit F N
    have hmm:=Yr (m:=m') [(Str.ofString "octets",some (.ref l)),(Str.ofString "rest",some (.int v tv))] (by simp [m1,m2])
    rw [hmm] at F
    simp only [mLook] at F
    have hl:=ints_len hi
    have hsz:arr.size≤8:=by
      rw [Array.length_toList] at hl
      omega
    have nI:@LT.lt Nat _ l I:=l1 _ (.head _)
    have nI2:@Ne Nat I l:=Ne.symm (Nat.ne_of_lt nI)
    rcases hv with rfl | rfl
    all_goals
      k_steps
      k_extra "n"
      refine ⟨_,_,_,_,rfl,F,N,fun p hp q hq e=>?_,_,_,_,_,ns++[_],.inl (by decide),(by rw [Array.toList_push];exact ints_snoc9 hi),fun q hz=>?_,?_,rfl,rfl,rfl⟩
      · rw [List.mem_singleton.mp hp,List.mem_singleton.mp hq] at e
        first | exact nI2 e | exact nI2 e.symm
      · rcases List.mem_append.mp hz with h | h
        · exact hq q h
        · rw [List.mem_singleton.mp h]
          decide
      · simp
        omega))only[↓zq])
theorem off2:True:=trivial
theorem told_Affine {x:Nat} {v:Int} {p m:Str} {R} (c:Cx w lse mg mb hB s.heap) (hd:dp≤770) (hu:un≤4990) (a:AffineAt w h0 s.heap x v p m) 
    (ret:∀ (y:Nat) h' tk,Ext s.heap h'→R (.ok (.ret (.ref y))) { s with heap:=h',toks:=tk }) :
    codeAny (model PG w) (Ar dp un fr gd) (.call (.ref 314) ⟨[.ref x],[]⟩) R s:=zp (by simp(disch:=k_dflt(
  refine' Yd [] [(Str.ofString "self",.ref x)] c ?kf ?k6 ?k7 ?eb ?es ?k8 ?k9 ?kB ?c5 ?c2 ?c3 ?c4 ?_
  k_extra "e0"
  have a0:=a.keep kp (by simp)
  refine a0.el fun dx n t1 t2 t3 u1 u2 u3 a1 a2=>?_
  have b1:=a1.1
  have b2:=a2.1
  k_steps
  k_extra "n"
  exact ret _ _ _ (Yg kp F rfl)))only[↓zq])
theorem told_Align {x:Nat} {v:Int} {b:Bool} {R} (c:Cx w lse mg mb hB s.heap) (hd:dp≤750) (hu:un≤4900) (a:AlignAt w h0 s.heap x v b) 
    (ret:∀ (y:Nat) h' tk,Ext s.heap h'→R (.ok (.ret (.ref y))) { s with heap:=h',toks:=tk }) :
    codeAny (model PG w) (Ar dp un fr gd) (.call (.ref 619) ⟨[.ref x],[]⟩) R s:=zp (by simp(disch:=k_dflt(
  refine' Yd [] [(Str.ofString "self",.ref x)] c ?kf ?k6 ?k7 ?eb ?es ?k8 ?k9 ?kB ?c5 ?c2 ?c3 ?c4 ?_
  k_extra "e0"
  have a0:=a.keep kp (by simp)
  refine a0.el fun dx n t1 t2 t3 t4 u1 u2 a1 a2=>?_
  have b1:=a1.1
  have b2:=a2.1
  k_steps
  k_extra "n"
  exact ret _ _ _ (Yg kp F rfl)))only[↓zq])
theorem told_Space {x:Nat} {v u:Int} {R} (c:Cx w lse mg mb hB s.heap) (hd:dp≤750) (hu:un≤4900) (a:SpaceAt w h0 s.heap x v u) 
    (ret:∀ (y:Nat) h' tk,Ext s.heap h'→R (.ok (.ret (.ref y))) { s with heap:=h',toks:=tk }) :
    codeAny (model PG w) (Ar dp un fr gd) (.call (.ref 680) ⟨[.ref x],[]⟩) R s:=zp (by simp(disch:=k_dflt(
  refine' Yd [] [(Str.ofString "self",.ref x)] c ?kf ?k6 ?k7 ?eb ?es ?k8 ?k9 ?kB ?c5 ?c2 ?c3 ?c4 ?_
  k_extra "e0"
  have a0:=a.keep kp (by simp)
  refine a0.el fun dx n t1 t2 t3 t4 u1 u2 u3 a1 a2=>?_
  have b1:=a1.1
  have b2:=a2.1
  k_steps
  k_extra "n"
  exact ret _ _ _ (Yg kp F rfl)))only[↓zq])
theorem told_Org {x:Nat} {l:Nat} {R} (c:Cx w lse mg mb hB s.heap) (hd:dp≤750) (hu:un≤4900) (a:OrgAt w h0 s.heap x l) {v:Int} {p m:Str} (f:AffineAt w h0 s.heap l v p m)
    (ret:∀ (y:Nat) h' tk,Ext s.heap h'→R (.ok (.ret (.ref y))) { s with heap:=h',toks:=tk }) :
    codeAny (model PG w) (Ar dp un fr gd) (.call (.ref 646) ⟨[.ref x],[]⟩) R s:=zp (by simp(disch:=k_dflt(
  refine' Yd [] [(Str.ofString "self",.ref x)] c ?kf ?k6 ?k7 ?eb ?es ?k8 ?k9 ?kB ?c5 ?c2 ?c3 ?c4 ?_
  k_extra "e0"
  have a0:=a.keep kp (by simp)
  refine a0.el fun dx n t1 t2 t3 u1 a1 a2=>?_
  have b1:=a1.1
  have b2:=a2.1
  have f0:=f.keep kp (by simp)
  refine f0.el fun dl nl v1 v2 v3 w1 w2 w3 f1 f2=>?_
  have b3:=f1.1
  have b4:=f2.1
  k_steps
  k_extra "n"
  have eS:=Yg kp F rfl
  have cN:=cg.step F.keep
  have eB:=cN.ext
  refine wpAny_call (told_Affine cN (by omega) (by omega) (by exact f0.xkeep F.keep) fun y g2 tk2 e2=>?_)
  replace F:=Ye F e2
  replace N:=Ya N e2
  try dsimp only
  k_steps
  k_extra "n"
  exact ret _ _ _ (Yg kp F rfl)))only[↓zq])
theorem told_Leb {x:Nat} {l:Nat} {b:Bool} {R} (c:Cx w lse mg mb hB s.heap) (hd:dp≤750) (hu:un≤4900) (a:LebAt w h0 s.heap x l b) {v:Int} {p m:Str} (f:AffineAt w h0 s.heap l v p m)
    (ret:∀ (y:Nat) h' tk,Ext s.heap h'→R (.ok (.ret (.ref y))) { s with heap:=h',toks:=tk }) :
    codeAny (model PG w) (Ar dp un fr gd) (.call (.ref 707) ⟨[.ref x],[]⟩) R s:=zp (by simp(disch:=k_dflt(
  refine' Yd [] [(Str.ofString "self",.ref x)] c ?kf ?k6 ?k7 ?eb ?es ?k8 ?k9 ?kB ?c5 ?c2 ?c3 ?c4 ?_
  k_extra "e0"
  have a0:=a.keep kp (by simp)
  refine a0.el fun dx n t1 t2 t3 t4 u1 a1 a2=>?_
  have b1:=a1.1
  have b2:=a2.1
  have f0:=f.keep kp (by simp)
  refine f0.el fun dl nl v1 v2 v3 w1 w2 w3 f1 f2=>?_
  have b3:=f1.1
  have b4:=f2.1
  k_steps
  k_extra "n"
  have eS:=Yg kp F rfl
  have cN:=cg.step F.keep
  have eB:=cN.ext
  refine wpAny_call (told_Affine cN (by omega) (by omega) (by exact f0.xkeep F.keep) fun y g2 tk2 e2=>?_)
  replace F:=Ye F e2
  replace N:=Ya N e2
  try dsimp only
  k_steps
  k_extra "n"
  exact ret _ _ _ (Yg kp F rfl)))only[↓zq])
theorem told_Octets {x:Nat} {b:Array UInt8} {l:Nat} {R} (c:Cx w lse mg mb hB s.heap) (hd:dp≤750) (hu:un≤4900) (a:OctetsAt w h0 s.heap x b l) {k:Nat} (f:s.heap.get? l=some (lst [] k))
    (ret:∀ (y:Nat) h' tk,Ext s.heap h'→R (.ok (.ret (.ref y))) { s with heap:=h',toks:=tk }) :
    codeAny (model PG w) (Ar dp un fr gd) (.call (.ref 592) ⟨[.ref x],[]⟩) R s:=zp (by simp(disch:=k_dflt(
  refine' Yd [] [(Str.ofString "self",.ref x)] c ?kf ?k6 ?k7 ?eb ?es ?k8 ?k9 ?kB ?c5 ?c2 ?c3 ?c4 ?_
  k_extra "e0"
  have a0:=a.keep kp (by simp)
  refine a0.el fun dx n t1 t2 t3 t4 u1 u2 a1 a2=>?_
  have b1:=a1.1
  have b2:=a2.1
  have f0:=kp _ _ (by simp) f
  have f1:g.IsList l #[]:=⟨_,f0,rfl,_,rfl⟩
  k_steps
  k_extra "n"
  exact ret _ _ _ (Yg kp F rfl)))only[↓zq])
theorem width_Octets {x:Nat} {b:Array UInt8} {l:Nat} (hb:b.size≤1000) {R} (c:Cx w lse mg mb hB s.heap) (hd:dp≤750) (hu:un≤4900) (a:OctetsAt w h0 s.heap x b l)
    (ret:∀ h' tk t,Ext s.heap h'→R (.ok (.ret (.int (b.size:Int) t))) { s with heap:=h',toks:=tk }) :
    codeAny (model PG w) (Ar dp un fr gd) (.call (.ref 587) ⟨[.ref x],[]⟩) R s:=zp (by simp(disch:=k_dflt(
  refine' Yd [] [(Str.ofString "self",.ref x)] c ?kf ?k6 ?k7 ?eb ?es ?k8 ?k9 ?kB ?c5 ?c2 ?c3 ?c4 ?_
  k_extra "e0"
  have a0:=a.keep kp (by simp)
  refine a0.el fun dx n t1 t2 t3 t4 u1 u2 a1 a2=>?_
  have b1:=a1.1
  have b2:=a2.1
  k_steps
  k_extra "n"
  exact ret _ _ _ (Yg kp F rfl)))only[↓zq])
theorem width_Space {x:Nat} {v u:Int} {R} (c:Cx w lse mg mb hB s.heap) (hd:dp≤750) (hu:un≤4900) (a:SpaceAt w h0 s.heap x v u)
    (ret:∀ h' tk t,Ext s.heap h'→R (.ok (.ret (.int v t))) { s with heap:=h',toks:=tk }) :
    codeAny (model PG w) (Ar dp un fr gd) (.call (.ref 673) ⟨[.ref x],[]⟩) R s:=zp (by simp(disch:=k_dflt(
  refine' Yd [] [(Str.ofString "self",.ref x)] c ?kf ?k6 ?k7 ?eb ?es ?k8 ?k9 ?kB ?c5 ?c2 ?c3 ?c4 ?_
  k_extra "e0"
  have a0:=a.keep kp (by simp)
  refine a0.el fun dx n t1 t2 t3 t4 u1 u2 u3 a1 a2=>?_
  have b1:=a1.1
  have b2:=a2.1
  k_steps
  k_extra "n"
  exact ret _ _ _ (Yg kp F rfl)))only[↓zq])
theorem width_none {x:Nat} {R} (c:Cx w lse mg mb hB s.heap) (hd:dp≤750) (hu:un≤4900)
    (ret:∀ h' tk t,Ext s.heap h'→R (.ok (.ret (.int (-1) t))) { s with heap:=h',toks:=tk }) :
    codeAny (model PG w) (Ar dp un fr gd) (.call (.ref 558) ⟨[.ref x],[]⟩) R s:=zp (by simp(disch:=k_dflt(
  refine' Yd [] [(Str.ofString "self",.ref x)] c ?kf ?k6 ?k7 ?eb ?es ?k8 ?k9 ?kB ?c5 ?c2 ?c3 ?c4 ?_
  k_extra "e0"
  k_steps
  k_extra "n"
  exact ret _ _ _ (Yg kp F rfl)))only[↓zq])
def SecAt (w:World) (h:Heap) (x:Nat) (name:Str) (pl ld:Nat):Prop :=
  Ex6 fun (dx:Nat) (n:Nat) (t1 t2 t3 ta:Tok)=>h.get? x=some (instObj 769 dx)∧h.get? dx=some (dictOf [en w "name" t1 (.str name ta),en w "pieces" t2 (.ref pl),en w "labels" t3 (.ref ld)] n)
theorem SecAt.el {w:World} {h:Heap} {x:Nat} {name:Str} {pl ld:Nat} {P:Prop} (a:SecAt w h x name pl ld) (k:∀ (dx:Nat) (n:Nat) (t1 t2 t3 ta:Tok),h.get? x=some (instObj 769 dx)→h.get? dx=some (dictOf [en w "name" t1 (.str name ta),en w "pieces" t2 (.ref pl),en w "labels" t3 (.ref ld)] n)→P):P:=by
  obtain ⟨dx,n,t1,t2,t3,ta,a1,a2⟩:=a
  exact k dx n t1 t2 t3 ta a1 a2
theorem SecAt.ext {h h':Heap} {x pl ld:Nat} {name:Str} (a:SecAt w h x name pl ld) (e:Ext h h'):SecAt w h' x name pl ld:=by
  refine a.el fun dx n t1 t2 t3 ta a1 a2=>?_
  exact ⟨dx,n,t1,t2,t3,ta,e _ _ a1,e _ _ a2⟩
theorem add_spec2 {x p pl ld n:Nat} {name:Str} {ps:List Value} {R} (c:Cx w lse mg mb hB s.heap) (hd:dp≤780) (hu:un≤5000) (a:SecAt w hB x name pl ld) (hp:Own hB s.heap pl (lst ps n)) (hz:ps.length≤1000)
    (ret:∀ h' tk,Keep [pl] s.heap h'→h'.get? pl=some (lst (ps++[.ref p]) (n+1))→R (.ok (.ret .none)) { s with heap:=h',toks:=tk }) :
    codeAny (model PG w) (Ar dp un fr gd) (.call (.ref 747) ⟨[.ref x,.ref p],[]⟩) R s:=zp (by simp(disch:=k_dflt(
  refine' Yd [(pl,lst ps n)] [(Str.ofString "self",.ref x),(Str.ofString "piece",.ref p)] c ?kf ?k6 ?k7 ?eb ?es ?k8 ?k9 ?kB ?c5 ?c2 ?c3 ?c4 ?_
  k_extra "e0"
  refine (a.ext cg.ext).el fun dx n' t1 t2 t3 ta a1 a2=>?_
  k_steps
  k_extra "n"
  have kq:=kqo (ks:=[pl]) kp F N hfo (by k_extra "q")
  refine ret _ _ kq ?_
  have q:=N.get (List.mem_singleton.mpr rfl)
  rw [q]
  simp [PySem.W.listOf,lst]))only[↓zq])
theorem code_spec {x pl ld:Nat} {name:Str} {R} (c:Cx w lse mg mb hB s.heap) (hd:dp≤780) (hu:un≤5000) (a:SecAt w hB x name pl ld) (hn:name=Str.ofString ".text" ∨ name=Str.ofString ".data" ∨ name=Str.ofString ".note")
    (ret:∀ h' tk b,Ext s.heap h'→R (.ok (.ret (.bool b))) { s with heap:=h',toks:=tk }) :
    codeAny (model PG w) (Ar dp un fr gd) (.call (.ref 733) ⟨[.ref x],[]⟩) R s:=zp (by simp(disch:=k_dflt(
  rcases hn with rfl | rfl | rfl
  all_goals
    refine' Yd [] [(Str.ofString "self",.ref x)] c ?kf ?k6 ?k7 ?eb ?es ?k8 ?k9 ?kB ?c5 ?c2 ?c3 ?c4 ?_
    k_extra "e0"
    refine (a.ext cg.ext).el fun dx n' t1 t2 t3 ta a1 a2=>?_
    k_steps
    k_extra "n"
    exact ret _ _ _ (Yg kp F rfl)))only[↓zq])
theorem empty_spec {x pl ld:Nat} {name:Str} {R} (c:Cx w lse mg mb hB s.heap) (hd:dp≤780) (hu:un≤5000) (a:SecAt w hB x name pl ld) (hn:name=Str.ofString ".text" ∨ name=Str.ofString ".data" ∨ name=Str.ofString ".note")
    (ret:∀ h' tk,Ext s.heap h'→R (.ok (.ret (.bool false))) { s with heap:=h',toks:=tk }) :
    codeAny (model PG w) (Ar dp un fr gd) (.call (.ref 740) ⟨[.ref x],[]⟩) R s:=zp (by simp(disch:=k_dflt(
  rcases hn with rfl | rfl | rfl
  all_goals
    refine' Yd [] [(Str.ofString "self",.ref x)] c ?kf ?k6 ?k7 ?eb ?es ?k8 ?k9 ?kB ?c5 ?c2 ?c3 ?c4 ?_
    k_extra "e0"
    refine (a.ext cg.ext).el fun dx n' t1 t2 t3 ta a1 a2=>?_
    k_steps
    k_extra "n"
    exact ret _ _ (Yg kp F rfl)))only[↓zq])
theorem new_Section {name:Str} {t:Tok} {R} (c:Cx w lse mg mb hB s.heap) (hd:dp≤780) (hu:un≤5000)
    (ret:∀ (x dx pl ld:Nat) (o:Obj) n t1 t2 t3 ta h' tk,Ext s.heap h'→s.heap.get? x=none→s.heap.get? dx=none→s.heap.get? pl=none→s.heap.get? ld=none→(@Ne Nat x pl∧@Ne Nat x ld∧@Ne Nat dx pl∧@Ne Nat dx ld∧@Ne Nat pl ld∧@Ne Nat dx x) →
      h'.get? x=some (instObj 769 dx)→h'.get? dx=some (dictOf [en w "name" t1 (.str name ta),en w "pieces" t2 (.ref pl),en w "labels" t3 (.ref ld)] n) →
      h'.get? pl=some (lst [] 0)→h'.get? ld=some o→o.IsDictOf (PySem.strKind PG w) []→(@BEq.beq Addr _ ld sysModules)=false→R (.ok (.ret (.ref x))) { s with heap:=h',toks:=tk }) :
    codeAny (model PG w) (Ar dp un fr gd) (.call (.ref 769) ⟨[.str name t],[]⟩) R s:=zp (by simp(disch:=k_dflt(
  refine make c (by k_dflt k_is) (by k_dflt k_is) (by k_dflt k_is) ?_
  intro x dx h₁ e1 n1 n2 o1 o2 hne
  replace hne:@Ne Nat dx x:=hne
  have c0:=c
  replace c:=c.step e1
  refine' Yd [(x,instObj 769 dx),(dx,dictOf [] 0)] [(Str.ofString "self",.ref x),(Str.ofString "name",.str name t)] c ?kf ?k6 ?k7 ?eb ?es ?k8 ?k9 ?kB ?c5 ?c2 ?c3 ?c4 ?_
  k_extra "e0"
  k_steps
  k_extra "n"
  have kq:=kqo (ks:=[dx]) kp F N hfo (by k_extra "q")
  (rename Nat=>ld)
  refine ⟨rfl,ret x dx _ _ _ _ _ _ _ _ _ _ (Yw e1 kq n2) n1 n2 (Yf e1 (Yh kp (N _ (.tail _ (.head _))).2.2 ?_)) (Yf e1 (Yh kp (N _ (.head _)).2.2 ?_)) ⟨?_,?_,?_,?_,?_,hne⟩ (N.get (by k_mem)) (N.get (by k_mem)) (N.get (by k_mem)) (N.get (by k_mem)) (by assumption) (by assumption)⟩
  all_goals first | omega | (intro hm;simp only [List.map,List.mem_cons,List.not_mem_nil,or_false] at hm;(have hm:@Eq Nat _ _∨@Eq Nat _ _:=hm);omega)))only[↓zq])
local macro_rules | `(tactic| walk_at "setItem ref str") => `(tactic| (k_extra ".setItem ref str.a"; intro h' o' F' N' hd'; (try dsimp only at N')))
theorem row8:True:=by
  k_with ".eval ListComp" => (k_here;k_dflt (refine LCg.ListComp_U (F₀:=by k_asm) (by with_unfolding_all rfl) (by decide) (by rfl) (by decide) (by rfl) ?_))
  k_with ".exec For Name Subscript cons nil" => (k_here;(with_unfolding_all refine' For_turns (by k_asm) ?_;k_whole))
  k_with ".call builtin:len" => (k_here;(with_reducible show wpAny _ _ (call (Value.builtin "len") [Value.ref _]) _ _ _);k_dflt (refine @len_L _ _ _ _ _ _ _ (by is_list) (by first | decide | omega | (simp;omega)) ?_))
  k_with ".getItem ref str" => (k_here;k_dflt (refine @getItem_D _ _ _ _ _ _ _ _ _ _ (by k_extra "dat") (by k_extra "bool") ?_))
  k_with ".setItem ref str.a" => (k_here;k_dflt (refine' @kda_set _ _ _ _ _ _ _ _ _ _ _ _ _ _ _ _ _ _ _ (knd:=PySem.strKind _ _) (by k_asm) (by k_asm) (by k_updF) (by k_asm) (strKind_is _ _ _ _) (by rw [sizeLine_eq];omega) ?_))
  trivial
theorem row9:True:=by
  k_with ".exec If Compare" => ((fail_if_success have:=@off3);(k_here;first | ((with_reducible show wpAny _ _ (exec (Stmt.If (PySem.Expr.Compare (PySem.Expr.Name _ _) [CmpOp.Eq] [PySem.Expr.Constant (Const.int _) _ _] _) _ _ _) _) _ _ _);k_dflt (first | (refine' @if_eqIF _ _ _ _ _ _ _ _ _ _ _ _ _ _ _ _ _ _ _ _ _ _ _ _ (by k_asm) (by exact rfl) (by exact rfl) (by exact rfl) (by decide) (by decide) ?_) | (refine' @if_eqIT _ _ _ _ _ _ _ _ _ _ _ _ _ _ _ _ _ _ _ _ _ _ _ _ (by k_asm) (by exact rfl) (by exact rfl) (by exact rfl) (by decide) (by decide) ?_))) | ((with_reducible show wpAny _ _ (exec (Stmt.If (PySem.Expr.Compare (PySem.Expr.Name _ _) [CmpOp.Eq] [PySem.Expr.Constant (Const.str _) _ _] _) _ _ _) _) _ _ _);k_dflt (first | (refine' @if_eqF _ _ _ _ _ _ _ _ _ _ _ _ _ _ _ _ _ _ _ _ _ _ _ _ (by k_asm) (by exact rfl) (by exact rfl) (by exact rfl) (by decide) (by decide) ?_) | (refine' @if_eqT _ _ _ _ _ _ _ _ _ _ _ _ _ _ _ _ _ _ _ _ _ _ _ _ (by k_asm) (by exact rfl) (by exact rfl) (by exact rfl) (by decide) (by decide) ?_))) | ((with_reducible show wpAny _ _ (exec (Stmt.If (PySem.Expr.Compare (PySem.Expr.Name _ _) [CmpOp.In] [PySem.Expr.Tuple [_,_,_] _ _] _) _ _ _) _) _ _ _);k_dflt (first | (refine' @if_in3F _ _ _ _ _ _ _ _ _ _ _ _ _ _ _ _ _ _ _ _ _ _ _ _ _ _ _ _ _ _ _ _ _ (by k_asm) (by k_asm) (by exact rfl) (by exact rfl) (by exact rfl) (by decide) (by decide) ?_;intro _ _ _ _) | (refine' @if_in3T _ _ _ _ _ _ _ _ _ _ _ _ _ _ _ _ _ _ _ _ _ _ _ _ _ _ _ _ _ _ _ _ _ (by k_asm) (by k_asm) (by exact rfl) (by exact rfl) (by exact rfl) (by decide) (by decide) ?_;intro _ _ _ _))) | ((with_reducible show wpAny _ _ (exec (Stmt.If (PySem.Expr.Compare (PySem.Expr.Name _ _) [CmpOp.In] [PySem.Expr.Tuple [_,_] _ _] _) _ _ _) _) _ _ _);k_dflt (first | (refine' @if_in2F _ _ _ _ _ _ _ _ _ _ _ _ _ _ _ _ _ _ _ _ _ _ _ _ _ _ _ _ _ _ (by k_asm) (by k_asm) (by exact rfl) (by exact rfl) (by exact rfl) (by decide) (by decide) ?_;intro _ _ _ _) | (refine' @if_in2T _ _ _ _ _ _ _ _ _ _ _ _ _ _ _ _ _ _ _ _ _ _ _ _ _ _ _ _ _ _ (by k_asm) (by k_asm) (by exact rfl) (by exact rfl) (by exact rfl) (by decide) (by decide) ?_;intro _ _ _ _)))))
  k_with ".pyIter ref" => ((fail_if_success have:=@off3);(k_here;refine stop_ ?_))
  trivial
theorem mark_spec {x pl ld n:Nat} {name lab:Str} {tl:Tok} {ps:List Value} {o:Obj} {lb:List (Str×Value)} {R} (c:Cx w lse mg mb hB s.heap) (hd:dp≤780) (hu:un≤5000) (a:SecAt w hB x name pl ld) (hp:Own hB s.heap pl (lst ps n)) (hz:ps.length≤1000)
    (hl:Own hB s.heap ld o) (lo:(@BEq.beq Addr _ ld sysModules)=false) (hdict:o.IsDictOf (PySem.strKind PG w) lb) (hlb:lb.length≤1000) (hne:@Ne Nat pl ld)
    (ret:∀ h' tk o' (y:Nat) t1 t2,Keep [ld] s.heap h'→h'.get? ld=some o'→o'.IsDictOf (PySem.strKind PG w) (stored lb lab (.ref y))→s.heap.get? y=none→h'.get? y=some (tupO [.int ps.length t1,.int 0 t2])→R (.ok (.ret .none)) { s with heap:=h',toks:=tk }) :
    codeAny (model PG w) (Ar dp un fr gd) (.call (.ref 754) ⟨[.ref x,.str lab tl],[]⟩) R s:=zp (by simp(disch:=k_dflt(
  refine' Yd [(pl,lst ps n),(ld,o)] [(Str.ofString "self",.ref x),(Str.ofString "name",.str lab tl)] c ?kf ?k6 ?k7 ?eb ?es ?k8 ?k9 ?kB ?c5 ?c2 ?c3 ?c4 ?_
  k_extra "e0"
  refine (a.ext cg.ext).el fun dx n' t1 t2 t3 ta a1 a2=>?_
  k_steps
  k_extra "n"
  have kq:=kqo (ks:=[ld]) kp F N hfo (by k_extra "q")
  (rename (Obj.IsDictOf _ _ (stored _ _ _))=>hq)
  exact ret _ _ _ _ _ _ kq (N.get (by k_mem)) hq (Yh kp (N _ (.head _)).2.2 (by intro hm;simp only [List.map,List.mem_cons,List.not_mem_nil,or_false] at hm;(have hm:@Eq Nat _ _∨@Eq Nat _ _:=hm);omega)) (N.get (by k_mem))))only[↓zq])
theorem m_start {a b:Str} {va:Option Value} {base:Str→Option Value} (hb:base b=none):(fun y=>if y=a then va else base y)=fun y=>if y=a then va else if y=b then none else base y:=by
  funext y
  by_cases h:y=a
  · rw [if_pos h,if_pos h]
  · rw [if_neg h,if_neg h]
    by_cases h':y=b
    · rw [if_pos h',h',hb]
    · rw [if_neg h']
theorem m_turn {a b:Str} {va va' vb vb':Option Value} {base:Str→Option Value}:(fun y=>if y=a then va' else if y=b then vb' else if y=a then va else if y=b then vb else base y)=fun y=>if y=a then va' else if y=b then vb' else base y:=by
  funext y
  by_cases h:y=a
  · rw [if_pos h,if_pos h]
  · rw [if_neg h,if_neg h]
    by_cases h':y=b
    · simp only [if_pos h',if_neg h]
    · simp only [if_neg h',if_neg h]
inductive PieceAt (w:World) (h:Heap) (p:Nat) (wd:Option Int):Prop
  | oct (b:Array UInt8) (l k:Nat) (x:OctetsAt w h0 h p b l) (y:h.get? l=some (lst [] k)) (z:b.size≤1000∧wd=some (b.size:Int)):PieceAt w h p wd
  | align (v:Int) (b:Bool) (x:AlignAt w h0 h p v b) (y:wd=none):PieceAt w h p wd
  | org (l:Nat) (v:Int) (p' m:Str) (x:OrgAt w h0 h p l) (y:AffineAt w h0 h l v p' m) (z:wd=none):PieceAt w h p wd
  | space (v u:Int) (x:SpaceAt w h0 h p v u) (y:0≤v∧wd=some v):PieceAt w h p wd
  | leb (l:Nat) (v:Int) (p' m:Str) (b:Bool) (x:LebAt w h0 h p l b) (y:AffineAt w h0 h l v p' m) (z:wd=none):PieceAt w h p wd
theorem PieceAt.ext {h h':Heap} {p:Nat} {wd} (a:PieceAt w h p wd) (e:Ext h h'):PieceAt w h' p wd:=by
  rcases a with ⟨b,l,k,x,y,z⟩ | ⟨v,b,x,y⟩ | ⟨l,v,p',m,x,y,z⟩ | ⟨v,u,x,y⟩ | ⟨l,v,p',m,b,x,y,z⟩
  · exact (.oct b l k (x.xkeep e) (e _ _ y) z)
  · exact (.align v b (x.xkeep e) y)
  · exact (.org l v p' m (x.xkeep e) (y.xkeep e) z)
  · exact (.space v u (x.xkeep e) y)
  · exact (.leb l v p' m b (x.xkeep e) (y.xkeep e) z)
def Pcs (w:World) (h:Heap):List Value→List (Option Int)→Prop
  | [],[]=>True
  | v::r,wd::ws=>(∃ p:Nat,v=.ref p∧PieceAt w h p wd)∧Pcs w h r ws
  | _,_=>False
theorem Pcs.ext {h h':Heap} (e:Ext h h'):∀ {ps ws},Pcs w h ps ws→Pcs w h' ps ws
  | [],[],_=>trivial
  | _::_,_::_,⟨⟨p,hp,a⟩,r⟩=>⟨⟨p,hp,a.ext e⟩,Pcs.ext e r⟩
  | [],_::_,x=>x.elim
  | _::_,[],x=>x.elim
theorem Pcs.len {h:Heap}:∀ {ps ws},Pcs w h ps ws→ps.length=ws.length
  | [],[],_=>rfl
  | _::_,_::_,⟨_,r⟩=>by simp [Pcs.len r]
  | [],_::_,x=>x.elim
  | _::_,[],x=>x.elim
theorem Pcs.drop {h:Heap}:∀ {ps ws} (n:Nat),Pcs w h ps ws→Pcs w h (ps.drop n) (ws.drop n)
  | _,_,0,x=>x
  | [],[],_+1,_=>trivial
  | _::_,_::_,n+1,⟨_,r⟩=>Pcs.drop n r
  | [],_::_,_+1,x=>x.elim
  | _::_,[],_+1,x=>x.elim
theorem Pcs.take {h:Heap}:∀ {ps ws} (n:Nat),Pcs w h ps ws→Pcs w h (ps.take n) (ws.take n)
  | _,_,0,_=>trivial
  | [],[],_+1,_=>trivial
  | _::_,_::_,n+1,⟨q,r⟩=>⟨q,Pcs.take n r⟩
  | [],_::_,_+1,x=>x.elim
  | _::_,[],_+1,x=>x.elim
def Meth (w:World) (g:Heap) (p:Nat) (name:Str) (f:Addr):Prop:=∃ (C:Addr) (dx:Nat) (es:List DictEntry) (n:Nat),g.get? p=some (instObj C dx)∧g.get? dx=some (dictOf es n) ∧
  plainGet (Mine.H.K w.params) C name=true∧findIn (Mine.H.K w.params) (.ref C) name=some (some (.ref f))∧isFn (Mine.H.K w.params) (.ref f)=true∧getL name es=some none∧keepIn (Mine.H.K w.params) (.ref f)=true
theorem meth_call {A:Around} {g:Heap} {L f:Addr} {p:Nat} {m:Str→Option Value} {name:Str} {pl:Sem Bool} {Q:Value×List Value→Shared→Prop} {E:Value→Shared→Prop} (F:Fr g L s.heap m) (X:(Mine.H.K w.params).In g) (M:Meth w g p name f)
    (h:Q (.ref f,[.ref p]) s):wpAny (model PG w) A (getMethod (.ref p) name pl) Q E s:=by
  obtain ⟨C,dx,es,n,a,b,c,d,e,f,_⟩:=M
  exact method_inst F X (inst_base F a b) c d e f h
theorem Meth.keep {g:Heap} {p:Nat} {name:Str} {f:Addr} (M:Meth w g p name f):keepIn (Mine.H.K w.params) (.ref f)=true:=by
  obtain ⟨_,_,_,_,_,_,_,_,_,_,x⟩:=M
  exact x
theorem PieceAt.width {g:Heap} {p:Nat} {wd:Option Int} (a:PieceAt w g p wd) {P:Prop}
    (k:∀ (f:Addr) (v:Int),Meth w g p (Str.ofString "fixed_width") f→((wd=none∧v=-1)∨(wd=some v∧0≤v)) →
      (∀ {lse:List Str} {mg mb:Str→Option Value} {hB:Heap} {dp un:Nat} {fr:Option (List Env)} {gd:Option (List Code)} {s:Shared} {R:Result→Shared→Prop},Cx w lse mg mb hB s.heap→dp≤750→un≤4900→Ext g s.heap →
        (∀ h' tk t,Ext s.heap h'→R (.ok (.ret (.int v t))) { s with heap:=h',toks:=tk })→codeAny (model PG w) (Ar dp un fr gd) (.call (.ref f) ⟨[.ref p],[]⟩) R s)→P):P:=by
  rcases a with ⟨b,l,n,q1,q2,q3,rfl⟩ | ⟨v,b,q1,rfl⟩ | ⟨l,v,p',m,q1,q2,rfl⟩ | ⟨v,u,q1,q2,rfl⟩ | ⟨l,v,p',m,b,q1,q2,rfl⟩
  · refine k 587 b.size (q1.el fun dy ny _ _ _ _ _ _ c1 c2=>⟨_,dy,_,_,c1.1,c2.1,by k_dflt k_is,by k_dflt k_is,by k_dflt k_is,rfl,by k_dflt k_is⟩) (.inr ⟨rfl,by omega⟩) fun c hd hu e ret=>width_Octets q3 c hd hu (q1.xkeep e) ret
  · refine k 558 (-1) (q1.el fun dy ny _ _ _ _ _ _ c1 c2=>⟨_,dy,_,_,c1.1,c2.1,by k_dflt k_is,by k_dflt k_is,by k_dflt k_is,rfl,by k_dflt k_is⟩) (.inl ⟨rfl,rfl⟩) fun c hd hu e ret=>width_none c hd hu ret
  · refine k 558 (-1) (q1.el fun dy ny _ _ _ _ c1 c2=>⟨_,dy,_,_,c1.1,c2.1,by k_dflt k_is,by k_dflt k_is,by k_dflt k_is,rfl,by k_dflt k_is⟩) (.inl ⟨rfl,rfl⟩) fun c hd hu e ret=>width_none c hd hu ret
  · refine k 673 v (q1.el fun dy ny _ _ _ _ _ _ _ c1 c2=>⟨_,dy,_,_,c1.1,c2.1,by k_dflt k_is,by k_dflt k_is,by k_dflt k_is,rfl,by k_dflt k_is⟩) (.inr ⟨rfl,q2⟩) fun c hd hu e ret=>width_Space c hd hu (q1.xkeep e) ret
  · refine k 558 (-1) (q1.el fun dy ny _ _ _ _ _ c1 c2=>⟨_,dy,_,_,c1.1,c2.1,by k_dflt k_is,by k_dflt k_is,by k_dflt k_is,rfl,by k_dflt k_is⟩) (.inl ⟨rfl,rfl⟩) fun c hd hu e ret=>width_none c hd hu ret
theorem PieceAt.told {g:Heap} {p:Nat} {wd:Option Int} (a:PieceAt w g p wd) {P:Prop}
    (k:∀ (f:Addr),Meth w g p (Str.ofString "told") f →
      (∀ {lse:List Str} {mg mb:Str→Option Value} {hB:Heap} {dp un:Nat} {fr:Option (List Env)} {gd:Option (List Code)} {s:Shared} {R:Result→Shared→Prop},Cx w lse mg mb hB s.heap→dp≤750→un≤4900→Ext g s.heap →
        (∀ (y:Nat) h' tk,Ext s.heap h'→R (.ok (.ret (.ref y))) { s with heap:=h',toks:=tk })→codeAny (model PG w) (Ar dp un fr gd) (.call (.ref f) ⟨[.ref p],[]⟩) R s)→P):P:=by
  rcases a with ⟨b,l,n,q1,q2,q3,rfl⟩ | ⟨v,b,q1,rfl⟩ | ⟨l,v,p',m,q1,q2,rfl⟩ | ⟨v,u,q1,q2,rfl⟩ | ⟨l,v,p',m,b,q1,q2,rfl⟩
  · refine k 592 (q1.el fun dy ny _ _ _ _ _ _ c1 c2=>⟨_,dy,_,_,c1.1,c2.1,by k_dflt k_is,by k_dflt k_is,by k_dflt k_is,rfl,by k_dflt k_is⟩) fun c hd hu e ret=>told_Octets c hd hu (q1.xkeep e) (e _ _ q2) ret
  · refine k 619 (q1.el fun dy ny _ _ _ _ _ _ c1 c2=>⟨_,dy,_,_,c1.1,c2.1,by k_dflt k_is,by k_dflt k_is,by k_dflt k_is,rfl,by k_dflt k_is⟩) fun c hd hu e ret=>told_Align c hd hu (q1.xkeep e) ret
  · refine k 646 (q1.el fun dy ny _ _ _ _ c1 c2=>⟨_,dy,_,_,c1.1,c2.1,by k_dflt k_is,by k_dflt k_is,by k_dflt k_is,rfl,by k_dflt k_is⟩) fun c hd hu e ret=>told_Org c hd hu (q1.xkeep e) (q2.xkeep e) ret
  · refine k 680 (q1.el fun dy ny _ _ _ _ _ _ _ c1 c2=>⟨_,dy,_,_,c1.1,c2.1,by k_dflt k_is,by k_dflt k_is,by k_dflt k_is,rfl,by k_dflt k_is⟩) fun c hd hu e ret=>told_Space c hd hu (q1.xkeep e) ret
  · refine k 707 (q1.el fun dy ny _ _ _ _ _ c1 c2=>⟨_,dy,_,_,c1.1,c2.1,by k_dflt k_is,by k_dflt k_is,by k_dflt k_is,rfl,by k_dflt k_is⟩) fun c hd hu e ret=>told_Leb c hd hu (q1.xkeep e) (q2.xkeep e) ret
theorem late0_L13:True:=by
  k_with ".getMethod ref" => ((fail_if_success have:=@off3);(k_here;(with_reducible show wpAny _ _ (getMethod (Value.ref _) (PySem.Str.ofString "fixed_width") _) _ _ _);refine stop_ ?_))
  trivial
noncomputable def sumO:List (Option Int)→Option Int
  | []=>some 0
  | none::_=>none
  | some v::r=>(sumO r).map (v+·)
noncomputable def oval (x:Option Int) (t:Tok):Value:=match x with | none=>.none | some v=>.int v t
theorem fixed_spec {x pl ld n:Nat} {name:Str} {ps:List Value} {ws:List (Option Int)} {first last:Nat} {tf tl:Tok} {R} (c:Cx w lse mg mb hB s.heap) (hd:dp≤740) (hu:un≤4000) (a:SecAt w hB x name pl ld) (hp:Own hB s.heap pl (lst ps n)) (hz:ps.length≤1000)
    (hps:Pcs w hB ps ws) (h1:first≤last) (h2:last≤ps.length)
    (ret:∀ h' tk t,Ext s.heap h'→R (.ok (.ret (oval (sumO ((ws.drop first).take (last - first))) t))) { s with heap:=h',toks:=tk }) :
    codeAny (model PG w) (Ar dp un fr gd) (.call (.ref 761) ⟨[.ref x,.int first tf,.int last tl],[]⟩) R s:=zp (by simp(disch:=k_dflt(
  refine' Yd [(pl,lst ps n)] [(Str.ofString "self",.ref x),(Str.ofString "first",.int first tf),(Str.ofString "last",.int last tl)] c ?kf ?k6 ?k7 ?eb ?es ?k8 ?k9 ?kB ?c5 ?c2 ?c3 ?c4 ?_
  k_extra "e0"
  refine (a.ext cg.ext).el fun dx n' t1 t2 t3 ta a1 a2=>?_
  k_steps
  k_extra "n"
  generalize hD:Array.size (Heap.objs _)+1=D at N ⊢
  refine iter_listTurns (vs:=(ps.drop first).take (last - first)) rfl F N (.head _) rfl (by rw [pick_run h1 h2]) fun I l1=>?_
  refine items_ind (fun r m=>Ex4 fun (acc:Int) (ta:Tok) (mp:Option Value) (wr:List (Option Int))=>A3 (Pcs w hB r wr) ((sumO wr).map (acc+·)=sumO ((ws.drop first).take (last - first))) (m=fun y=>if y=Str.ofString "whole" then some (.int acc ta) else if y=Str.ofString "piece" then mp else List.lookup y [(Str.ofString "self",Value.ref x),(Str.ofString "first",Value.int first tf),(Str.ofString "last",Value.int last tl)].reverse))
    (fun n' hn=>subL fun p hp=>hn p (by rw [List.mem_singleton.mp hp];exact .head _)) ?zero ?turn _ _ _ ?start (fun p hp=>hp)
  case start=>exact ⟨0,_,none,_,(hps.drop first).take (last - first),by simp,m_start rfl⟩
  case zero =>
    rintro m h tk ⟨acc,ta,mp,wr,hw,hs,rfl⟩ F N
    obtain rfl:wr=[]:=by cases wr with | nil=>rfl | cons _ _=>exact hw.elim
    k_steps
    k_extra "n"
    k_extra "n"
    have kq:=kqo (ks:=[]) kp F N hfo (by k_extra "q")
    have:=ret _ tk ta kq.ext
    rw [← hs] at this
    simpa [sumO,oval] using this
  case turn =>
    rintro v r m h tk it ⟨acc,ta,mp,wr,hw,hs,rfl⟩ hit F N
    obtain ⟨wd,wr,rfl⟩:∃ wd wr',wr=wd::wr':=by cases wr with | nil=>exact hw.elim | cons a b=>exact ⟨a,b,rfl⟩
    refine absG fun _ kQ=>?_
    obtain ⟨⟨p,rfl,hp⟩,hw⟩:=hw
    refine kQ ?_
    clear kQ
    refine (hp.ext cg.ext).width fun f v hM hwd hf=>?_
    rcases hwd with ⟨rfl,rfl⟩ | ⟨rfl,hv0⟩
    · k_steps
      k_extra "n"
      refine meth_call F X hM ?_
      dsimp only
      refine callWith_K0 (X.keeps F.keep) hM.keep ?_
      refine wpAny_call (hf (by exact cg.step F.keep) (by omega) (by omega) (by exact F.keep) fun g2 tk2 t2 e2=>?_)
      replace F:=Ye F e2
      replace N:=Ya N e2
      try dsimp only
      k_steps
      k_extra "n"
      have kq:=kqo (ks:=[]) kp F N hfo (by k_extra "q")
      have:=ret _ tk ta kq.ext
      rw [← hs] at this
      exact this
    · k_steps
      k_extra "n"
      refine meth_call F X hM ?_
      dsimp only
      refine callWith_K0 (X.keeps F.keep) hM.keep ?_
      refine wpAny_call (hf (by exact cg.step F.keep) (by omega) (by omega) (by exact F.keep) fun g2 tk2 t2 e2=>?_)
      replace F:=Ye F e2
      replace N:=Ya N e2
      try dsimp only
      k_steps
      k_extra "n"
      refine meth_call F X hM ?_
      dsimp only
      refine callWith_K0 (X.keeps F.keep) hM.keep ?_
      refine wpAny_call (hf (by exact cg.step F.keep) (by omega) (by omega) (by exact F.keep) fun g3 tk3 t3 e3=>?_)
      replace F:=Ye F e3
      replace N:=Ya N e3
      try dsimp only
      k_steps
      k_extra "n"
      refine unr_end F N (.head _) (fun p hp=>.tail _ hp) l1 ⟨fun p hp=>hp,_,_,_,wr,hw,?_,m_turn⟩
      rw [← hs]
      simp only [sumO,Option.map_map]
      congr 1
      funext z
      simp only [Function.comp]
      omega))only[↓zq])
theorem off3:True:=trivial
theorem Pcs.get {h:Heap}:∀ {ps ws} {i:Nat} {v:Value},Pcs w h ps ws→ps.toArray[i]?=some v→∃ p wd,v=.ref p∧PieceAt w h p wd
  | [],_,_,_,_,e=>by simp at e
  | _::_,[],_,_,x,_=>x.elim
  | a::ps,wd::ws,0,v,⟨⟨p,e,q⟩,_⟩,g=>by
    have g':a=v:=by simpa using g
    exact ⟨p,wd,g' ▸ e,q⟩
  | a::ps,wd::ws,i+1,v,⟨_,r⟩,g=>Pcs.get (i:=i) r (by simpa using g)
theorem late0_L14:True:=by
  k_with ".getMethod ref" => ((fail_if_success have:=@off4);(k_here;(with_reducible show wpAny _ _ (getMethod (Value.ref _) (PySem.Str.ofString "told") _) _ _ _);refine stop_ ?_))
  trivial
theorem told_spec {x pl ld n:Nat} {name:Str} {ps:List Value} {ws:List (Option Int)} {o:Obj} {lb:List (Str×Value)} {R} (c:Cx w lse mg mb hB s.heap) (hd:dp≤730) (hu:un≤4000) (a:SecAt w hB x name pl ld) (hp:Own hB s.heap pl (lst ps n)) (hz:ps.length≤1000)
    (hl:Own hB s.heap ld o) (lo:(@BEq.beq Addr _ ld sysModules)=false) (hdict:o.IsDictOf (PySem.strKind PG w) lb) (hlb1:1≤lb.length) (hlb:lb.length≤6) (hnd:(lb.map (·.1)).Nodup) (hne:@Ne Nat pl ld)
    (hps:Pcs w hB ps ws)
    (ret:∀ h' tk (y:Nat) t2 (v2 v3:Value),Ext s.heap h'→h'.get? y=some (tupO [.str name t2,v2,v3])→s.heap.get? y=none→R (.ok (.ret (.ref y))) { s with heap:=h',toks:=tk }) :
    codeAny (model PG w) (Ar dp un fr gd) (.call (.ref 766) ⟨[.ref x],[]⟩) R s:=zp (by simp(disch:=k_dflt(
  refine' Yd [(pl,lst ps n),(ld,o)] [(Str.ofString "self",.ref x)] c ?kf ?k6 ?k7 ?eb ?es ?k8 ?k9 ?kB ?c5 ?c2 ?c3 ?c4 ?_
  k_extra "e0"
  refine (a.ext cg.ext).el fun dx n' t1 t2 t3 ta a1 a2=>?_
  k_steps
  k_extra "n"
  refine LCg.CompSrc.ledger rfl F N (.head _) (by rw [sizeLine_eq];simp;omega) fun g'=>?_
  refine comp_ind (news0:=[(pl,lst ps n),(ld,o)]) (fun i ys=>ys.length=i) ps.length ?fin ?turn _ 0 [] _ (by simp) rfl (fun p hp=>hp)
  case turn =>
    intro i ys v I oI C oC D m₂ h tk E' hi hJ hv hC hx F N off hne3
    refine absG fun _ kQ=>?_
    obtain ⟨p,wd,rfl,q⟩:=Pcs.get (hps.ext cg.ext) hv
    refine kQ ?_
    clear kQ
    simp only [LCg.Off3,and_true] at off
    have off1:=off.1
    have off2:=off.2
    refine q.told fun f hM hf=>?_
    k_steps
    k_extra "n"
    refine meth_call F X hM ?_
    dsimp only
    refine callWith_K0 (X.keeps F.keep) hM.keep ?_
    k_extra "n"
    refine wpAny_call (hf (by exact cg.step F.keep) (by omega) (by omega) (by exact F.keep) fun y g2 tk2 e2=>?_)
    replace F:=Ye F e2
    replace N:=Ya N e2
    try dsimp only
    k_steps
    all_goals first | assumption | simp [hJ]
  case fin =>
    intro ys n' hJ hn
    refine fin_E hn fun D h tk F N o1=>?_
    simp only [LCg.Off1,and_true] at o1
    k_steps
    k_extra "n"
    refine sorted_items rfl F N (by k_mem) (by k_mem) hdict hlb1 hlb hnd fun B g3 tk3 vs c3 F N hv=>?_
    k_steps
    k_extra "n"
    have kq:=kqo (ks:=[]) kp F N hfo (by k_extra "q")
    exact ret _ _ _ _ _ _ kq.ext (N.get (by k_mem)) (fresh2 kp (fun _ _ e=>e) (N _ (.head _)).2.2 (by (have hl:_∧_:=(by assumption));dsimp only;omega) (by dsimp only;omega))))only[↓zq])
theorem off4:True:=trivial
def ProgAt (w:World) (h:Heap) (x sd nl ed:Nat):Prop :=
  Ex7 fun (dx n gl:Nat) (t1 t2 t3 t4:Tok)=>h.get? x=some (instObj 830 dx)∧h.get? dx=some (dictOf [en w "sections" t1 (.ref sd),en w "names" t2 (.ref nl),en w "equates" t3 (.ref ed),en w "globals_" t4 (.ref gl)] n)
theorem ProgAt.el {w:World} {h:Heap} {x sd nl ed:Nat} {P:Prop} (a:ProgAt w h x sd nl ed) (k:∀ (dx n gl:Nat) (t1 t2 t3 t4:Tok),h.get? x=some (instObj 830 dx)→h.get? dx=some (dictOf [en w "sections" t1 (.ref sd),en w "names" t2 (.ref nl),en w "equates" t3 (.ref ed),en w "globals_" t4 (.ref gl)] n)→P):P:=by
  obtain ⟨dx,n,gl,t1,t2,t3,t4,a1,a2⟩:=a
  exact k dx n gl t1 t2 t3 t4 a1 a2
theorem ProgAt.ext {h h':Heap} {x sd nl ed:Nat} (a:ProgAt w h x sd nl ed) (e:Ext h h'):ProgAt w h' x sd nl ed:=by
  refine a.el fun dx n gl t1 t2 t3 t4 a1 a2=>?_
  exact ⟨dx,n,gl,t1,t2,t3,t4,e _ _ a1,e _ _ a2⟩
theorem section_old {x sd nl ed xs:Nat} {name:Str} {tn:Tok} {o:Obj} {kvs:List (Str×Value)} {R} (c:Cx w lse mg mb hB s.heap) (hd:dp≤770) (hu:un≤5000) (a:ProgAt w hB x sd nl ed)
    (hl:Own hB s.heap sd o) (lo:(@BEq.beq Addr _ sd sysModules)=false) (hdict:o.IsDictOf (PySem.strKind PG w) kvs) (hv:valueAt kvs name=some (.ref xs))
    (ret:∀ h' tk,Ext s.heap h'→R (.ok (.ret (.ref xs))) { s with heap:=h',toks:=tk }) :
    codeAny (model PG w) (Ar dp un fr gd) (.call (.ref 794) ⟨[.ref x,.str name tn],[]⟩) R s:=zp (by simp(disch:=k_dflt(
  have hv1:(valueAt kvs name).isSome=true:=by rw [hv];rfl
  refine' Yd [(sd,o)] [(Str.ofString "self",.ref x),(Str.ofString "name",.str name tn)] c ?kf ?k6 ?k7 ?eb ?es ?k8 ?k9 ?kB ?c5 ?c2 ?c3 ?c4 ?_
  k_extra "e0"
  refine (a.ext cg.ext).el fun dx n' gl t1 t2 t3 t4 a1 a2=>?_
  k_steps
  k_extra "n"
  have kq:=kqo (ks:=[]) kp F N hfo (by k_extra "q")
  exact ret _ _ kq.ext))only[↓zq])
theorem section_new {x sd nl ed n:Nat} {name:Str} {tn:Tok} {o:Obj} {kvs:List (Str×Value)} {ns:List Value} {R} (c:Cx w lse mg mb hB s.heap) (hd:dp≤770) (hu:un≤4900) (a:ProgAt w hB x sd nl ed)
    (hl:Own hB s.heap sd o) (lo:(@BEq.beq Addr _ sd sysModules)=false) (hdict:o.IsDictOf (PySem.strKind PG w) kvs) (hz:kvs.length≤1000) (hv:valueAt kvs name=none) (hn:Own hB s.heap nl (lst ns n)) (hz2:ns.length≤1000) (hne:@Ne Nat sd nl)
    (hst:∀ x':Nat,valueAt (stored kvs name (.ref x')) name=some (.ref x'))
    (ret:∀ (x' dx' pl ld:Nat) (o1 o':Obj) n' t1 t2 t3 ta t4 h' tk,Keep [sd,nl] s.heap h'→s.heap.get? x'=none→s.heap.get? dx'=none→s.heap.get? pl=none→s.heap.get? ld=none→(@Ne Nat x' pl∧@Ne Nat x' ld∧@Ne Nat dx' pl∧@Ne Nat dx' ld∧@Ne Nat pl ld∧@Ne Nat dx' x') →
      h'.get? x'=some (instObj 769 dx')→h'.get? dx'=some (dictOf [en w "name" t1 (.str name ta),en w "pieces" t2 (.ref pl),en w "labels" t3 (.ref ld)] n') →
      h'.get? pl=some (lst [] 0)→h'.get? ld=some o1→o1.IsDictOf (PySem.strKind PG w) []→(@BEq.beq Addr _ ld sysModules)=false →
      h'.get? sd=some o'→o'.IsDictOf (PySem.strKind PG w) (stored kvs name (.ref x'))→h'.get? nl=some (lst (ns++[.str name t4]) (n+1))→R (.ok (.ret (.ref x'))) { s with heap:=h',toks:=tk }) :
    codeAny (model PG w) (Ar dp un fr gd) (.call (.ref 794) ⟨[.ref x,.str name tn],[]⟩) R s:=zp (by simp(disch:=k_dflt(
  have hv1:(valueAt kvs name).isSome=false:=by rw [hv];rfl
  refine' Yd [(sd,o),(nl,lst ns n)] [(Str.ofString "self",.ref x),(Str.ofString "name",.str name tn)] c ?kf ?k6 ?k7 ?eb ?es ?k8 ?k9 ?kB ?c5 ?c2 ?c3 ?c4 ?_
  k_extra "e0"
  refine (a.ext cg.ext).el fun dx n' gl t1 t2 t3 t4 a1 a2=>?_
  k_steps
  k_extra "n"
  refine wpAny_call (new_Section (cg.step F.keep) (by omega) (by omega) fun x' dx' pl ld o1 n1 u1 u2 u3 ua g2 tk2 e2 m1 m2 m3 m4 hne2 q1 q2 q3 q4 q5 q6=>?_)
  have Fk:=F.keep
  have z1:=Yi (N.get (show (sd,o)∈_ by k_mem)) m1
  have z2:=Yi (N.get (show (sd,o)∈_ by k_mem)) m2
  have z3:=Yi (N.get (show (sd,o)∈_ by k_mem)) m3
  have z4:=Yi (N.get (show (sd,o)∈_ by k_mem)) m4
  have z5:=Yi (N.get (show (nl,lst ns n)∈_ by k_mem)) m1
  have z6:=Yi (N.get (show (nl,lst ns n)∈_ by k_mem)) m2
  have z7:=Yi (N.get (show (nl,lst ns n)∈_ by k_mem)) m3
  have z8:=Yi (N.get (show (nl,lst ns n)∈_ by k_mem)) m4
  k_extra "n"
  have N9:=Ya N e2
  replace N9:=Yb F N9 m1 q1
  replace N9:=Yb F N9 m2 q2
  replace N9:=Yb F N9 m3 q3
  replace N9:=Yb F N9 m4 q4
  replace F:=Ye F e2
  clear N
  (rename News _ _ _ _=>N)
  have z9:=hne.symm
  have:=hst x'
  try dsimp only
  k_steps
  k_extra "n"
  have kq:=kqo (ks:=[sd,nl]) kp F N hfo (by k_extra "q")
  (rename (Obj.IsDictOf _ _ (stored _ _ _))=>hq)
  exact ret x' dx' pl ld o1 _ _ _ _ _ _ _ _ _ kq (fresh2 kp Fk m1 z1 z5) (fresh2 kp Fk m2 z2 z6) (fresh2 kp Fk m3 z3 z7) (fresh2 kp Fk m4 z4 z8) hne2 (N.get (by k_mem)) (N.get (by k_mem)) (N.get (by k_mem)) (N.get (by k_mem)) q5 q6 (N.get (by k_mem)) hq (by rw [← lst_push];exact N.get (by k_mem))))only[↓zq])
theorem row10:True:=by
  k_with ".exec If Compare" => ((fail_if_success have:=@off5);(k_here;first | ((with_reducible show wpAny _ _ (exec (Stmt.If (PySem.Expr.Compare (PySem.Expr.Name _ _) [CmpOp.Eq] [PySem.Expr.Constant (Const.int _) _ _] _) _ _ _) _) _ _ _);k_dflt (first | (refine' @if_eqIF _ _ _ _ _ _ _ _ _ _ _ _ _ _ _ _ _ _ _ _ _ _ _ _ (by k_asm) (by exact rfl) (by exact rfl) (by exact rfl) (by decide) (by decide) ?_) | (refine' @if_eqIT _ _ _ _ _ _ _ _ _ _ _ _ _ _ _ _ _ _ _ _ _ _ _ _ (by k_asm) (by exact rfl) (by exact rfl) (by exact rfl) (by decide) (by decide) ?_))) | ((with_reducible show wpAny _ _ (exec (Stmt.If (PySem.Expr.Compare (PySem.Expr.Name _ _) [CmpOp.Eq] [PySem.Expr.Constant (Const.str _) _ _] _) _ _ _) _) _ _ _);k_dflt (first | (refine' @if_eqF _ _ _ _ _ _ _ _ _ _ _ _ _ _ _ _ _ _ _ _ _ _ _ _ (by k_asm) (by exact rfl) (by exact rfl) (by exact rfl) (by decide) (by decide) ?_) | (refine' @if_eqT _ _ _ _ _ _ _ _ _ _ _ _ _ _ _ _ _ _ _ _ _ _ _ _ (by k_asm) (by exact rfl) (by exact rfl) (by exact rfl) (by decide) (by decide) ?_))) | ((with_reducible show wpAny _ _ (exec (Stmt.If (PySem.Expr.Compare (PySem.Expr.Name _ _) [CmpOp.In] [PySem.Expr.Tuple [_,_,_] _ _] _) _ _ _) _) _ _ _);k_dflt (first | (refine' @if_in3F _ _ _ _ _ _ _ _ _ _ _ _ _ _ _ _ _ _ _ _ _ _ _ _ _ _ _ _ _ _ _ _ _ (by k_asm) (by k_asm) (by exact rfl) (by exact rfl) (by exact rfl) (by decide) (by decide) ?_;intro _ _ _ _) | (refine' @if_in3T _ _ _ _ _ _ _ _ _ _ _ _ _ _ _ _ _ _ _ _ _ _ _ _ _ _ _ _ _ _ _ _ _ (by k_asm) (by k_asm) (by exact rfl) (by exact rfl) (by exact rfl) (by decide) (by decide) ?_;intro _ _ _ _))) | ((with_reducible show wpAny _ _ (exec (Stmt.If (PySem.Expr.Compare (PySem.Expr.Name _ _) [CmpOp.In] [PySem.Expr.Tuple [_,_] _ _] _) _ _ _) _) _ _ _);k_dflt (first | (refine' @if_in2F _ _ _ _ _ _ _ _ _ _ _ _ _ _ _ _ _ _ _ _ _ _ _ _ _ _ _ _ _ _ (by k_asm) (by k_asm) (by exact rfl) (by exact rfl) (by exact rfl) (by decide) (by decide) ?_;intro _ _ _ _) | (refine' @if_in2T _ _ _ _ _ _ _ _ _ _ _ _ _ _ _ _ _ _ _ _ _ _ _ _ _ _ _ _ _ _ (by k_asm) (by k_asm) (by exact rfl) (by exact rfl) (by exact rfl) (by decide) (by decide) ?_;intro _ _ _ _)))))
  k_with ".pyIter ref" => ((fail_if_success have:=@off5);(k_here;refine stop_ ?_))
  k_with "sbt" => ((fail_if_success have:=@off5);(k_here;k_dflt (refine kba_turn (value':=PySem.Expr.Name (PySem.Str.ofString "_") ⟨0,0,0,0⟩) (fun _=>rfl) ?_)))
  k_with ".subscriptTail Attribute" => ((fail_if_success have:=@off5);k_extra "sbt")
  k_with ".subscriptTail Subscript" => ((fail_if_success have:=@off5);k_extra "sbt")
  trivial
set_option genInjectivity false in
set_option genSizeOf false in
structure Sc where
  name:Str
  x:Nat
  pl:Nat
  ld:Nat
  o:Obj
  lps:List (Str×Nat×Nat)
  ps:List Value
  ws:List (Option Int)
  n:Nat
noncomputable def Sc.lb (s:Sc):List (Str×Value):=s.lps.map fun p=>(p.1,Value.ref p.2.1)
noncomputable def Yu (l:List (Str×Nat×Nat)) (k:Str):Option (Nat×Nat):=(l.find? fun p=>p.1=k).map (·.2)
theorem lb_at (s:Sc) (k:Str):valueAt s.lb k=(Yu s.lps k).map fun p=>Value.ref p.1:=by
  unfold Sc.lb Yu valueAt
  rw [List.find?_map]
  simp [Function.comp_def]
structure ScAt (w:World) (hB h:Heap) (s:Sc):Prop where
  sec:SecAt w hB s.x s.name s.pl s.ld
  old:Own hB h s.ld s.o
  lo:(@BEq.beq Addr _ s.ld sysModules)=false
  dict:s.o.IsDictOf (PySem.strKind PG w) s.lb
  opl:Own hB h s.pl (lst s.ps s.n)
  pcs:Pcs w hB s.ps s.ws
  psz:s.ps.length≤1000
  lsz:s.lps.length≤1000
  ne:@Ne Nat s.pl s.ld
  tup:∀ k y i,Yu s.lps k=some (y,i)→i≤s.ps.length∧∃ t1 t2,hB.get? y=some (tupO [.int i t1,.int 0 t2])
noncomputable def Yt (l:List Sc):List (Str×Value):=l.map fun s=>(s.name,Value.ref s.x)
structure PgAt (w:World) (hB h:Heap) (x sd nl ed:Nat) (od:Obj) (nn:Nat) (ts:List Tok) (l:List Sc):Prop where
  prog:ProgAt w hB x sd nl ed
  osd:Own hB h sd od
  lo:(@BEq.beq Addr _ sd sysModules)=false
  dict:od.IsDictOf (PySem.strKind PG w) (Yt l)
  onl:Own hB h nl (lst (List.zipWith (fun s t=>Value.str s.name t) l ts) nn)
  tlen:ts.length=l.length
  secs:∀ s∈l,ScAt w hB h s
  nodup:(l.map (·.name)).Nodup
  len:1≤l.length∧l.length≤3
  eqs:DAt w hB ed []
noncomputable def homeOf (l:List Sc) (k:Str):Option Sc:=l.find? fun s=>(Yu s.lps k).isSome
noncomputable def homeVal:Option Sc→Value
  | none=>.none
  | some s=>.ref s.x
theorem Yc {h:Heap} {a b:Nat} {o o':Obj} (e:h.get? a=some o) (e':h.get? b=some o') (hc:o.cls≠o'.cls):@Ne Nat a b:=fun q=>by
  have q':(a:Addr)=b:=q
  rw [q',e'] at e
  exact hc (by rw [Option.some.inj e])
theorem not1 {x a:Nat} (h1:@Ne Nat a x):(x:Addr) ∉ [(a:Addr)]:=fun hm=>h1 (List.mem_singleton.mp hm).symm
theorem Zb {o:Obj} {kvs:List (Str×Value)} (h:o.IsDictOf (PySem.strKind PG w) kvs):o.cls=.type "dict" := by
  obtain ⟨es,ep,e,_⟩:=h
  exact e.1
theorem late0_L16:True:=by
  k_with ".exec For Name Attribute cons nil" => ((fail_if_success have:=@off5);(k_here;(with_unfolding_all refine' For_turns (by k_asm) ?_;k_whole)))
  trivial
theorem m_start1 {a:Str} {base:Str→Option Value} (hb:base a=none):base=fun y=>if y=a then none else base y:=by
  funext y
  by_cases h:y=a
  · rw [if_pos h,h,hb]
  · rw [if_neg h]
theorem m_turn1 {a:Str} {va va':Option Value} {base:Str→Option Value}:(fun y=>if y=a then va' else if y=a then va else base y)=fun y=>if y=a then va' else base y:=by
  funext y
  by_cases h:y=a
  · rw [if_pos h,if_pos h]
  · rw [if_neg h,if_neg h,if_neg h]
theorem secKvs_of {l:List Sc} (hn:(l.map (·.name)).Nodup) {p:Sc} (hp:p∈l):valueAt (Yt l) p.name=some (.ref p.x):=zp (by simp(disch:=k_dflt(
  induction l with
  | nil=>cases hp
  | cons q r ih =>
    rw [List.map_cons,List.nodup_cons] at hn
    unfold Yt valueAt
    rw [List.map_cons,List.find?_cons]
    rcases List.mem_cons.mp hp with rfl | hp
    · simp
    · have hne:q.name≠p.name:=fun e=>hn.1 (List.mem_map.mpr ⟨p,hp,e.symm⟩)
      have:=ih hn.2 hp
      unfold Yt valueAt at this
      rw [show (decide (q.name=p.name))=false by simp [hne]]
      exact this))only[↓zq])
theorem home_spec {x sd nl ed nn:Nat} {od:Obj} {ts:List Tok} {l:List Sc} {lab:Str} {tl:Tok} {R} (c:Cx w lse mg mb hB s.heap) (hd:dp≤770) (hu:un≤4900) (a:PgAt w hB s.heap x sd nl ed od nn ts l)
    (ret:∀ h' tk,Ext s.heap h'→R (.ok (.ret (homeVal (homeOf l lab)))) { s with heap:=h',toks:=tk }) :
    codeAny (model PG w) (Ar dp un fr gd) (.call (.ref 801) ⟨[.ref x,.str lab tl],[]⟩) R s:=zp (by simp(disch:=k_dflt(
  have hsd:=a.osd
  have hnl:=a.onl
  have n1:@Ne Nat nl sd:=Yc hnl.1 hsd.1 (by rw [Zb a.dict];simp)
  refine' Yd [(nl,lst (List.zipWith (fun s t=>Value.str s.name t) l ts) nn)] [(Str.ofString "self",.ref x),(Str.ofString "label",.str lab tl)] c ?kf ?k6 ?k7 ?eb ?es ?k8 ?k9 ?kB ?c5 ?c2 ?c3 ?c4 ?_
  k_extra "e0"
  have D0:DAt w g sd (Yt l):=⟨a.lo,od,kp _ _ (not1 n1) hsd.1,a.dict⟩
  refine (a.prog.ext cg.ext).el fun dx n' gl u1 u2 u3 u4 a1 a2=>?_
  k_steps
  k_extra "n"
  refine iter_listTurns (vs:=List.zipWith (fun s t=>Value.str s.name t) l ts) rfl F N (.head _) rfl rfl fun I l1=>?_
  refine items_ind (fun r m=>Ex3 fun (l':List Sc) (ts':List Tok) (mp:Option Value)=>A5 (r=List.zipWith (fun s t=>Value.str s.name t) l' ts') (ts'.length=l'.length) (∀ p∈l',p∈l) (homeOf l lab=homeOf l' lab) (m=fun y=>if y=Str.ofString "name" then mp else List.lookup y [(Str.ofString "self",Value.ref x),(Str.ofString "label",Value.str lab tl)].reverse))
    (fun n' hn=>subL fun p hp=>hn p (by rw [List.mem_singleton.mp hp];exact .head _)) ?zero ?turn _ _ _ ?start (fun p hp=>hp)
  case start=>exact ⟨l,ts,none,rfl,a.tlen,fun _ h=>h,rfl,m_start1 rfl⟩
  case zero =>
    rintro m h tk ⟨l',ts',mp,hr,hlen,_,ho,rfl⟩ F N
    obtain rfl:l'=[]:=by
      cases l' with
      | nil=>rfl
      | cons q l' =>
        cases ts' with
        | nil=>simp at hlen
        | cons t ts'=>simp at hr
    k_steps
    k_extra "n"
    have kq:=kqo (ks:=[]) kp F N hfo (by k_extra "q")
    rw [ho] at ret
    exact ret _ _ kq.ext
  case turn =>
    rintro v r m h tk it ⟨l',ts',mp,hr,hlen,hsub,ho,rfl⟩ hit F N
    obtain ⟨p,l',t,ts',rfl,rfl⟩:∃ p l1 t ts1,l'=p::l1∧ts'=t::ts1:=by
      cases l' with
      | nil=>simp at hr
      | cons q l' =>
        cases ts' with
        | nil=>simp at hlen
        | cons t ts'=>exact ⟨q,l',t,ts',rfl,rfl⟩
    simp only [List.zipWith_cons_cons,List.cons.injEq] at hr
    obtain ⟨rfl,rfl⟩:=hr
    have hpl:=hsub p (.head _)
    have hS:=a.secs p hpl
    have hv:=secKvs_of a.nodup hpl
    have nld:@Ne Nat nl p.ld:=Yc hnl.1 hS.old.1 (by rw [Zb hS.dict];simp)
    have D1:DAt w g p.ld p.lb:=⟨hS.lo,p.o,kp _ _ (not1 nld) hS.old.1,hS.dict⟩
    have eb:=lb_at p lab
    refine (hS.sec.ext cg.ext).el fun dxs ns z1 z2 z3 za s1 s2=>?_
    cases hin:(valueAt p.lb lab).isSome
    · k_steps
      k_extra "n"
      refine unr_end F N (.head _) (fun p hp=>.tail _ hp) l1 ⟨fun p hp=>hp,l',ts',_,rfl,by simpa using hlen,fun q hq=>hsub q (.tail _ hq),?_,m_turn1⟩
      rw [ho]
      unfold homeOf
      rw [List.find?_cons]
      rw [eb,Option.isSome_map] at hin
      rw [hin]
    · k_steps
      k_extra "n"
      have kq:=kqo (ks:=[]) kp F N hfo (by k_extra "q")
      have e:homeOf l lab=some p:=by
        rw [ho]
        unfold homeOf
        rw [List.find?_cons]
        rw [eb,Option.isSome_map] at hin
        rw [hin]
      rw [e] at ret
      exact ret _ _ kq.ext))only[↓zq])
theorem off5:True:=trivial
theorem row11:True:=by
  k_with "sbt" => ((fail_if_success have:=@off6);(k_here;k_dflt (refine kba_turn (value':=PySem.Expr.Name (PySem.Str.ofString "_") ⟨0,0,0,0⟩) (fun _=>rfl) ?_)))
  k_with ".subscriptTail Attribute" => ((fail_if_success have:=@off6);k_extra "sbt")
  k_with ".subscriptTail Subscript" => ((fail_if_success have:=@off6);k_extra "sbt")
  trivial
theorem ScAt.ext {h h':Heap} {p:Sc} (a:ScAt w hB h p) (e:Ext h h'):ScAt w hB h' p :=
  ⟨a.sec,a.old.ext e,a.lo,a.dict,a.opl.ext e,a.pcs,a.psz,a.lsz,a.ne,a.tup⟩
theorem PgAt.ext {h h':Heap} {x sd nl ed:Nat} {od nn ts l} (a:PgAt w hB h x sd nl ed od nn ts l) (e:Ext h h'):PgAt w hB h' x sd nl ed od nn ts l :=
  ⟨a.prog,a.osd.ext e,a.lo,a.dict,a.onl.ext e,a.tlen,fun s hs=>(a.secs s hs).ext e,a.nodup,a.len,a.eqs⟩
noncomputable def distOf (l:List Sc) (one other:Str):Option Int :=
  match homeOf l one with
  | none=>none
  | some s=>match Yu s.lps other,Yu s.lps one with
    | some (_,b),some (_,a)=>if b≤a then sumO ((s.ws.drop b).take (a - b)) else (sumO ((s.ws.drop a).take (b - a))).map (0 - ·)
    | _,_=>none
theorem oval_eq {R:Result→Shared→Prop} {a b:Option Int} {t:Tok} {s:Shared} (e:a=b) (r:R (.ok (.ret (oval a t))) s):R (.ok (.ret (oval b t))) s:=e ▸ r
theorem dist_n1 {l:List Sc} {one other:Str} (h:homeOf l one=none):distOf l one other=none:=by unfold distOf;rw [h]
theorem dist_n2 {l:List Sc} {one other:Str} {p:Sc} (h:homeOf l one=some p) (h2:Yu p.lps other=none):distOf l one other=none:=by unfold distOf;rw [h];dsimp only;rw [h2]
theorem dist_le {l:List Sc} {one other:Str} {p:Sc} {a b:Nat×Nat} (h:homeOf l one=some p) (h1:Yu p.lps one=some a) (h2:Yu p.lps other=some b) (x:b.2≤a.2):distOf l one other=sumO ((p.ws.drop b.2).take (a.2 - b.2)):=by unfold distOf;rw [h];dsimp only;rw [h1,h2];exact if_pos x
theorem dist_gt {l:List Sc} {one other:Str} {p:Sc} {a b:Nat×Nat} (h:homeOf l one=some p) (h1:Yu p.lps one=some a) (h2:Yu p.lps other=some b) (x:¬ b.2≤a.2):distOf l one other=(sumO ((p.ws.drop a.2).take (b.2 - a.2))).map (0 - ·):=by unfold distOf;rw [h];dsimp only;rw [h1,h2];exact if_neg x
theorem dist_spec {x sd nl ed nn:Nat} {od:Obj} {ts:List Tok} {l:List Sc} {one other:Str} {t1 t2:Tok} {R} (c:Cx w lse mg mb hB s.heap) (hd:dp≤720) (hu:un≤3900) (a:PgAt w hB s.heap x sd nl ed od nn ts l)
    (ret:∀ h' tk t,Ext s.heap h'→R (.ok (.ret (oval (distOf l one other) t))) { s with heap:=h',toks:=tk }) :
    codeAny (model PG w) (Ar dp un fr gd) (.call (.ref 822) ⟨[.ref x,.str one t1,.str other t2],[]⟩) R s:=by
  refine' Yd [] [(Str.ofString "self",.ref x),(Str.ofString "one",.str one t1),(Str.ofString "other",.str other t2)] c ?kf ?k6 ?k7 ?eb ?es ?k8 ?k9 ?kB ?c5 ?c2 ?c3 ?c4 ?_
  k_extra "e0"
  have a0:=a.ext kp.ext
  refine (a.prog.ext cg.ext).el fun dx n' gl u1 u2 u3 u4 a1 a2=>?_
  k_steps
  k_extra "n"
  have eS:=Yg kp F rfl
  have cN:=cg.step F.keep
  have eB:=cN.ext
  refine wpAny_call (home_spec cN (by omega) (by omega) (by exact a0.ext F.keep) fun g2 tk2 e2=>?_)
  replace F:=Ye F e2
  replace N:=Ya N e2
  cases hh:homeOf l one with
  | none =>
    dsimp only [homeVal]
    k_steps
    k_extra "n"
    exact oval_eq (b:=none) (dist_n1 hh) (ret _ _ tk (Yg kp F rfl))
  | some p =>
    have hp:=a0.secs p (List.mem_of_find?_eq_some hh)
    refine (hp.sec.ext cg.ext).el fun dy n2 v1 v2 v3 v4 c1 c2=>?_
    have T:DAt w g p.ld p.lb:=⟨hp.lo,p.o,hp.old.1,hp.dict⟩
    have ho:(Yu p.lps one).isSome=true:=by
      have:=List.find?_some hh
      exact this
    refine absG fun _ kQ=>?_
    obtain ⟨⟨y1,i1⟩,e1⟩:=Option.isSome_iff_exists.mp ho
    obtain ⟨k1,w1,w2,z1⟩:=hp.tup _ _ _ e1
    refine kQ ?_
    clear kQ
    have f1:valueAt p.lb one=some (.ref y1):=by rw [lb_at,e1];rfl
    have z1':=cg.ext _ _ z1
    dsimp only [homeVal]
    cases e2':Yu p.lps other with
    | none =>
      have f2:(valueAt p.lb other).isSome=false:=by rw [lb_at,e2'];rfl
      k_steps
      k_extra "n"
      exact oval_eq (b:=none) (dist_n2 hh e2') (ret _ _ tk (Yg kp F rfl))
    | some q =>
      refine absG fun _ kQ=>?_
      obtain ⟨y2,i2⟩:=q
      obtain ⟨k2,w3,w4,z2⟩:=hp.tup _ _ _ e2'
      refine kQ ?_
      clear kQ
      have f3:valueAt p.lb other=some (.ref y2):=by rw [lb_at,e2'];rfl
      have f2:(valueAt p.lb other).isSome=true:=by rw [f3];rfl
      have z2':=cg.ext _ _ z2
      have it1:PyProof.Rows.IsTup g y1 #[.int i1 w1,.int 0 w2]:=⟨_,z1',rfl,_,rfl⟩
      have it2:PyProof.Rows.IsTup g y2 #[.int i2 w3,.int 0 w4]:=⟨_,z2',rfl,_,rfl⟩
      k_steps
      · (rename _≤_=>hle)
        have hle2:i2≤i1:=by omega
        k_extra "n"
        have eS:=Yg kp F rfl
        have cN:=cg.step F.keep
        have eB:=cN.ext
        refine wpAny_call (fixed_spec cN (by omega) (by omega) hp.sec (by exact hp.opl.ext F.keep) hp.psz hp.pcs hle2 k1 fun g3 tk3 t3 e3=>?_)
        replace F:=Ye F e3
        replace N:=Ya N e3
        try dsimp only
        k_steps
        exact oval_eq (dist_le hh e1 e2' hle2) (ret _ _ _ (Yg kp F rfl))
      · (rename ¬ _≤_=>hle)
        have hle2:¬ i2≤i1:=by omega
        have hle3:i1≤i2:=by omega
        k_extra "n"
        have eS:=Yg kp F rfl
        have cN:=cg.step F.keep
        have eB:=cN.ext
        refine wpAny_call (fixed_spec cN (by omega) (by omega) hp.sec (by exact hp.opl.ext F.keep) hp.psz hp.pcs hle3 k2 fun g3 tk3 t3 e3=>?_)
        replace F:=Ye F e3
        replace N:=Ya N e3
        try dsimp only
        cases hs:sumO ((p.ws.drop i1).take (i2 - i1)) with
        | none =>
          dsimp only [oval]
          k_steps
          k_extra "n"
          exact oval_eq (b:=none) ((dist_gt hh e1 e2' hle2).trans (congrArg (Option.map (0 - ·)) hs)) (ret _ _ t3 (Yg kp F rfl))
        | some v =>
          dsimp only [oval]
          k_steps
          k_extra "n"
          exact oval_eq (b:=some (0 - v)) ((dist_gt hh e1 e2' hle2).trans (congrArg (Option.map (0 - ·)) hs)) (ret _ _ _ (Yg kp F rfl))
theorem off6:True:=trivial
theorem not3 {x a b c:Nat} (h1:@Ne Nat a x) (h2:@Ne Nat b x) (h3:@Ne Nat c x):(x:Addr) ∉ [(a:Addr),b,c]:=fun hm=>by
  rcases List.mem_cons.mp hm with q | hm
  · exact h1 q.symm
  · rcases List.mem_cons.mp hm with q | hm
    · exact h2 q.symm
    · exact h3 (List.mem_singleton.mp hm).symm
theorem new_Program {R} (c:Cx w lse mg mb hB s.heap) (hd:dp≤780) (hu:un≤5000)
    (ret:∀ (x dx sd nl ed gl:Nat) (o1 o2:Obj) n t1 t2 t3 t4 h' tk,Ext s.heap h'→s.heap.get? x=none→s.heap.get? dx=none→s.heap.get? sd=none→s.heap.get? nl=none→s.heap.get? ed=none →
      (@Ne Nat sd x∧@Ne Nat sd dx∧@Ne Nat sd nl∧@Ne Nat sd ed∧@Ne Nat nl x∧@Ne Nat nl dx∧@Ne Nat nl ed) →
      h'.get? x=some (instObj 830 dx)→h'.get? dx=some (dictOf [en w "sections" t1 (.ref sd),en w "names" t2 (.ref nl),en w "equates" t3 (.ref ed),en w "globals_" t4 (.ref gl)] n) →
      h'.get? sd=some o1→o1.IsDictOf (PySem.strKind PG w) []→(@BEq.beq Addr _ sd sysModules)=false→h'.get? nl=some (lst [] 0)→h'.get? ed=some o2→o2.IsDictOf (PySem.strKind PG w) []→(@BEq.beq Addr _ ed sysModules)=false→R (.ok (.ret (.ref x))) { s with heap:=h',toks:=tk }) :
    codeAny (model PG w) (Ar dp un fr gd) (.call (.ref 830) ⟨[],[]⟩) R s:=zp (by simp(disch:=k_dflt(
  refine make c (by k_dflt k_is) (by k_dflt k_is) (by k_dflt k_is) ?_
  intro x dx h₁ e1 n1 n2 o1 o2 hne
  replace hne:@Ne Nat dx x:=hne
  have c0:=c
  replace c:=c.step e1
  refine' Yd [(x,instObj 830 dx),(dx,dictOf [] 0)] [(Str.ofString "self",.ref x)] c ?kf ?k6 ?k7 ?eb ?es ?k8 ?k9 ?kB ?c5 ?c2 ?c3 ?c4 ?_
  k_extra "e0"
  k_steps
  k_extra "n"
  have kq:=kqo (ks:=[dx]) kp F N hfo (by k_extra "q")
  refine ⟨rfl,ret x dx _ _ _ _ _ _ _ _ _ _ _ _ _ (Yw e1 kq n2) n1 n2 (Yf e1 (fresh2 kp (fun _ _ e=>e) (N _ (.tail _ (.tail _ (.tail _ (.head _))))).2.2 ?_ ?_)) (Yf e1 (fresh2 kp (fun _ _ e=>e) (N _ (.tail _ (.tail _ (.head _)))).2.2 ?_ ?_)) (Yf e1 (fresh2 kp (fun _ _ e=>e) (N _ (.tail _ (.head _))).2.2 ?_ ?_)) ⟨?_,?_,?_,?_,?_,?_,?_⟩ (N.get (by k_mem)) (N.get (by k_mem)) (N.get (by k_mem)) (by assumption) (by assumption) (N.get (by k_mem)) (N.get (by k_mem)) (by assumption) (by assumption)⟩
  all_goals (try dsimp only)
  all_goals omega))only[↓zq])
theorem octets_spec {xc dc xp sc cu pl ld n nc:Nat} {name:Str} {t1 t2 t3:Tok} {b:Array UInt8} {tb:Tok} {fx:Nat} {kf:Nat} {ps:List Value} {R} (c:Cx w lse mg mb hB s.heap) (hd:dp≤760) (hu:un≤4900)
    (hi:Own hB s.heap xc (instObj 961 dc)) (hc:Own hB s.heap dc (dictOf [en w "program" t1 (.ref xp),en w "section" t2 (.ref cu),en w "scope" t3 (.ref sc)] nc))
    (a:SecAt w hB cu name pl ld) (hn:name=Str.ofString ".text" ∨ name=Str.ofString ".data" ∨ name=Str.ofString ".note") (hp:Own hB s.heap pl (lst ps n)) (hz:ps.length≤900) (hb:b.size≤1000) (hf:s.heap.get? fx=some (lst [] kf)) (hne:@Ne Nat fx pl)
    (ret0:b.size=0→∀ h' tk,Ext s.heap h'→R (.ok (.ret .none)) { s with heap:=h',toks:=tk })
    (ret:b.size≠0→∀ (p:Nat) h' tk,Keep [pl] s.heap h'→OctetsAt w s.heap h' p b fx→h'.get? pl=some (lst (ps++[.ref p]) (n+1))→R (.ok (.ret .none)) { s with heap:=h',toks:=tk }) :
    codeAny (model PG w) (Ar dp un fr gd) (.call (.ref 881) ⟨[.ref xc,.bytes b tb,.ref fx,.none],[]⟩) R s:=zp (by simp(disch:=k_dflt(
  refine' Yd [(xc,instObj 961 dc),(dc,dictOf [en w "program" t1 (.ref xp),en w "section" t2 (.ref cu),en w "scope" t3 (.ref sc)] nc),(pl,lst ps n)] [(Str.ofString "self",.ref xc),(Str.ofString "octets",.bytes b tb),(Str.ofString "fixups",.ref fx),(Str.ofString "at",.none)] c ?kf ?k6 ?k7 ?eb ?es ?k8 ?k9 ?kB ?c5 ?c2 ?c3 ?c4 ?_
  k_extra "e0"
  have a0:=a.ext cg.ext
  refine a0.el fun dx n' u1 u2 u3 ta a1 a2=>?_
  k_steps
  k_extra "n"
  refine wpAny_call (empty_spec (cg.step F.keep) (by omega) (by omega) a hn fun g2 tk2 e2=>?_)
  replace F:=Ye F e2
  replace N:=Ya N e2
  try dsimp only
  k_steps
  · (rename _<_=>hlt)
    k_extra "n"
    have Fk:=F.keep
    have n1:@Ne Nat xc pl:=Yc (N.get (show (xc,_)∈_ by k_mem)) (N.get (show (pl,lst ps n)∈_ by k_mem)) (by simp [instObj])
    have n2:@Ne Nat dc pl:=Yc (N.get (show (dc,dictOf [en w "program" t1 (.ref xp),en w "section" t2 (.ref cu),en w "scope" t3 (.ref sc)] nc)∈_ by k_mem)) (N.get (show (pl,lst ps n)∈_ by k_mem)) (by simp [dictOf])
    refine wpAny_call (new_Octets (cg.step F.keep) (by omega) fun p g3 tk3 e3 m3 a3=>?_)
    refine a3.el fun dq nq r1 r2 r3 r4 r5 r6 b1 b2=>?_
    have z1:=Yi (N.get (show (pl,lst ps n)∈_ by k_mem)) m3
    have z2:=Yi (N.get (show (pl,lst ps n)∈_ by k_mem)) b2.2
    have z3:=Yi (N.get (show (xc,instObj 961 dc)∈_ by k_mem)) m3
    have z4:=Yi (N.get (show (xc,instObj 961 dc)∈_ by k_mem)) b2.2
    have z5:=Yi (N.get (show (dc,dictOf [en w "program" t1 (.ref xp),en w "section" t2 (.ref cu),en w "scope" t3 (.ref sc)] nc)∈_ by k_mem)) m3
    have z6:=Yi (N.get (show (dc,dictOf [en w "program" t1 (.ref xp),en w "section" t2 (.ref cu),en w "scope" t3 (.ref sc)] nc)∈_ by k_mem)) b2.2
    have f1:s.heap.get? p=none:=Yh kp (Yf Fk m3) (not3 z3 z5 z1)
    have f2:s.heap.get? dq=none:=Yh kp (Yf Fk b2.2) (not3 z4 z6 z2)
    replace F:=Ye F e3
    replace N:=Ya N e3
    try dsimp only
    k_steps
    k_extra "n"
    refine wpAny_call (add_spec2 (cg.step F.keep) (by omega) (by omega) a (by exact Yv cg N (by k_mem)) (by omega) fun g4 tk4 k4 q4=>?_)
    have y1:=k4 _ _ (not1 z1) b1.1
    have y2:=k4 _ _ (not1 z2) b2.1
    have N9:=Yj (rest:=[(xc,instObj 961 dc),(dc,dictOf [en w "program" t1 (.ref xp),en w "section" t2 (.ref cu),en w "scope" t3 (.ref sc)] nc)]) N k4 (by k_mem) q4 (Yn (by k_extra "r"))
    replace F:=Yp F N k4 (by k_mem)
    clear N
    (rename News _ _ _ _=>N)
    try dsimp only
    k_steps
    k_extra "n"
    have kq:=kqo (ks:=[pl]) kp F N hfo (by k_extra "q")
    exact ret (by omega) p _ _ kq (.in_ ⟨y1,f1⟩ ⟨y2,f2⟩) (N.get (by k_mem))
  · (rename ¬ _<_=>hlt)
    k_extra "n"
    have kq:=kqo (ks:=[]) kp F N hfo (by k_extra "q")
    exact ret0 (by omega) _ _ kq.ext))only[↓zq])
noncomputable abbrev colD (w:World) (t1 t2 t3:Tok) (xp cu sc nc:Nat):Obj:=dictOf [en w "program" t1 (.ref xp),en w "section" t2 (.ref cu),en w "scope" t3 (.ref sc)] nc
theorem worth_number {xc dc xp sc cu nc ed y:Nat} {t1 t2 t3:Tok} {v:Int} {R} (c:Cx w lse mg mb hB s.heap) (hd:dp≤730) (hu:un≤4600)
    (hx:s.heap.get? xc=some (instObj 961 dc)) (hc:s.heap.get? dc=some (dictOf [en w "program" t1 (.ref xp),en w "section" t2 (.ref cu),en w "scope" t3 (.ref sc)] nc))
    (a:NumberAt w h0 s.heap y v) (hs:ScopeAt w h0 s.heap sc ed) (he:DAt w s.heap ed [])
    (ret:∀ (x:Nat) h' tk,Ext s.heap h'→s.heap.get? x=none→AffineAt w s.heap h' x v (Str.ofString "") (Str.ofString "")→R (.ok (.ret (.ref x))) { s with heap:=h',toks:=tk }) :
    codeAny (model PG w) (Ar dp un fr gd) (.call (.ref 895) ⟨[.ref xc,.ref y],[]⟩) R s:=zp (by simp(disch:=k_dflt(
  refine' Yd [] [(Str.ofString "self",.ref xc),(Str.ofString "node",.ref y)] c ?kf ?k6 ?k7 ?eb ?es ?k8 ?k9 ?kB ?c5 ?c2 ?c3 ?c4 ?_
  k_extra "e0"
  have b1:=kp _ _ (by simp) hx
  have b2:=kp _ _ (by simp) hc
  have a0:=a.keep kp (by simp)
  k_steps
  k_extra "n"
  have eS:=Yg kp F rfl
  have cN:=cg.step F.keep
  have eB:=cN.ext
  refine wpAny_call (ev_number (d:=ed) cN (by omega) (by omega) (by exact a0.xkeep F.keep) fun x g2 tk2 e2 m2 a2=>?_)
  have m3:=Yf eS m2
  have a3:=a2.down eS
  replace F:=Ye F e2
  replace N:=Ya N e2
  try dsimp only
  k_steps
  exact ret x _ _ (Yg kp F rfl) m3 a3))only[↓zq])
theorem worth_binary {xc dc xp sc cu nc ed y l r:Nat} {t1 t2 t3:Tok} {one other:Str} {R} (c:Cx w lse mg mb hB s.heap) (hd:dp≤710) (hu:un≤4400) (h1:(one != Str.ofString "")=true) (h2:(other != Str.ofString "")=true)
    (hx:s.heap.get? xc=some (instObj 961 dc)) (hc:s.heap.get? dc=some (dictOf [en w "program" t1 (.ref xp),en w "section" t2 (.ref cu),en w "scope" t3 (.ref sc)] nc))
    (a:BinaryAt w h0 s.heap y (Str.ofString "-") l r) (al:SymbolAt w h0 s.heap l one) (ar:SymbolAt w h0 s.heap r other) (hs:ScopeAt w h0 s.heap sc ed) (he:DAt w s.heap ed [])
    (ret:∀ (x:Nat) h' tk,Ext s.heap h'→s.heap.get? x=none→AffineAt w s.heap h' x 0 (nz one other) (nz other one)→R (.ok (.ret (.ref x))) { s with heap:=h',toks:=tk }) :
    codeAny (model PG w) (Ar dp un fr gd) (.call (.ref 895) ⟨[.ref xc,.ref y],[]⟩) R s:=zp (by simp(disch:=k_dflt(
  refine' Yd [] [(Str.ofString "self",.ref xc),(Str.ofString "node",.ref y)] c ?kf ?k6 ?k7 ?eb ?es ?k8 ?k9 ?kB ?c5 ?c2 ?c3 ?c4 ?_
  k_extra "e0"
  have b1:=kp _ _ (by simp) hx
  have b2:=kp _ _ (by simp) hc
  have a0:=a.keep kp (by simp)
  have a1:=al.keep kp (by simp)
  have a2:=ar.keep kp (by simp)
  have s0:=hs.keep kp (by simp)
  have d0:=he.keep kp (by simp)
  k_steps
  k_extra "n"
  have eS:=Yg kp F rfl
  have cN:=cg.step F.keep
  have eB:=cN.ext
  refine wpAny_call (ev_binary cN (by omega) (by omega) h1 h2 (by exact a0.xkeep F.keep) (by exact a1.xkeep F.keep) (by exact a2.xkeep F.keep) (by exact s0.xkeep F.keep) (by exact d0.ext F.keep) fun x g2 tk2 e2 m2 a2=>?_)
  have m3:=Yf eS m2
  have a3:=a2.down eS
  replace F:=Ye F e2
  replace N:=Ya N e2
  try dsimp only
  k_steps
  exact ret x _ _ (Yg kp F rfl) m3 a3))only[↓zq])
theorem number_num {xc dc xp sc cu nc ed y:Nat} {t1 t2 t3:Tok} {v:Int} {R} (c:Cx w lse mg mb hB s.heap) (hd:dp≤720) (hu:un≤4500)
    (hx:s.heap.get? xc=some (instObj 961 dc)) (hc:s.heap.get? dc=some (dictOf [en w "program" t1 (.ref xp),en w "section" t2 (.ref cu),en w "scope" t3 (.ref sc)] nc))
    (a:NumberAt w h0 s.heap y v) (hs:ScopeAt w h0 s.heap sc ed) (he:DAt w s.heap ed [])
    (ret:∀ h' tk t,Ext s.heap h'→R (.ok (.ret (.int v t))) { s with heap:=h',toks:=tk }) :
    codeAny (model PG w) (Ar dp un fr gd) (.call (.ref 902) ⟨[.ref xc,.ref y,.none],[]⟩) R s:=zp (by simp(disch:=k_dflt(
  refine' Yd [] [(Str.ofString "self",.ref xc),(Str.ofString "node",.ref y),(Str.ofString "at",.none)] c ?kf ?k6 ?k7 ?eb ?es ?k8 ?k9 ?kB ?c5 ?c2 ?c3 ?c4 ?_
  k_extra "e0"
  have b1:=kp _ _ (by simp) hx
  have b2:=kp _ _ (by simp) hc
  have a0:=a.keep kp (by simp)
  have s0:=hs.keep kp (by simp)
  have d0:=he.keep kp (by simp)
  k_steps
  k_extra "n"
  have eS:=Yg kp F rfl
  have cN:=cg.step F.keep
  have eB:=cN.ext
  refine wpAny_call (worth_number (ed:=ed) cN (by omega) (by omega) (by exact F.keep _ _ b1) (by exact F.keep _ _ b2) (by exact a0.xkeep F.keep) (by exact s0.xkeep F.keep) (by exact d0.ext F.keep) fun x g2 tk2 e2 m2 a2=>?_)
  k_extra "n"
  refine AffineAt.newsE F (Ya N e2) a2 fun dz _ _ _ _ _ _ _ N9=>?_
  replace F:=Ye F e2
  clear N
  (rename News _ _ _ _=>N)
  try dsimp only
  k_steps
  k_extra "n"
  have eS:=Yg kp F rfl
  have cN:=cg.step F.keep
  have eB:=cN.ext
  refine wpAny_call (isnum_t cN (by omega) (by exact AffineAt.ofNB cg N (by k_mem) (by k_mem)) fun g3 tk3 e3=>?_)
  replace F:=Ye F e3
  replace N:=Ya N e3
  try dsimp only
  k_steps
  k_extra "n"
  exact ret _ _ _ (Yg kp F rfl)))only[↓zq])
theorem count_num {xc dc xp sc cu nc ed y:Nat} {t1 t2 t3:Tok} {v:Int} {R} (c:Cx w lse mg mb hB s.heap) (hd:dp≤710) (hu:un≤4400) (h1:0≤v) (h2:v≤1048576)
    (hx:s.heap.get? xc=some (instObj 961 dc)) (hc:s.heap.get? dc=some (dictOf [en w "program" t1 (.ref xp),en w "section" t2 (.ref cu),en w "scope" t3 (.ref sc)] nc))
    (a:NumberAt w h0 s.heap y v) (hs:ScopeAt w h0 s.heap sc ed) (he:DAt w s.heap ed [])
    (ret:∀ h' tk t,Ext s.heap h'→R (.ok (.ret (.int v t))) { s with heap:=h',toks:=tk }) :
    codeAny (model PG w) (Ar dp un fr gd) (.call (.ref 909) ⟨[.ref xc,.ref y,.none],[]⟩) R s:=zp (by simp(disch:=k_dflt(
  refine' Yd [] [(Str.ofString "self",.ref xc),(Str.ofString "node",.ref y),(Str.ofString "at",.none)] c ?kf ?k6 ?k7 ?eb ?es ?k8 ?k9 ?kB ?c5 ?c2 ?c3 ?c4 ?_
  k_extra "e0"
  have b1:=kp _ _ (by simp) hx
  have b2:=kp _ _ (by simp) hc
  have a0:=a.keep kp (by simp)
  have s0:=hs.keep kp (by simp)
  have d0:=he.keep kp (by simp)
  k_steps
  k_extra "n"
  have eS:=Yg kp F rfl
  have cN:=cg.step F.keep
  have eB:=cN.ext
  refine wpAny_call (number_num (ed:=ed) cN (by omega) (by omega) (by exact F.keep _ _ b1) (by exact F.keep _ _ b2) (by exact a0.xkeep F.keep) (by exact s0.xkeep F.keep) (by exact d0.ext F.keep) fun g2 tk2 tt e2=>?_)
  replace F:=Ye F e2
  replace N:=Ya N e2
  try dsimp only
  have f1:decide (v<0)=false:=by simp;omega
  have f2:decide (v > 1048576)=false:=by simp;omega
  k_steps
  k_extra "n"
  exact ret _ _ _ (Yg kp F rfl)))only[↓zq])
theorem row12:True:=by
  k_with ".exec Raise some none" => (k_here;refine raise_own rfl ?_)
  trivial
def Fly (hX:Heap) (l:List Env) (C e:Nat) (h:Heap):Prop:=∃ a0,Heap.FlyingW hX l e (.ref C) a0 h
structure Brk (hX:Heap) (outer:List Env) (fr:Option (List Env)) (h:Heap):Prop where
  stack:fr=some outer
  stays:hX.StaysIn h
  frames:h.FunFrames hX outer
theorem Brk.ext {hX h h':Heap} {outer fr} (b:Brk hX outer fr h) (e:Ext h h'):Brk hX outer fr h' :=
  ⟨b.stack,fun a o q=>e a o (b.stays a o q),b.frames.of_keeps fun a o q _=>⟨o,e a o q,rfl⟩⟩
theorem Brk.push {hX h g h₁:Heap} {outer fr} {L' a:Addr} {m:Str→Option Value} {name:Str} {scope:Scope} {cd:Value} (b:Brk hX outer fr h) (kp:Keep [] h g) (F:Fr g L' h₁ m) (hk:scope.kind=.function) :
    Brk hX (envOf name scope L' a cd::outer) (fr.map (envOf name scope L' a cd::·)) h₁:=by
  have e:Ext h h₁:=fun c o q=>F.keep c o (kp c o (by simp) q)
  have hnew:hX.get? L'=none:=by
    cases q:hX.get? L' with
    | none=>rfl
    | some o=>exact absurd (Nat.lt_of_lt_of_le (Heap.lt_size (kp _ _ (by simp) (b.stays _ o q))) F.above) (Nat.lt_irrefl _)
  exact ⟨by rw [b.stack];rfl,(b.ext e).stays,.cons (by show scope.kind≠.module;rw [hk];decide) rfl F.ns hnew (b.ext e).frames⟩
theorem raise_first {R} {hX:Heap} {outer env} {C e L':Nat} {vs:Array Value} {a0:Value} {sl od} {s₁:Shared} (b:Brk hX (env::outer) fr s₁.heap) (hf:env.frame=some L') (he:s₁.heap.get? e=some ⟨.ref C,od,.fields vs,sl⟩) (hen:hX.get? e=none) (h1:vs[1]?=some .none) (h0:vs[0]?=some a0)
    (h:∀ h',Fly hX outer C e h'→s₁.heap.UpToSlots h'→R (.error (.ref e)) { s₁ with heap:=h' }):Raised w (Ar dp un fr gd) env R (.ref e) s₁ :=
  wpAny_leaving_firstW b.stack b.frames hf he b.stays hen rfl h1 h0 fun h' hL=>by
    obtain ⟨x1,⟨_,_,x2⟩,x3,x4⟩:=hL
    exact h h' ⟨a0,x1,hen,x2,x3⟩ x4
theorem raise_on {R} {hX:Heap} {outer env} {C e L':Nat} {s₁:Shared} (hs:fr=some (env::outer)) (hf:env.frame=some L') (hfl:Fly hX (env::outer) C e s₁.heap)
    (h:∀ h',Fly hX outer C e h'→s₁.heap.UpToSlots h'→R (.error (.ref e)) { s₁ with heap:=h' }):Raised w (Ar dp un fr gd) env R (.ref e) s₁:=by
  obtain ⟨a0,hfl⟩:=hfl
  exact wpAny_leaves_onW hs hf hfl fun h' x y=>h h' ⟨a0,x⟩ y
theorem number_dist {xc dc xp sc cu nc ed y l r:Nat} {t1 t2 t3:Tok} {one other:Str} {sd nl ep nn:Nat} {od:Obj} {ts:List Tok} {lS:List Sc} {v:Int} {R} (c:Cx w lse mg mb hB s.heap) (hd:dp≤700) (hu:un≤3800) (h1:(one != Str.ofString "")=true) (h2:(other != Str.ofString "")=true) (hne:one≠other)
    (hx:s.heap.get? xc=some (instObj 961 dc)) (hc:s.heap.get? dc=some (dictOf [en w "program" t1 (.ref xp),en w "section" t2 (.ref cu),en w "scope" t3 (.ref sc)] nc))
    (a:BinaryAt w h0 s.heap y (Str.ofString "-") l r) (al:SymbolAt w h0 s.heap l one) (ar:SymbolAt w h0 s.heap r other) (hs:ScopeAt w h0 s.heap sc ed) (he:DAt w s.heap ed [])
    (pg:PgAt w hB s.heap xp sd nl ep od nn ts lS) (hv:distOf lS one other=some v)
    (ret:∀ h' tk t,Ext s.heap h'→R (.ok (.ret (.int v t))) { s with heap:=h',toks:=tk }) :
    codeAny (model PG w) (Ar dp un fr gd) (.call (.ref 902) ⟨[.ref xc,.ref y,.none],[]⟩) R s:=zp (by simp(disch:=k_dflt(
  have ret':∀ h' tk t,Ext s.heap h'→R (.ok (.ret (.int (0+v) t))) { s with heap:=h',toks:=tk }:=by rw [Int.zero_add];exact ret
  refine' Yd [] [(Str.ofString "self",.ref xc),(Str.ofString "node",.ref y),(Str.ofString "at",.none)] c ?kf ?k6 ?k7 ?eb ?es ?k8 ?k9 ?kB ?c5 ?c2 ?c3 ?c4 ?_
  k_extra "e0"
  have b1:=kp _ _ (by simp) hx
  have b2:=kp _ _ (by simp) hc
  have a0:=a.keep kp (by simp)
  have al0:=al.keep kp (by simp)
  have ar0:=ar.keep kp (by simp)
  have s0:=hs.keep kp (by simp)
  have d0:=he.keep kp (by simp)
  have pg0:=pg.ext kp.ext
  refine (pg.prog.ext cg.ext).el fun dxp np glp u1 u2 u3 u4 p1 p2=>?_
  k_steps
  k_extra "n"
  have eS:=Yg kp F rfl
  have cN:=cg.step F.keep
  have eB:=cN.ext
  refine wpAny_call (worth_binary (ed:=ed) cN (by omega) (by omega) h1 h2 (by exact F.keep _ _ b1) (by exact F.keep _ _ b2) (by exact a0.xkeep F.keep) (by exact al0.xkeep F.keep) (by exact ar0.xkeep F.keep) (by exact s0.xkeep F.keep) (by exact d0.ext F.keep) fun x g2 tk2 e2 m2 a2=>?_)
  have z1:nz one other=one:=by simp [nz,hne]
  have z2:nz other one=other:=by simp [nz,Ne.symm hne]
  rw [z1,z2] at a2
  k_extra "n"
  refine AffineAt.newsE F (Ya N e2) a2 fun dz _ _ _ _ _ _ _ N9=>?_
  replace F:=Ye F e2
  clear N
  (rename News _ _ _ _=>N)
  try dsimp only
  k_steps
  k_extra "n"
  have eS:=Yg kp F rfl
  have cN:=cg.step F.keep
  have eB:=cN.ext
  refine wpAny_call (isnum_f cN (by omega) (by exact AffineAt.ofNB cg N (by k_mem) (by k_mem)) (by simpa using h1) fun g3 tk3 e3=>?_)
  replace F:=Ye F e3
  replace N:=Ya N e3
  try dsimp only
  k_steps
  k_extra "n"
  have eS:=Yg kp F rfl
  have cN:=cg.step F.keep
  have eB:=cN.ext
  refine wpAny_call (dist_spec (x:=xp) cN (by omega) (by omega) (by exact pg0.ext F.keep) fun g4 tk4 t4 e4=>?_)
  rw [hv]
  dsimp only [oval]
  replace F:=Ye F e4
  replace N:=Ya N e4
  k_steps
  k_extra "n"
  exact ret' _ _ _ (Yg kp F rfl)))only[↓zq])
theorem number_unk {xc dc xp sc cu nc ed y l r:Nat} {t1 t2 t3:Tok} {one other:Str} {sd nl ep nn:Nat} {od:Obj} {ts:List Tok} {lS:List Sc} {R} (c:Cx w lse mg mb hB s.heap) (hd:dp≤700) (hu:un≤3800) (h1:(one != Str.ofString "")=true) (h2:(other != Str.ofString "")=true) (hne:one≠other)
    (hx:s.heap.get? xc=some (instObj 961 dc)) (hc:s.heap.get? dc=some (dictOf [en w "program" t1 (.ref xp),en w "section" t2 (.ref cu),en w "scope" t3 (.ref sc)] nc))
    (a:BinaryAt w h0 s.heap y (Str.ofString "-") l r) (al:SymbolAt w h0 s.heap l one) (ar:SymbolAt w h0 s.heap r other) (hs:ScopeAt w h0 s.heap sc ed) (he:DAt w s.heap ed [])
    (pg:PgAt w hB s.heap xp sd nl ep od nn ts lS) (hv:distOf lS one other=none) {hX:Heap} {outer:List Env} (bk:Brk hX outer fr s.heap)
    (ret:∀ (e:Nat) h' tk,Fly hX outer 83 e h'→s.heap.UpToSlots h'→R (.error (.ref e)) { s with heap:=h',toks:=tk }) :
    codeAny (model PG w) (Ar dp un fr gd) (.call (.ref 902) ⟨[.ref xc,.ref y,.none],[]⟩) R s:=zp (by simp(disch:=k_dflt(
  refine' enter [] [(Str.ofString "self",.ref xc),(Str.ofString "node",.ref y),(Str.ofString "at",.none)] c ?kf ?k6 ?k7 ?eb ?es ?k8 ?k9 ?kB ?c5 ?c2 ?c3 ?c4 ?_
  k_extra "e0"
  have b1:=kp _ _ (by simp) hx
  have b2:=kp _ _ (by simp) hc
  have a0:=a.keep kp (by simp)
  have al0:=al.keep kp (by simp)
  have ar0:=ar.keep kp (by simp)
  have s0:=hs.keep kp (by simp)
  have d0:=he.keep kp (by simp)
  have pg0:=pg.ext kp.ext
  refine (pg.prog.ext cg.ext).el fun dxp np glp u1 u2 u3 u4 p1 p2=>?_
  k_steps
  k_extra "n"
  have eS:=Yg kp F rfl
  have cN:=cg.step F.keep
  have eB:=cN.ext
  refine wpAny_call (worth_binary (ed:=ed) cN (by omega) (by omega) h1 h2 (by exact F.keep _ _ b1) (by exact F.keep _ _ b2) (by exact a0.xkeep F.keep) (by exact al0.xkeep F.keep) (by exact ar0.xkeep F.keep) (by exact s0.xkeep F.keep) (by exact d0.ext F.keep) fun x g2 tk2 e2 m2 a2=>?_)
  have z1:nz one other=one:=by simp [nz,hne]
  have z2:nz other one=other:=by simp [nz,Ne.symm hne]
  rw [z1,z2] at a2
  k_extra "n"
  refine AffineAt.newsE F (Ya N e2) a2 fun dz _ _ _ _ _ _ _ N9=>?_
  replace F:=Ye F e2
  clear N
  (rename News _ _ _ _=>N)
  try dsimp only
  k_steps
  k_extra "n"
  have eS:=Yg kp F rfl
  have cN:=cg.step F.keep
  have eB:=cN.ext
  refine wpAny_call (isnum_f cN (by omega) (by exact AffineAt.ofNB cg N (by k_mem) (by k_mem)) (by simpa using h1) fun g3 tk3 e3=>?_)
  replace F:=Ye F e3
  replace N:=Ya N e3
  try dsimp only
  k_steps
  k_extra "n"
  have eS:=Yg kp F rfl
  have cN:=cg.step F.keep
  have eB:=cN.ext
  refine wpAny_call (dist_spec (x:=xp) cN (by omega) (by omega) (by exact pg0.ext F.keep) fun g4 tk4 t4 e4=>?_)
  rw [hv]
  dsimp only [oval]
  replace F:=Ye F e4
  replace N:=Ya N e4
  k_steps
  k_extra "n"
  have eS:=Yg kp F rfl
  have cN:=cg.step F.keep
  have eB:=cN.ext
  refine make_83 cN (by omega) (by omega) fun e t dx h5 tk5 e5 m5 q5=>?_
  have n5:s.heap.get? e=none:=Yf eS m5
  refine raise_first (by exact bk.push kp (Ye F e5) rfl) rfl q5 (Yf bk.stays n5) rfl rfl fun h6 f6 u6=>?_
  exact ret e h6 _ f6 ((Heap.UpToSlots.of_keeps (eS.trans e5)).trans u6)))only[↓zq])
set_option genInjectivity false in
set_option genSizeOf false in
structure CS where
  (xc dc xp cu sc nc ed sd nl ep nn:Nat)
  (t1 t2 t3:Tok)
  od:Obj
  ts:List Tok
  l:List Sc
noncomputable abbrev cD (w:World) (k:CS):Obj:=dictOf  [en w "program" k.t1 (.ref k.xp),en w "section" k.t2 (.ref k.cu),en w "scope" k.t3 (.ref k.sc)] k.nc
structure Col (w:World) (hB h:Heap) (k:CS):Prop where
  oi:Own hB h k.xc (instObj 961 k.dc)
  odc:Own hB h k.dc (cD w k)
  sc:ScopeAt w h0 hB k.sc k.ed
  eq:DAt w hB k.ed []
  pg:PgAt w hB h k.xp k.sd k.nl k.ep k.od k.nn k.ts k.l
theorem Col.ext {h h':Heap} {k:CS} (a:Col w hB h k) (e:Ext h h'):Col w hB h' k:=⟨a.oi.ext e,a.odc.ext e,a.sc,a.eq,a.pg.ext e⟩
structure DiffAt (w:World) (h:Heap) (y:Nat) (one other:Str):Prop where
  ex:∃ l r,BinaryAt w h0 h y (Str.ofString "-") l r∧SymbolAt w h0 h l one∧SymbolAt w h0 h r other
  ne1:(one != Str.ofString "")=true
  ne2:(other != Str.ofString "")=true
theorem DiffAt.ext {h h':Heap} {y:Nat} {one other:Str} (a:DiffAt w h y one other) (e:Ext h h'):DiffAt w h' y one other:=by
  obtain ⟨⟨l,r,x,y,z⟩,b,c⟩:=a
  exact ⟨⟨l,r,x.xkeep e,y.xkeep e,z.xkeep e⟩,b,c⟩
noncomputable def skipV (l:List Sc) (one other:Str):Option Int:=if one=other then some 0 else distOf l one other
theorem number_same {k:CS} {y:Nat} {one:Str} {R} (c:Cx w lse mg mb hB s.heap) (hd:dp≤700) (hu:un≤3800)
    (a:DiffAt w s.heap y one one) (K:Col w hB s.heap k)
    (ret:∀ h' tk t,Ext s.heap h'→R (.ok (.ret (.int 0 t))) { s with heap:=h',toks:=tk }) :
    codeAny (model PG w) (Ar dp un fr gd) (.call (.ref 902) ⟨[.ref k.xc,.ref y,.none],[]⟩) R s:=zp (by simp(disch:=k_dflt(
  refine absG fun _ kQ=>?_
  obtain ⟨xc,dc,xp,cu,sc,nc,ed,sd,nl,ep,nn,t1,t2,t3,od,ts,lS⟩:=k
  obtain ⟨⟨hx,-⟩,⟨hc,-⟩,hs,he,pg⟩:=K
  obtain ⟨⟨l,r,a,al,ar⟩,h1,h2⟩:=a
  refine kQ ?_
  clear kQ
  dsimp only at *
  refine' Yd [] [(Str.ofString "self",.ref xc),(Str.ofString "node",.ref y),(Str.ofString "at",.none)] c ?kf ?k6 ?k7 ?eb ?es ?k8 ?k9 ?kB ?c5 ?c2 ?c3 ?c4 ?_
  k_extra "e0"
  have b1:=kp _ _ (by simp) hx
  have b2:=kp _ _ (by simp) hc
  have a0:=a.keep kp (by simp)
  have al0:=al.keep kp (by simp)
  have ar0:=ar.keep kp (by simp)
  have s0:=hs.xkeep cg.ext
  have d0:=he.ext cg.ext
  k_steps
  k_extra "n"
  have eS:=Yg kp F rfl
  have cN:=cg.step F.keep
  have eB:=cN.ext
  refine wpAny_call (worth_binary (ed:=ed) cN (by omega) (by omega) h1 h2 (by exact F.keep _ _ b1) (by exact F.keep _ _ b2) (by exact a0.xkeep F.keep) (by exact al0.xkeep F.keep) (by exact ar0.xkeep F.keep) (by exact s0.xkeep F.keep) (by exact d0.ext F.keep) fun x g2 tk2 e2 m2 a2=>?_)
  have z1:nz one one=Str.ofString "" := by simp [nz]
  rw [z1] at a2
  k_extra "n"
  refine AffineAt.newsE F (Ya N e2) a2 fun dz _ _ _ _ _ _ _ N9=>?_
  replace F:=Ye F e2
  clear N
  (rename News _ _ _ _=>N)
  try dsimp only
  k_steps
  k_extra "n"
  have eS:=Yg kp F rfl
  have cN:=cg.step F.keep
  have eB:=cN.ext
  refine wpAny_call (isnum_t cN (by omega) (by exact AffineAt.ofNB cg N (by k_mem) (by k_mem)) fun g3 tk3 e3=>?_)
  replace F:=Ye F e3
  replace N:=Ya N e3
  try dsimp only
  k_steps
  k_extra "n"
  exact ret _ _ _ (Yg kp F rfl)))only[↓zq])
theorem number_sym {k:CS} {y:Nat} {one other:Str} {v:Int} {R} (c:Cx w lse mg mb hB s.heap) (hd:dp≤700) (hu:un≤3800)
    (a:DiffAt w s.heap y one other) (K:Col w hB s.heap k) (hv:skipV k.l one other=some v)
    (ret:∀ h' tk t,Ext s.heap h'→R (.ok (.ret (.int v t))) { s with heap:=h',toks:=tk }) :
    codeAny (model PG w) (Ar dp un fr gd) (.call (.ref 902) ⟨[.ref k.xc,.ref y,.none],[]⟩) R s:=zp (by simp(disch:=k_dflt(
  by_cases hne:one=other
  · subst hne
    rw [skipV,if_pos rfl] at hv
    cases hv
    exact number_same c hd hu a K ret
  · rw [skipV,if_neg hne] at hv
    obtain ⟨⟨l,r,a,al,ar⟩,h1,h2⟩:=a
    exact number_dist c hd hu h1 h2 hne K.oi.1 K.odc.1 a al ar (K.sc.xkeep c.ext) (K.eq.ext c.ext) K.pg hv ret))only[↓zq])
theorem number_symE {k:CS} {y:Nat} {one other:Str} {R} (c:Cx w lse mg mb hB s.heap) (hd:dp≤700) (hu:un≤3800)
    (a:DiffAt w s.heap y one other) (K:Col w hB s.heap k) (hv:skipV k.l one other=none) {hX:Heap} {outer:List Env} (bk:Brk hX outer fr s.heap)
    (ret:∀ (e:Nat) h' tk,Fly hX outer 83 e h'→s.heap.UpToSlots h'→R (.error (.ref e)) { s with heap:=h',toks:=tk }) :
    codeAny (model PG w) (Ar dp un fr gd) (.call (.ref 902) ⟨[.ref k.xc,.ref y,.none],[]⟩) R s:=by
  by_cases hne:one=other
  · rw [skipV,if_pos hne] at hv
    cases hv
  · rw [skipV,if_neg hne] at hv
    obtain ⟨⟨l,r,a,al,ar⟩,h1,h2⟩:=a
    exact number_unk c hd hu h1 h2 hne K.oi.1 K.odc.1 a al ar (K.sc.xkeep c.ext) (K.eq.ext c.ext) K.pg hv bk ret
theorem count_sym {k:CS} {y:Nat} {one other:Str} {v:Int} {R} (c:Cx w lse mg mb hB s.heap) (hd:dp≤695) (hu:un≤3700)
    (a:DiffAt w s.heap y one other) (K:Col w hB s.heap k) (hv:skipV k.l one other=some v) (hv1:0≤v) (hv2:v≤1048576)
    (ret:∀ h' tk t,Ext s.heap h'→R (.ok (.ret (.int v t))) { s with heap:=h',toks:=tk }) :
    codeAny (model PG w) (Ar dp un fr gd) (.call (.ref 909) ⟨[.ref k.xc,.ref y,.none],[]⟩) R s:=zp (by simp(disch:=k_dflt(
  refine' Yd [] [(Str.ofString "self",.ref k.xc),(Str.ofString "node",.ref y),(Str.ofString "at",.none)] c ?kf ?k6 ?k7 ?eb ?es ?k8 ?k9 ?kB ?c5 ?c2 ?c3 ?c4 ?_
  k_extra "e0"
  have K0:=K.ext kp.ext
  have a0:=a.ext kp.ext
  have b1:=K0.oi.1
  have b2:=K0.odc.1
  k_steps
  k_extra "n"
  have eS:=Yg kp F rfl
  have cN:=cg.step F.keep
  have eB:=cN.ext
  refine wpAny_call (number_sym (v:=v) cN (by omega) (by omega) (by exact a0.ext F.keep) (by exact K0.ext F.keep) hv fun g2 tk2 tt e2=>?_)
  replace F:=Ye F e2
  replace N:=Ya N e2
  try dsimp only
  have f1:decide (v<0)=false:=by simp;omega
  have f2:decide (v > 1048576)=false:=by simp;omega
  k_steps
  k_extra "n"
  exact ret _ _ _ (Yg kp F rfl)))only[↓zq])
theorem count_symE {k:CS} {y:Nat} {one other:Str} {C:Nat} {R} (c:Cx w lse mg mb hB s.heap) (hd:dp≤695) (hu:un≤3700)
    (a:DiffAt w s.heap y one other) (K:Col w hB s.heap k) (hC:(C=83∧skipV k.l one other=none)∨(C=95∧∃ v,skipV k.l one other=some v∧v<0)) {hX:Heap} {outer:List Env} (bk:Brk hX outer fr s.heap)
    (ret:∀ (e:Nat) h' tk,Fly hX outer C e h'→s.heap.UpToSlots h'→R (.error (.ref e)) { s with heap:=h',toks:=tk }) :
    codeAny (model PG w) (Ar dp un fr gd) (.call (.ref 909) ⟨[.ref k.xc,.ref y,.none],[]⟩) R s:=zp (by simp(disch:=k_dflt(
  rcases hC with ⟨rfl,hv⟩ | ⟨rfl,v,hv,hneg⟩
  · skip
    refine' enter [] [(Str.ofString "self",.ref k.xc),(Str.ofString "node",.ref y),(Str.ofString "at",.none)] c ?kf ?k6 ?k7 ?eb ?es ?k8 ?k9 ?kB ?c5 ?c2 ?c3 ?c4 ?_
    k_extra "e0"
    have K0:=K.ext kp.ext
    have a0:=a.ext kp.ext
    have b1:=K0.oi.1
    have b2:=K0.odc.1
    k_steps
    k_extra "n"
    have eS:=Yg kp F rfl
    have cN:=cg.step F.keep
    have eB:=cN.ext
    refine wpAny_call (number_symE cN (by omega) (by omega) (by exact a0.ext F.keep) (by exact K0.ext F.keep) hv (by exact bk.push kp F rfl) fun e g2 tk2 f2 u2=>?_)
    refine raise_on (by show Option.map _ fr=_;rw [bk.stack];rfl) rfl f2 fun h6 f6 u6=>?_
    exact ret e h6 _ f6 (((Heap.UpToSlots.of_keeps eS).trans u2).trans u6)
  · skip
    refine' enter [] [(Str.ofString "self",.ref k.xc),(Str.ofString "node",.ref y),(Str.ofString "at",.none)] c ?kf ?k6 ?k7 ?eb ?es ?k8 ?k9 ?kB ?c5 ?c2 ?c3 ?c4 ?_
    k_extra "e0"
    have K0:=K.ext kp.ext
    have a0:=a.ext kp.ext
    have b1:=K0.oi.1
    have b2:=K0.odc.1
    k_steps
    k_extra "n"
    have eS:=Yg kp F rfl
    have cN:=cg.step F.keep
    have eB:=cN.ext
    refine wpAny_call (number_sym (v:=v) cN (by omega) (by omega) (by exact a0.ext F.keep) (by exact K0.ext F.keep) hv fun g2 tk2 tt e2=>?_)
    replace F:=Ye F e2
    replace N:=Ya N e2
    try dsimp only
    have f1:decide (v<0)=true:=by simp;omega
    k_steps
    k_extra "n"
    have eS:=Yg kp F rfl
    have cN:=cg.step F.keep
    have eB:=cN.ext
    refine make_95 cN (by omega) (by omega) fun e t dx h5 tk5 e5 m5 q5=>?_
    have n5:s.heap.get? e=none:=Yf eS m5
    refine raise_first (by exact bk.push kp (Ye F e5) rfl) rfl q5 (Yf bk.stays n5) rfl rfl fun h6 f6 u6=>?_
    exact ret e h6 _ f6 ((Heap.UpToSlots.of_keeps (eS.trans e5)).trans u6)))only[↓zq])
def NumOrDiff (w:World) (h:Heap) (l:List Sc) (y:Nat) (v:Int):Prop:=NumberAt w h0 h y v∨∃ one other,DiffAt w h y one other∧skipV l one other=some v
theorem NumOrDiff.ext {h h':Heap} {l:List Sc} {y:Nat} {v:Int} (a:NumOrDiff w h l y v) (e:Ext h h'):NumOrDiff w h' l y v:=by
  rcases a with a | ⟨o,p,a,b⟩
  · exact .inl (a.xkeep e)
  · exact .inr ⟨o,p,a.ext e,b⟩
theorem count_any {k:CS} {y:Nat} {v:Int} {R} (c:Cx w lse mg mb hB s.heap) (hd:dp≤695) (hu:un≤3700)
    (a:NumOrDiff w s.heap k.l y v) (K:Col w hB s.heap k) (hv1:0≤v) (hv2:v≤1048576)
    (ret:∀ h' tk t,Ext s.heap h'→R (.ok (.ret (.int v t))) { s with heap:=h',toks:=tk }) :
    codeAny (model PG w) (Ar dp un fr gd) (.call (.ref 909) ⟨[.ref k.xc,.ref y,.none],[]⟩) R s:=by
  rcases a with a | ⟨one,other,a,hv⟩
  · exact count_num (ed:=k.ed) c (by omega) (by omega) hv1 hv2 K.oi.1 K.odc.1 a (K.sc.xkeep c.ext) (K.eq.ext c.ext) ret
  · exact count_sym c hd hu a K hv hv1 hv2 ret
def Yk (n:Str):Prop:=n=Str.ofString ".text" ∨ n=Str.ofString ".data" ∨ n=Str.ofString ".note"
theorem space_spec {k:CS} {p:Sc} {al na y:Nat} {v:Int} {R} (c:Cx w lse mg mb hB s.heap) (hd:dp≤690) (hu:un≤3600)
    (hal:s.heap.get? al=some (lst [.ref y] na)) (hne:@Ne Nat al p.pl) (a:NumOrDiff w s.heap k.l y v) (K:Col w hB s.heap k) (hp:p∈k.l) (hcu:p.x=k.cu) (hn:Yk p.name) (hv1:0≤v) (hv2:v≤1048576) (hz:p.ps.length≤900)
    (ret:∀ (q:Nat) h' tk,Keep [p.pl] s.heap h'→SpaceAt w s.heap h' q v 0→h'.get? p.pl=some (lst (p.ps++[.ref q]) (p.n+1))→R (.ok (.ret .none)) { s with heap:=h',toks:=tk }) :
    codeAny (model PG w) (Ar dp un fr gd) (.call (.ref 951) ⟨[.ref k.xc,.ref al,.none],[]⟩) R s:=zp (by simp(disch:=k_dflt(
  have hS:=K.pg.secs p hp
  have hsec:=hS.sec
  have hpl:=hS.opl
  rw [hcu] at hsec
  have n1:@Ne Nat k.xc p.pl:=Yc K.oi.1 hpl.1 (by simp)
  have n2:@Ne Nat k.dc p.pl:=Yc K.odc.1 hpl.1 (by simp)
  have n3:@Ne Nat al k.xc:=Yc hal K.oi.1 (by simp)
  have n4:@Ne Nat al k.dc:=Yc hal K.odc.1 (by simp)
  have hi:=K.oi
  have hc:=K.odc
  refine' Yd [(k.xc,instObj 961 k.dc),(k.dc,cD w k),(p.pl,lst p.ps p.n)] [(Str.ofString "self",.ref k.xc),(Str.ofString "args",.ref al),(Str.ofString "at",.none)] c ?kf ?k6 ?k7 ?eb ?es ?k8 ?k9 ?kB ?c5 ?c2 ?c3 ?c4 ?_
  k_extra "e0"
  have bl:=kp _ _ (not3 n3.symm n4.symm hne.symm) hal
  have bli:g.IsList al #[.ref y]:=⟨_,bl,rfl,_,rfl⟩
  refine (hsec.ext cg.ext).el fun dxs ns v1 v2 v3 vt s1 s2=>?_
  k_steps
  k_extra "n"
  refine wpAny_call (fits_spec (v:=0) (n:=8) (cg.step F.keep) (by omega) (by omega) (by omega) (by decide) (by decide) fun g2 tk2 e2=>?_)
  replace F:=Ye F e2
  replace N:=Ya N e2
  try dsimp only
  k_steps
  k_extra "n"
  refine wpAny_call (empty_spec (cg.step F.keep) (by omega) (by omega) hsec hn fun g3 tk3 e3=>?_)
  replace F:=Ye F e3
  replace N:=Ya N e3
  try dsimp only
  k_steps
  k_extra "n"
  have kq:=kqo (ks:=[]) kp F N hfo (by k_extra "q")
  have eS:=kq.ext
  clear kq
  refine wpAny_call (count_any (v:=v) (cg.step F.keep) (by omega) (by omega) (by exact a.ext eS) (by exact K.ext eS) hv1 hv2 fun g4 tk4 t4 e4=>?_)
  replace F:=Ye F e4
  replace N:=Ya N e4
  try dsimp only
  k_steps
  k_extra "n"
  refine wpAny_call (wrap_spec (v:=0) (n:=8) (u:=0) (cg.step F.keep) (by omega) (by omega) (by omega) (by decide) fun g5 tk5 t5 e5=>?_)
  replace F:=Ye F e5
  replace N:=Ya N e5
  try dsimp only
  k_steps
  k_extra "n"
  have kq:=kqo (ks:=[]) kp F N hfo (by k_extra "q")
  have eS:=kq.ext
  clear kq
  refine wpAny_call (new_Space (cg.step F.keep) (by omega) fun q g6 tk6 e6 m6 a6=>?_)
  have a7:=a6.down eS
  replace F:=Ye F e6
  replace N:=Ya N e6
  try dsimp only
  k_steps
  k_extra "n"
  refine wpAny_call (add_spec2 (cg.step F.keep) (by omega) (by omega) hsec (by exact Yv cg N (by k_mem)) (by omega) fun g7 tk7 k7 q7=>?_)
  have a8:=a7.keep k7 (fun b hb=>by rw [List.mem_singleton.mp hb];exact .inr ⟨_,N.get (by k_mem),rfl⟩)
  have N9:=Yj (rest:=[(k.xc,instObj 961 k.dc),(k.dc,cD w k)]) N k7 (by k_mem) q7 (Yn (by k_extra "r"))
  replace F:=Yp F N k7 (by k_mem)
  clear N
  (rename News _ _ _ _=>N)
  try dsimp only
  k_steps
  k_extra "n"
  have kq:=kqo (ks:=[p.pl]) kp F N hfo (by k_extra "q")
  exact ret q _ _ kq a8 (N.get (by k_mem))))only[↓zq])
theorem len_Ln {A:Around} {l:Addr} {items:Array Value} {n:Int} (hl:s.heap.IsList l items) (hz:items.size≤16384) (hn:(items.size:Int)=n) (h:Q (.int n (s.toks+1)) { s with toks:=s.toks+1+1 }) :
    wpAny (model PG w) A (call (.builtin "len") [.ref l]) Q E s:=kun_lenL hl rfl (by omega) (by rw [hn];exact h)
theorem late0_M3:True:=by
  k_with ".call builtin:len" => ((fail_if_success have:=@off7);(k_here;(with_reducible show wpAny _ _ (call (Value.builtin "len") [Value.ref _]) _ _ _);k_dflt (refine len_Ln (n:=1) (by is_list) (Nat.le_of_ble_eq_true rfl) rfl ?_)))
  trivial
def badC (l:List Sc) (one other:Str) (C:Nat):Prop:=(C=83∧skipV l one other=none)∨(C=95∧∃ v,skipV l one other=some v∧v<0)
theorem space_symE {k:CS} {p:Sc} {al na y:Nat} {one other:Str} {C:Nat} {R} (c:Cx w lse mg mb hB s.heap) (hd:dp≤690) (hu:un≤3600)
    (hal:s.heap.get? al=some (lst [.ref y] na)) (a:DiffAt w s.heap y one other) (K:Col w hB s.heap k) (hp:p∈k.l) (hcu:p.x=k.cu) (hn:Yk p.name) (hC:badC k.l one other C) {hX:Heap} {outer:List Env} (bk:Brk hX outer fr s.heap)
    (ret:∀ (e:Nat) h' tk,Fly hX outer C e h'→s.heap.UpToSlots h'→R (.error (.ref e)) { s with heap:=h',toks:=tk }) :
    codeAny (model PG w) (Ar dp un fr gd) (.call (.ref 951) ⟨[.ref k.xc,.ref al,.none],[]⟩) R s:=zp (by simp(disch:=k_dflt(
  have hS:=K.pg.secs p hp
  have hsec:=hS.sec
  rw [hcu] at hsec
  refine' enter [] [(Str.ofString "self",.ref k.xc),(Str.ofString "args",.ref al),(Str.ofString "at",.none)] c ?kf ?k6 ?k7 ?eb ?es ?k8 ?k9 ?kB ?c5 ?c2 ?c3 ?c4 ?_
  k_extra "e0"
  have K0:=K.ext kp.ext
  have a0:=a.ext kp.ext
  have b1:=K0.oi.1
  have b2:=K0.odc.1
  have bl:=kp _ _ (by simp) hal
  have bli:g.IsList al #[.ref y]:=⟨_,bl,rfl,_,rfl⟩
  refine (hsec.ext cg.ext).el fun dxs ns v1 v2 v3 vt s1 s2=>?_
  k_steps
  all_goals try (exfalso;omega)
  k_extra "n"
  have eS:=Yg kp F rfl
  have cN:=cg.step F.keep
  have eB:=cN.ext
  refine wpAny_call (fits_spec (v:=0) (n:=8) cN (by omega) (by omega) (by omega) (by decide) (by decide) fun g2 tk2 e2=>?_)
  replace F:=Ye F e2
  replace N:=Ya N e2
  try dsimp only
  k_steps
  k_extra "n"
  have eS:=Yg kp F rfl
  have cN:=cg.step F.keep
  have eB:=cN.ext
  refine wpAny_call (empty_spec cN (by omega) (by omega) hsec hn fun g3 tk3 e3=>?_)
  replace F:=Ye F e3
  replace N:=Ya N e3
  try dsimp only
  k_steps
  k_extra "n"
  have eS:=Yg kp F rfl
  have cN:=cg.step F.keep
  have eB:=cN.ext
  refine wpAny_call (count_symE cN (by omega) (by omega) (by exact a0.ext F.keep) (by exact K0.ext F.keep) hC (by exact bk.push kp F rfl) fun e g4 tk4 f4 u4=>?_)
  refine raise_on (by show Option.map _ fr=_;rw [bk.stack];rfl) rfl f4 fun h6 f6 u6=>?_
  exact ret e h6 _ f6 (((Heap.UpToSlots.of_keeps eS).trans u4).trans u6)))only[↓zq])
theorem off7:True:=trivial
theorem row13:True:=by
  k_with ".exec For Name Name cons nil" => ((fail_if_success have:=@off8);(k_here;(with_unfolding_all refine' For_turns (by k_asm) ?_;k_whole)))
  k_with ".exec If Compare" => ((fail_if_success have:=@off8);(k_here;first | ((with_reducible show wpAny _ _ (exec (Stmt.If (PySem.Expr.Compare (PySem.Expr.Name _ _) [CmpOp.Eq] [PySem.Expr.Constant (Const.int _) _ _] _) _ _ _) _) _ _ _);k_dflt (first | (refine' @if_eqIF _ _ _ _ _ _ _ _ _ _ _ _ _ _ _ _ _ _ _ _ _ _ _ _ (by k_asm) (by exact rfl) (by exact rfl) (by exact rfl) (by decide) (by decide) ?_) | (refine' @if_eqIT _ _ _ _ _ _ _ _ _ _ _ _ _ _ _ _ _ _ _ _ _ _ _ _ (by k_asm) (by exact rfl) (by exact rfl) (by exact rfl) (by decide) (by decide) ?_))) | ((with_reducible show wpAny _ _ (exec (Stmt.If (PySem.Expr.Compare (PySem.Expr.Name _ _) [CmpOp.Eq] [PySem.Expr.Constant (Const.str _) _ _] _) _ _ _) _) _ _ _);k_dflt (first | (refine' @if_eqF _ _ _ _ _ _ _ _ _ _ _ _ _ _ _ _ _ _ _ _ _ _ _ _ (by k_asm) (by exact rfl) (by exact rfl) (by exact rfl) (by decide) (by decide) ?_) | (refine' @if_eqT _ _ _ _ _ _ _ _ _ _ _ _ _ _ _ _ _ _ _ _ _ _ _ _ (by k_asm) (by exact rfl) (by exact rfl) (by exact rfl) (by decide) (by decide) ?_))) | ((with_reducible show wpAny _ _ (exec (Stmt.If (PySem.Expr.Compare (PySem.Expr.Name _ _) [CmpOp.In] [PySem.Expr.Tuple [_,_,_] _ _] _) _ _ _) _) _ _ _);k_dflt (first | (refine' @if_in3F _ _ _ _ _ _ _ _ _ _ _ _ _ _ _ _ _ _ _ _ _ _ _ _ _ _ _ _ _ _ _ _ _ (by k_asm) (by k_asm) (by exact rfl) (by exact rfl) (by exact rfl) (by decide) (by decide) ?_;intro _ _ _ _) | (refine' @if_in3T _ _ _ _ _ _ _ _ _ _ _ _ _ _ _ _ _ _ _ _ _ _ _ _ _ _ _ _ _ _ _ _ _ (by k_asm) (by k_asm) (by exact rfl) (by exact rfl) (by exact rfl) (by decide) (by decide) ?_;intro _ _ _ _))) | ((with_reducible show wpAny _ _ (exec (Stmt.If (PySem.Expr.Compare (PySem.Expr.Name _ _) [CmpOp.In] [PySem.Expr.Tuple [_,_] _ _] _) _ _ _) _) _ _ _);k_dflt (first | (refine' @if_in2F _ _ _ _ _ _ _ _ _ _ _ _ _ _ _ _ _ _ _ _ _ _ _ _ _ _ _ _ _ _ (by k_asm) (by k_asm) (by exact rfl) (by exact rfl) (by exact rfl) (by decide) (by decide) ?_;intro _ _ _ _) | (refine' @if_in2T _ _ _ _ _ _ _ _ _ _ _ _ _ _ _ _ _ _ _ _ _ _ _ _ _ _ _ _ _ _ (by k_asm) (by k_asm) (by exact rfl) (by exact rfl) (by exact rfl) (by decide) (by decide) ?_;intro _ _ _ _)))))
  k_with ".binaryOp Add bytes bytes" => ((fail_if_success have:=@off8);(k_here;refine stop_ ?_))
  k_with ".UnrEndW" => ((fail_if_success have:=@off8);(refine stop_ ?_))
  trivial
theorem little_7 {n:Int} {t t2:Tok} {R} (hn:n=1∨n=2∨n=4∨n=8) (c:Cx w lse mg mb hB s.heap) (hd:dp≤770)
    (ret:∀ h' tk t' (b:Array UInt8),Ext s.heap h'→(b.size:Int)=n→R (.ok (.ret (.bytes b t'))) { s with heap:=h',toks:=tk }) :
    codeAny (model PG w) (Ar dp un fr gd) (.call (.ref 125) ⟨[.int 7 t,.int n t2],[]⟩) R s:=by
  rcases hn with rfl | rfl | rfl | rfl
  · exact little_any (m:=1) (.inr rfl) (by omega) c hd fun h' tk t' b e hb=>ret h' tk t' b e (by rw [hb];rfl)
  · exact little_any (m:=2) (.inr rfl) (by omega) c hd fun h' tk t' b e hb=>ret h' tk t' b e (by rw [hb];rfl)
  · exact little_any (m:=4) (.inr rfl) (by omega) c hd fun h' tk t' b e hb=>ret h' tk t' b e (by rw [hb];rfl)
  · exact little_any (m:=8) (.inr rfl) (by omega) c hd fun h' tk t' b e hb=>ret h' tk t' b e (by rw [hb];rfl)
theorem not4 {x a b c d:Nat} (h1:@Ne Nat a x) (h2:@Ne Nat b x) (h3:@Ne Nat c x) (h4:@Ne Nat d x):(x:Addr) ∉ [(a:Addr),b,c,d]:=fun hm=>by
  rcases List.mem_cons.mp hm with q | hm
  · exact h1 q.symm
  · exact not3 h2 h3 h4 hm
theorem numbers_spec {k:CS} {p:Sc} {al na y m:Nat} {wd:Int} {tw:Tok} {R} (c:Cx w lse mg mb hB s.heap) (hd:dp≤690) (hu:un≤3600) (hw:wd=1∨wd=2∨wd=4∨wd=8) (hm:m≤100)
    (hal:Own hB s.heap al (lst (List.replicate m (.ref y)) na)) (hne:@Ne Nat al p.pl) (a:NumberAt w h0 hB y 7) (K:Col w hB s.heap k) (hp:p∈k.l) (hcu:p.x=k.cu) (hn:Yk p.name) (hz:p.ps.length≤900)
    (ret0:m=0→∀ h' tk,Ext s.heap h'→R (.ok (.ret .none)) { s with heap:=h',toks:=tk })
    (ret:m≠0→∀ (q:Nat) (b:Array UInt8) (fx:Nat) kf h' tk,(b.size:Int)=wd * m→Keep [p.pl] s.heap h'→OctetsAt w s.heap h' q b fx→s.heap.get? fx=none→h'.get? fx=some (lst [] kf)→h'.get? p.pl=some (lst (p.ps++[.ref q]) (p.n+1))→R (.ok (.ret .none)) { s with heap:=h',toks:=tk }) :
    codeAny (model PG w) (Ar dp un fr gd) (.call (.ref 916) ⟨[.ref k.xc,.int wd tw,.ref al,.none],[]⟩) R s:=zp (by simp(disch:=k_dflt(
  have hS:=K.pg.secs p hp
  have hsec:=hS.sec
  have hpl:=hS.opl
  rw [hcu] at hsec
  have n1:@Ne Nat k.xc p.pl:=Yc K.oi.1 hpl.1 (by simp)
  have n2:@Ne Nat k.dc p.pl:=Yc K.odc.1 hpl.1 (by simp)
  have n3:@Ne Nat al k.xc:=Yc hal.1 K.oi.1 (by simp)
  have n4:@Ne Nat al k.dc:=Yc hal.1 K.odc.1 (by simp)
  have hi:=K.oi
  have hc:=K.odc
  refine' Yd [(al,lst (List.replicate m (.ref y)) na),(k.xc,instObj 961 k.dc),(k.dc,cD w k),(p.pl,lst p.ps p.n)] [(Str.ofString "self",.ref k.xc),(Str.ofString "width",.int wd tw),(Str.ofString "nodes",.ref al),(Str.ofString "at",.none)] c ?kf ?k6 ?k7 ?eb ?es ?k8 ?k9 ?kB ?c5 ?c2 ?c3 ?c4 ?_
  k_extra "e0"
  refine (hsec.ext cg.ext).el fun dxs ns v1 v2 v3 vt s1 s2=>?_
  k_steps
  k_extra "n"
  rename_i t0 _ _ _ _ fx g4 lf dT g3 lfx g2 g1 g0
  have hwd:1≤wd∧wd≤8:=by omega
  have hfa:decide (-(1 * 2 ^ (8 * wd - 1).toNat)≤(7:Int))=true:=by rcases hw with rfl | rfl | rfl | rfl <;> decide
  have hfb:decide ((7:Int)≤1 * 2 ^ (8 * wd).toNat - 1)=true:=by rcases hw with rfl | rfl | rfl | rfl <;> decide
  refine iter_listTurns (vs:=List.replicate m (.ref y)) rfl F N (by k_mem) rfl rfl fun I l1=>?_
  refine items_ind (news0:=[(fx,PySem.W.listOf #[] 0),(al,lst (List.replicate m (.ref y)) na),(k.xc,instObj 961 k.dc),(k.dc,cD w k),(p.pl,lst p.ps p.n)])
    (fun r mm=>Ex3 fun (i:Nat) (b:Array UInt8) (tb:Tok)=>A8 (i≤m) (r=List.replicate i (Value.ref y)) ((b.size:Int)=wd * ((m:Int) - i)) (mm (Str.ofString "octets")=some (.bytes b tb)) (mm (Str.ofString "fixups")=some (.ref fx)) (mm (Str.ofString "self")=some (.ref k.xc)) (mm (Str.ofString "width")=some (.int wd tw)) (mm (Str.ofString "at")=some .none))
    (fun n' hn=>subL fun q hq=>hn q (by rw [List.mem_singleton.mp hq];exact .tail _ (.head _))) ?zero ?turn _ _ _ ?start (fun q hq=>.tail _ hq)
  case start=>exact ⟨m,#[],t0,Nat.le_refl _,rfl,by simp,rfl,rfl,rfl,rfl,rfl⟩
  case zero =>
    rintro mm h tk ⟨i,b,tb,him,hr,hb,m1,m2,m3,m4,m5⟩ F N
    obtain rfl:i=0:=by
      have:=congrArg List.length hr
      simpa using this.symm
    have hmm:=Yr (m:=mm) [(Str.ofString "octets",some (.bytes b tb)),(Str.ofString "fixups",some (.ref fx)),(Str.ofString "self",some (.ref k.xc)),(Str.ofString "width",some (.int wd tw)),(Str.ofString "at",some .none)] (by simp [m1,m2,m3,m4,m5])
    rw [hmm] at F
    simp only [mLook] at F
    k_steps
    k_extra "n"
    have kq:=kqo (ks:=[]) kp F N hfo (by k_extra "q")
    have eS:=kq.ext
    clear kq
    have hb1:(b.size:Int)=wd * m:=by simpa using hb
    have hb2:b.size≤1000:=by
      have:wd * (m:Int)≤8 * 100:=Int.mul_le_mul hwd.2 (by omega) (by omega) (by omega)
      omega
    have nfx:@Ne Nat fx p.pl:=by k_ne
    have d1:@Ne Nat al fx:=by k_ne
    have d2:@Ne Nat k.xc fx:=by k_ne
    have d3:@Ne Nat k.dc fx:=by k_ne
    refine wpAny_call (octets_spec (cg.step F.keep) (by omega) (by omega) (by exact Yv cg N (by k_mem)) (by exact Yv cg N (by k_mem)) hsec hn (by exact Yv cg N (by k_mem)) (by omega) hb2 (by exact N.get (by k_mem)) nfx (fun hb0 g7 tk7 e7=>?_) (fun hb0 q g7 tk7 k7 a7 q7=>?_))
    · skip
      replace F:=Ye F e7
      replace N:=Ya N e7
      try dsimp only
      k_steps
      k_extra "n"
      have kq:=kqo (ks:=[]) kp F N hfo (by k_extra "q")
      exact ret0 (by
        cases m with
        | zero=>rfl
        | succ j =>
          have:1 * ((j+1:Nat):Int)≤wd * ((j+1:Nat):Int):=Int.mul_le_mul_of_nonneg_right hwd.1 (by omega)
          omega) _ _ kq.ext
    · skip
      have a8:=a7.down eS
      have N9:=Yj (rest:=[(fx,PySem.W.listOf #[] 0),(al,lst (List.replicate m (.ref y)) na),(k.xc,instObj 961 k.dc),(k.dc,cD w k)]) N k7 (by k_mem) q7 (Yn (by k_extra "r"))
      replace F:=Yp F N k7 (by k_mem)
      clear N
      (rename News _ _ _ _=>N)
      try dsimp only
      k_steps
      k_extra "n"
      have kq:=kqo (ks:=[p.pl]) kp F N hfo (by k_extra "q")
      have nf:=(N (fx,PySem.W.listOf #[] 0) (by k_mem)).2.2
      exact ret (fun e=>hb0 (by rw [e] at hb1;simpa using hb1)) q b fx _ _ _ hb1 kq a8 (Yh kp nf (not4 d1 d2 d3 nfx.symm)) (N.get (by k_mem)) (N.get (by k_mem))
  case turn =>
    rintro v r mm h tk it ⟨i,b,tb,him,hr,hb,m1,m2,m3,m4,m5⟩ hit F N
    obtain ⟨i,rfl⟩:∃ j,i=j+1:=by
      cases i with
      | zero=>simp at hr
      | succ j=>exact ⟨j,rfl⟩
    rw [List.replicate_succ] at hr
    obtain ⟨rfl,rfl⟩:=List.cons.inj hr
    have hmm:=Yr (m:=mm) [(Str.ofString "octets",some (.bytes b tb)),(Str.ofString "fixups",some (.ref fx)),(Str.ofString "self",some (.ref k.xc)),(Str.ofString "width",some (.int wd tw)),(Str.ofString "at",some .none)] (by simp [m1,m2,m3,m4,m5])
    rw [hmm] at F
    simp only [mLook] at F
    k_steps
    k_extra "n"
    have cN:=cg.step F.keep
    refine wpAny_call (worth_number (ed:=k.ed) cN (by omega) (by omega) (by exact N.get (by k_mem)) (by exact N.get (by k_mem)) (by exact a.xkeep cN.ext) (by exact K.sc.xkeep cN.ext) (by exact K.eq.ext cN.ext) fun z g5 tk5 e5 m5' a5=>?_)
    k_extra "n"
    refine AffineAt.newsE F (Ya N e5) a5 fun dz _ _ _ _ _ _ _ N9=>?_
    replace F:=Ye F e5
    clear N
    (rename News _ _ _ _=>N)
    try dsimp only
    k_steps
    k_extra "n"
    refine wpAny_call (isnum_t (cg.step F.keep) (by omega) (by exact AffineAt.ofNB cg N (by k_mem) (by k_mem)) fun g6 tk6 e6=>?_)
    replace F:=Ye F e6
    replace N:=Ya N e6
    try dsimp only
    k_steps
    k_extra "n"
    refine wpAny_call (fits_spec (v:=7) (n:=8 * wd) (cg.step F.keep) (by omega) (by omega) (by omega) hfa hfb fun g7 tk7 e7=>?_)
    replace F:=Ye F e7
    replace N:=Ya N e7
    try dsimp only
    k_steps
    k_extra "n"
    refine wpAny_call (little_7 hw (cg.step F.keep) (by omega) fun g8 tk8 t8 b8 e8 hb8=>?_)
    replace F:=Ye F e8
    replace N:=Ya N e8
    try dsimp only
    k_steps
    k_extra "n"
    have hsz:b.size+b8.size≤16777216:=by
      have:wd * ((m:Int) - (i+1:Nat))≤8 * 100:=Int.mul_le_mul hwd.2 (by omega) (by omega) (by omega)
      omega
    refine KBy.add_bytes hsz ?_
    intro t9 tk9
    k_steps
    k_extra "n"
    refine unr_end (news0:=[(fx,PySem.W.listOf #[] 0),(al,lst (List.replicate m (.ref y)) na),(k.xc,instObj 961 k.dc),(k.dc,cD w k),(p.pl,lst p.ps p.n)]) F N (by k_mem) (fun q hq=>.tail _ (.tail _ (.tail _ hq))) (fun q hq=>l1 q (.tail _ hq)) ⟨fun q hq=>hq,i,b++b8,_,by omega,rfl,?_,rfl,rfl,rfl,rfl,rfl⟩
    rw [Array.size_append]
    have:wd * ((m:Int) - (i:Nat))=wd * ((m:Int) - (i+1:Nat))+wd:=by
      rw [show (m:Int) - (i:Nat)=((m:Int) - (i+1:Nat))+1 by omega,Int.mul_add,Int.mul_one]
    omega))only[↓zq])
theorem off8:True:=trivial
theorem row14:True:=by
  k_with ".exec If Compare" => ((fail_if_success have:=@off9);(k_here;first | ((with_reducible show wpAny _ _ (exec (Stmt.If (PySem.Expr.Compare (PySem.Expr.Name _ _) [CmpOp.Eq] [PySem.Expr.Constant (Const.int _) _ _] _) _ _ _) _) _ _ _);k_dflt (first | (refine' @if_eqIF _ _ _ _ _ _ _ _ _ _ _ _ _ _ _ _ _ _ _ _ _ _ _ _ (by k_asm) (by exact rfl) (by exact rfl) (by exact rfl) (by decide) (by decide) ?_) | (refine' @if_eqIT _ _ _ _ _ _ _ _ _ _ _ _ _ _ _ _ _ _ _ _ _ _ _ _ (by k_asm) (by exact rfl) (by exact rfl) (by exact rfl) (by decide) (by decide) ?_))) | ((with_reducible show wpAny _ _ (exec (Stmt.If (PySem.Expr.Compare (PySem.Expr.Name _ _) [CmpOp.Eq] [PySem.Expr.Constant (Const.str _) _ _] _) _ _ _) _) _ _ _);k_dflt (first | (refine' @if_eqF _ _ _ _ _ _ _ _ _ _ _ _ _ _ _ _ _ _ _ _ _ _ _ _ (by k_asm) (by exact rfl) (by exact rfl) (by exact rfl) (by decide) (by decide) ?_) | (refine' @if_eqT _ _ _ _ _ _ _ _ _ _ _ _ _ _ _ _ _ _ _ _ _ _ _ _ (by k_asm) (by exact rfl) (by exact rfl) (by exact rfl) (by decide) (by decide) ?_))) | ((with_reducible show wpAny _ _ (exec (Stmt.If (PySem.Expr.Compare (PySem.Expr.Name _ _) [CmpOp.In] [PySem.Expr.Tuple [_,_,_] _ _] _) _ _ _) _) _ _ _);k_dflt (first | (refine' @if_in3F _ _ _ _ _ _ _ _ _ _ _ _ _ _ _ _ _ _ _ _ _ _ _ _ _ _ _ _ _ _ _ _ _ (by k_asm) (by k_asm) (by exact rfl) (by exact rfl) (by exact rfl) (by decide) (by decide) ?_;intro _ _ _ _) | (refine' @if_in3T _ _ _ _ _ _ _ _ _ _ _ _ _ _ _ _ _ _ _ _ _ _ _ _ _ _ _ _ _ _ _ _ _ (by k_asm) (by k_asm) (by exact rfl) (by exact rfl) (by exact rfl) (by decide) (by decide) ?_;intro _ _ _ _))) | ((with_reducible show wpAny _ _ (exec (Stmt.If (PySem.Expr.Compare (PySem.Expr.Name _ _) [CmpOp.In] [PySem.Expr.Tuple [_,_] _ _] _) _ _ _) _) _ _ _);k_dflt (first | (refine' @if_in2F _ _ _ _ _ _ _ _ _ _ _ _ _ _ _ _ _ _ _ _ _ _ _ _ _ _ _ _ _ _ (by k_asm) (by k_asm) (by exact rfl) (by exact rfl) (by exact rfl) (by decide) (by decide) ?_;intro _ _ _ _) | (refine' @if_in2T _ _ _ _ _ _ _ _ _ _ _ _ _ _ _ _ _ _ _ _ _ _ _ _ _ _ _ _ _ _ (by k_asm) (by k_asm) (by exact rfl) (by exact rfl) (by exact rfl) (by decide) (by decide) ?_;intro _ _ _ _)))))
  k_with ".setItem ref int" => ((fail_if_success have:=@off9);(k_here;refine stop_ ?_))
  trivial
theorem setL_set {v:Value}:∀ {ys:List Value} {j:Nat},j<ys.length→ki_setL ys j v=some (ys.set j v)
  | [],_,h=>absurd h (Nat.not_lt_zero _)
  | _::_,0,_=>rfl
  | a::r,j+1,h=>by
    have:=setL_set (v:=v) (ys:=r) (j:=j) (Nat.lt_of_succ_lt_succ h)
    simp [ki_setL,this]
theorem tN:∀ {n:Nat},1≤n→(-1+(n:Int)).toNat=n - 1
  | n+1,_=>by rw [Int.natCast_add,Int.add_comm,Int.add_assoc];exact Int.toNat_natCast n
theorem set_neg1 {A:Around} {g:Heap} {L:Addr} {D:Nat} {m:Str→Option Value} {ys:List Value} {ns:List Int} {p:Addr×Obj} {x:Int} {t u:Tok} {Q:Unit→Shared→Prop} {E:Value→Shared→Prop} (F:Fr g L s.heap m) (N:News g L s.heap [((D:Addr),LCg.lst ys),p])
    (hi:IntsAre ys ns) (h1:1≤ys.length) (h5:ys.length≤5) (np:p.1≠(D:Addr)) (hr:∀ q∈ns,0≤q∧q<256) (hx:0≤x∧x<256)
    (h:∀ h' n zs ns',Fr g L h' m→News g L h' [((D:Addr),PySem.W.listOf (List.toArray zs) n),p]→IntsAre zs ns'→(∀ q∈ns',0≤q∧q<256)→zs.length=ys.length→Q () { s with heap:=h' }) :
    wpAny (model PG w) A (setItem (.ref D) (.int (-1) t) (.int x u)) Q E s:=zp (by simp(disch:=k_dflt(
  refine ki_setNeg (j:=ys.length - 1) (q:=ys.set (ys.length - 1) (.int x u)) F N (by decide) (by decide) ?_ (by simpa using setL_set (by omega)) (Upd.head fun q hq=>by rw [List.mem_singleton.mp hq];exact np) fun h' F' N'=>h h' _ _ _ F' N' (ints_set hi _) (fun q hq=>?_) (List.length_set ..)
  · have:=PySem.seqIndex_neg (k:=-1) (n:=ys.length) (by decide) (by omega)
    simp only [List.size_toArray]
    rw [this]
    congr 1
    exact tN h1
  · rcases List.mem_or_eq_of_mem_set hq with m | rfl
    · exact hr q m
    · exact hx))only[↓zq])
theorem late0_LQ:True:=by
  k_with ".exec While BoolOp" => ((fail_if_success have:=@off9);(k_here;refine stop_ ?_))
  trivial
theorem late1_LQ:True:=by
  k_with ".WhlRest" => ((fail_if_success have:=@off9);refine stop_ ?_)
  trivial
theorem leb_any {vs:List Value} {ns:List Int} {l n:Nat} {R} (c:Cx w lse mg mb hB s.heap) (hd:dp≤770)
    (a:Own hB s.heap l (PySem.W.listOf vs.toArray n)) (hi:IntsAre vs ns) (hr:∀ q∈ns,0≤q∧q<128) (h1:1≤vs.length) (h5:vs.length≤5)
    (ret:∀ h' tk t' (b:Array UInt8),Ext s.heap h'→b.size=vs.length→R (.ok (.ret (.bytes b t'))) { s with heap:=h',toks:=tk }) :
    codeAny (model PG w) (Ar dp un fr gd) (.call (.ref 130) ⟨[.ref l],[]⟩) R s:=zp (by simp(disch:=k_dflt(
  refine' Yd [(l,PySem.W.listOf vs.toArray n)] [(Str.ofString "groups",.ref l)] c ?kf ?k6 ?k7 ?eb ?es ?k8 ?k9 ?kB ?c5 ?c2 ?c3 ?c4 ?_
  k_extra "e0"
  have hsz:vs.toArray.size=vs.length:=by simp
  k_steps
  k_extra "n"
  (rename IntsAre _ (List.map _ _)=>hIy)
  have hly:=hIy.length
  have hln:=hi.length
  rw [List.length_map] at hly
  have hx:0≤ns.getD (-1+(ns.length:Int)).toNat 0∧ns.getD (-1+(ns.length:Int)).toNat 0<128:=by
    have hlt:(-1+(ns.length:Int)).toNat<ns.length:=by omega
    rw [List.getD_eq_getElem?_getD,List.getElem?_eq_getElem hlt]
    exact hr _ (List.getElem_mem hlt)
  refine set_neg1 F N hIy (by omega) (by omega) (by assumption) (fun q hq=>by (obtain ⟨z,hz,rfl⟩:=List.mem_map.mp hq);have:=hr z hz;omega) ⟨hx.1,Int.lt_trans hx.2 (by decide)⟩ fun h2 n2 zs ns2 F N hI2 hq hzl=>?_
  try dsimp only
  k_steps
  k_extra "n"
  have kq:=kqo (ks:=[]) kp F N hfo (by k_extra "q")
  have hzn:=hI2.length
  exact ret _ _ _ _ kq.ext (by simp [byteArr];omega)))only[↓zq])
theorem whl_ind {A:Around} {E:Value→Shared→Prop} {env:Env} {test:PySem.Expr} {body orelse:List Stmt} {Q:Flow→Shared→Prop} (J:Nat→Shared→Prop)
    (turn:∀ j s,J j s→(∀ s',∀ i,i<j→J i s'→WhlRest PG w A E env test body orelse Q 0 s')→WhlRest PG w A E env test body orelse Q 1 s):∀ (j:Nat) (s:Shared),J j s→WhlRest PG w A E env test body orelse Q 20 s:=by
  intro j
  induction j using Nat.strongRecOn with
  | ind j ih=>exact fun s h=>turn j s h fun s' i hi hJ=>ih i hi s' hJ
def LebV (j:Nat) (v:Int):Prop:=(j=0∧v=1)∨(j=1∧v=128)∨(j=2∧v=16384)∨(j=3∧v=2097152)∨(j=4∧v=268435456)
theorem sleb_any {v:Int} {n:Nat} {t0:Tok} {R} (hv:(v=1∧n=1)∨(v=128∧n=2)∨(v=16384∧n=3)∨(v=2097152∧n=4)∨(v=268435456∧n=5)) (c:Cx w lse mg mb hB s.heap) (hd:dp≤760)
    (ret:∀ h' tk t' (b:Array UInt8),Ext s.heap h'→b.size=n→R (.ok (.ret (.bytes b t'))) { s with heap:=h',toks:=tk }) :
    codeAny (model PG w) (Ar dp un fr gd) (.call (.ref 144) ⟨[.int v t0],[]⟩) R s:=zp (by simp(disch:=k_dflt(
  refine' Yd [] [(Str.ofString "worth",.int v t0)] c ?kf ?k6 ?k7 ?eb ?es ?k8 ?k9 ?kB ?c5 ?c2 ?c3 ?c4 ?_
  k_extra "e0"
  k_steps
  k_extra "n"
  rename_i l ha la hb tkb qb eb hc
  delta Stop
  refine whl_start 20 ?_
  have hb7:0≤Builtin.bitAnd v 127∧Builtin.bitAnd v 127<128:=by rcases hv with ⟨rfl,_⟩ | ⟨rfl,_⟩ | ⟨rfl,_⟩ | ⟨rfl,_⟩ | ⟨rfl,_⟩ <;> decide
  refine whl_ind (J:=fun j s'=>Ex8 fun (h':Heap) (tk':Nat) (m':Str→Option Value) (r:Int) (tr:Tok) (vs:List Value) (ns:List Int) (cnt:Nat)=>A10 (s'={ s with heap:=h',toks:=tk' }) (Fr g L' h' m') (m' (Str.ofString "rest")=some (.int r tr)) (m' (Str.ofString "groups")=some (.ref l)) (News g L' h' [(l,PySem.W.listOf vs.toArray cnt)]) (LebV j r) (IntsAre vs ns) (∀ q∈ns,0≤q∧q<128) (vs.length+j=n) (1≤vs.length)) ?turn (n - 1) _ ?start
  case start =>
    refine ⟨hc,tk,_,v,t0,[.int (Builtin.bitAnd v 127) _],[Builtin.bitAnd v 127],0,rfl,F,rfl,rfl,N,?_,.cons _ _ .nil,fun q hq=>by rw [List.mem_singleton.mp hq];exact hb7,?_,Nat.le_refl _⟩
    · rcases hv with ⟨rfl,rfl⟩ | ⟨rfl,rfl⟩ | ⟨rfl,rfl⟩ | ⟨rfl,rfl⟩ | ⟨rfl,rfl⟩ <;> simp [LebV]
    · rcases hv with ⟨rfl,rfl⟩ | ⟨rfl,rfl⟩ | ⟨rfl,rfl⟩ | ⟨rfl,rfl⟩ | ⟨rfl,rfl⟩ <;> rfl
  case turn =>
    rintro j s' ⟨h',tk',m',r,tr,vs,ns,cnt,rfl,F,m1,m2,N,hr,hi,hq,hlen,hv1⟩ next
    have hmm:=Yr (m:=m') [(Str.ofString "rest",some (.int r tr)),(Str.ofString "groups",some (.ref l))] (by simp [m1,m2])
    rw [hmm] at F
    simp only [mLook] at F
    have hn5:n≤5:=by rcases hv with ⟨_,rfl⟩ | ⟨_,rfl⟩ | ⟨_,rfl⟩ | ⟨_,rfl⟩ | ⟨_,rfl⟩ <;> decide
    have hsz:vs.toArray.size=vs.length:=by simp
    cases j with
    | zero =>
      obtain rfl:r=1:=by rcases hr with ⟨_,h⟩ | ⟨h,_⟩ | ⟨h,_⟩ | ⟨h,_⟩ | ⟨h,_⟩ <;> first | exact h | cases h
      refine whl_turn (by first | passes_own | with_unfolding_all passes_own) ?_
      k_steps
      k_extra "n"
      have kq:=Yg kp F rfl
      have cN:=cg.step F.keep
      refine wpAny_call (leb_any cN (by omega) (by exact Yv cg N (.head _)) hi hq hv1 (by omega) fun g2 tk2 t2 b e2 hb=>?_)
      replace F:=Ye F e2
      replace N:=Ya N e2
      try dsimp only
      k_steps
      exact ret _ _ _ _ (Yg kp F rfl) (by omega)
    | succ j =>
      have h128:128≤r:=by rcases hr with ⟨h,_⟩ | ⟨_,rfl⟩ | ⟨_,rfl⟩ | ⟨_,rfl⟩ | ⟨_,rfl⟩ <;> first | decide | cases h
      refine whl_turn (by first | passes_own | with_unfolding_all passes_own) ?_
      k_steps
      k_extra "n"
      delta Stop
      have hr2:LebV j (r.fdiv (2 ^ Int.toNat 7))∧0≤Builtin.bitAnd (r.fdiv (2 ^ Int.toNat 7)) 127∧Builtin.bitAnd (r.fdiv (2 ^ Int.toNat 7)) 127<128:=by
        rcases hr with ⟨h,_⟩ | ⟨h,rfl⟩ | ⟨h,rfl⟩ | ⟨h,rfl⟩ | ⟨h,rfl⟩ <;> cases h <;> exact ⟨by unfold LebV;decide,by decide,by decide⟩
      rw [List.push_toArray] at N
      refine next _ j (Nat.lt_succ_self j) ⟨_,_,_,r.fdiv (2 ^ Int.toNat 7),_,_,ns++[Builtin.bitAnd (r.fdiv (2 ^ Int.toNat 7)) 127],cnt+1,rfl,F,rfl,rfl,N,hr2.1,ints_snoc9 hi,fun q hz=>?_,?_,?_⟩
      · rcases List.mem_append.mp hz with h | h
        · exact hq q h
        · rw [List.mem_singleton.mp h]
          exact hr2.2
      · simp
        omega
      · simp))only[↓zq])
theorem off9:True:=trivial
theorem not3' {x a b c:Nat} (h1:@Ne Nat x a) (h2:@Ne Nat x b) (h3:@Ne Nat x c):(x:Addr) ∉ [(a:Addr),b,c]:=not3 h1.symm h2.symm h3.symm
theorem ne_obj {h:Heap} {a b:Nat} {o o':Obj} (e:h.get? a=some o) (e':h.get? b=some o') (hc:o≠o'):@Ne Nat a b:=fun q=>by
  have q':(a:Addr)=b:=q
  rw [q',e'] at e
  exact hc (Option.some.inj e).symm
theorem aff_apart {h h':Heap} {xa xc dc pl:Nat} {v:Int} {p m:Str} {t1 t2 t3:Tok} {xp cu sc nc n:Nat} {ps:List Value} (a:AffineAt w h0 h xa v p m) (e:Keep [xc,dc,pl] h h') (hi:h.get? xc=some (instObj 961 dc))
    (hc:h.get? dc=some (dictOf [en w "program" t1 (.ref xp),en w "section" t2 (.ref cu),en w "scope" t3 (.ref sc)] nc)) (hp:h.get? pl=some (lst ps n)):AffineAt w h0 h' xa v p m:=by
  refine a.el fun dx n' u1 u2 u3 u4 u5 u6 a1 a2=>?_
  refine ⟨dx,n',u1,u2,u3,u4,u5,u6,a1.but e (not3' (ne_obj a1.1 hi (by simp [instObj])) (Yc a1.1 hc (by simp)) (Yc a1.1 hp (by simp))),a2.but e (not3' (Yc a2.1 hi (by simp)) (ne_obj a2.1 hc ?_) (Yc a2.1 hp (by simp)))⟩
  intro q
  have q2:=congrArg Obj.data q
  simp [dictOf] at q2
theorem leb_num {k:CS} {p:Sc} {xa n:Nat} {v:Int} {R} (c:Cx w lse mg mb hB s.heap) (hd:dp≤690) (hu:un≤3600) (hv:(v=1∧n=1)∨(v=128∧n=2)∨(v=16384∧n=3)∨(v=2097152∧n=4)∨(v=268435456∧n=5))
    (a:AffineAt w h0 s.heap xa v (Str.ofString "") (Str.ofString "")) (K:Col w hB s.heap k) (hp:p∈k.l) (hcu:p.x=k.cu) (hn:Yk p.name) (hz:p.ps.length≤900)
    (ret:∀ (q:Nat) (b:Array UInt8) (fx:Nat) kf h' tk,(b.size:Int)=(n:Int)→Keep [p.pl] s.heap h'→OctetsAt w s.heap h' q b fx→s.heap.get? fx=none→h'.get? fx=some (lst [] kf)→h'.get? p.pl=some (lst (p.ps++[.ref q]) (p.n+1))→R (.ok (.ret .none)) { s with heap:=h',toks:=tk }) :
    codeAny (model PG w) (Ar dp un fr gd) (.call (.ref 930) ⟨[.ref k.xc,.ref xa,.bool true,.none],[]⟩) R s:=zp (by simp(disch:=k_dflt(
  have hS:=K.pg.secs p hp
  have hsec:=hS.sec
  have hpl:=hS.opl
  rw [hcu] at hsec
  have n1:@Ne Nat k.xc p.pl:=Yc K.oi.1 hpl.1 (by simp)
  have n2:@Ne Nat k.dc p.pl:=Yc K.odc.1 hpl.1 (by simp)
  have hi:=K.oi
  have hc:=K.odc
  have hn5:1≤n∧n≤5:=by rcases hv with ⟨_,rfl⟩ | ⟨_,rfl⟩ | ⟨_,rfl⟩ | ⟨_,rfl⟩ | ⟨_,rfl⟩ <;> decide
  refine' Yd [(k.xc,instObj 961 k.dc),(k.dc,cD w k),(p.pl,lst p.ps p.n)] [(Str.ofString "self",.ref k.xc),(Str.ofString "affine",.ref xa),(Str.ofString "is_signed",.bool true),(Str.ofString "at",.none)] c ?kf ?k6 ?k7 ?eb ?es ?k8 ?k9 ?kB ?c5 ?c2 ?c3 ?c4 ?_
  k_extra "e0"
  have a0:=aff_apart a kp hi.1 hc.1 hpl.1
  have a1:=a0
  refine a1.el fun dz nz' w1 w2 w3 w4 w5 w6 z1 z2=>?_
  have z3:=z1.1
  have z4:=z2.1
  refine (hsec.ext cg.ext).el fun dxs ns v1 v2 v3 vt s1 s2=>?_
  k_steps
  k_extra "n"
  refine wpAny_call (isnum_t (cg.step F.keep) (by omega) (by exact a0.xkeep F.keep) fun g2 tk2 e2=>?_)
  replace F:=Ye F e2
  replace N:=Ya N e2
  try dsimp only
  k_steps
  k_extra "n"
  refine wpAny_call (sleb_any hv (cg.step F.keep) (by omega) fun g3 tk3 t3 b e3 hb=>?_)
  replace F:=Ye F e3
  replace N:=Ya N e3
  try dsimp only
  k_steps
  k_extra "n"
  rename_i fx gg lf
  k_extra "n"
  have kq:=kqo (ks:=[]) kp F N hfo (by k_extra "q")
  have eS:=kq.ext
  clear kq
  have nfx:@Ne Nat fx p.pl:=by k_ne
  have d2:@Ne Nat k.xc fx:=by k_ne
  have d3:@Ne Nat k.dc fx:=by k_ne
  refine wpAny_call (octets_spec (cg.step F.keep) (by omega) (by omega) (by exact Yv cg N (by k_mem)) (by exact Yv cg N (by k_mem)) hsec hn (by exact Yv cg N (by k_mem)) (by omega) (by omega) (by exact N.get (by k_mem)) nfx (fun hb0 g7 tk7 e7=>absurd hb0 (by omega)) (fun hb0 q g7 tk7 k7 a7 q7=>?_))
  have a8:=a7.down eS
  have N9:=Yj (rest:=[(fx,PySem.W.listOf #[] 0),(k.xc,instObj 961 k.dc),(k.dc,cD w k)]) N k7 (by k_mem) q7 (Yn (by k_extra "r"))
  replace F:=Yp F N k7 (by k_mem)
  clear N
  (rename News _ _ _ _=>N)
  try dsimp only
  k_steps
  k_extra "n"
  have kq:=kqo (ks:=[p.pl]) kp F N hfo (by k_extra "q")
  have nf:=(N (fx,PySem.W.listOf #[] 0) (by k_mem)).2.2
  exact ret q b fx _ _ _ (by omega) kq a8 (Yh kp nf (not3 d2 d3 nfx.symm)) (N.get (by k_mem)) (N.get (by k_mem))))only[↓zq])
theorem leb_dist {k:CS} {p:Sc} {xa:Nat} {one other:Str} {R} (c:Cx w lse mg mb hB s.heap) (hd:dp≤690) (hu:un≤3600) (h1:(one != Str.ofString "")=true) (h2:(other != Str.ofString "")=true)
    (a:AffineAt w h0 s.heap xa 0 one other) (K:Col w hB s.heap k) (hp:p∈k.l) (hcu:p.x=k.cu) (hn:Yk p.name) (hz:p.ps.length≤900)
    (ret:∀ (q:Nat) h' tk,Keep [p.pl] s.heap h'→LebAt w s.heap h' q xa false→h'.get? p.pl=some (lst (p.ps++[.ref q]) (p.n+1))→R (.ok (.ret .none)) { s with heap:=h',toks:=tk }) :
    codeAny (model PG w) (Ar dp un fr gd) (.call (.ref 930) ⟨[.ref k.xc,.ref xa,.bool false,.none],[]⟩) R s:=zp (by simp(disch:=k_dflt(
  have hS:=K.pg.secs p hp
  have hsec:=hS.sec
  have hpl:=hS.opl
  rw [hcu] at hsec
  have n1:@Ne Nat k.xc p.pl:=Yc K.oi.1 hpl.1 (by simp)
  have n2:@Ne Nat k.dc p.pl:=Yc K.odc.1 hpl.1 (by simp)
  have hi:=K.oi
  have hc:=K.odc
  have h1':(one == Str.ofString "")=false:=by simpa using h1
  have h2':(other == Str.ofString "")=false:=by simpa using h2
  refine' Yd [(k.xc,instObj 961 k.dc),(k.dc,cD w k),(p.pl,lst p.ps p.n)] [(Str.ofString "self",.ref k.xc),(Str.ofString "affine",.ref xa),(Str.ofString "is_signed",.bool false),(Str.ofString "at",.none)] c ?kf ?k6 ?k7 ?eb ?es ?k8 ?k9 ?kB ?c5 ?c2 ?c3 ?c4 ?_
  k_extra "e0"
  have a0:=aff_apart a kp hi.1 hc.1 hpl.1
  have a1:=a0
  refine a1.el fun dz nz' w1 w2 w3 w4 w5 w6 z1 z2=>?_
  have z3:=z1.1
  have z4:=z2.1
  refine (hsec.ext cg.ext).el fun dxs ns v1 v2 v3 vt s1 s2=>?_
  k_steps
  k_extra "n"
  refine wpAny_call (isnum_f (cg.step F.keep) (by omega) (by exact a0.xkeep F.keep) h1' fun g2 tk2 e2=>?_)
  replace F:=Ye F e2
  replace N:=Ya N e2
  try dsimp only
  k_steps
  k_extra "n"
  refine wpAny_call (empty_spec (cg.step F.keep) (by omega) (by omega) hsec hn fun g3 tk3 e3=>?_)
  replace F:=Ye F e3
  replace N:=Ya N e3
  try dsimp only
  k_steps
  k_extra "n"
  have kq:=kqo (ks:=[]) kp F N hfo (by k_extra "q")
  have eS:=kq.ext
  clear kq
  refine wpAny_call (new_Leb (cg.step F.keep) (by omega) fun q g6 tk6 e6 m6 a6=>?_)
  have a7:=a6.down eS
  replace F:=Ye F e6
  replace N:=Ya N e6
  try dsimp only
  k_steps
  k_extra "n"
  refine wpAny_call (add_spec2 (cg.step F.keep) (by omega) (by omega) hsec (by exact Yv cg N (by k_mem)) (by omega) fun g7 tk7 k7 q7=>?_)
  have a8:=a7.keep k7 (fun b hb=>by rw [List.mem_singleton.mp hb];exact .inr ⟨_,N.get (by k_mem),rfl⟩)
  have N9:=Yj (rest:=[(k.xc,instObj 961 k.dc),(k.dc,cD w k)]) N k7 (by k_mem) q7 (Yn (by k_extra "r"))
  replace F:=Yp F N k7 (by k_mem)
  clear N
  (rename News _ _ _ _=>N)
  try dsimp only
  k_steps
  k_extra "n"
  have kq:=kqo (ks:=[p.pl]) kp F N hfo (by k_extra "q")
  exact ret q _ _ kq a8 (N.get (by k_mem))))only[↓zq])
theorem org_spec {k:CS} {p:Sc} {xa:Nat} {v:Int} {R} (c:Cx w lse mg mb hB s.heap) (hd:dp≤690) (hu:un≤3600) (hv0:0≤v) (hv1:v≤1048576)
    (a:AffineAt w h0 s.heap xa v (Str.ofString "") (Str.ofString "")) (K:Col w hB s.heap k) (hp:p∈k.l) (hcu:p.x=k.cu) (hn:Yk p.name) (hz:p.ps.length≤900)
    (ret:∀ (q:Nat) h' tk,Keep [p.pl] s.heap h'→OrgAt w s.heap h' q xa→h'.get? p.pl=some (lst (p.ps++[.ref q]) (p.n+1))→R (.ok (.ret .none)) { s with heap:=h',toks:=tk }) :
    codeAny (model PG w) (Ar dp un fr gd) (.call (.ref 944) ⟨[.ref k.xc,.ref xa,.none],[]⟩) R s:=zp (by simp(disch:=k_dflt(
  have hS:=K.pg.secs p hp
  have hsec:=hS.sec
  have hpl:=hS.opl
  rw [hcu] at hsec
  have n1:@Ne Nat k.xc p.pl:=Yc K.oi.1 hpl.1 (by simp)
  have n2:@Ne Nat k.dc p.pl:=Yc K.odc.1 hpl.1 (by simp)
  have hi:=K.oi
  have hc:=K.odc
  refine' Yd [(k.xc,instObj 961 k.dc),(k.dc,cD w k),(p.pl,lst p.ps p.n)] [(Str.ofString "self",.ref k.xc),(Str.ofString "affine",.ref xa),(Str.ofString "at",.none)] c ?kf ?k6 ?k7 ?eb ?es ?k8 ?k9 ?kB ?c5 ?c2 ?c3 ?c4 ?_
  k_extra "e0"
  have a0:=aff_apart a kp hi.1 hc.1 hpl.1
  have a1:=a0
  refine a1.el fun dz nz' w1 w2 w3 w4 w5 w6 z1 z2=>?_
  have z3:=z1.1
  have z4:=z2.1
  refine (hsec.ext cg.ext).el fun dxs ns v1 v2 v3 vt s1 s2=>?_
  k_steps
  k_extra "n"
  refine wpAny_call (isnum_t (cg.step F.keep) (by omega) (by exact a0.xkeep F.keep) fun g2 tk2 e2=>?_)
  replace F:=Ye F e2
  replace N:=Ya N e2
  try dsimp only
  k_steps
  k_extra "n"
  have kq:=kqo (ks:=[]) kp F N hfo (by k_extra "q")
  have eS:=kq.ext
  clear kq
  refine wpAny_call (new_Org (cg.step F.keep) (by omega) fun q g6 tk6 e6 m6 a6=>?_)
  have a7:=a6.down eS
  replace F:=Ye F e6
  replace N:=Ya N e6
  try dsimp only
  k_steps
  k_extra "n"
  refine wpAny_call (add_spec2 (cg.step F.keep) (by omega) (by omega) hsec (by exact Yv cg N (by k_mem)) (by omega) fun g7 tk7 k7 q7=>?_)
  have a8:=a7.keep k7 (fun b hb=>by rw [List.mem_singleton.mp hb];exact .inr ⟨_,N.get (by k_mem),rfl⟩)
  have N9:=Yj (rest:=[(k.xc,instObj 961 k.dc),(k.dc,cD w k)]) N k7 (by k_mem) q7 (Yn (by k_extra "r"))
  replace F:=Yp F N k7 (by k_mem)
  clear N
  (rename News _ _ _ _=>N)
  try dsimp only
  k_steps
  k_extra "n"
  have kq:=kqo (ks:=[p.pl]) kp F N hfo (by k_extra "q")
  exact ret q _ _ kq a8 (N.get (by k_mem))))only[↓zq])
theorem align_spec {k:CS} {p:Sc} {v:Int} {tv:Tok} {R} (c:Cx w lse mg mb hB s.heap) (hd:dp≤690) (hu:un≤3600) (hv:v=1∨v=2∨v=4∨v=8∨v=16) (K:Col w hB s.heap k) (hp:p∈k.l) (hcu:p.x=k.cu) (hn:Yk p.name) (hz:p.ps.length≤900)
    (ret:∀ (q:Nat) b h' tk,Keep [p.pl] s.heap h'→AlignAt w s.heap h' q v b→h'.get? p.pl=some (lst (p.ps++[.ref q]) (p.n+1))→R (.ok (.ret .none)) { s with heap:=h',toks:=tk }) :
    codeAny (model PG w) (Ar dp un fr gd) (.call (.ref 937) ⟨[.ref k.xc,.int v tv,.bool false,.none],[]⟩) R s:=zp (by simp(disch:=k_dflt(
  have hS:=K.pg.secs p hp
  have hsec:=hS.sec
  have hpl:=hS.opl
  rw [hcu] at hsec
  have n1:@Ne Nat k.xc p.pl:=Yc K.oi.1 hpl.1 (by simp)
  have n2:@Ne Nat k.dc p.pl:=Yc K.odc.1 hpl.1 (by simp)
  have hi:=K.oi
  have hc:=K.odc
  refine' Yd [(k.xc,instObj 961 k.dc),(k.dc,cD w k),(p.pl,lst p.ps p.n)] [(Str.ofString "self",.ref k.xc),(Str.ofString "number",.int v tv),(Str.ofString "is_power",.bool false),(Str.ofString "at",.none)] c ?kf ?k6 ?k7 ?eb ?es ?k8 ?k9 ?kB ?c5 ?c2 ?c3 ?c4 ?_
  k_extra "e0"
  refine (hsec.ext cg.ext).el fun dxs ns v1 v2 v3 vt s1 s2=>?_
  have hst:(if v > 1 then v else 1)=v:=by rcases hv with rfl | rfl | rfl | rfl | rfl <;> rfl
  have hA:Builtin.bitAnd (if v > 1 then v else 1) ((if v > 1 then v else 1) - 1)=0:=by rcases hv with rfl | rfl | rfl | rfl | rfl <;> decide
  have hle:(if v > 1 then v else 1)≤16:=by rcases hv with rfl | rfl | rfl | rfl | rfl <;> decide
  k_steps
  all_goals first | (exfalso;exact absurd hA (by assumption)) | (exfalso;omega) | skip
  k_extra "n"
  simp only [hst] at F ⊢
  refine wpAny_call (code_spec (cg.step F.keep) (by omega) (by omega) hsec hn fun g3 tk3 b e3=>?_)
  replace F:=Ye F e3
  replace N:=Ya N e3
  try dsimp only
  k_steps
  k_extra "n"
  have kq:=kqo (ks:=[]) kp F N hfo (by k_extra "q")
  have eS:=kq.ext
  clear kq
  refine wpAny_call (new_Align (cg.step F.keep) (by omega) fun q g6 tk6 e6 m6 a6=>?_)
  have a7:=a6.down eS
  replace F:=Ye F e6
  replace N:=Ya N e6
  try dsimp only
  k_steps
  k_extra "n"
  refine wpAny_call (add_spec2 (cg.step F.keep) (by omega) (by omega) hsec (by exact Yv cg N (by k_mem)) (by omega) fun g7 tk7 k7 q7=>?_)
  have a8:=a7.keep k7 (fun b hb=>by rw [List.mem_singleton.mp hb];exact .inr ⟨_,N.get (by k_mem),rfl⟩)
  have N9:=Yj (rest:=[(k.xc,instObj 961 k.dc),(k.dc,cD w k)]) N k7 (by k_mem) q7 (Yn (by k_extra "r"))
  replace F:=Yp F N k7 (by k_mem)
  clear N
  (rename News _ _ _ _=>N)
  try dsimp only
  k_steps
  k_extra "n"
  have kq:=kqo (ks:=[p.pl]) kp F N hfo (by k_extra "q")
  exact ret q b _ _ kq a8 (N.get (by k_mem))))only[↓zq])
theorem row15:True:=by
  k_with ".call builtin:len" => ((fail_if_success have:=@off10);(k_here;(with_reducible show wpAny _ _ (call (Value.builtin "len") [Value.ref _]) _ _ _);k_dflt (refine len_Ln (n:=2) (by is_list) (Nat.le_of_ble_eq_true rfl) rfl ?_)))
  trivial
theorem mul_empty {A:Around} {n:Int} {t u:Tok} {Q:Value→Shared→Prop} {E:Value→Shared→Prop} (hlo:-1048576≤n) (hn:n≤1048576) (h:∀ t' k,Q (.bytes #[] t') { s with toks:=k }) :
    wpAny (model PG w) A (binaryOp .Mult (.bytes #[] t) (.int n u)) Q E s:=zp (by simp(disch:=k_dflt(
  have hf:Builtin.Bytes.fitsIndex n=true:=by
    simp only [Builtin.Bytes.fitsIndex,Bool.and_eq_true,decide_eq_true_eq]
    omega
  have gives:Gives (Builtin.«bytes.__mul__» ⟨[.bytes #[] t,.int n u],[]⟩) (.val (.bytes #[] t)):=by
    refine .of_wp fun M A E s Q hq=>?_
    show wpAny M A (Builtin.Bytes.repeatArgs .bytes "__mul__" ⟨[.bytes #[] t,.int n u],[]⟩ >>= fun r=>_) _ E s
    refine wpAny_bind (wpAny_of_eq (BMul.args_eq hf) ?_)
    refine wpAny_bind (wpAny_of_eq (a:=#[]) rfl ?_)
    have e1:(#[]:Array UInt8).size * n.toNat=0:=by simp
    show wpAny M A (if (#[]:Array UInt8).size * n.toNat ≥ 2 ^ 63 then _ else _) _ E s
    rw [if_neg (by rw [e1];omega)]
    refine bm_if_true (by rw [e1];rfl) ?_
    refine wpAny_bind (wpAny_typeOf (typeIs_bytes s #[] t) ?_)
    exact wpAny_bind (wpAny_rule (wpAny_pure ⟨_,rfl,hq⟩))
  exact wpAny_binaryOp_repeat (T := "bytes") (U := "int") (by decide) (fun s'=>typeIs_bytes s' _ t) (fun s'=>typeIs_int s' n u) BMul.noFill F.fills_int_mul F.slot_int_rmul BMul.repeats F.slot_int_index.lookup
    (call_gives F.slot_int_rmul (typeIs_int s n u) F.entry_int_rmul (F.args_int_rmul_2 _ _) (BMul.int_declines n u _ t)
      ⟨rfl,call_gives BMul.slot_mul (typeIs_bytes s _ t) BMul.entry_mul (BMul.args_mul _ _) gives (h t s.toks)⟩)))only[↓zq])
theorem mul_B {A:Around} {b:Array UInt8} {n:Int} {t u:Tok} {Q:Value→Shared→Prop} {E:Value→Shared→Prop} (hlo:0≤n) (hn:n≤1048576) (hs:b.size≤16) (h:∀ (b':Array UInt8) t' k,(b'.size:Int)=b.size * n→Q (.bytes b' t') { s with toks:=k }) :
    wpAny (model PG w) A (binaryOp .Mult (.bytes b t) (.int n u)) Q E s:=by
  obtain ⟨l⟩:=b
  cases l with
  | nil=>exact mul_empty (by omega) hn fun t' k=>h #[] t' k (by simp)
  | cons x r =>
    refine bytes_mul_any (b:=x::r) (by simp) (by omega) hn (by simpa using hs) fun t' k=>h _ t' k ?_
    simp
    rw [Int.max_eq_left hlo,Int.mul_comm]
theorem little_0 {n:Int} {t t2:Tok} {R} (hn:n=0∨n=1∨n=2∨n=3) (c:Cx w lse mg mb hB s.heap) (hd:dp≤770)
    (ret:∀ h' tk t' (b:Array UInt8),Ext s.heap h'→(b.size:Int)=n→R (.ok (.ret (.bytes b t'))) { s with heap:=h',toks:=tk }) :
    codeAny (model PG w) (Ar dp un fr gd) (.call (.ref 125) ⟨[.int 0 t,.int n t2],[]⟩) R s:=by
  rcases hn with rfl | rfl | rfl | rfl
  · exact little_any (m:=0) (.inl rfl) (by omega) c hd fun h' tk t' b e hb=>ret h' tk t' b e (by rw [hb];rfl)
  · exact little_any (m:=1) (.inl rfl) (by omega) c hd fun h' tk t' b e hb=>ret h' tk t' b e (by rw [hb];rfl)
  · exact little_any (m:=2) (.inl rfl) (by omega) c hd fun h' tk t' b e hb=>ret h' tk t' b e (by rw [hb];rfl)
  · exact little_any (m:=3) (.inl rfl) (by omega) c hd fun h' tk t' b e hb=>ret h' tk t' b e (by rw [hb];rfl)
theorem fill_spec {k:CS} {p:Sc} {al na y1 y2:Nat} {ct wd:Int} {R} (c:Cx w lse mg mb hB s.heap) (hd:dp≤690) (hu:un≤3600) (hw:wd=0∨wd=1∨wd=2∨wd=3) (hc0:0≤ct) (hc1:ct≤10)
    (hal:s.heap.get? al=some (lst [.ref y1,.ref y2] na)) (hne:@Ne Nat al p.pl) (a1:NumberAt w h0 s.heap y1 ct) (a2:NumberAt w h0 s.heap y2 wd) (K:Col w hB s.heap k) (hp:p∈k.l) (hcu:p.x=k.cu) (hn:Yk p.name) (hz:p.ps.length≤900)
    (ret0:ct * wd=0→∀ h' tk,Ext s.heap h'→R (.ok (.ret .none)) { s with heap:=h',toks:=tk })
    (ret:ct * wd≠0→∀ (q:Nat) (b:Array UInt8) (fx:Nat) kf h' tk,(b.size:Int)=ct * wd→Keep [p.pl] s.heap h'→OctetsAt w s.heap h' q b fx→s.heap.get? fx=none→h'.get? fx=some (lst [] kf)→h'.get? p.pl=some (lst (p.ps++[.ref q]) (p.n+1))→R (.ok (.ret .none)) { s with heap:=h',toks:=tk }) :
    codeAny (model PG w) (Ar dp un fr gd) (.call (.ref 958) ⟨[.ref k.xc,.ref al,.none],[]⟩) R s:=by
  have hS:=K.pg.secs p hp
  have hsec:=hS.sec
  have hpl:=hS.opl
  rw [hcu] at hsec
  have n1:@Ne Nat k.xc p.pl:=Yc K.oi.1 hpl.1 (by simp)
  have n2:@Ne Nat k.dc p.pl:=Yc K.odc.1 hpl.1 (by simp)
  have hi:=K.oi
  have hc:=K.odc
  have n3:@Ne Nat al k.xc:=Yc hal K.oi.1 (by simp)
  have n4:@Ne Nat al k.dc:=Yc hal K.odc.1 (by simp)
  refine' Yd [(k.xc,instObj 961 k.dc),(k.dc,cD w k),(p.pl,lst p.ps p.n)] [(Str.ofString "self",.ref k.xc),(Str.ofString "args",.ref al),(Str.ofString "at",.none)] c ?kf ?k6 ?k7 ?eb ?es ?k8 ?k9 ?kB ?c5 ?c2 ?c3 ?c4 ?_
  k_extra "e0"
  have bl:=kp _ _ (not3 n3.symm n4.symm hne.symm) hal
  have bli:g.IsList al #[.ref y1,.ref y2]:=⟨_,bl,rfl,_,rfl⟩
  refine (hsec.ext cg.ext).el fun dxs ns v1 v2 v3 vt s1 s2=>?_
  k_steps
  k_extra "n"
  have kq:=kqo (ks:=[]) kp F N hfo (by k_extra "q")
  have eS:=kq.ext
  clear kq
  refine wpAny_call (count_num (ed:=k.ed) (cg.step F.keep) (by omega) (by omega) (v:=wd) (by omega) (by omega) (by exact N.get (by k_mem)) (by exact N.get (by k_mem)) (by exact a2.xkeep eS) (by exact K.sc.xkeep (cg.step F.keep).ext) (by exact K.eq.ext (cg.step F.keep).ext) fun g2 tk2 t2 e2=>?_)
  replace F:=Ye F e2
  replace N:=Ya N e2
  try dsimp only
  k_steps
  have hw8:wd<8:=by omega
  k_extra "n"
  simp only [if_pos hw8] at F
  have hp1:0≤ct * wd∧ct * wd≤30:=by rcases hw with rfl | rfl | rfl | rfl <;> omega
  have f2:decide (ct * wd > 1048576)=false:=by simp;omega
  k_extra "n"
  have kq:=kqo (ks:=[]) kp F N hfo (by k_extra "q")
  have eS:=kq.ext
  clear kq
  refine wpAny_call (count_num (ed:=k.ed) (cg.step F.keep) (by omega) (by omega) (v:=ct) (by omega) (by omega) (by exact N.get (by k_mem)) (by exact N.get (by k_mem)) (by exact a1.xkeep eS) (by exact K.sc.xkeep (cg.step F.keep).ext) (by exact K.eq.ext (cg.step F.keep).ext) fun g3 tk3 t3 e3=>?_)
  replace F:=Ye F e3
  replace N:=Ya N e3
  try dsimp only
  k_steps
  k_extra "n"
  refine wpAny_call (wrap_spec (v:=0) (n:=32) (u:=0) (cg.step F.keep) (by omega) (by omega) (by omega) (by decide) fun g5 tk5 t5 e5=>?_)
  replace F:=Ye F e5
  replace N:=Ya N e5
  try dsimp only
  k_steps
  k_extra "n"
  refine wpAny_call (little_0 hw (cg.step F.keep) (by omega) fun g6 tk6 t6 b0 e6 hb0=>?_)
  replace F:=Ye F e6
  replace N:=Ya N e6
  try dsimp only
  k_steps
  refine mul_B hc0 (by omega) (by omega) ?_
  intro b t7 tk7 hb
  have hb':(b.size:Int)=ct * wd:=by rw [hb,hb0,Int.mul_comm]
  k_steps
  k_extra "n"
  rename_i fx gg lf
  k_extra "n"
  have kq:=kqo (ks:=[]) kp F N hfo (by k_extra "q")
  have eS:=kq.ext
  clear kq
  have nfx:@Ne Nat fx p.pl:=by k_ne
  have d2:@Ne Nat k.xc fx:=by k_ne
  have d3:@Ne Nat k.dc fx:=by k_ne
  refine wpAny_call (octets_spec (cg.step F.keep) (by omega) (by omega) (by exact Yv cg N (by k_mem)) (by exact Yv cg N (by k_mem)) hsec hn (by exact Yv cg N (by k_mem)) (by omega) (by omega) (by exact N.get (by k_mem)) nfx (fun hb0 g7 tk7 e7=>?_) (fun hb0 q g7 tk7 k7 a7 q7=>?_))
  · skip
    replace F:=Ye F e7
    replace N:=Ya N e7
    try dsimp only
    k_steps
    k_extra "n"
    have kq:=kqo (ks:=[]) kp F N hfo (by k_extra "q")
    exact ret0 (by omega) _ _ kq.ext
  have a8:=a7.down eS
  have N9:=Yj (rest:=[(fx,PySem.W.listOf #[] 0),(k.xc,instObj 961 k.dc),(k.dc,cD w k)]) N k7 (by k_mem) q7 (Yn (by k_extra "r"))
  replace F:=Yp F N k7 (by k_mem)
  clear N
  (rename News _ _ _ _=>N)
  try dsimp only
  k_steps
  k_extra "n"
  have kq:=kqo (ks:=[p.pl]) kp F N hfo (by k_extra "q")
  have nf:=(N (fx,PySem.W.listOf #[] 0) (by k_mem)).2.2
  exact ret (by omega) q b fx _ _ _ (by omega) kq a8 (Yh kp nf (not3 d2 d3 nfx.symm)) (N.get (by k_mem)) (N.get (by k_mem))
theorem off10:True:=trivial
def Laid (w:World) (h h':Heap) (pl:Nat) (ps:List Value) (ws':List (Option Int)):Prop :=
  ∃ (T:List (Addr×Obj)) (qs:List Value) (n':Nat),Keep [pl] h h'∧(∀ q∈T,h.get? q.1=none∧h'.get? q.1=some q.2)∧h'.get? pl=some (lst (ps++qs) n')∧(∀ hh:Heap,(∀ q∈T,hh.get? q.1=some q.2)→Pcs w hh qs ws')
theorem Laid.ext {h0 h h' h'':Heap} {pl:Nat} {ps ws'} (e:Ext h0 h) (L:Laid w h h' pl ps ws') (e':Ext h' h''):Laid w h0 h'' pl ps ws':=by
  obtain ⟨T,qs,n',a,b,c,d⟩:=L
  exact ⟨T,qs,n',fun x o m q=>e' _ _ (a x o m (e _ _ q)),fun q hq=>⟨Yf e (b q hq).1,e' _ _ (b q hq).2⟩,e' _ _ c,d⟩
theorem Laid.nil {h h':Heap} {pl n:Nat} {ps} (e:Ext h h') (hp:h.get? pl=some (lst ps n)):Laid w h h' pl ps [] :=
  ⟨[],[],n,e.keep _,(fun _ hq=>nomatch hq),by rw [List.append_nil];exact e _ _ hp,fun _ _=>trivial⟩
theorem Laid.one {h h':Heap} {pl n' q:Nat} {ps} {wd:Option Int} {T:List (Addr×Obj)} (k:Keep [pl] h h') (hT:∀ q∈T,h.get? q.1=none∧h'.get? q.1=some q.2) (hp:h'.get? pl=some (lst (ps++[.ref q]) n')) (hq:∀ hh:Heap,(∀ q∈T,hh.get? q.1=some q.2)→PieceAt w hh q wd):Laid w h h' pl ps [wd] :=
  ⟨T,[.ref q],n',k,hT,hp,fun hh x=>⟨⟨q,rfl,hq hh x⟩,trivial⟩⟩
theorem two_T {h h':Heap} {a b:Addr} {o o':Obj} (x:Own h h' a o) (y:Own h h' b o'):∀ q∈[(a,o),(b,o')],h.get? q.1=none∧h'.get? q.1=some q.2:=fun q hq=>by
  rcases List.mem_cons.mp hq with rfl | hq
  · exact ⟨x.2,x.1⟩
  · rw [List.mem_singleton.mp hq];exact ⟨y.2,y.1⟩
theorem Yq {h:Heap} {a:Addr} {o:Obj} (e:h.get? a=some o):Own h0 h a o:=⟨e,rfl⟩
theorem Laid.oct {h h':Heap} {pl n' q fx kf:Nat} {ps} {b:Array UInt8} (k:Keep [pl] h h') (a:OctetsAt w h h' q b fx) (f1:h.get? fx=none) (f2:h'.get? fx=some (lst [] kf)) (hp:h'.get? pl=some (lst (ps++[.ref q]) n')) (hb:b.size≤1000):Laid w h h' pl ps [some (b.size:Int)]:=by
  refine a.el fun dx n t1 t2 t3 t4 ta tb a1 a2=>?_
  refine Laid.one (T:=(fx,lst [] kf)::[(q,instObj 595 dx),(dx,_)]) k (fun x hx=>?_) hp fun hh x=>(.oct b fx kf ⟨dx,n,t1,t2,t3,t4,ta,tb,Yq (x _ (.tail _ (.head _))),Yq (x _ (.tail _ (.tail _ (.head _))))⟩ (x _ (.head _)) ⟨hb,rfl⟩)
  rcases List.mem_cons.mp hx with rfl | hx
  · exact ⟨f1,f2⟩
  · exact two_T a1 a2 x hx
theorem Laid.align {h h':Heap} {pl n' q:Nat} {ps} {v:Int} {b:Bool} (k:Keep [pl] h h') (a:AlignAt w h h' q v b) (hp:h'.get? pl=some (lst (ps++[.ref q]) n')):Laid w h h' pl ps [none]:=by
  refine a.el fun dx n t1 t2 t3 t4 ta tb a1 a2=>?_
  exact Laid.one (T:=[(q,instObj 622 dx),(dx,_)]) k (two_T a1 a2) hp fun hh x=>(.align v b ⟨dx,n,t1,t2,t3,t4,ta,tb,Yq (x _ (.head _)),Yq (x _ (.tail _ (.head _)))⟩ rfl)
theorem Laid.space {h h':Heap} {pl n' q:Nat} {ps} {v u:Int} (k:Keep [pl] h h') (a:SpaceAt w h h' q v u) (hv:0≤v) (hp:h'.get? pl=some (lst (ps++[.ref q]) n')):Laid w h h' pl ps [some v]:=by
  refine a.el fun dx n t1 t2 t3 t4 ta tb tc a1 a2=>?_
  exact Laid.one (T:=[(q,instObj 683 dx),(dx,_)]) k (two_T a1 a2) hp fun hh x=>(.space v u ⟨dx,n,t1,t2,t3,t4,ta,tb,tc,Yq (x _ (.head _)),Yq (x _ (.tail _ (.head _)))⟩ ⟨hv,rfl⟩)
theorem Laid.org {h h':Heap} {pl n' q xa:Nat} {ps} {v:Int} {p m:Str} (k:Keep [pl] h h') (a:OrgAt w h h' q xa) (f:AffineAt w h h' xa v p m) (hp:h'.get? pl=some (lst (ps++[.ref q]) n')):Laid w h h' pl ps [none]:=by
  refine a.el fun dx n t1 t2 t3 ta a1 a2=>?_
  refine f.el fun dz nz' u1 u2 u3 u4 u5 u6 f1 f2=>?_
  refine Laid.one (T:=[(q,instObj 649 dx),(dx,_)]++[(xa,instObj 352 dz),(dz,_)]) k (fun x hx=>?_) hp fun hh x=>(.org xa v p m ⟨dx,n,t1,t2,t3,ta,Yq (x _ (.head _)),Yq (x _ (.tail _ (.head _)))⟩ ⟨dz,nz',u1,u2,u3,u4,u5,u6,Yq (x _ (.tail _ (.tail _ (.head _)))),Yq (x _ (.tail _ (.tail _ (.tail _ (.head _)))))⟩ rfl)
  rcases List.mem_append.mp hx with hx | hx
  · exact two_T a1 a2 x hx
  · exact two_T f1 f2 x hx
theorem Laid.leb {h h':Heap} {pl n' q xa:Nat} {ps} {v:Int} {b:Bool} {p m:Str} (k:Keep [pl] h h') (a:LebAt w h h' q xa b) (f:AffineAt w h h' xa v p m) (hp:h'.get? pl=some (lst (ps++[.ref q]) n')):Laid w h h' pl ps [none]:=by
  refine a.el fun dx n t1 t2 t3 t4 ta a1 a2=>?_
  refine f.el fun dz nz' u1 u2 u3 u4 u5 u6 f1 f2=>?_
  refine Laid.one (T:=[(q,instObj 710 dx),(dx,_)]++[(xa,instObj 352 dz),(dz,_)]) k (fun x hx=>?_) hp fun hh x=>(.leb xa v p m b ⟨dx,n,t1,t2,t3,t4,ta,Yq (x _ (.head _)),Yq (x _ (.tail _ (.head _)))⟩ ⟨dz,nz',u1,u2,u3,u4,u5,u6,Yq (x _ (.tail _ (.tail _ (.head _)))),Yq (x _ (.tail _ (.tail _ (.tail _ (.head _)))))⟩ rfl)
  rcases List.mem_append.mp hx with hx | hx
  · exact two_T a1 a2 x hx
  · exact two_T f1 f2 x hx
theorem deed_skip {k:CS} {p:Sc} {al na:Nat} {tw:Tok} {y:Nat} {v:Int} {R} (c:Cx w lse mg mb hB s.heap) (hd:dp≤685) (hu:un≤3500) (hal:Own hB s.heap al (lst [.ref y] na)) (hne:@Ne Nat al p.pl) (a:NumOrDiff w s.heap k.l y v) (hv0:0≤v) (hv1:v≤1048576) (K:Col w hB s.heap k) (hp:p∈k.l) (hcu:p.x=k.cu) (hn:Yk p.name) (hz:p.ps.length≤900)
    (ret:∀ (q:Nat) h' tk,Keep [p.pl] s.heap h'→SpaceAt w s.heap h' q v 0→h'.get? p.pl=some (lst (p.ps++[.ref q]) (p.n+1))→R (.ok (.ret .none)) { s with heap:=h',toks:=tk }) :
    codeAny (model PG w) (Ar dp un fr gd) (.call (.ref 888) ⟨[.ref k.xc,.str (Str.ofString ".skip") tw,.ref al,.none],[]⟩) R s:=zp (by simp(disch:=k_dflt(
  have hS:=K.pg.secs p hp
  have hsec:=hS.sec
  have hpl:=hS.opl
  rw [hcu] at hsec
  have n1:@Ne Nat k.xc p.pl:=Yc K.oi.1 hpl.1 (by simp)
  have n2:@Ne Nat k.dc p.pl:=Yc K.odc.1 hpl.1 (by simp)
  have hi:=K.oi
  have hc:=K.odc
  have n3:@Ne Nat al k.xc:=Yc hal.1 K.oi.1 (by simp)
  have n4:@Ne Nat al k.dc:=Yc hal.1 K.odc.1 (by simp)
  refine' Yd [(al,lst [.ref y] na),(k.xc,instObj 961 k.dc),(k.dc,cD w k),(p.pl,lst p.ps p.n)] [(Str.ofString "self",.ref k.xc),(Str.ofString "word",.str (Str.ofString ".skip") tw),(Str.ofString "args",.ref al),(Str.ofString "at",.none)] c ?kf ?k6 ?k7 ?eb ?es ?k8 ?k9 ?kB ?c5 ?c2 ?c3 ?c4 ?_
  k_extra "e0"
  k_steps
  k_extra "n"
  refine wpAny_call (width_skip (cg.step F.keep) (by omega) fun w1 w2 w3 e0=>?_)
  replace F:=Ye F e0
  replace N:=Ya N e0
  try dsimp only
  k_steps
  k_extra "n"
  have kq:=kqo (ks:=[]) kp F N hfo (by k_extra "q")
  have eS:=kq.ext
  clear kq
  refine wpAny_call (space_spec (cg.step F.keep) (by omega) (by omega) (by exact N.get (by k_mem)) hne (by exact a.ext eS) (by exact K.ext eS) hp hcu hn hv0 hv1 hz fun q g7 tk7 k7 a7 q7=>?_)
  have a8:=a7.down eS
  have N9:=Yj (rest:=[(al,lst [.ref y] na),(k.xc,instObj 961 k.dc),(k.dc,cD w k)]) N k7 (by k_mem) q7 (Yn (by k_extra "r"))
  replace F:=Yp F N k7 (by k_mem)
  clear N
  (rename News _ _ _ _=>N)
  try dsimp only
  k_steps
  k_extra "n"
  have kq:=kqo (ks:=[p.pl]) kp F N hfo (by k_extra "q")
  exact ret q _ _ kq a8 (N.get (by k_mem))))only[↓zq])
theorem deed_byte {k:CS} {p:Sc} {al na:Nat} {tw:Tok} {y m:Nat} {R} (c:Cx w lse mg mb hB s.heap) (hd:dp≤685) (hu:un≤3500) (hal:Own hB s.heap al (lst (List.replicate m (.ref y)) na)) (hne:@Ne Nat al p.pl) (a:NumberAt w h0 hB y 7) (hm:m≤100) (K:Col w hB s.heap k) (hp:p∈k.l) (hcu:p.x=k.cu) (hn:Yk p.name) (hz:p.ps.length≤900)
    (ret:∀ h' tk,Laid w s.heap h' p.pl p.ps (if m=0 then [] else [some ((1:Int) * m)])→R (.ok (.ret .none)) { s with heap:=h',toks:=tk }) :
    codeAny (model PG w) (Ar dp un fr gd) (.call (.ref 888) ⟨[.ref k.xc,.str (Str.ofString ".byte") tw,.ref al,.none],[]⟩) R s:=zp (by simp(disch:=k_dflt(
  have hS:=K.pg.secs p hp
  have hsec:=hS.sec
  have hpl:=hS.opl
  rw [hcu] at hsec
  have n1:@Ne Nat k.xc p.pl:=Yc K.oi.1 hpl.1 (by simp)
  have n2:@Ne Nat k.dc p.pl:=Yc K.odc.1 hpl.1 (by simp)
  have hi:=K.oi
  have hc:=K.odc
  have n3:@Ne Nat al k.xc:=Yc hal.1 K.oi.1 (by simp)
  have n4:@Ne Nat al k.dc:=Yc hal.1 K.odc.1 (by simp)
  refine' Yd [(al,lst (List.replicate m (.ref y)) na),(k.xc,instObj 961 k.dc),(k.dc,cD w k),(p.pl,lst p.ps p.n)] [(Str.ofString "self",.ref k.xc),(Str.ofString "word",.str (Str.ofString ".byte") tw),(Str.ofString "args",.ref al),(Str.ofString "at",.none)] c ?kf ?k6 ?k7 ?eb ?es ?k8 ?k9 ?kB ?c5 ?c2 ?c3 ?c4 ?_
  k_extra "e0"
  k_steps
  k_extra "n"
  refine wpAny_call (width_byte (cg.step F.keep) (by omega) fun w1 w2 w3 e0=>?_)
  replace F:=Ye F e0
  replace N:=Ya N e0
  try dsimp only
  k_steps
  k_extra "n"
  refine wpAny_call (width_byte (cg.step F.keep) (by omega) fun w4 w5 w6 e0=>?_)
  replace F:=Ye F e0
  replace N:=Ya N e0
  try dsimp only
  k_steps
  k_extra "n"
  have kq:=kqo (ks:=[]) kp F N hfo (by k_extra "q")
  have eS:=kq.ext
  clear kq
  refine wpAny_call (numbers_spec (y:=y) (m:=m) (cg.step F.keep) (by omega) (by omega) (by omega) hm (by exact Yv cg N (by k_mem)) hne a (by exact K.ext eS) hp hcu hn hz (fun hm0 g7 tk7 e7=>?_) (fun hm0 q b fx kf g7 tk7 hb k7 a7 f1 f2 q7=>?_))
  · skip
    have L1:Laid w s.heap g7 p.pl p.ps []:=Laid.ext eS (Laid.nil e7 (N.get (by k_mem))) (Ext.refl _)
    replace F:=Ye F e7
    replace N:=Ya N e7
    try dsimp only
    k_steps
    rw [if_pos hm0] at ret
    exact ret _ _ L1
  · skip
    have L7:=Laid.oct k7 a7 f1 f2 q7 (by omega)
    rw [hb] at L7
    have L1:Laid w s.heap g7 p.pl p.ps _:=Laid.ext eS L7 (Ext.refl _)
    have N9:=Yj (rest:=[(al,lst (List.replicate m (.ref y)) na),(k.xc,instObj 961 k.dc),(k.dc,cD w k)]) N k7 (by k_mem) q7 (Yn (by k_extra "r"))
    replace F:=Yp F N k7 (by k_mem)
    clear N
    (rename News _ _ _ _=>N)
    try dsimp only
    k_steps
    rw [if_neg hm0] at ret
    exact ret _ _ L1))only[↓zq])
theorem deed_short {k:CS} {p:Sc} {al na:Nat} {tw:Tok} {y m:Nat} {R} (c:Cx w lse mg mb hB s.heap) (hd:dp≤685) (hu:un≤3500) (hal:Own hB s.heap al (lst (List.replicate m (.ref y)) na)) (hne:@Ne Nat al p.pl) (a:NumberAt w h0 hB y 7) (hm:m≤100) (K:Col w hB s.heap k) (hp:p∈k.l) (hcu:p.x=k.cu) (hn:Yk p.name) (hz:p.ps.length≤900)
    (ret:∀ h' tk,Laid w s.heap h' p.pl p.ps (if m=0 then [] else [some ((2:Int) * m)])→R (.ok (.ret .none)) { s with heap:=h',toks:=tk }) :
    codeAny (model PG w) (Ar dp un fr gd) (.call (.ref 888) ⟨[.ref k.xc,.str (Str.ofString ".short") tw,.ref al,.none],[]⟩) R s:=zp (by simp(disch:=k_dflt(
  have hS:=K.pg.secs p hp
  have hsec:=hS.sec
  have hpl:=hS.opl
  rw [hcu] at hsec
  have n1:@Ne Nat k.xc p.pl:=Yc K.oi.1 hpl.1 (by simp)
  have n2:@Ne Nat k.dc p.pl:=Yc K.odc.1 hpl.1 (by simp)
  have hi:=K.oi
  have hc:=K.odc
  have n3:@Ne Nat al k.xc:=Yc hal.1 K.oi.1 (by simp)
  have n4:@Ne Nat al k.dc:=Yc hal.1 K.odc.1 (by simp)
  refine' Yd [(al,lst (List.replicate m (.ref y)) na),(k.xc,instObj 961 k.dc),(k.dc,cD w k),(p.pl,lst p.ps p.n)] [(Str.ofString "self",.ref k.xc),(Str.ofString "word",.str (Str.ofString ".short") tw),(Str.ofString "args",.ref al),(Str.ofString "at",.none)] c ?kf ?k6 ?k7 ?eb ?es ?k8 ?k9 ?kB ?c5 ?c2 ?c3 ?c4 ?_
  k_extra "e0"
  k_steps
  k_extra "n"
  refine wpAny_call (width_short (cg.step F.keep) (by omega) fun w1 w2 w3 e0=>?_)
  replace F:=Ye F e0
  replace N:=Ya N e0
  try dsimp only
  k_steps
  k_extra "n"
  refine wpAny_call (width_short (cg.step F.keep) (by omega) fun w4 w5 w6 e0=>?_)
  replace F:=Ye F e0
  replace N:=Ya N e0
  try dsimp only
  k_steps
  k_extra "n"
  have kq:=kqo (ks:=[]) kp F N hfo (by k_extra "q")
  have eS:=kq.ext
  clear kq
  refine wpAny_call (numbers_spec (y:=y) (m:=m) (cg.step F.keep) (by omega) (by omega) (by omega) hm (by exact Yv cg N (by k_mem)) hne a (by exact K.ext eS) hp hcu hn hz (fun hm0 g7 tk7 e7=>?_) (fun hm0 q b fx kf g7 tk7 hb k7 a7 f1 f2 q7=>?_))
  · skip
    have L1:Laid w s.heap g7 p.pl p.ps []:=Laid.ext eS (Laid.nil e7 (N.get (by k_mem))) (Ext.refl _)
    replace F:=Ye F e7
    replace N:=Ya N e7
    try dsimp only
    k_steps
    rw [if_pos hm0] at ret
    exact ret _ _ L1
  · skip
    have L7:=Laid.oct k7 a7 f1 f2 q7 (by omega)
    rw [hb] at L7
    have L1:Laid w s.heap g7 p.pl p.ps _:=Laid.ext eS L7 (Ext.refl _)
    have N9:=Yj (rest:=[(al,lst (List.replicate m (.ref y)) na),(k.xc,instObj 961 k.dc),(k.dc,cD w k)]) N k7 (by k_mem) q7 (Yn (by k_extra "r"))
    replace F:=Yp F N k7 (by k_mem)
    clear N
    (rename News _ _ _ _=>N)
    try dsimp only
    k_steps
    rw [if_neg hm0] at ret
    exact ret _ _ L1))only[↓zq])
theorem deed_long {k:CS} {p:Sc} {al na:Nat} {tw:Tok} {y m:Nat} {R} (c:Cx w lse mg mb hB s.heap) (hd:dp≤685) (hu:un≤3500) (hal:Own hB s.heap al (lst (List.replicate m (.ref y)) na)) (hne:@Ne Nat al p.pl) (a:NumberAt w h0 hB y 7) (hm:m≤100) (K:Col w hB s.heap k) (hp:p∈k.l) (hcu:p.x=k.cu) (hn:Yk p.name) (hz:p.ps.length≤900)
    (ret:∀ h' tk,Laid w s.heap h' p.pl p.ps (if m=0 then [] else [some ((4:Int) * m)])→R (.ok (.ret .none)) { s with heap:=h',toks:=tk }) :
    codeAny (model PG w) (Ar dp un fr gd) (.call (.ref 888) ⟨[.ref k.xc,.str (Str.ofString ".long") tw,.ref al,.none],[]⟩) R s:=zp (by simp(disch:=k_dflt(
  have hS:=K.pg.secs p hp
  have hsec:=hS.sec
  have hpl:=hS.opl
  rw [hcu] at hsec
  have n1:@Ne Nat k.xc p.pl:=Yc K.oi.1 hpl.1 (by simp)
  have n2:@Ne Nat k.dc p.pl:=Yc K.odc.1 hpl.1 (by simp)
  have hi:=K.oi
  have hc:=K.odc
  have n3:@Ne Nat al k.xc:=Yc hal.1 K.oi.1 (by simp)
  have n4:@Ne Nat al k.dc:=Yc hal.1 K.odc.1 (by simp)
  refine' Yd [(al,lst (List.replicate m (.ref y)) na),(k.xc,instObj 961 k.dc),(k.dc,cD w k),(p.pl,lst p.ps p.n)] [(Str.ofString "self",.ref k.xc),(Str.ofString "word",.str (Str.ofString ".long") tw),(Str.ofString "args",.ref al),(Str.ofString "at",.none)] c ?kf ?k6 ?k7 ?eb ?es ?k8 ?k9 ?kB ?c5 ?c2 ?c3 ?c4 ?_
  k_extra "e0"
  k_steps
  k_extra "n"
  refine wpAny_call (width_long (cg.step F.keep) (by omega) fun w1 w2 w3 e0=>?_)
  replace F:=Ye F e0
  replace N:=Ya N e0
  try dsimp only
  k_steps
  k_extra "n"
  refine wpAny_call (width_long (cg.step F.keep) (by omega) fun w4 w5 w6 e0=>?_)
  replace F:=Ye F e0
  replace N:=Ya N e0
  try dsimp only
  k_steps
  k_extra "n"
  have kq:=kqo (ks:=[]) kp F N hfo (by k_extra "q")
  have eS:=kq.ext
  clear kq
  refine wpAny_call (numbers_spec (y:=y) (m:=m) (cg.step F.keep) (by omega) (by omega) (by omega) hm (by exact Yv cg N (by k_mem)) hne a (by exact K.ext eS) hp hcu hn hz (fun hm0 g7 tk7 e7=>?_) (fun hm0 q b fx kf g7 tk7 hb k7 a7 f1 f2 q7=>?_))
  · skip
    have L1:Laid w s.heap g7 p.pl p.ps []:=Laid.ext eS (Laid.nil e7 (N.get (by k_mem))) (Ext.refl _)
    replace F:=Ye F e7
    replace N:=Ya N e7
    try dsimp only
    k_steps
    rw [if_pos hm0] at ret
    exact ret _ _ L1
  · skip
    have L7:=Laid.oct k7 a7 f1 f2 q7 (by omega)
    rw [hb] at L7
    have L1:Laid w s.heap g7 p.pl p.ps _:=Laid.ext eS L7 (Ext.refl _)
    have N9:=Yj (rest:=[(al,lst (List.replicate m (.ref y)) na),(k.xc,instObj 961 k.dc),(k.dc,cD w k)]) N k7 (by k_mem) q7 (Yn (by k_extra "r"))
    replace F:=Yp F N k7 (by k_mem)
    clear N
    (rename News _ _ _ _=>N)
    try dsimp only
    k_steps
    rw [if_neg hm0] at ret
    exact ret _ _ L1))only[↓zq])
theorem deed_quad {k:CS} {p:Sc} {al na:Nat} {tw:Tok} {y m:Nat} {R} (c:Cx w lse mg mb hB s.heap) (hd:dp≤685) (hu:un≤3500) (hal:Own hB s.heap al (lst (List.replicate m (.ref y)) na)) (hne:@Ne Nat al p.pl) (a:NumberAt w h0 hB y 7) (hm:m≤100) (K:Col w hB s.heap k) (hp:p∈k.l) (hcu:p.x=k.cu) (hn:Yk p.name) (hz:p.ps.length≤900)
    (ret:∀ h' tk,Laid w s.heap h' p.pl p.ps (if m=0 then [] else [some ((8:Int) * m)])→R (.ok (.ret .none)) { s with heap:=h',toks:=tk }) :
    codeAny (model PG w) (Ar dp un fr gd) (.call (.ref 888) ⟨[.ref k.xc,.str (Str.ofString ".quad") tw,.ref al,.none],[]⟩) R s:=zp (by simp(disch:=k_dflt(
  have hS:=K.pg.secs p hp
  have hsec:=hS.sec
  have hpl:=hS.opl
  rw [hcu] at hsec
  have n1:@Ne Nat k.xc p.pl:=Yc K.oi.1 hpl.1 (by simp)
  have n2:@Ne Nat k.dc p.pl:=Yc K.odc.1 hpl.1 (by simp)
  have hi:=K.oi
  have hc:=K.odc
  have n3:@Ne Nat al k.xc:=Yc hal.1 K.oi.1 (by simp)
  have n4:@Ne Nat al k.dc:=Yc hal.1 K.odc.1 (by simp)
  refine' Yd [(al,lst (List.replicate m (.ref y)) na),(k.xc,instObj 961 k.dc),(k.dc,cD w k),(p.pl,lst p.ps p.n)] [(Str.ofString "self",.ref k.xc),(Str.ofString "word",.str (Str.ofString ".quad") tw),(Str.ofString "args",.ref al),(Str.ofString "at",.none)] c ?kf ?k6 ?k7 ?eb ?es ?k8 ?k9 ?kB ?c5 ?c2 ?c3 ?c4 ?_
  k_extra "e0"
  k_steps
  k_extra "n"
  refine wpAny_call (width_quad (cg.step F.keep) (by omega) fun w1 w2 w3 e0=>?_)
  replace F:=Ye F e0
  replace N:=Ya N e0
  try dsimp only
  k_steps
  k_extra "n"
  refine wpAny_call (width_quad (cg.step F.keep) (by omega) fun w4 w5 w6 e0=>?_)
  replace F:=Ye F e0
  replace N:=Ya N e0
  try dsimp only
  k_steps
  k_extra "n"
  have kq:=kqo (ks:=[]) kp F N hfo (by k_extra "q")
  have eS:=kq.ext
  clear kq
  refine wpAny_call (numbers_spec (y:=y) (m:=m) (cg.step F.keep) (by omega) (by omega) (by omega) hm (by exact Yv cg N (by k_mem)) hne a (by exact K.ext eS) hp hcu hn hz (fun hm0 g7 tk7 e7=>?_) (fun hm0 q b fx kf g7 tk7 hb k7 a7 f1 f2 q7=>?_))
  · skip
    have L1:Laid w s.heap g7 p.pl p.ps []:=Laid.ext eS (Laid.nil e7 (N.get (by k_mem))) (Ext.refl _)
    replace F:=Ye F e7
    replace N:=Ya N e7
    try dsimp only
    k_steps
    rw [if_pos hm0] at ret
    exact ret _ _ L1
  · skip
    have L7:=Laid.oct k7 a7 f1 f2 q7 (by omega)
    rw [hb] at L7
    have L1:Laid w s.heap g7 p.pl p.ps _:=Laid.ext eS L7 (Ext.refl _)
    have N9:=Yj (rest:=[(al,lst (List.replicate m (.ref y)) na),(k.xc,instObj 961 k.dc),(k.dc,cD w k)]) N k7 (by k_mem) q7 (Yn (by k_extra "r"))
    replace F:=Yp F N k7 (by k_mem)
    clear N
    (rename News _ _ _ _=>N)
    try dsimp only
    k_steps
    rw [if_neg hm0] at ret
    exact ret _ _ L1))only[↓zq])
theorem deed_fill {k:CS} {p:Sc} {al na:Nat} {tw:Tok} {y1 y2:Nat} {ct wd:Int} {R} (c:Cx w lse mg mb hB s.heap) (hd:dp≤685) (hu:un≤3500) (hal:Own hB s.heap al (lst [.ref y1,.ref y2] na)) (hne:@Ne Nat al p.pl) (a1:NumberAt w h0 s.heap y1 ct) (a2:NumberAt w h0 s.heap y2 wd) (hw:wd=0∨wd=1∨wd=2∨wd=3) (hc0:0≤ct) (hc1:ct≤10) (K:Col w hB s.heap k) (hp:p∈k.l) (hcu:p.x=k.cu) (hn:Yk p.name) (hz:p.ps.length≤900)
    (ret:∀ h' tk,Laid w s.heap h' p.pl p.ps (if ct * wd=0 then [] else [some (ct * wd)])→R (.ok (.ret .none)) { s with heap:=h',toks:=tk }) :
    codeAny (model PG w) (Ar dp un fr gd) (.call (.ref 888) ⟨[.ref k.xc,.str (Str.ofString ".fill") tw,.ref al,.none],[]⟩) R s:=zp (by simp(disch:=k_dflt(
  have hS:=K.pg.secs p hp
  have hsec:=hS.sec
  have hpl:=hS.opl
  rw [hcu] at hsec
  have n1:@Ne Nat k.xc p.pl:=Yc K.oi.1 hpl.1 (by simp)
  have n2:@Ne Nat k.dc p.pl:=Yc K.odc.1 hpl.1 (by simp)
  have hi:=K.oi
  have hc:=K.odc
  have n3:@Ne Nat al k.xc:=Yc hal.1 K.oi.1 (by simp)
  have n4:@Ne Nat al k.dc:=Yc hal.1 K.odc.1 (by simp)
  refine' Yd [(al,lst [.ref y1,.ref y2] na),(k.xc,instObj 961 k.dc),(k.dc,cD w k),(p.pl,lst p.ps p.n)] [(Str.ofString "self",.ref k.xc),(Str.ofString "word",.str (Str.ofString ".fill") tw),(Str.ofString "args",.ref al),(Str.ofString "at",.none)] c ?kf ?k6 ?k7 ?eb ?es ?k8 ?k9 ?kB ?c5 ?c2 ?c3 ?c4 ?_
  k_extra "e0"
  k_steps
  k_extra "n"
  refine wpAny_call (width_fill (cg.step F.keep) (by omega) fun w1 w2 w3 e0=>?_)
  replace F:=Ye F e0
  replace N:=Ya N e0
  try dsimp only
  k_steps
  k_extra "n"
  have kq:=kqo (ks:=[]) kp F N hfo (by k_extra "q")
  have eS:=kq.ext
  clear kq
  refine wpAny_call (fill_spec (cg.step F.keep) (by omega) (by omega) hw hc0 hc1 (by exact N.get (by k_mem)) hne (by exact a1.xkeep eS) (by exact a2.xkeep eS) (by exact K.ext eS) hp hcu hn hz (fun hm0 g7 tk7 e7=>?_) (fun hm0 q b fx kf g7 tk7 hb k7 a7 f1 f2 q7=>?_))
  · skip
    have L1:Laid w s.heap g7 p.pl p.ps []:=Laid.ext eS (Laid.nil e7 (N.get (by k_mem))) (Ext.refl _)
    replace F:=Ye F e7
    replace N:=Ya N e7
    try dsimp only
    k_steps
    rw [if_pos hm0] at ret
    exact ret _ _ L1
  · skip
    have hp1:ct * wd≤30:=by rcases hw with rfl | rfl | rfl | rfl <;> omega
    have L7:=Laid.oct k7 a7 f1 f2 q7 (by omega)
    rw [hb] at L7
    have L1:Laid w s.heap g7 p.pl p.ps _:=Laid.ext eS L7 (Ext.refl _)
    have N9:=Yj (rest:=[(al,lst [.ref y1,.ref y2] na),(k.xc,instObj 961 k.dc),(k.dc,cD w k)]) N k7 (by k_mem) q7 (Yn (by k_extra "r"))
    replace F:=Yp F N k7 (by k_mem)
    clear N
    (rename News _ _ _ _=>N)
    try dsimp only
    k_steps
    rw [if_neg hm0] at ret
    exact ret _ _ L1))only[↓zq])
theorem deed_balign {k:CS} {p:Sc} {al na:Nat} {tw:Tok} {y:Nat} {v:Int} {R} (c:Cx w lse mg mb hB s.heap) (hd:dp≤685) (hu:un≤3500) (hal:Own hB s.heap al (lst [.ref y] na)) (hne:@Ne Nat al p.pl) (a:NumberAt w h0 s.heap y v) (hv:v=1∨v=2∨v=4∨v=8∨v=16) (K:Col w hB s.heap k) (hp:p∈k.l) (hcu:p.x=k.cu) (hn:Yk p.name) (hz:p.ps.length≤900)
    (ret:∀ h' tk,Laid w s.heap h' p.pl p.ps [none]→R (.ok (.ret .none)) { s with heap:=h',toks:=tk }) :
    codeAny (model PG w) (Ar dp un fr gd) (.call (.ref 888) ⟨[.ref k.xc,.str (Str.ofString ".balign") tw,.ref al,.none],[]⟩) R s:=zp (by simp(disch:=k_dflt(
  have hS:=K.pg.secs p hp
  have hsec:=hS.sec
  have hpl:=hS.opl
  rw [hcu] at hsec
  have n1:@Ne Nat k.xc p.pl:=Yc K.oi.1 hpl.1 (by simp)
  have n2:@Ne Nat k.dc p.pl:=Yc K.odc.1 hpl.1 (by simp)
  have hi:=K.oi
  have hc:=K.odc
  have n3:@Ne Nat al k.xc:=Yc hal.1 K.oi.1 (by simp)
  have n4:@Ne Nat al k.dc:=Yc hal.1 K.odc.1 (by simp)
  refine' Yd [(al,lst [.ref y] na),(k.xc,instObj 961 k.dc),(k.dc,cD w k),(p.pl,lst p.ps p.n)] [(Str.ofString "self",.ref k.xc),(Str.ofString "word",.str (Str.ofString ".balign") tw),(Str.ofString "args",.ref al),(Str.ofString "at",.none)] c ?kf ?k6 ?k7 ?eb ?es ?k8 ?k9 ?kB ?c5 ?c2 ?c3 ?c4 ?_
  k_extra "e0"
  k_steps
  k_extra "n"
  refine wpAny_call (width_balign (cg.step F.keep) (by omega) fun w1 w2 w3 e0=>?_)
  replace F:=Ye F e0
  replace N:=Ya N e0
  try dsimp only
  k_steps
  k_extra "n"
  have kq:=kqo (ks:=[]) kp F N hfo (by k_extra "q")
  have eS:=kq.ext
  clear kq
  refine wpAny_call (count_any (v:=v) (cg.step F.keep) (by omega) (by omega) (by exact .inl (a.xkeep eS)) (by exact K.ext eS) (by omega) (by omega) fun g3 tk3 t3 e3=>?_)
  replace F:=Ye F e3
  replace N:=Ya N e3
  try dsimp only
  k_steps
  k_extra "n"
  have kq:=kqo (ks:=[]) kp F N hfo (by k_extra "q")
  have eS:=kq.ext
  clear kq
  refine wpAny_call (align_spec (cg.step F.keep) (by omega) (by omega) hv (by exact K.ext eS) hp hcu hn hz fun q b g7 tk7 k7 a7 q7=>?_)
  have L7:=Laid.align k7 a7 q7
  have L1:Laid w s.heap g7 p.pl p.ps _:=Laid.ext eS L7 (Ext.refl _)
  have N9:=Yj (rest:=[(al,lst [.ref y] na),(k.xc,instObj 961 k.dc),(k.dc,cD w k)]) N k7 (by k_mem) q7 (Yn (by k_extra "r"))
  replace F:=Yp F N k7 (by k_mem)
  clear N
  (rename News _ _ _ _=>N)
  try dsimp only
  k_steps
  exact ret _ _ L1))only[↓zq])
theorem deed_org {k:CS} {p:Sc} {al na:Nat} {tw:Tok} {y:Nat} {v:Int} {R} (c:Cx w lse mg mb hB s.heap) (hd:dp≤685) (hu:un≤3500) (hal:Own hB s.heap al (lst [.ref y] na)) (hne:@Ne Nat al p.pl) (a:NumberAt w h0 s.heap y v) (hv0:0≤v) (hv1:v≤1048576) (K:Col w hB s.heap k) (hp:p∈k.l) (hcu:p.x=k.cu) (hn:Yk p.name) (hz:p.ps.length≤900)
    (ret:∀ h' tk,Laid w s.heap h' p.pl p.ps [none]→R (.ok (.ret .none)) { s with heap:=h',toks:=tk }) :
    codeAny (model PG w) (Ar dp un fr gd) (.call (.ref 888) ⟨[.ref k.xc,.str (Str.ofString ".org") tw,.ref al,.none],[]⟩) R s:=zp (by simp(disch:=k_dflt(
  have hS:=K.pg.secs p hp
  have hsec:=hS.sec
  have hpl:=hS.opl
  rw [hcu] at hsec
  have n1:@Ne Nat k.xc p.pl:=Yc K.oi.1 hpl.1 (by simp)
  have n2:@Ne Nat k.dc p.pl:=Yc K.odc.1 hpl.1 (by simp)
  have hi:=K.oi
  have hc:=K.odc
  have n3:@Ne Nat al k.xc:=Yc hal.1 K.oi.1 (by simp)
  have n4:@Ne Nat al k.dc:=Yc hal.1 K.odc.1 (by simp)
  refine' Yd [(al,lst [.ref y] na),(k.xc,instObj 961 k.dc),(k.dc,cD w k),(p.pl,lst p.ps p.n)] [(Str.ofString "self",.ref k.xc),(Str.ofString "word",.str (Str.ofString ".org") tw),(Str.ofString "args",.ref al),(Str.ofString "at",.none)] c ?kf ?k6 ?k7 ?eb ?es ?k8 ?k9 ?kB ?c5 ?c2 ?c3 ?c4 ?_
  k_extra "e0"
  k_steps
  k_extra "n"
  refine wpAny_call (width_org (cg.step F.keep) (by omega) fun w1 w2 w3 e0=>?_)
  replace F:=Ye F e0
  replace N:=Ya N e0
  try dsimp only
  k_steps
  k_extra "n"
  have kq:=kqo (ks:=[]) kp F N hfo (by k_extra "q")
  have eS:=kq.ext
  clear kq
  refine wpAny_call (worth_number (ed:=k.ed) (cg.step F.keep) (by omega) (by omega) (by exact N.get (by k_mem)) (by exact N.get (by k_mem)) (by exact a.xkeep eS) (by exact K.sc.xkeep (cg.step F.keep).ext) (by exact K.eq.ext (cg.step F.keep).ext) fun x g2 tk2 e2 m2 a2=>?_)
  have a3:=a2.down eS
  have m3:=Yf eS m2
  k_extra "n"
  refine AffineAt.newsE F (Ya N e2) a2 fun dz _ _ _ _ _ _ _ N9=>?_
  replace F:=Ye F e2
  clear N
  (rename News _ _ _ _=>N)
  try dsimp only
  k_steps
  k_extra "n"
  have kq:=kqo (ks:=[]) kp F N hfo (by k_extra "q")
  have eS:=kq.ext
  clear kq
  have a4:=AffineAt.ofNB cg N (by k_mem) (by k_mem)
  refine wpAny_call (org_spec (v:=v) (cg.step F.keep) (by omega) (by omega) hv0 hv1 (by exact a4) (by exact K.ext eS) hp hcu hn hz fun q g7 tk7 k7 a7 q7=>?_)
  have a8:=a7.down eS
  have a9:=a3.keep k7 (fun b hb=>by rw [List.mem_singleton.mp hb];exact .inr ⟨_,N.get (by k_mem),rfl⟩)
  have N9:=Yj (rest:=[(al,lst [.ref y] na),(k.xc,instObj 961 k.dc),(k.dc,cD w k)]) N k7 (by k_mem) q7 (Yn (by k_extra "r"))
  replace F:=Yp F N k7 (by k_mem)
  clear N
  (rename News _ _ _ _=>N)
  try dsimp only
  k_steps
  k_extra "n"
  have kq:=kqo (ks:=[p.pl]) kp F N hfo (by k_extra "q")
  exact ret _ _ (Laid.org kq a8 a9 (N.get (by k_mem)))))only[↓zq])
theorem Laid.oct2 {h h':Heap} {pl n' q fx kf q2 fx2 kf2:Nat} {ps} {b b2:Array UInt8} (k:Keep [pl] h h') (a:OctetsAt w h h' q b fx) (f1:h.get? fx=none) (f2:h'.get? fx=some (lst [] kf)) (hb:b.size≤1000)
    (a2:OctetsAt w h h' q2 b2 fx2) (f3:h.get? fx2=none) (f4:h'.get? fx2=some (lst [] kf2)) (hb2:b2.size≤1000) (hp:h'.get? pl=some (lst ((ps++[.ref q])++[.ref q2]) n')):Laid w h h' pl ps [some (b.size:Int),some (b2.size:Int)]:=zp (by simp(disch:=k_dflt(
  refine a.el fun dx n t1 t2 t3 t4 ta tb a1 a2'=>?_
  refine a2.el fun dy m u1 u2 u3 u4 ua ub c1 c2=>?_
  refine ⟨((fx,lst [] kf)::[(q,instObj 595 dx),(dx,_)])++((fx2,lst [] kf2)::[(q2,instObj 595 dy),(dy,_)]),[.ref q,.ref q2],n',k,fun x hx=>?_,by simpa using hp,fun hh x =>
    ⟨⟨q,rfl,(.oct b fx kf ⟨dx,n,t1,t2,t3,t4,ta,tb,Yq (x _ (.tail _ (.head _))),Yq (x _ (.tail _ (.tail _ (.head _))))⟩ (x _ (.head _)) ⟨hb,rfl⟩)⟩,
     ⟨q2,rfl,(.oct b2 fx2 kf2 ⟨dy,m,u1,u2,u3,u4,ua,ub,Yq (x _ (.tail _ (.tail _ (.tail _ (.tail _ (.head _)))))),Yq (x _ (.tail _ (.tail _ (.tail _ (.tail _ (.tail _ (.head _)))))))⟩ (x _ (.tail _ (.tail _ (.tail _ (.head _))))) ⟨hb2,rfl⟩)⟩,trivial⟩⟩
  rcases List.mem_append.mp hx with hx | hx
  · rcases List.mem_cons.mp hx with rfl | hx
    · exact ⟨f1,f2⟩
    · exact two_T a1 a2' x hx
  · rcases List.mem_cons.mp hx with rfl | hx
    · exact ⟨f3,f4⟩
    · exact two_T c1 c2 x hx))only[↓zq])
theorem szn {n:Nat} {v:Int} {k:Nat} (hv:(v=1∧n=1)∨(v=128∧n=2)∨(v=16384∧n=3)∨(v=2097152∧n=4)∨(v=268435456∧n=5)) (hb:(k:Int)=(n:Int)):k≤1000:=by
  rw [Int.ofNat_inj.mp hb]
  rcases hv with ⟨_,rfl⟩ | ⟨_,rfl⟩ | ⟨_,rfl⟩ | ⟨_,rfl⟩ | ⟨_,rfl⟩ <;> decide
theorem deed_sleb {k:CS} {p:Sc} {al na:Nat} {tw:Tok} {y n:Nat} {v:Int} {R} (c:Cx w lse mg mb hB s.heap) (hd:dp≤685) (hu:un≤3500) (hal:Own hB s.heap al (lst [.ref y] na)) (hne:@Ne Nat al p.pl) (a:NumberAt w h0 s.heap y v) (hv:(v=1∧n=1)∨(v=128∧n=2)∨(v=16384∧n=3)∨(v=2097152∧n=4)∨(v=268435456∧n=5)) (K:Col w hB s.heap k) (hp:p∈k.l) (hcu:p.x=k.cu) (hn:Yk p.name) (hz:p.ps.length≤900)
    (ret:∀ h' tk,Laid w s.heap h' p.pl p.ps [some (n:Int)]→R (.ok (.ret .none)) { s with heap:=h',toks:=tk }) :
    codeAny (model PG w) (Ar dp un fr gd) (.call (.ref 888) ⟨[.ref k.xc,.str (Str.ofString ".sleb128") tw,.ref al,.none],[]⟩) R s:=zp (by simp(disch:=k_dflt(
  have hS:=K.pg.secs p hp
  have hsec:=hS.sec
  have hpl:=hS.opl
  rw [hcu] at hsec
  have n1:@Ne Nat k.xc p.pl:=Yc K.oi.1 hpl.1 (by simp)
  have n2:@Ne Nat k.dc p.pl:=Yc K.odc.1 hpl.1 (by simp)
  have hi:=K.oi
  have hc:=K.odc
  have n3:@Ne Nat al k.xc:=Yc hal.1 K.oi.1 (by simp)
  have n4:@Ne Nat al k.dc:=Yc hal.1 K.odc.1 (by simp)
  refine' Yd [(al,lst [.ref y] na),(k.xc,instObj 961 k.dc),(k.dc,cD w k),(p.pl,lst p.ps p.n)] [(Str.ofString "self",.ref k.xc),(Str.ofString "word",.str (Str.ofString ".sleb128") tw),(Str.ofString "args",.ref al),(Str.ofString "at",.none)] c ?kf ?k6 ?k7 ?eb ?es ?k8 ?k9 ?kB ?c5 ?c2 ?c3 ?c4 ?_
  k_extra "e0"
  k_steps
  k_extra "n"
  refine wpAny_call (width_sleb128 (cg.step F.keep) (by omega) fun w1 w2 w3 e0=>?_)
  replace F:=Ye F e0
  replace N:=Ya N e0
  try dsimp only
  k_steps
  k_extra "n"
  rename_i i9 l9 it9 h9 tk9 hit9
  k_extra "n"
  have kq:=kqo (ks:=[]) kp F N hfo (by k_extra "q")
  have eS:=kq.ext
  clear kq
  refine wpAny_call (worth_number (ed:=k.ed) (cg.step F.keep) (by omega) (by omega) (by exact N.get (by k_mem)) (by exact N.get (by k_mem)) (by exact a.xkeep eS) (by exact K.sc.xkeep (cg.step F.keep).ext) (by exact K.eq.ext (cg.step F.keep).ext) fun x g2 tk2 e2 m2 a2=>?_)
  have a3:=a2.down eS
  have m3:=Yf eS m2
  k_extra "n"
  refine AffineAt.newsE F (Ya N e2) a2 fun dz _ _ _ _ _ _ _ N9=>?_
  replace F:=Ye F e2
  clear N
  (rename News _ _ _ _=>N)
  try dsimp only
  k_steps
  k_extra "n"
  have kq:=kqo (ks:=[]) kp F N hfo (by k_extra "q")
  have eS:=kq.ext
  clear kq
  have a4:=AffineAt.ofNB cg N (by k_mem) (by k_mem)
  refine wpAny_call (leb_num (cg.step F.keep) (by omega) (by omega) hv (by exact a4) (by exact K.ext eS) hp hcu hn hz fun q b fx kf g7 tk7 hb k7 a7 f1 f2 q7=>?_)
  have F0:=F
  have N0:=N
  have N9:=Yj (rest:=[(i9,it9),(al,lst [.ref y] na),(k.xc,instObj 961 k.dc),(k.dc,cD w k)]) N k7 (by k_mem) q7 (Yn (by k_extra "r"))
  replace F:=Yp F N k7 (by k_mem)
  clear N
  (rename News _ _ _ _=>N)
  refine a7.el fun dq dqn dq0 dq1 dq2 dq3 dq4 dq5 dqa dqb=>?_
  have dqy:=Yi (N0.get (show (i9,it9)∈_ by k_mem)) dqa.2
  have dqz:=Yi (N0.get (show (i9,it9)∈_ by k_mem)) dqb.2
  have N9:=Yb F0 (Yb F0 N dqa.2 dqa.1) dqb.2 dqb.1
  clear N
  (rename News _ _ _ _=>N)
  have y3:=Yi (N0.get (show (i9,it9)∈_ by k_mem)) f1
  have N9:=Yb F0 N f1 f2
  clear N
  (rename News _ _ _ _=>N)
  try dsimp only
  k_steps
  k_extra "n"
  have kq:=kqo (ks:=[p.pl]) kp F N hfo (by k_extra "q")
  have L1:=Laid.oct kq (.in_ ⟨N.get (by k_mem),Yf eS dqa.2⟩ ⟨N.get (by k_mem),Yf eS dqb.2⟩) (Yf eS f1) (N.get (by k_mem)) (N.get (by k_mem)) (szn hv hb)
  rw [hb] at L1
  exact ret _ _ L1))only[↓zq])
theorem deed_uleb {k:CS} {p:Sc} {al na:Nat} {tw:Tok} {y:Nat} {one other:Str} {R} (c:Cx w lse mg mb hB s.heap) (hd:dp≤685) (hu:un≤3500) (hal:Own hB s.heap al (lst [.ref y] na)) (hne:@Ne Nat al p.pl) (a:DiffAt w s.heap y one other) (hoo:one≠other) (K:Col w hB s.heap k) (hp:p∈k.l) (hcu:p.x=k.cu) (hn:Yk p.name) (hz:p.ps.length≤900)
    (ret:∀ h' tk,Laid w s.heap h' p.pl p.ps [none]→R (.ok (.ret .none)) { s with heap:=h',toks:=tk }) :
    codeAny (model PG w) (Ar dp un fr gd) (.call (.ref 888) ⟨[.ref k.xc,.str (Str.ofString ".uleb128") tw,.ref al,.none],[]⟩) R s:=zp (by simp(disch:=k_dflt(
  have hS:=K.pg.secs p hp
  have hsec:=hS.sec
  have hpl:=hS.opl
  rw [hcu] at hsec
  have n1:@Ne Nat k.xc p.pl:=Yc K.oi.1 hpl.1 (by simp)
  have n2:@Ne Nat k.dc p.pl:=Yc K.odc.1 hpl.1 (by simp)
  have hi:=K.oi
  have hc:=K.odc
  have n3:@Ne Nat al k.xc:=Yc hal.1 K.oi.1 (by simp)
  have n4:@Ne Nat al k.dc:=Yc hal.1 K.odc.1 (by simp)
  refine' Yd [(al,lst [.ref y] na),(k.xc,instObj 961 k.dc),(k.dc,cD w k),(p.pl,lst p.ps p.n)] [(Str.ofString "self",.ref k.xc),(Str.ofString "word",.str (Str.ofString ".uleb128") tw),(Str.ofString "args",.ref al),(Str.ofString "at",.none)] c ?kf ?k6 ?k7 ?eb ?es ?k8 ?k9 ?kB ?c5 ?c2 ?c3 ?c4 ?_
  k_extra "e0"
  k_steps
  k_extra "n"
  refine wpAny_call (width_uleb128 (cg.step F.keep) (by omega) fun w1 w2 w3 e0=>?_)
  replace F:=Ye F e0
  replace N:=Ya N e0
  try dsimp only
  k_steps
  k_extra "n"
  rename_i i9 l9 it9 h9 tk9 hit9
  k_extra "n"
  have kq:=kqo (ks:=[]) kp F N hfo (by k_extra "q")
  have eS:=kq.ext
  clear kq
  refine absG fun _ kQ=>?_
  obtain ⟨⟨l,r,al1,ar1,ar2⟩,ne1,ne2⟩:=a
  refine kQ ?_
  clear kQ
  refine wpAny_call (worth_binary (ed:=k.ed) (cg.step F.keep) (by omega) (by omega) ne1 ne2 (by exact N.get (by k_mem)) (by exact N.get (by k_mem)) (by exact al1.xkeep eS) (by exact ar1.xkeep eS) (by exact ar2.xkeep eS) (by exact K.sc.xkeep (cg.step F.keep).ext) (by exact K.eq.ext (cg.step F.keep).ext) fun x g2 tk2 e2 m2 a2=>?_)
  have z1:nz one other=one:=by simp [nz,hoo]
  have z2:nz other one=other:=by simp [nz,Ne.symm hoo]
  rw [z1,z2] at a2
  refine a2.el fun dz nz' w4 w5 w6 w7 w8 w9 c1 c2=>?_
  have y5:=Yi (N.get (show (i9,it9)∈_ by k_mem)) c1.2
  have y6:=Yi (N.get (show (i9,it9)∈_ by k_mem)) c2.2
  have y7:=Yi (N.get (show (p.pl,lst p.ps p.n)∈_ by k_mem)) c1.2
  have y8:=Yi (N.get (show (p.pl,lst p.ps p.n)∈_ by k_mem)) c2.2
  have m3:=Yf eS c1.2
  have m4:=Yf eS c2.2
  have N9:=Yb F (Yb F (Ya N e2) c1.2 c1.1) c2.2 c2.1
  replace F:=Ye F e2
  clear N
  (rename News _ _ _ _=>N)
  try dsimp only
  k_steps
  k_extra "n"
  have kq:=kqo (ks:=[]) kp F N hfo (by k_extra "q")
  have eS:=kq.ext
  clear kq
  have a4:=AffineAt.ofNB cg N (by k_mem) (by k_mem)
  refine wpAny_call (leb_dist (cg.step F.keep) (by omega) (by omega) ne1 ne2 (by exact a4) (by exact K.ext eS) hp hcu hn hz fun q g7 tk7 k7 a7 q7=>?_)
  have F0:=F
  have N0:=N
  have N9:=Yj (rest:=[(dz,dictOf [en w "worth" w4 (.int 0 w7),en w "plus" w5 (.str one w8),en w "minus" w6 (.str other w9)] nz'),(x,instObj 352 dz),(i9,it9),(al,lst [.ref y] na),(k.xc,instObj 961 k.dc),(k.dc,cD w k)]) N k7 (by k_mem) q7 (Yn (by k_extra "r"))
  replace F:=Yp F N k7 (by k_mem)
  clear N
  (rename News _ _ _ _=>N)
  refine a7.el fun dq dqn dq0 dq1 dq2 dq3 dq4 dqa dqb=>?_
  have dqy:=Yi (N0.get (show (i9,it9)∈_ by k_mem)) dqa.2
  have dqz:=Yi (N0.get (show (i9,it9)∈_ by k_mem)) dqb.2
  have N9:=Yb F0 (Yb F0 N dqa.2 dqa.1) dqb.2 dqb.1
  clear N
  (rename News _ _ _ _=>N)
  try dsimp only
  k_steps
  k_extra "n"
  have kq:=kqo (ks:=[p.pl]) kp F N hfo (by k_extra "q")
  exact ret _ _ (Laid.leb kq (.in_ ⟨N.get (by k_mem),Yf eS dqa.2⟩ ⟨N.get (by k_mem),Yf eS dqb.2⟩) (.in_ ⟨N.get (by k_mem),m3⟩ ⟨N.get (by k_mem),m4⟩) (N.get (by k_mem)))))only[↓zq])
theorem deed_ascii {k:CS} {p:Sc} {al na:Nat} {tw:Tok} {b1 b2:Array UInt8} {u1 u2:Tok} {R} (c:Cx w lse mg mb hB s.heap) (hd:dp≤685) (hu:un≤3500) (hal:Own hB s.heap al (lst [.bytes b1 u1,.bytes b2 u2] na)) (hne:@Ne Nat al p.pl) (hb1:b1.size≤1000) (hb2:b2.size≤1000) (hb0:b2.size≠0) (K:Col w hB s.heap k) (hp:p∈k.l) (hcu:p.x=k.cu) (hn:Yk p.name) (hz:p.ps.length≤800)
    (ret:∀ h' tk,Laid w s.heap h' p.pl p.ps ((if b1.size=0 then [] else [some (b1.size:Int)])++[some (b2.size:Int)])→R (.ok (.ret .none)) { s with heap:=h',toks:=tk }) :
    codeAny (model PG w) (Ar dp un fr gd) (.call (.ref 888) ⟨[.ref k.xc,.str (Str.ofString ".ascii") tw,.ref al,.none],[]⟩) R s:=zp (by simp(disch:=k_dflt(
  have hS:=K.pg.secs p hp
  have hsec:=hS.sec
  have hpl:=hS.opl
  rw [hcu] at hsec
  have n1:@Ne Nat k.xc p.pl:=Yc K.oi.1 hpl.1 (by simp)
  have n2:@Ne Nat k.dc p.pl:=Yc K.odc.1 hpl.1 (by simp)
  have hi:=K.oi
  have hc:=K.odc
  have n3:@Ne Nat al k.xc:=Yc hal.1 K.oi.1 (by simp)
  have n4:@Ne Nat al k.dc:=Yc hal.1 K.odc.1 (by simp)
  refine' Yd [(al,lst [.bytes b1 u1,.bytes b2 u2] na),(k.xc,instObj 961 k.dc),(k.dc,cD w k),(p.pl,lst p.ps p.n)] [(Str.ofString "self",.ref k.xc),(Str.ofString "word",.str (Str.ofString ".ascii") tw),(Str.ofString "args",.ref al),(Str.ofString "at",.none)] c ?kf ?k6 ?k7 ?eb ?es ?k8 ?k9 ?kB ?c5 ?c2 ?c3 ?c4 ?_
  k_extra "e0"
  k_steps
  k_extra "n"
  refine wpAny_call (width_ascii (cg.step F.keep) (by omega) fun w1 w2 w3 e0=>?_)
  replace F:=Ye F e0
  replace N:=Ya N e0
  try dsimp only
  k_steps
  k_extra "n"
  rename_i i9 l8 it9 h9 tk9 hit9 fx g9 l9
  k_extra "n"
  have kq:=kqo (ks:=[]) kp F N hfo (by k_extra "q")
  have eS:=kq.ext
  clear kq
  have nfx:@Ne Nat fx p.pl:=by k_ne
  have nff:s.heap.get? fx=none:=Yh kp (N (fx,PySem.W.listOf #[] 0) (by k_mem)).2.2 (not4 (show @Ne Nat al fx by k_ne) (show @Ne Nat k.xc fx by k_ne) (show @Ne Nat k.dc fx by k_ne) (show @Ne Nat p.pl fx by k_ne))
  refine wpAny_call (octets_spec (cg.step F.keep) (by omega) (by omega) (by exact Yv cg N (by k_mem)) (by exact Yv cg N (by k_mem)) hsec hn (by exact Yv cg N (by k_mem)) (by omega) hb1 (by exact N.get (by k_mem)) nfx (fun hb9 g7 tk7 e7=>?_) (fun hb9 q g7 tk7 k7 a7 q7=>?_))
  · skip
    replace F:=Ye F e7
    replace N:=Ya N e7
    try dsimp only
    k_steps
    k_extra "n"
    rename_i it8 h8 tk8 hit8 fx2 g8 l7
    k_extra "n"
    have kq:=kqo (ks:=[]) kp F N hfo (by k_extra "q")
    have eS:=kq.ext
    clear kq
    have nfx2:@Ne Nat fx2 p.pl:=by k_ne
    have nff2:s.heap.get? fx2=none:=Yh kp (N (fx2,PySem.W.listOf #[] 0) (by k_mem)).2.2 (not4 (show @Ne Nat al fx2 by k_ne) (show @Ne Nat k.xc fx2 by k_ne) (show @Ne Nat k.dc fx2 by k_ne) (show @Ne Nat p.pl fx2 by k_ne))
    refine wpAny_call (octets_spec (cg.step F.keep) (by omega) (by omega) (by exact Yv cg N (by k_mem)) (by exact Yv cg N (by k_mem)) hsec hn (by exact Yv cg N (by k_mem)) (by omega) hb2 (by exact N.get (by k_mem)) nfx2 (fun hb8 _ _ _=>absurd hb8 hb0) (fun hb6 q2 g7 tk7 k7 a7 q7=>?_))
    have F0:=F
    have N0:=N
    have N9:=Yj (rest:=[(fx2,PySem.W.listOf #[] 0),(i9,it8),(al,lst [.bytes b1 u1,.bytes b2 u2] na),(k.xc,instObj 961 k.dc),(k.dc,cD w k)]) N k7 (by k_mem) q7 (Yn (by k_extra "r"))
    replace F:=Yp F N k7 (by k_mem)
    clear N
    (rename News _ _ _ _=>N)
    refine a7.el fun dq dqn dq0 dq1 dq2 dq3 dq4 dq5 dqa dqb=>?_
    have dqy:=Yi (N0.get (show (i9,it8)∈_ by k_mem)) dqa.2
    have dqz:=Yi (N0.get (show (i9,it8)∈_ by k_mem)) dqb.2
    have N9:=Yb F0 (Yb F0 N dqa.2 dqa.1) dqb.2 dqb.1
    clear N
    (rename News _ _ _ _=>N)
    try dsimp only
    k_steps
    k_extra "n"
    have kq:=kqo (ks:=[p.pl]) kp F N hfo (by k_extra "q")
    rw [if_pos hb9] at ret
    exact ret _ _ (Laid.oct kq (.in_ ⟨N.get (by k_mem),Yf eS dqa.2⟩ ⟨N.get (by k_mem),Yf eS dqb.2⟩) nff2 (N.get (by k_mem)) (N.get (by k_mem)) hb2)
  · skip
    have F0:=F
    have N0:=N
    have N9:=Yj (rest:=[(fx,PySem.W.listOf #[] 0),(i9,it9),(al,lst [.bytes b1 u1,.bytes b2 u2] na),(k.xc,instObj 961 k.dc),(k.dc,cD w k)]) N k7 (by k_mem) q7 (Yn (by k_extra "r"))
    replace F:=Yp F N k7 (by k_mem)
    clear N
    (rename News _ _ _ _=>N)
    refine a7.el fun dq dqn dq0 dq1 dq2 dq3 dq4 dq5 dqa dqb=>?_
    have dqy:=Yi (N0.get (show (i9,it9)∈_ by k_mem)) dqa.2
    have dqz:=Yi (N0.get (show (i9,it9)∈_ by k_mem)) dqb.2
    have N9:=Yb F0 (Yb F0 N dqa.2 dqa.1) dqb.2 dqb.1
    clear N
    (rename News _ _ _ _=>N)
    have zq1:=Yi (N0.get (show (p.pl,lst p.ps p.n)∈_ by k_mem)) dqa.2
    have zq2:=Yi (N0.get (show (p.pl,lst p.ps p.n)∈_ by k_mem)) dqb.2
    have zq3:=Yf eS dqa.2
    have zq4:=Yf eS dqb.2
    try dsimp only
    k_steps
    k_extra "n"
    rename_i it8 h8 tk8 hit8 fx2 g8 l7
    k_extra "n"
    have kq:=kqo (ks:=[p.pl]) kp F N hfo (by k_extra "q")
    have kS:=kq
    clear kq
    have nfx2:@Ne Nat fx2 p.pl:=by k_ne
    have nff2:s.heap.get? fx2=none:=Yh kp (N (fx2,PySem.W.listOf #[] 0) (by k_mem)).2.2 (not4 (show @Ne Nat al fx2 by k_ne) (show @Ne Nat k.xc fx2 by k_ne) (show @Ne Nat k.dc fx2 by k_ne) (show @Ne Nat p.pl fx2 by k_ne))
    refine wpAny_call (octets_spec (cg.step F.keep) (by omega) (by omega) (by exact Yv cg N (by k_mem)) (by exact Yv cg N (by k_mem)) hsec hn (by exact Yv cg N (by k_mem)) (by simp;omega) hb2 (by exact N.get (by k_mem)) nfx2 (fun hb8 _ _ _=>absurd hb8 hb0) (fun hb6 q2 g7 tk7 k7 a7 q7=>?_))
    have F0:=F
    have N0:=N
    have N9:=Yj (rest:=[(q,instObj 595 dq),(dq,dictOf [en w "way" dq0 (.str (Str.ofString "octets") dq4),en w "at" dq1 .none,en w "octets" dq2 (.bytes b1 dq5),en w "fixups" dq3 (.ref fx)] dqn),(fx,PySem.W.listOf #[] 0),(fx2,PySem.W.listOf #[] 0),(i9,it8),(al,lst [.bytes b1 u1,.bytes b2 u2] na),(k.xc,instObj 961 k.dc),(k.dc,cD w k)]) N k7 (by k_mem) q7 (Yn (by k_extra "r"))
    replace F:=Yp F N k7 (by k_mem)
    clear N
    (rename News _ _ _ _=>N)
    refine a7.el fun dr drn dr0 dr1 dr2 dr3 dr4 dr5 dra drb=>?_
    have dry:=Yi (N0.get (show (i9,it8)∈_ by k_mem)) dra.2
    have drz:=Yi (N0.get (show (i9,it8)∈_ by k_mem)) drb.2
    have N9:=Yb F0 (Yb F0 N dra.2 dra.1) drb.2 drb.1
    clear N
    (rename News _ _ _ _=>N)
    have zr3:=Yh kS dra.2 (not1 (Yi (N0.get (show (p.pl,lst (p.ps++[.ref q]) (p.n+1))∈_ by k_mem)) dra.2))
    have zr4:=Yh kS drb.2 (not1 (Yi (N0.get (show (p.pl,lst (p.ps++[.ref q]) (p.n+1))∈_ by k_mem)) drb.2))
    try dsimp only
    k_steps
    k_extra "n"
    have kq:=kqo (ks:=[p.pl]) kp F N hfo (by k_extra "q")
    rw [if_neg hb9] at ret
    exact ret _ _ (Laid.oct2 kq (.in_ ⟨N.get (by k_mem),zq3⟩ ⟨N.get (by k_mem),zq4⟩) nff (N.get (by k_mem)) hb1 (.in_ ⟨N.get (by k_mem),zr3⟩ ⟨N.get (by k_mem),zr4⟩) nff2 (N.get (by k_mem)) hb2 (N.get (by k_mem)))))only[↓zq])
theorem row16:True:=by
  k_with ".setAttr ref" => ((fail_if_success have:=@off11);(k_here;refine stop_ ?_))
  trivial
theorem not2 {x a b:Nat} (h1:@Ne Nat a x) (h2:@Ne Nat b x):(x:Addr) ∉ [(a:Addr),b]:=fun hm=>by
  rcases List.mem_cons.mp hm with q | hm
  · exact h1 q.symm
  · exact h2 (List.mem_singleton.mp hm).symm
theorem switch_text {k:CS} {al na:Nat} {tw:Tok} {xs:Nat} {R} (c:Cx w lse mg mb hB s.heap) (hd:dp≤685) (hu:un≤3500) (hal:Own hB s.heap al (lst [] na)) (K:Col w hB s.heap k) (nsd:@Ne Nat k.sd k.dc) (nal:@Ne Nat al k.nl) (hv:valueAt (Yt k.l) (Str.ofString ".text")=some (.ref xs))
    (ret:∀ h' tk,Keep [k.dc] s.heap h'→h'.get? k.dc=some (dictOf [en w "program" k.t1 (.ref k.xp),en w "section" k.t2 (.ref xs),en w "scope" k.t3 (.ref k.sc)] k.nc)→R (.ok (.ret .none)) { s with heap:=h',toks:=tk }) :
    codeAny (model PG w) (Ar dp un fr gd) (.call (.ref 888) ⟨[.ref k.xc,.str (Str.ofString ".text") tw,.ref al,.none],[]⟩) R s:=zp (by simp(disch:=k_dflt(
  have hi:=K.oi
  have hc:=K.odc
  have hsd:=K.pg.osd
  have hnl:=K.pg.onl
  have n1:@Ne Nat k.sd k.xc:=Yc hsd.1 hi.1 (by rw [Zb K.pg.dict];simp)
  have n2:@Ne Nat k.sd k.nl:=Yc hsd.1 hnl.1 (by rw [Zb K.pg.dict];simp)
  have n3:@Ne Nat k.nl k.dc:=Yc hnl.1 hc.1 (by simp)
  have n4:@Ne Nat k.nl k.xc:=Yc hnl.1 hi.1 (by simp)
  have n5:@Ne Nat k.dc k.xc:=Yc hc.1 hi.1 (by simp)
  have n6:@Ne Nat k.sd k.dc:=nsd
  have n7:@Ne Nat al k.xc:=Yc hal.1 hi.1 (by simp)
  have n8:@Ne Nat al k.dc:=Yc hal.1 hc.1 (by simp)
  have n9:@Ne Nat al k.sd:=Yc hal.1 hsd.1 (by rw [Zb K.pg.dict];simp)
  have nA:@Ne Nat al k.nl:=nal
  refine' Yd [(al,lst [] na),(k.xc,instObj 961 k.dc),(k.dc,cD w k),(k.sd,k.od),(k.nl,lst (List.zipWith (fun s t=>Value.str s.name t) k.l k.ts) k.nn)] [(Str.ofString "self",.ref k.xc),(Str.ofString "word",.str (Str.ofString ".text") tw),(Str.ofString "args",.ref al),(Str.ofString "at",.none)] c ?kf ?k6 ?k7 ?eb ?es ?k8 ?k9 ?kB ?c5 ?c2 ?c3 ?c4 ?_
  k_extra "e0"
  refine (K.pg.prog.ext cg.ext).el fun dxp np glp u1 u2 u3 u4 p1 p2=>?_
  k_steps
  k_extra "n"
  refine wpAny_call (section_old (x:=k.xp) (cg.step F.keep) (by omega) (by omega) K.pg.prog (by exact Yv cg N (by k_mem)) K.pg.lo K.pg.dict hv fun g2 tk2 e2=>?_)
  replace F:=Ye F e2
  replace N:=Ya N e2
  try dsimp only
  k_steps
  k_extra "n"
  refine set_dict (es':=[en w "program" k.t1 (.ref k.xp),en w "section" k.t2 (.ref xs),en w "scope" k.t3 (.ref k.sc)]) (n':=k.nc) F X N (InstAt.of_news N (by k_mem) (by k_mem)) rfl (by k_dflt k_is) (by k_dflt k_is) (by k_dflt k_is) (by k_dflt k_is) (by k_dflt k_get) (by with_unfolding_all rfl) (by k_dflt k_upd) (Nat.le_of_ble_eq_true rfl) fun g3 F N=>?_
  (try dsimp only at N)
  try dsimp only
  k_steps
  k_extra "n"
  have kq:=kqo (ks:=[k.dc]) kp F N hfo (by k_extra "q")
  exact ret _ _ kq (N.get (by k_mem))))only[↓zq])
theorem switch_data {k:CS} {al na:Nat} {tw:Tok} {xs:Nat} {R} (c:Cx w lse mg mb hB s.heap) (hd:dp≤685) (hu:un≤3500) (hal:Own hB s.heap al (lst [] na)) (K:Col w hB s.heap k) (nsd:@Ne Nat k.sd k.dc) (nal:@Ne Nat al k.nl) (hv:valueAt (Yt k.l) (Str.ofString ".data")=some (.ref xs))
    (ret:∀ h' tk,Keep [k.dc] s.heap h'→h'.get? k.dc=some (dictOf [en w "program" k.t1 (.ref k.xp),en w "section" k.t2 (.ref xs),en w "scope" k.t3 (.ref k.sc)] k.nc)→R (.ok (.ret .none)) { s with heap:=h',toks:=tk }) :
    codeAny (model PG w) (Ar dp un fr gd) (.call (.ref 888) ⟨[.ref k.xc,.str (Str.ofString ".data") tw,.ref al,.none],[]⟩) R s:=zp (by simp(disch:=k_dflt(
  have hi:=K.oi
  have hc:=K.odc
  have hsd:=K.pg.osd
  have hnl:=K.pg.onl
  have n1:@Ne Nat k.sd k.xc:=Yc hsd.1 hi.1 (by rw [Zb K.pg.dict];simp)
  have n2:@Ne Nat k.sd k.nl:=Yc hsd.1 hnl.1 (by rw [Zb K.pg.dict];simp)
  have n3:@Ne Nat k.nl k.dc:=Yc hnl.1 hc.1 (by simp)
  have n4:@Ne Nat k.nl k.xc:=Yc hnl.1 hi.1 (by simp)
  have n5:@Ne Nat k.dc k.xc:=Yc hc.1 hi.1 (by simp)
  have n6:@Ne Nat k.sd k.dc:=nsd
  have n7:@Ne Nat al k.xc:=Yc hal.1 hi.1 (by simp)
  have n8:@Ne Nat al k.dc:=Yc hal.1 hc.1 (by simp)
  have n9:@Ne Nat al k.sd:=Yc hal.1 hsd.1 (by rw [Zb K.pg.dict];simp)
  have nA:@Ne Nat al k.nl:=nal
  refine' Yd [(al,lst [] na),(k.xc,instObj 961 k.dc),(k.dc,cD w k),(k.sd,k.od),(k.nl,lst (List.zipWith (fun s t=>Value.str s.name t) k.l k.ts) k.nn)] [(Str.ofString "self",.ref k.xc),(Str.ofString "word",.str (Str.ofString ".data") tw),(Str.ofString "args",.ref al),(Str.ofString "at",.none)] c ?kf ?k6 ?k7 ?eb ?es ?k8 ?k9 ?kB ?c5 ?c2 ?c3 ?c4 ?_
  k_extra "e0"
  refine (K.pg.prog.ext cg.ext).el fun dxp np glp u1 u2 u3 u4 p1 p2=>?_
  k_steps
  k_extra "n"
  refine wpAny_call (section_old (x:=k.xp) (cg.step F.keep) (by omega) (by omega) K.pg.prog (by exact Yv cg N (by k_mem)) K.pg.lo K.pg.dict hv fun g2 tk2 e2=>?_)
  replace F:=Ye F e2
  replace N:=Ya N e2
  try dsimp only
  k_steps
  k_extra "n"
  refine set_dict (es':=[en w "program" k.t1 (.ref k.xp),en w "section" k.t2 (.ref xs),en w "scope" k.t3 (.ref k.sc)]) (n':=k.nc) F X N (InstAt.of_news N (by k_mem) (by k_mem)) rfl (by k_dflt k_is) (by k_dflt k_is) (by k_dflt k_is) (by k_dflt k_is) (by k_dflt k_get) (by with_unfolding_all rfl) (by k_dflt k_upd) (Nat.le_of_ble_eq_true rfl) fun g3 F N=>?_
  (try dsimp only at N)
  try dsimp only
  k_steps
  k_extra "n"
  have kq:=kqo (ks:=[k.dc]) kp F N hfo (by k_extra "q")
  exact ret _ _ kq (N.get (by k_mem))))only[↓zq])
theorem switch_note {k:CS} {al na:Nat} {tw:Tok} {ta:Tok} {xs:Nat} {R} (c:Cx w lse mg mb hB s.heap) (hd:dp≤685) (hu:un≤3500) (hal:Own hB s.heap al (lst [.str (Str.ofString ".note") ta] na)) (K:Col w hB s.heap k) (nsd:@Ne Nat k.sd k.dc) (nal:@Ne Nat al k.nl) (hv:valueAt (Yt k.l) (Str.ofString ".note")=some (.ref xs))
    (ret:∀ h' tk,Keep [k.dc] s.heap h'→h'.get? k.dc=some (dictOf [en w "program" k.t1 (.ref k.xp),en w "section" k.t2 (.ref xs),en w "scope" k.t3 (.ref k.sc)] k.nc)→R (.ok (.ret .none)) { s with heap:=h',toks:=tk }) :
    codeAny (model PG w) (Ar dp un fr gd) (.call (.ref 888) ⟨[.ref k.xc,.str (Str.ofString ".section") tw,.ref al,.none],[]⟩) R s:=zp (by simp(disch:=k_dflt(
  have hi:=K.oi
  have hc:=K.odc
  have hsd:=K.pg.osd
  have hnl:=K.pg.onl
  have n1:@Ne Nat k.sd k.xc:=Yc hsd.1 hi.1 (by rw [Zb K.pg.dict];simp)
  have n2:@Ne Nat k.sd k.nl:=Yc hsd.1 hnl.1 (by rw [Zb K.pg.dict];simp)
  have n3:@Ne Nat k.nl k.dc:=Yc hnl.1 hc.1 (by simp)
  have n4:@Ne Nat k.nl k.xc:=Yc hnl.1 hi.1 (by simp)
  have n5:@Ne Nat k.dc k.xc:=Yc hc.1 hi.1 (by simp)
  have n6:@Ne Nat k.sd k.dc:=nsd
  have n7:@Ne Nat al k.xc:=Yc hal.1 hi.1 (by simp)
  have n8:@Ne Nat al k.dc:=Yc hal.1 hc.1 (by simp)
  have n9:@Ne Nat al k.sd:=Yc hal.1 hsd.1 (by rw [Zb K.pg.dict];simp)
  have nA:@Ne Nat al k.nl:=nal
  refine' Yd [(al,lst [.str (Str.ofString ".note") ta] na),(k.xc,instObj 961 k.dc),(k.dc,cD w k),(k.sd,k.od),(k.nl,lst (List.zipWith (fun s t=>Value.str s.name t) k.l k.ts) k.nn)] [(Str.ofString "self",.ref k.xc),(Str.ofString "word",.str (Str.ofString ".section") tw),(Str.ofString "args",.ref al),(Str.ofString "at",.none)] c ?kf ?k6 ?k7 ?eb ?es ?k8 ?k9 ?kB ?c5 ?c2 ?c3 ?c4 ?_
  k_extra "e0"
  refine (K.pg.prog.ext cg.ext).el fun dxp np glp u1 u2 u3 u4 p1 p2=>?_
  k_steps
  k_extra "n"
  refine wpAny_call (section_old (x:=k.xp) (cg.step F.keep) (by omega) (by omega) K.pg.prog (by exact Yv cg N (by k_mem)) K.pg.lo K.pg.dict hv fun g2 tk2 e2=>?_)
  replace F:=Ye F e2
  replace N:=Ya N e2
  try dsimp only
  k_steps
  k_extra "n"
  refine set_dict (es':=[en w "program" k.t1 (.ref k.xp),en w "section" k.t2 (.ref xs),en w "scope" k.t3 (.ref k.sc)]) (n':=k.nc) F X N (InstAt.of_news N (by k_mem) (by k_mem)) rfl (by k_dflt k_is) (by k_dflt k_is) (by k_dflt k_is) (by k_dflt k_is) (by k_dflt k_get) (by with_unfolding_all rfl) (by k_dflt k_upd) (Nat.le_of_ble_eq_true rfl) fun g3 F N=>?_
  (try dsimp only at N)
  try dsimp only
  k_steps
  k_extra "n"
  have kq:=kqo (ks:=[k.dc]) kp F N hfo (by k_extra "q")
  exact ret _ _ kq (N.get (by k_mem))))only[↓zq])
theorem switch_dataN {k:CS} {al na:Nat} {tw:Tok}  {R} (c:Cx w lse mg mb hB s.heap) (hd:dp≤685) (hu:un≤3500) (hal:Own hB s.heap al (lst [] na)) (K:Col w hB s.heap k) (nsd:@Ne Nat k.sd k.dc) (nal:@Ne Nat al k.nl) (hv:valueAt (Yt k.l) (Str.ofString ".data")=none)
    (ret:∀ (x' dx' pl ld:Nat) (o1 o':Obj) n' t1 t2 t3 ta t4 h' tk,Keep [k.dc,k.sd,k.nl] s.heap h'→s.heap.get? x'=none→s.heap.get? dx'=none→s.heap.get? pl=none→s.heap.get? ld=none→(@Ne Nat x' pl∧@Ne Nat x' ld∧@Ne Nat dx' pl∧@Ne Nat dx' ld∧@Ne Nat pl ld∧@Ne Nat dx' x') →
      h'.get? x'=some (instObj 769 dx')→h'.get? dx'=some (dictOf [en w "name" t1 (.str (Str.ofString ".data") ta),en w "pieces" t2 (.ref pl),en w "labels" t3 (.ref ld)] n') →
      h'.get? pl=some (lst [] 0)→h'.get? ld=some o1→o1.IsDictOf (PySem.strKind PG w) []→(@BEq.beq Addr _ ld sysModules)=false →
      h'.get? k.sd=some o'→o'.IsDictOf (PySem.strKind PG w) (Yt k.l++[(Str.ofString ".data",.ref x')])→h'.get? k.nl=some (lst (List.zipWith (fun s t=>Value.str s.name t) k.l k.ts++[.str (Str.ofString ".data") t4]) (k.nn+1)) →
      h'.get? k.dc=some (dictOf [en w "program" k.t1 (.ref k.xp),en w "section" k.t2 (.ref x'),en w "scope" k.t3 (.ref k.sc)] k.nc)→R (.ok (.ret .none)) { s with heap:=h',toks:=tk }) :
    codeAny (model PG w) (Ar dp un fr gd) (.call (.ref 888) ⟨[.ref k.xc,.str (Str.ofString ".data") tw,.ref al,.none],[]⟩) R s:=zp (by simp(disch:=k_dflt(
  have hi:=K.oi
  have hc:=K.odc
  have hsd:=K.pg.osd
  have hnl:=K.pg.onl
  have n1:@Ne Nat k.sd k.xc:=Yc hsd.1 hi.1 (by rw [Zb K.pg.dict];simp)
  have n2:@Ne Nat k.sd k.nl:=Yc hsd.1 hnl.1 (by rw [Zb K.pg.dict];simp)
  have n3:@Ne Nat k.nl k.dc:=Yc hnl.1 hc.1 (by simp)
  have n4:@Ne Nat k.nl k.xc:=Yc hnl.1 hi.1 (by simp)
  have n5:@Ne Nat k.dc k.xc:=Yc hc.1 hi.1 (by simp)
  have n6:@Ne Nat k.sd k.dc:=nsd
  have n7:@Ne Nat al k.xc:=Yc hal.1 hi.1 (by simp)
  have n8:@Ne Nat al k.dc:=Yc hal.1 hc.1 (by simp)
  have n9:@Ne Nat al k.sd:=Yc hal.1 hsd.1 (by rw [Zb K.pg.dict];simp)
  have nA:@Ne Nat al k.nl:=nal
  refine' Yd [(al,lst [] na),(k.xc,instObj 961 k.dc),(k.dc,cD w k),(k.sd,k.od),(k.nl,lst (List.zipWith (fun s t=>Value.str s.name t) k.l k.ts) k.nn)] [(Str.ofString "self",.ref k.xc),(Str.ofString "word",.str (Str.ofString ".data") tw),(Str.ofString "args",.ref al),(Str.ofString "at",.none)] c ?kf ?k6 ?k7 ?eb ?es ?k8 ?k9 ?kB ?c5 ?c2 ?c3 ?c4 ?_
  k_extra "e0"
  refine (K.pg.prog.ext cg.ext).el fun dxp np glp u1 u2 u3 u4 p1 p2=>?_
  k_steps
  k_extra "n"
  k_extra "n"
  have kq:=kqo (ks:=[]) kp F N hfo (by k_extra "q")
  have eS:=kq.ext
  clear kq
  have hz1:(Yt k.l).length≤1000:=Nat.le_trans (Nat.le_of_eq (by simp [Yt])) (Nat.le_trans K.pg.len.2 (by decide))
  have hz2:(List.zipWith (fun s t=>Value.str s.name t) k.l k.ts).length≤1000:=by rw [List.length_zipWith];exact Nat.le_trans (Nat.min_le_left _ _) (Nat.le_trans K.pg.len.2 (by decide))
  have hst:∀ x':Nat,valueAt (stored (Yt k.l) (Str.ofString ".data") (.ref x')) (Str.ofString ".data")=some (.ref x'):=fun x'=>by
    rw [stored_absent hv]
    unfold valueAt at hv ⊢
    rw [List.find?_append,Option.map_eq_none_iff.mp hv]
    simp
  refine wpAny_call (section_new (x:=k.xp) (cg.step F.keep) (by omega) (by omega) K.pg.prog (by exact Yv cg N (by k_mem)) K.pg.lo K.pg.dict hz1 hv (by exact Yv cg N (by k_mem)) hz2 n2 hst fun x' dx' pl ld o1 o' n' u5 u6 u7 ua u8 g2 tk2 k2 m1 m2 m3 m4 hne2 q1 q2 q3 q4 q5 q6 q7 q8 q9=>?_)
  have F0:=F
  have N0:=N
  replace F:=frBut F k2 (fun a ha=>by
    rcases List.mem_cons.mp ha with rfl | ha
    · exact (N0 (k.sd,k.od) (by k_mem)).2
    · rw [List.mem_singleton.mp ha];exact (N0 (k.nl,lst (List.zipWith (fun s t=>Value.str s.name t) k.l k.ts) k.nn) (by k_mem)).2)
  have N1:=newsBut (news':=[(al,lst [] na),(k.xc,instObj 961 k.dc),(k.dc,cD w k)]) N0 k2 (fun p hp=>by
    simp only [List.mem_cons,List.not_mem_nil,or_false] at hp
    rcases hp with rfl | rfl | rfl
    · exact ⟨by k_mem,not2 n9.symm nA.symm⟩
    · exact ⟨by k_mem,not2 n1 n4⟩
    · exact ⟨by k_mem,not2 n6 n3⟩)
  have N2:=Yl (Yl N1 q7 (N0 (k.sd,k.od) (by k_mem)).2) q9 (N0 (k.nl,lst (List.zipWith (fun s t=>Value.str s.name t) k.l k.ts) k.nn) (by k_mem)).2
  have N3:=Yb F0 (Yb F0 (Yb F0 (Yb F0 N2 m1 q1) m2 q2) m3 q3) m4 q4
  clear N N1 N2
  have N:=N3
  clear N3
  have y1:=Yi (N0.get (show (k.dc,cD w k)∈_ by k_mem)) m1
  have y2:=Yi (N0.get (show (k.dc,cD w k)∈_ by k_mem)) m2
  have y3:=Yi (N0.get (show (k.dc,cD w k)∈_ by k_mem)) m3
  have y4:=Yi (N0.get (show (k.dc,cD w k)∈_ by k_mem)) m4
  rw [stored_absent hv] at q8
  try dsimp only
  k_steps
  k_extra "n"
  refine set_dict (es':=[en w "program" k.t1 (.ref k.xp),en w "section" k.t2 (.ref x'),en w "scope" k.t3 (.ref k.sc)]) (n':=k.nc) F X N (InstAt.of_news N (by k_mem) (by k_mem)) rfl (by k_dflt k_is) (by k_dflt k_is) (by k_dflt k_is) (by k_dflt k_is) (by k_dflt k_get) (by with_unfolding_all rfl) (by k_dflt k_upd) (Nat.le_of_ble_eq_true rfl) fun g3 F N=>?_
  (try dsimp only at N)
  try dsimp only
  k_steps
  k_extra "n"
  have kq:=kqo (ks:=[k.dc,k.sd,k.nl]) kp F N hfo (by k_extra "q")
  exact ret x' dx' pl ld o1 o' n' _ _ _ _ _ _ _ kq (Yf eS m1) (Yf eS m2) (Yf eS m3) (Yf eS m4) hne2 (N.get (by k_mem)) (N.get (by k_mem)) (N.get (by k_mem)) (N.get (by k_mem)) q5 q6 (N.get (by k_mem)) q8 (N.get (by k_mem)) (N.get (by k_mem))))only[↓zq])
theorem switch_noteN {k:CS} {al na:Nat} {tw:Tok} {ta:Tok}  {R} (c:Cx w lse mg mb hB s.heap) (hd:dp≤685) (hu:un≤3500) (hal:Own hB s.heap al (lst [.str (Str.ofString ".note") ta] na)) (K:Col w hB s.heap k) (nsd:@Ne Nat k.sd k.dc) (nal:@Ne Nat al k.nl) (hv:valueAt (Yt k.l) (Str.ofString ".note")=none)
    (ret:∀ (x' dx' pl ld:Nat) (o1 o':Obj) n' t1 t2 t3 ta t4 h' tk,Keep [k.dc,k.sd,k.nl] s.heap h'→s.heap.get? x'=none→s.heap.get? dx'=none→s.heap.get? pl=none→s.heap.get? ld=none→(@Ne Nat x' pl∧@Ne Nat x' ld∧@Ne Nat dx' pl∧@Ne Nat dx' ld∧@Ne Nat pl ld∧@Ne Nat dx' x') →
      h'.get? x'=some (instObj 769 dx')→h'.get? dx'=some (dictOf [en w "name" t1 (.str (Str.ofString ".note") ta),en w "pieces" t2 (.ref pl),en w "labels" t3 (.ref ld)] n') →
      h'.get? pl=some (lst [] 0)→h'.get? ld=some o1→o1.IsDictOf (PySem.strKind PG w) []→(@BEq.beq Addr _ ld sysModules)=false →
      h'.get? k.sd=some o'→o'.IsDictOf (PySem.strKind PG w) (Yt k.l++[(Str.ofString ".note",.ref x')])→h'.get? k.nl=some (lst (List.zipWith (fun s t=>Value.str s.name t) k.l k.ts++[.str (Str.ofString ".note") t4]) (k.nn+1)) →
      h'.get? k.dc=some (dictOf [en w "program" k.t1 (.ref k.xp),en w "section" k.t2 (.ref x'),en w "scope" k.t3 (.ref k.sc)] k.nc)→R (.ok (.ret .none)) { s with heap:=h',toks:=tk }) :
    codeAny (model PG w) (Ar dp un fr gd) (.call (.ref 888) ⟨[.ref k.xc,.str (Str.ofString ".section") tw,.ref al,.none],[]⟩) R s:=zp (by simp(disch:=k_dflt(
  have hi:=K.oi
  have hc:=K.odc
  have hsd:=K.pg.osd
  have hnl:=K.pg.onl
  have n1:@Ne Nat k.sd k.xc:=Yc hsd.1 hi.1 (by rw [Zb K.pg.dict];simp)
  have n2:@Ne Nat k.sd k.nl:=Yc hsd.1 hnl.1 (by rw [Zb K.pg.dict];simp)
  have n3:@Ne Nat k.nl k.dc:=Yc hnl.1 hc.1 (by simp)
  have n4:@Ne Nat k.nl k.xc:=Yc hnl.1 hi.1 (by simp)
  have n5:@Ne Nat k.dc k.xc:=Yc hc.1 hi.1 (by simp)
  have n6:@Ne Nat k.sd k.dc:=nsd
  have n7:@Ne Nat al k.xc:=Yc hal.1 hi.1 (by simp)
  have n8:@Ne Nat al k.dc:=Yc hal.1 hc.1 (by simp)
  have n9:@Ne Nat al k.sd:=Yc hal.1 hsd.1 (by rw [Zb K.pg.dict];simp)
  have nA:@Ne Nat al k.nl:=nal
  refine' Yd [(al,lst [.str (Str.ofString ".note") ta] na),(k.xc,instObj 961 k.dc),(k.dc,cD w k),(k.sd,k.od),(k.nl,lst (List.zipWith (fun s t=>Value.str s.name t) k.l k.ts) k.nn)] [(Str.ofString "self",.ref k.xc),(Str.ofString "word",.str (Str.ofString ".section") tw),(Str.ofString "args",.ref al),(Str.ofString "at",.none)] c ?kf ?k6 ?k7 ?eb ?es ?k8 ?k9 ?kB ?c5 ?c2 ?c3 ?c4 ?_
  k_extra "e0"
  refine (K.pg.prog.ext cg.ext).el fun dxp np glp u1 u2 u3 u4 p1 p2=>?_
  k_steps
  k_extra "n"
  k_extra "n"
  have kq:=kqo (ks:=[]) kp F N hfo (by k_extra "q")
  have eS:=kq.ext
  clear kq
  have hz1:(Yt k.l).length≤1000:=Nat.le_trans (Nat.le_of_eq (by simp [Yt])) (Nat.le_trans K.pg.len.2 (by decide))
  have hz2:(List.zipWith (fun s t=>Value.str s.name t) k.l k.ts).length≤1000:=by rw [List.length_zipWith];exact Nat.le_trans (Nat.min_le_left _ _) (Nat.le_trans K.pg.len.2 (by decide))
  have hst:∀ x':Nat,valueAt (stored (Yt k.l) (Str.ofString ".note") (.ref x')) (Str.ofString ".note")=some (.ref x'):=fun x'=>by
    rw [stored_absent hv]
    unfold valueAt at hv ⊢
    rw [List.find?_append,Option.map_eq_none_iff.mp hv]
    simp
  refine wpAny_call (section_new (x:=k.xp) (cg.step F.keep) (by omega) (by omega) K.pg.prog (by exact Yv cg N (by k_mem)) K.pg.lo K.pg.dict hz1 hv (by exact Yv cg N (by k_mem)) hz2 n2 hst fun x' dx' pl ld o1 o' n' u5 u6 u7 ua u8 g2 tk2 k2 m1 m2 m3 m4 hne2 q1 q2 q3 q4 q5 q6 q7 q8 q9=>?_)
  have F0:=F
  have N0:=N
  replace F:=frBut F k2 (fun a ha=>by
    rcases List.mem_cons.mp ha with rfl | ha
    · exact (N0 (k.sd,k.od) (by k_mem)).2
    · rw [List.mem_singleton.mp ha];exact (N0 (k.nl,lst (List.zipWith (fun s t=>Value.str s.name t) k.l k.ts) k.nn) (by k_mem)).2)
  have N1:=newsBut (news':=[(al,lst [.str (Str.ofString ".note") ta] na),(k.xc,instObj 961 k.dc),(k.dc,cD w k)]) N0 k2 (fun p hp=>by
    simp only [List.mem_cons,List.not_mem_nil,or_false] at hp
    rcases hp with rfl | rfl | rfl
    · exact ⟨by k_mem,not2 n9.symm nA.symm⟩
    · exact ⟨by k_mem,not2 n1 n4⟩
    · exact ⟨by k_mem,not2 n6 n3⟩)
  have N2:=Yl (Yl N1 q7 (N0 (k.sd,k.od) (by k_mem)).2) q9 (N0 (k.nl,lst (List.zipWith (fun s t=>Value.str s.name t) k.l k.ts) k.nn) (by k_mem)).2
  have N3:=Yb F0 (Yb F0 (Yb F0 (Yb F0 N2 m1 q1) m2 q2) m3 q3) m4 q4
  clear N N1 N2
  have N:=N3
  clear N3
  have y1:=Yi (N0.get (show (k.dc,cD w k)∈_ by k_mem)) m1
  have y2:=Yi (N0.get (show (k.dc,cD w k)∈_ by k_mem)) m2
  have y3:=Yi (N0.get (show (k.dc,cD w k)∈_ by k_mem)) m3
  have y4:=Yi (N0.get (show (k.dc,cD w k)∈_ by k_mem)) m4
  rw [stored_absent hv] at q8
  try dsimp only
  k_steps
  k_extra "n"
  refine set_dict (es':=[en w "program" k.t1 (.ref k.xp),en w "section" k.t2 (.ref x'),en w "scope" k.t3 (.ref k.sc)]) (n':=k.nc) F X N (InstAt.of_news N (by k_mem) (by k_mem)) rfl (by k_dflt k_is) (by k_dflt k_is) (by k_dflt k_is) (by k_dflt k_is) (by k_dflt k_get) (by with_unfolding_all rfl) (by k_dflt k_upd) (Nat.le_of_ble_eq_true rfl) fun g3 F N=>?_
  (try dsimp only at N)
  try dsimp only
  k_steps
  k_extra "n"
  have kq:=kqo (ks:=[k.dc,k.sd,k.nl]) kp F N hfo (by k_extra "q")
  exact ret x' dx' pl ld o1 o' n' _ _ _ _ _ _ _ kq (Yf eS m1) (Yf eS m2) (Yf eS m3) (Yf eS m4) hne2 (N.get (by k_mem)) (N.get (by k_mem)) (N.get (by k_mem)) (N.get (by k_mem)) q5 q6 (N.get (by k_mem)) q8 (N.get (by k_mem)) (N.get (by k_mem))))only[↓zq])
theorem off11:True:=trivial
theorem label_spec {k:CS} {p:Sc} {lab:Str} {tl:Tok} {R} (c:Cx w lse mg mb hB s.heap) (hd:dp≤690) (hu:un≤3600) (K:Col w hB s.heap k) (hp:p∈k.l) (hcu:p.x=k.cu) (hh:homeOf k.l lab=none) (ndl:@Ne Nat k.dc p.ld)
    (ret:∀ h' tk o' (y:Nat) t1 t2,Keep [p.ld] s.heap h'→h'.get? p.ld=some o'→o'.IsDictOf (PySem.strKind PG w) (stored p.lb lab (.ref y))→s.heap.get? y=none→h'.get? y=some (tupO [.int p.ps.length t1,.int 0 t2])→R (.ok (.ret .none)) { s with heap:=h',toks:=tk }) :
    codeAny (model PG w) (Ar dp un fr gd) (.call (.ref 867) ⟨[.ref k.xc,.str lab tl,.none],[]⟩) R s:=zp (by simp(disch:=k_dflt(
  have hS:=K.pg.secs p hp
  have hsec:=hS.sec
  rw [hcu] at hsec
  have hpl:=hS.opl
  have hld:=hS.old
  have hi:=K.oi
  have hc:=K.odc
  have n1:@Ne Nat k.xc p.pl:=Yc hi.1 hpl.1 (by simp)
  have n2:@Ne Nat k.dc p.pl:=Yc hc.1 hpl.1 (by simp)
  have n3:@Ne Nat k.xc p.ld:=Yc hi.1 hld.1 (by rw [Zb hS.dict];simp)
  have n4:=hS.ne
  refine' Yd [(k.xc,instObj 961 k.dc),(k.dc,cD w k),(p.pl,lst p.ps p.n),(p.ld,p.o)] [(Str.ofString "self",.ref k.xc),(Str.ofString "name",.str lab tl),(Str.ofString "at",.none)] c ?kf ?k6 ?k7 ?eb ?es ?k8 ?k9 ?kB ?c5 ?c2 ?c3 ?c4 ?_
  k_extra "e0"
  refine (K.pg.prog.ext cg.ext).el fun dxp np glp u1 u2 u3 u4 p1 p2=>?_
  refine (hsec.ext cg.ext).el fun dxs ns v1 v2 v3 vt s1 s2=>?_
  have dE:=K.pg.eqs.ext cg.ext
  k_steps
  k_extra "n"
  have kq:=kqo (ks:=[]) kp F N hfo (by k_extra "q")
  have eS:=kq.ext
  clear kq
  refine wpAny_call (home_spec (cg.step F.keep) (by omega) (by omega) (by exact (K.ext eS).pg) fun g2 tk2 e2=>?_)
  rw [hh]
  replace F:=Ye F e2
  replace N:=Ya N e2
  dsimp only [homeVal]
  k_steps
  k_extra "n"
  have kq:=kqo (ks:=[]) kp F N hfo (by k_extra "q")
  have eS:=kq.ext
  clear kq
  have hlb:p.lb.length≤1000:=by simp only [Sc.lb,List.length_map];exact hS.lsz
  refine wpAny_call (mark_spec (cg.step F.keep) (by omega) (by omega) hsec (by exact Yv cg N (by k_mem)) hS.psz (by exact Yv cg N (by k_mem)) hS.lo hS.dict hlb n4 fun g3 tk3 o' y u5 u6 k3 q3 d3 f3 q4=>?_)
  have f4:=Yf eS f3
  have N9:=Yj (rest:=[(k.xc,instObj 961 k.dc),(k.dc,cD w k),(p.pl,lst p.ps p.n)]) N k3 (by k_mem) q3 (Yn (by k_extra "r"))
  replace F:=Yp F N k3 (by k_mem)
  clear N
  (rename News _ _ _ _=>N)
  try dsimp only
  k_steps
  k_extra "n"
  have kq:=kqo (ks:=[p.ld]) kp F N hfo (by k_extra "q")
  exact ret _ _ o' y _ _ kq (N.get (by k_mem)) d3 f4 q4))only[↓zq])
theorem lay_deed {Post:Heap→Heap→Prop} {k:CS} {st al:Nat} {word:Str} {R} (c:Cx w lse mg mb hB s.heap) (hd:dp≤680) (hu:un≤3400)
    (K:Col w hB s.heap k) (hst:DeedAt w h0 s.heap st word al)
    (spec:∀ {dp' un':Nat} {fr':Option (List Env)} {s':Shared} {tw:Tok} {R':Result→Shared→Prop},Cx w lse mg mb hB s'.heap→dp'≤685→un'≤3500→Ext s.heap s'.heap →
      (∀ h' tk,Post s.heap h'→R' (.ok (.ret .none)) { s' with heap:=h',toks:=tk })→codeAny (model PG w) (Ar dp' un' fr' gd) (.call (.ref 888) ⟨[.ref k.xc,.str word tw,.ref al,.none],[]⟩) R' s')
    (ret:∀ h' tk,Post s.heap h'→R (.ok (.ret .none)) { s with heap:=h',toks:=tk }) :
    codeAny (model PG w) (Ar dp un fr gd) (.call (.ref 860) ⟨[.ref k.xc,.ref st],[]⟩) R s:=zp (by simp(disch:=k_dflt(
  refine hst.el fun dx n' w1 w2 w3 w4 w5 w6 z1 z2=>?_
  have z3:=z1.1
  have z4:=z2.1
  refine' Yd [] [(Str.ofString "self",.ref k.xc),(Str.ofString "statement",.ref st)] c ?kf ?k6 ?k7 ?eb ?es ?k8 ?k9 ?kB ?c5 ?c2 ?c3 ?c4 ?_
  k_extra "e0"
  have b1:=kp _ _ (by simp) K.oi.1
  have b2:=kp _ _ (by simp) K.odc.1
  have b3:=kp _ _ (by simp) z3
  have b4:=kp _ _ (by simp) z4
  k_steps
  k_extra "n"
  have eS:=Yg kp F rfl
  have cN:=cg.step F.keep
  have eB:=cN.ext
  refine wpAny_call (spec cN (by omega) (by omega) (by exact eS) fun g2 tk2 P=>?_)
  clear F N eS cN eB
  try dsimp only
  k_steps
  exact ret _ _ P))only[↓zq])
theorem lay_deedE {k:CS} {st al:Nat} {word:Str} {C:Nat} {R} (c:Cx w lse mg mb hB s.heap) (hd:dp≤680) (hu:un≤3400)
    (K:Col w hB s.heap k) (hst:DeedAt w h0 s.heap st word al) {hX:Heap} {outer:List Env} (bk:Brk hX outer fr s.heap)
    (spec:∀ {dp' un':Nat} {fr':Option (List Env)} {outer':List Env} {s':Shared} {tw:Tok} {R':Result→Shared→Prop},Cx w lse mg mb hB s'.heap→dp'≤685→un'≤3500→Ext s.heap s'.heap→Brk hX outer' fr' s'.heap →
      (∀ (e:Nat) h' tk,Fly hX outer' C e h'→s'.heap.UpToSlots h'→R' (.error (.ref e)) { s' with heap:=h',toks:=tk })→codeAny (model PG w) (Ar dp' un' fr' gd) (.call (.ref 888) ⟨[.ref k.xc,.str word tw,.ref al,.none],[]⟩) R' s')
    (ret:∀ (e:Nat) h' tk,Fly hX outer C e h'→s.heap.UpToSlots h'→R (.error (.ref e)) { s with heap:=h',toks:=tk }) :
    codeAny (model PG w) (Ar dp un fr gd) (.call (.ref 860) ⟨[.ref k.xc,.ref st],[]⟩) R s:=zp (by simp(disch:=k_dflt(
  refine hst.el fun dx n' w1 w2 w3 w4 w5 w6 z1 z2=>?_
  have z3:=z1.1
  have z4:=z2.1
  refine' enter [] [(Str.ofString "self",.ref k.xc),(Str.ofString "statement",.ref st)] c ?kf ?k6 ?k7 ?eb ?es ?k8 ?k9 ?kB ?c5 ?c2 ?c3 ?c4 ?_
  k_extra "e0"
  have b1:=kp _ _ (by simp) K.oi.1
  have b2:=kp _ _ (by simp) K.odc.1
  have b3:=kp _ _ (by simp) z3
  have b4:=kp _ _ (by simp) z4
  k_steps
  k_extra "n"
  have eS:=Yg kp F rfl
  have cN:=cg.step F.keep
  have eB:=cN.ext
  refine wpAny_call (spec cN (by omega) (by omega) (by exact eS) (by exact bk.push kp F rfl) fun e g2 tk2 f2 u2=>?_)
  refine raise_on (by show Option.map _ fr=_;rw [bk.stack];rfl) rfl f2 fun h6 f6 u6=>?_
  exact ret e h6 _ f6 (((Heap.UpToSlots.of_keeps eS).trans u2).trans u6)))only[↓zq])
theorem deed_skipE {k:CS} {p:Sc} {al na y:Nat} {tw:Tok} {one other:Str} {C:Nat} {R} (c:Cx w lse mg mb hB s.heap) (hd:dp≤685) (hu:un≤3500) (hal:s.heap.get? al=some (lst [.ref y] na)) (a:DiffAt w s.heap y one other) (K:Col w hB s.heap k) (hp:p∈k.l) (hcu:p.x=k.cu) (hn:Yk p.name) (hC:badC k.l one other C) {hX:Heap} {outer:List Env} (bk:Brk hX outer fr s.heap)
    (ret:∀ (e:Nat) h' tk,Fly hX outer C e h'→s.heap.UpToSlots h'→R (.error (.ref e)) { s with heap:=h',toks:=tk }) :
    codeAny (model PG w) (Ar dp un fr gd) (.call (.ref 888) ⟨[.ref k.xc,.str (Str.ofString ".skip") tw,.ref al,.none],[]⟩) R s:=zp (by simp(disch:=k_dflt(
  refine' enter [] [(Str.ofString "self",.ref k.xc),(Str.ofString "word",.str (Str.ofString ".skip") tw),(Str.ofString "args",.ref al),(Str.ofString "at",.none)] c ?kf ?k6 ?k7 ?eb ?es ?k8 ?k9 ?kB ?c5 ?c2 ?c3 ?c4 ?_
  k_extra "e0"
  have K0:=K.ext kp.ext
  have b1:=K0.oi.1
  have b2:=K0.odc.1
  k_steps
  k_extra "n"
  refine wpAny_call (width_skip (cg.step F.keep) (by omega) fun w1 w2 w3 e0=>?_)
  replace F:=Ye F e0
  replace N:=Ya N e0
  try dsimp only
  k_steps
  k_extra "n"
  have eS:=Yg kp F rfl
  have cN:=cg.step F.keep
  have eB:=cN.ext
  refine wpAny_call (space_symE (p:=p) cN (by omega) (by omega) (by exact eS _ _ hal) (by exact a.ext eS) (by exact K.ext eS) hp hcu hn hC (by exact bk.push kp F rfl) fun e g4 tk4 f4 u4=>?_)
  refine raise_on (by show Option.map _ fr=_;rw [bk.stack];rfl) rfl f4 fun h6 f6 u6=>?_
  exact ret e h6 _ f6 (((Heap.UpToSlots.of_keeps eS).trans u4).trans u6)))only[↓zq])
theorem lay_label {k:CS} {p:Sc} {lab:Str} {st:Nat} {R} (c:Cx w lse mg mb hB s.heap) (hd:dp≤680) (hu:un≤3400) (K:Col w hB s.heap k) (hst:LabelAt w h0 s.heap st lab) (hp:p∈k.l) (hcu:p.x=k.cu) (hh:homeOf k.l lab=none) (ndl:@Ne Nat k.dc p.ld)
    (ret:∀ h' tk o' (y:Nat) t1 t2,Keep [p.ld] s.heap h'→h'.get? p.ld=some o'→o'.IsDictOf (PySem.strKind PG w) (stored p.lb lab (.ref y))→s.heap.get? y=none→h'.get? y=some (tupO [.int p.ps.length t1,.int 0 t2])→R (.ok (.ret .none)) { s with heap:=h',toks:=tk }) :
    codeAny (model PG w) (Ar dp un fr gd) (.call (.ref 860) ⟨[.ref k.xc,.ref st],[]⟩) R s:=zp (by simp(disch:=k_dflt(
  refine hst.el fun dx n' w1 w2 w3 w4 w5 z1 z2=>?_
  have z3:=z1.1
  have z4:=z2.1
  refine' Yd [] [(Str.ofString "self",.ref k.xc),(Str.ofString "statement",.ref st)] c ?kf ?k6 ?k7 ?eb ?es ?k8 ?k9 ?kB ?c5 ?c2 ?c3 ?c4 ?_
  k_extra "e0"
  have b1:=kp _ _ (by simp) K.oi.1
  have b2:=kp _ _ (by simp) K.odc.1
  have b3:=kp _ _ (by simp) z3
  have b4:=kp _ _ (by simp) z4
  k_steps
  k_extra "n"
  have eS:=Yg kp F rfl
  have cN:=cg.step F.keep
  have eB:=cN.ext
  refine wpAny_call (label_spec cN (by omega) (by omega) (by exact K.ext eS) hp hcu hh ndl fun g2 tk2 o' y u5 u6 k2 q2 d2 f2 q3=>?_)
  clear F N cN eB
  try dsimp only
  k_steps
  exact ret _ _ o' y _ _ (fun b o nb q=>k2 b o nb (eS b o q)) q2 d2 (Yf eS f2) q3))only[↓zq])
section
variable {M:Model} {h:Heap} {g:Array GenState} {d:Drawn} {t:Nat} {os:OsState} {A:Around} {E:Value→Shared→Prop}
variable {nm q:Str} {C N:Addr} {bs bm:List Value} {hdct:Bool} {sn:List Str} {sub:List Value} {ab:Bool} {col:Option Bool} {dd:Option Addr} {k0 k1 k2 k3 k5:Option Value} {newId:String}
variable {nm' q':Str} {C' N':Addr} {bs' bm':List Value} {hdct':Bool} {sn':List Str} {sub':List Value} {ab':Bool} {col':Option Bool} {dd':Option Addr} {k0' k1' k2' k3' k5':Option Value} {newId':String}
theorem excMatches_miss {e:Addr} {oe:Obj} {Q:Bool→Shared→Prop} (hC:h.get? C=some (excClassObj nm q C N bs bm hdct sn sub ab col dd k0 k1 k2 k3 k5 newId)) (hC':h.get? C'=some (excClassObj nm' q' C' N' bs' bm' hdct' sn' sub' ab' col' dd' k0' k1' k2' k3' k5' newId'))
    (he:h.get? e=some oe) (hcls:oe.cls=.ref C) (hbase:(Value.ref C'::bm').contains (.type "BaseException")=true) (hno:(Value.ref C::bm).contains (.ref C')=false)
    (hq:Q false ⟨h,g,d,t,os⟩):wpAny M A (excMatches (.ref e) (.ref C')) Q E ⟨h,g,d,t,os⟩:=by
  have f:=tc_notTuple
  unfold excMatches
  repeat (first | (with_reducible refine wpAny_loadPart_at he ?_;rw [hcls]) | with_reducible refine wpAny_loadPart_at hC' ?_ | (with_reducible refine wpAny_isSubtype_exc hC' ?_;rw [hbase]) | (with_reducible refine wpAny_isSubtype_exc hC ?_;rw [hno]) | wp_step)
  exact hq
theorem excMatches_hit {e:Addr} {oe:Obj} {Q:Bool→Shared→Prop} (hC:h.get? C=some (excClassObj nm q C N bs bm hdct sn sub ab col dd k0 k1 k2 k3 k5 newId))
    (he:h.get? e=some oe) (hcls:oe.cls=.ref C) (hbase:bm.contains (.type "BaseException")=true)
    (hq:Q true ⟨h,g,d,t,os⟩):wpAny M A (excMatches (.ref e) (.ref C)) Q E ⟨h,g,d,t,os⟩:=wpAny_excMatches_sub_self hC he hcls hbase hq
end
theorem match_83_83 {A:Around} {e:Nat} {oe:Obj} {Q:Bool→Shared→Prop} {E:Value→Shared→Prop} (X:(Mine.H.K w.params).In s.heap) (he:s.heap.get? e=some oe) (hc:oe.cls=.ref 83) (hq:Q true s):wpAny (model PG w) A (excMatches (.ref e) (.ref 83)) Q E s:=by
  have hC:=X _ _ (show (Mine.H.K w.params).lookup 83=some Mine.H.o83 from rfl)
  obtain ⟨hp,g,d,tk,os⟩:=s
  exact excMatches_hit (nm:=Mine.H.z33) (q:=Mine.H.z33) (C:=83) (bm:=[.ref 46,.type "Exception",.type "BaseException",.type "object"]) hC he hc (by decide +kernel) hq
theorem match_95_83 {A:Around} {e:Nat} {oe:Obj} {Q:Bool→Shared→Prop} {E:Value→Shared→Prop} (X:(Mine.H.K w.params).In s.heap) (he:s.heap.get? e=some oe) (hc:oe.cls=.ref 95) (hq:Q false s):wpAny (model PG w) A (excMatches (.ref e) (.ref 83)) Q E s:=by
  have hC:=X _ _ (show (Mine.H.K w.params).lookup 83=some Mine.H.o83 from rfl)
  have hD:=X _ _ (show (Mine.H.K w.params).lookup 95=some Mine.H.o95 from rfl)
  obtain ⟨hp,g,d,tk,os⟩:=s
  exact excMatches_miss (nm:=Mine.H.z34) (q:=Mine.H.z34) (C:=95) (bm:=[.ref 46,.type "Exception",.type "BaseException",.type "object"]) (nm':=Mine.H.z33) (q':=Mine.H.z33) (C':=83) (bm':=[.ref 46,.type "Exception",.type "BaseException",.type "object"]) hD hC he hc (by decide +kernel) (by decide +kernel) hq
theorem match_95_95 {A:Around} {e:Nat} {oe:Obj} {Q:Bool→Shared→Prop} {E:Value→Shared→Prop} (X:(Mine.H.K w.params).In s.heap) (he:s.heap.get? e=some oe) (hc:oe.cls=.ref 95) (hq:Q true s):wpAny (model PG w) A (excMatches (.ref e) (.ref 95)) Q E s:=by
  have hC:=X _ _ (show (Mine.H.K w.params).lookup 95=some Mine.H.o95 from rfl)
  obtain ⟨hp,g,d,tk,os⟩:=s
  exact excMatches_hit (nm:=Mine.H.z34) (q:=Mine.H.z34) (C:=95) (bm:=[.ref 46,.type "Exception",.type "BaseException",.type "object"]) hC he hc (by decide +kernel) hq
theorem taken {A:Around} {hX:Heap} {outer:List Env} {C e L a:Nat} {name:Str} {scope:Scope} {cd:Value} {hs:List ExceptHandler} {Q:Flow→Shared→Prop} {E:Value→Shared→Prop} {s':Shared} (hst:A.frames=some (envOf name scope L a cd::outer)) (hfl:Fly hX (envOf name scope L a cd::outer) C e s'.heap)
    (k:∀ h5,Fly hX (envOf name scope L a cd::outer) C e h5→s'.heap.UpToSlots h5→wpAny (model PG w) A (handleBy (.ref e) (envOf name scope L a cd) hs) Q E { s' with heap:=h5 }) :
    wpAny (model PG w) A (noteFrame (.ref e) (envOf name scope L a cd)) (fun _ s₂=>wpAny (model PG w) A (setFlight (.ref e) none) (fun _ s₃=>wpAny (model PG w) A (handleBy (.ref e) (envOf name scope L a cd) hs) Q E s₃) E s₂) E s':=by
  obtain ⟨a0,hfl⟩:=hfl
  refine wpAny_looks_onW hst rfl hfl fun h₄ hheld₄ hsm₄=>?_
  exact wpAny_landsW hheld₄ fun h₅ hheld hsm₅=>k h₅ ⟨a0,hheld⟩ (hsm₄.trans hsm₅)
theorem clause_hit {A:Around} {g hX:Heap} {l:List Env} {C e L a:Nat} {name:Str} {scope:Scope} {cd:Value} {m:Str→Option Value} {x:Str} {np pos:Pos} {b₀:Stmt} {suite:List Stmt} {rest:List ExceptHandler} {Q:Flow→Shared→Prop} {s':Shared}
    (F:Fr g L s'.heap m) (X:(Mine.H.K w.params).In g) (T:TopRead Mine.H.q1 lse mg mb g) (hfl:Fly hX l C e s'.heap)
    (ex:nsIn (Mine.H.K w.params) mainGlobals x=some (some (.ref C)))
    (hm:∀ {A:Around} {oe:Obj} {Q:Bool→Shared→Prop} {E:Value→Shared→Prop},s'.heap.get? e=some oe→oe.cls=.ref C→Q true s'→wpAny (model PG w) A (excMatches (.ref e) (.ref C)) Q E s')
    (k:∀ h6,Fly hX l C e h6→s'.heap.UpToSlots h6→wpAny (model PG w) (A.mark (some (.ref e))) (execs (b₀::suite) (envOf name scope L a cd)) Q (fun _ _=>False) { s' with heap:=h6 })
    (hk:scope.kind=.function:=by rfl) (hx:(envOf name scope L a cd).kindOf x=some .globalImplicit:=by rfl) (hd:(x == ("__debug__" : Str))=false:=by decide) :
    wpAny (model PG w) A (handleBy (.ref e) (envOf name scope L a cd) (.ExceptHandler (some (.Name x np)) none (b₀::suite) pos::rest)) Q (fun _ _=>False) s':=zp (by simp(disch:=k_dflt(
  refine wpAny_handleBy_cons (codeAny_handlers_test (name_K F X T ex ?_ hk hx hd)) (by intro q;cases q)
  refine absG fun _ kQ=>?_
  obtain ⟨a0,hfl⟩:=hfl
  obtain ⟨ob,hob,hobc⟩:=hfl.there
  refine kQ ?_
  clear kQ
  refine hm hob hobc (codeAny_handlers_suite ?_)
  refine lands_againW hfl fun h₆ hfl₆ hsm₆=>?_
  exact wpAny_passesOwnAt PassesOwnAt.never (k h₆ ⟨a0,hfl₆⟩ hsm₆)))only[↓zq])
theorem clause_miss {A:Around} {g hX:Heap} {l:List Env} {C C' e L a:Nat} {name:Str} {scope:Scope} {cd:Value} {m:Str→Option Value} {x:Str} {np pos:Pos} {b₀:Stmt} {suite:List Stmt} {rest:List ExceptHandler} {Q:Flow→Shared→Prop} {E:Value→Shared→Prop} {s':Shared}
    (F:Fr g L s'.heap m) (X:(Mine.H.K w.params).In g) (T:TopRead Mine.H.q1 lse mg mb g) (hfl:Fly hX l C e s'.heap)
    (ex:nsIn (Mine.H.K w.params) mainGlobals x=some (some (.ref C')))
    (hm:∀ {A:Around} {oe:Obj} {Q:Bool→Shared→Prop} {E:Value→Shared→Prop},s'.heap.get? e=some oe→oe.cls=.ref C→Q false s'→wpAny (model PG w) A (excMatches (.ref e) (.ref C')) Q E s')
    (k:wpAny (model PG w) A (handleBy (.ref e) (envOf name scope L a cd) rest) Q E s')
    (hk:scope.kind=.function:=by rfl) (hx:(envOf name scope L a cd).kindOf x=some .globalImplicit:=by rfl) (hd:(x == ("__debug__" : Str))=false:=by decide) :
    wpAny (model PG w) A (handleBy (.ref e) (envOf name scope L a cd) (.ExceptHandler (some (.Name x np)) none (b₀::suite) pos::rest)) Q E s':=by
  refine wpAny_handleBy_cons (codeAny_handlers_test (name_K F X T ex ?_ hk hx hd)) (by intro q;cases q)
  obtain ⟨a0,hfl⟩:=hfl
  obtain ⟨ob,hob,hobc⟩:=hfl.there
  exact hm hob hobc k
theorem enterC0 {w:World} {lse:List Str} {mg mb:Str→Option Value} {hB:Heap} {dp un:Nat} {fr:Option (List Env)} {gd:Option (List Code)} {R:Result→Shared→Prop} {s:Shared} (foot:List (Addr×Obj)) (binds:List (Str×Value))
    {name qual:Str} {params:Arguments} {body B:List Stmt} {scope Sc:Scope} {dV kV doc pm cdv ct oc:Value} {an od:Option Addr} {osl:Array (Option Value)} {f:Addr} {args:Args}
    (c:Cx w lse mg mb hB s.heap) (hfo:FootOk hB s.heap foot)
    (ho:(Mine.H.K w.params).lookup f=some ⟨oc,od,.func (fnOf name qual params B Sc dV kV doc pm an cdv ct),osl⟩) (hcd:codeIn (Mine.H.K w.params) cdv qual=true)
    (hbody:B=body) (hscope:Sc=scope)
    (hroom:dp<recursionLimit) (hbind:BindsTo s (fnOf name qual params body scope dV kV doc pm an cdv ct) args binds)
    (hkind:(binds.all fun y=>scope.names.lookup y.1 == some .local || scope.names.lookup y.1 == some .cell)=true) (hnd:((cellsFrom 0 scope.names []).map (·.1)).Nodup)
    (hco:scope.isCoroutine=false) (hgen:scope.isGenerator=false) (hk:scope.kind=.function)
    (h:∀ g L' h₁ tk fr' cells,FootOk hB s.heap foot→Cx w lse mg mb hB g→Keep (foot.map (·.1)) s.heap g→Ext g s.heap→s.heap.get? L'=none →
      Fr g L' h₁ (bindL (envOfC qual scope L' f cdv).kindOf binds fun _=>none)→News g L' h₁ (cells++foot)→CellsAre (bindC (envOfC qual scope L' f cdv).kindOf binds fun _=>none) (cellsFrom (L'+1) scope.names []) cells→(Mine.H.K w.params).In g→TopRead Mine.H.q1 lse mg mb g→(∀ p∈foot,@LT.lt Nat _ p.1 L') →
      wpAny (model Mine.H.PG w) (Ar (dp+1) (un+3) fr' gd) (execs body (envOfC qual scope L' f cdv))
        (fun fl s'=>R (.ok (.ret (match fl with | .ret v=>v | _=>.none))) s') (fun _ _=>False) { s with heap:=h₁,toks:=tk }) :
    codeAny (model Mine.H.PG w) (Ar dp un fr gd) (.call (.ref f) args) R s:=zp (by simp(disch:=k_dflt(
  have X:=c.kin'
  subst hbody hscope
  have hfoot:=footOk hfo
  have kp:Keep (foot.map (·.1)) s.heap (hideAll s.heap (foot.map (·.1))):=fun b o n e=>hideAll_get _ e n
  have nB:∀ k∈foot.map (·.1),hB.get? k=none:=fun k hk=>by
    obtain ⟨p,hp,rfl⟩:=List.mem_map.mp hk
    exact (hfoot p hp).2
  have c':=c.but kp nB
  refine codeAny_call_function hroom (X _ _ ho) rfl hco hgen rfl (codeRec_of X hcd) (hbind _ _ _ _ ?_)
  refine wpAny_newFunctionEnv_cells hk (kindsX hkind _) fun env' he s' x=>?_
  subst he
  refine ⟨(c.top'.nolimit).keeps x.toInCall.keep,codeAny_func ?_⟩
  refine absG fun _ kQ=>?_
  obtain ⟨h₁,tk,rfl,_⟩:=x.done
  refine kQ ?_
  clear kQ
  have hk₁:=x.toInCall.keep
  obtain ⟨cells,NC,Y⟩:=Cl.news (h₀:=s.heap) (Nat.le_refl _) fun n c hm=>⟨x.cell n c (lookup_of_mem_nodup (cellsFrom_names Sc.names 0 (s.heap.objs.size+1) [] [] rfl ▸ hnd) hm),x.above n c hm⟩
  refine wpAny_mono (h _ s.heap.objs.size h₁ tk _ cells hfo c' kp (fun b o e=>of_hideAll _ e) (by
      cases q:s.heap.get? s.heap.objs.size with
      | none=>rfl
      | some o=>exact absurd (Heap.lt_size q) (Nat.lt_irrefl _)) ⟨x.toInCall.ns,fun b o e=>hk₁ b o (of_hideAll _ e),Nat.le_of_eq (hideAll_size _ _)⟩ (fun p hp=>?_) Y c'.kin' c'.top' (fun p hp=>Heap.lt_size (hfoot p hp).1)) (fun _ _ x=>x) fun _ _ x=>x.elim
  rcases List.mem_append.mp hp with hp | hp
  · refine ⟨(NC p hp).1,(NC p hp).2.1,?_⟩
    cases q:(hideAll s.heap (foot.map (·.1))).get? p.1 with
    | none=>rfl
    | some o=>have:=of_hideAll _ q;rw [(NC p hp).2.2] at this;cases this
  · exact ⟨hk₁ _ _ (hfoot p hp).1,Nat.ne_of_lt (Heap.lt_size (hfoot p hp).1),hideAll_none _ (List.mem_map_of_mem hp)⟩))only[↓zq])
theorem solve_end {R:Result→Shared→Prop} {g h':Heap} {L:Addr} {al d tk:Nat} {o:Obj} {news:List (Addr×Obj)} (ret:∀ (x:Nat) h' tk (o:Obj),Ext s.heap h'→s.heap.get? x=none→h'.get? x=some o→o.IsDictOf (PySem.strKind PG w) []→(@BEq.beq Addr _ x sysModules)=false→R (.ok (.ret (.ref x))) { s with heap:=h',toks:=tk })
    (N:News g L h' news) (hm:(d,o)∈news) (hdict:o.IsDictOf (PySem.strKind PG w) []) (hlo:(@BEq.beq Addr _ d sysModules)=false) (kp:Keep [al] s.heap g) (kq:Keep [] s.heap h') (lt:@LT.lt Nat _ al d):R (.ok (.ret (.ref d))) { s with heap:=h',toks:=tk } :=
  ret d h' tk o kq.ext (Yh kp (N _ hm).2.2 (not1 (show @Ne Nat al d by k_ne))) (N.get hm) hdict hlo
theorem solve_spec {al na:Nat} {R} (c:Cx w lse mg mb hB s.heap) (hd:dp≤750) (hu:un≤4500) (hal:Own hB s.heap al (lst [] na))
    (ret:∀ (x:Nat) h' tk (o:Obj),Ext s.heap h'→s.heap.get? x=none→h'.get? x=some o→o.IsDictOf (PySem.strKind PG w) []→(@BEq.beq Addr _ x sysModules)=false→R (.ok (.ret (.ref x))) { s with heap:=h',toks:=tk }) :
    codeAny (model PG w) (Ar dp un fr gd) (.call (.ref 537) ⟨[.ref al],[]⟩) R s:=zp (by simp(disch:=k_dflt(
  refine' enterC0 [(al,lst [] na)] [(Str.ofString "rows",.ref al)] c ?kf ?k6 ?k7 ?eb ?es ?k8 ?k9 ?kB ?kN ?c2 ?c3 ?c4 ?_
  case kf=>k_extra "kf"
  case k6=>k_dflt k_is
  case k7=>kernel_rfl!
  case eb=>(conv=>lhs;whnf)
  case es=>(conv=>lhs;whnf)
  case k8=>(simp only [recursionLimit];omega)
  case k9=>first | exact BindsTo.of_eq rfl | exact binds_K (Cx.kin' c) rfl (by k_dflt k_is) rfl rfl rfl
  case kB=>exact rfl
  case kN=>decide
  case c2=>exact rfl
  case c3=>exact rfl
  case c4=>exact rfl
  intro g L' h₁ tk fr' cells hfo cg kp sub fresh F N Y X T lt0
  refine absG fun _ kQ=>?_
  obtain ⟨o1,o2,rfl,hc1,hc2⟩:=CellsAre.two Y
  refine kQ ?_
  clear kQ
  have lt1:=lt0 _ (.head _)
  simp only [List.cons_append,List.nil_append] at N
  (try dsimp only)
  (try k_fold)
  k_steps
  all_goals try (rename (_∈([]:List _))=>hq;exact nomatch hq)
  try dsimp only
  k_extra "n"
  have kq:=kqo (ks:=[]) kp F N hfo (by k_extra "q")
  (rename (Obj.IsDictOf (PySem.strKind _ _) _ [])=>hdict)
  (rename ((_ == sysModules)=false)=>hlo)
  refine' solve_end (al:=al) ret N ?hm hdict hlo kp kq ?lt
  case hm=>k_mem
  case lt=>omega))only[↓zq])
theorem row17:True:=by
  k_with ".exec For Name Attribute cons nil" => ((fail_if_success have:=@off12);(k_here;(with_unfolding_all refine' For_turns (by k_asm) ?_;k_whole)))
  trivial
def Apart (a b:Nat):Prop:=a≠b
theorem Apart.ne {a b:Nat} (h:Apart a b):@Ne Nat a b:=h
theorem apartN {g h:Heap} {L:Addr} {a b:Nat} {o:Obj} {news:List (Addr×Obj)} (N:News g L h news) (hm:((a:Addr),o)∈news) (n:h.get? b=none):Apart a b:=Yi (N _ hm).1 n
def AllAp (b:Nat):List (Addr×Obj)→Prop
  | []=>True
  | p::r=>Apart p.1 b∧AllAp b r
theorem apAll {g h:Heap} {L:Addr} {b:Nat} {news:List (Addr×Obj)} (N:News g L h news) (n:h.get? b=none):AllAp b news:=by
  induction news with
  | nil=>trivial
  | cons p r ih=>exact ⟨Yi (N p (.head _)).1 n,ih fun q hq=>N q (.tail _ hq)⟩
theorem newsSet2 {g h h':Heap} {L d1 d2:Addr} {o1 o2 o1' o2':Obj} {e1 e2:Addr×Obj} {rest:List (Addr×Obj)} (N:News g L h (e1::e2::(d1,o1)::(d2,o2)::rest)) (k:Keep [d1,d2] h h') (g1:h'.get? d1=some o1') (g2:h'.get? d2=some o2')
    (f1:∀ p∈e1::e2::rest,p.1≠d1) (f2:∀ p∈e1::e2::rest,p.1≠d2):News g L h' ((d1,o1')::(d2,o2')::e1::e2::rest):=fun p hp=>by
  rcases List.mem_cons.mp hp with rfl | hp
  · exact ⟨g1,(N (d1,o1) (.tail _ (.tail _ (.head _)))).2⟩
  · rcases List.mem_cons.mp hp with rfl | hp
    · exact ⟨g2,(N (d2,o2) (.tail _ (.tail _ (.tail _ (.head _))))).2⟩
    · have hm:p∈e1::e2::(d1,o1)::(d2,o2)::rest:=by
        rcases List.mem_cons.mp hp with rfl | hp
        · exact .head _
        · rcases List.mem_cons.mp hp with rfl | hp
          · exact .tail _ (.head _)
          · exact .tail _ (.tail _ (.tail _ (.tail _ hp)))
      refine ⟨k _ _ (fun q=>?_) (N p hm).1,(N p hm).2⟩
      rcases List.mem_cons.mp q with q | q
      · exact f1 p hp q
      · exact f2 p hp (List.mem_singleton.mp q)
theorem frSet2 {g h h':Heap} {L d1 d2:Addr} {m:Str→Option Value} {o1 o2:Obj} {news:List (Addr×Obj)} (F:Fr g L h m) (N:News g L h news) (h1:(d1,o1)∈news) (h2:(d2,o2)∈news) (k:Keep [d1,d2] h h'):Fr g L h' m :=
  frBut F k fun a ha=>by
    rcases List.mem_cons.mp ha with e | ha
    · rw [e];exact (N _ h1).2
    · rw [List.mem_singleton.mp ha];exact (N _ h2).2
theorem yab {a b x:Nat} {R:Prop} (_:Apart x b∧R) (k:Apart a b):Apart a b:=k
theorem late0_M13:True:=by
  k_with "apn" => ((fail_if_success have:=@off12);first | (with_reducible assumption) | ((fail_if_success (fail_if_success (with_reducible refine' yab (by assumption) ?_)));k_extra ".an"))
  k_with "k_ne" => ((fail_if_success have:=@off12);first | ((refine Apart.ne ?_);k_extra "apn") | ((refine Ne.symm (Apart.ne ?_));k_extra "apn"))
  trivial
theorem Cx.grow {h:Heap} (c:Cx w lse mg mb hB h) (ks:List Addr) (hn:∀ k∈ks,hB.get? k=none):Cx w lse mg mb (hideAll h ks) h:=by
  have e:Ext hB (hideAll h ks):=fun b o q=>hideAll_get ks (c.ext b o q) fun m=>by rw [hn b m] at q;cases q
  exact ⟨c.kin.keeps e,c.top.keeps e,fun b o q=>of_hideAll _ q⟩
theorem ownHide {h:Heap} {ks:List Addr} {a:Addr} {o:Obj} (e:h.get? a=some o) (hm:a∈ks):Own (hideAll h ks) h a o:=⟨e,hideAll_none ks hm⟩
noncomputable def muts (w:World) (k:CS):List (Addr×Obj) :=
  (k.xc,instObj 961 k.dc)::(k.dc,cD w k)::(k.sd,k.od)::(k.nl,lst (List.zipWith (fun s t=>Value.str s.name t) k.l k.ts) k.nn) ::
    k.l.flatMap fun p=>[(p.pl,lst p.ps p.n),(p.ld,p.o)]
structure Imm (w:World) (hh:Heap) (k:CS):Prop where
  prog:ProgAt w hh k.xp k.sd k.nl k.ep
  eqs:DAt w hh k.ep []
  sc:ScopeAt w h0 hh k.sc k.ed
  eq:DAt w hh k.ed []
  secs:∀ p∈k.l,SecAt w hh p.x p.name p.pl p.ld∧Pcs w hh p.ps p.ws∧∀ lab y i,Yu p.lps lab=some (y,i)→i≤p.ps.length∧∃ t1 t2,hh.get? y=some (tupO [.int i t1,.int 0 t2])
structure Ok0 (w:World) (k:CS) (T:List (Addr×Obj)):Prop where
  dj:∀ m∈muts w k,∀ i∈T,@Ne Nat m.1 i.1
  nd:((muts w k).map (·.1)).Nodup
  imm:∀ hh:Heap,(∀ q∈T,hh.get? q.1=some q.2)→Imm w hh k
  dsd:k.od.IsDictOf (PySem.strKind PG w) (Yt k.l)
  lod:(@BEq.beq Addr _ k.sd sysModules)=false
  tl:k.ts.length=k.l.length
  nm:(k.l.map (·.name)).Nodup
  ln:1≤k.l.length∧k.l.length≤3
  sc:∀ p∈k.l,p.o.IsDictOf (PySem.strKind PG w) p.lb∧(@BEq.beq Addr _ p.ld sysModules)=false∧p.ps.length≤1000∧p.lps.length≤1000
  cur:∃ p∈k.l,p.x=k.cu
theorem freshN {g h1 h9:Heap} {L:Addr} {x dx al a:Nat} {o:Obj} {news:List (Addr×Obj)} (N:News g L h9 news) (kp:Keep [x,dx,al] h1 g) (e1:Ext s.heap h1) (hm:((a:Addr),o)∈news) (ax:Apart x a) (adx:Apart dx a) (aal:Apart al a):s.heap.get? a=none∧h9.get? a=some o :=
  ⟨Yf e1 (Yh kp (N _ hm).2.2 (not3 (Apart.ne ax) (Apart.ne adx) (Apart.ne aal))),(N _ hm).1⟩
theorem new_Collector {al na:Nat} {R} (c:Cx w lse mg mb hB s.heap) (hd:dp≤680) (hu:un≤3400) (hal:Own hB s.heap al (lst [] na))
    (ret:∀ (k:CS) (T:List (Addr×Obj)) (xs pl ld:Nat) (o1:Obj) h' tk,Ext s.heap h'→(∀ q∈muts w k++T,s.heap.get? q.1=none∧h'.get? q.1=some q.2)→Ok0 w k T→k.l=[⟨Str.ofString ".text",xs,pl,ld,o1,[],[],[],0⟩]→k.cu=xs→R (.ok (.ret (.ref k.xc))) { s with heap:=h',toks:=tk }) :
    codeAny (model PG w) (Ar dp un fr gd) (.call (.ref 961) ⟨[.ref al],[]⟩) R s:=zp (by simp(disch:=k_dflt(
  have hal0:=hal
  refine make c (by k_dflt k_is) (by k_dflt k_is) (by k_dflt k_is) ?_
  intro x dx h₁ e1 n1 n2 o1 o2 hne
  replace hne:@Ne Nat dx x:=hne
  have c0:=c
  replace c:=c.step e1
  replace hal:=hal.ext e1
  have ne1:Apart al x:=Yi hal0.1 n1
  have ne2:Apart al dx:=Yi hal0.1 n2
  replace hne:Apart dx x:=hne
  refine' Yd [(x,instObj 961 dx),(dx,dictOf [] 0),(al,lst [] na)] [(Str.ofString "self",.ref x),(Str.ofString "statements",.ref al)] c ?kf ?k6 ?k7 ?eb ?es ?k8 ?k9 ?kB ?c5 ?c2 ?c3 ?c4 ?_
  k_extra "e0"
  k_steps
  k_extra "n"
  refine wpAny_call (new_Program (cg.step F.keep) (by omega) (by omega) fun xp dxp sd nl ep gl od oe np t1 t2 t3 t4 g2 tk2 e2 m1 m2 m3 m4 m5 hne3 q1 q2 q3 q4 q5 q6 q7 q8 q9=>?_)
  have z1:=apAll N m1
  dsimp only [AllAp] at z1
  have z2:=apAll N m2
  dsimp only [AllAp] at z2
  have z3:=apAll N m3
  dsimp only [AllAp] at z3
  have z4:=apAll N m4
  dsimp only [AllAp] at z4
  have z5:=apAll N m5
  dsimp only [AllAp] at z5
  refine absG fun _ kQ=>?_
  obtain ⟨r1,r2,r3,r4,r5,r6,r7⟩:=hne3
  refine kQ ?_
  clear kQ
  replace r1:Apart sd xp:=r1
  replace r2:Apart sd dxp:=r2
  replace r3:Apart sd nl:=r3
  replace r4:Apart sd ep:=r4
  replace r5:Apart nl xp:=r5
  replace r6:Apart nl dxp:=r6
  replace r7:Apart nl ep:=r7
  k_extra "n"
  have N9:=Ya N e2
  replace N9:=Yb F N9 m5 q7
  replace N9:=Yb F N9 m4 q6
  replace N9:=Yb F N9 m3 q3
  replace N9:=Yb F N9 m2 q2
  replace N9:=Yb F N9 m1 q1
  replace F:=Ye F e2
  clear N
  (rename News _ _ _ _=>N)
  try dsimp only
  k_steps
  k_extra "n"
  have hks:∀ b∈[(sd:Addr),nl],hB.get? b=none:=fun b hb=>by
    rcases List.mem_cons.mp hb with e | hb
    · rw [e];exact (Yv cg N (show (sd,od)∈_ by k_mem)).2
    · rw [List.mem_singleton.mp hb];exact (Yv cg N (show (nl,lst [] 0)∈_ by k_mem)).2
  refine wpAny_call (section_new (x:=xp) (Cx.grow (cg.step F.keep) [sd,nl] hks) (by omega) (by omega)
    (by exact ⟨dxp,np,gl,t1,t2,t3,t4,hideAll_get _ (N.get (by k_mem)) (not2 (Apart.ne r1) (Apart.ne r5)),hideAll_get _ (N.get (by k_mem)) (not2 (Apart.ne r2) (Apart.ne r6))⟩)
    (by exact ownHide (N.get (by k_mem)) (.head _)) q5 q4 (by simp) (by rfl) (by exact ownHide (N.get (by k_mem)) (.tail _ (.head _))) (by simp) (Apart.ne r3) (fun x'=>by rfl)
    fun xs dxs pl ld o1 o' n' u1 u2 u3 ua u8 g3 tk3 k3 j1 j2 j3 j4 hne4 p1 p2 p3 p4 p5 p6 p7 p8 p9=>?_)
  refine absG fun _ kQ=>?_
  obtain ⟨r8,r9,r10,r11,r12,r13⟩:=hne4
  refine kQ ?_
  clear kQ
  replace r8:Apart xs pl:=r8
  replace r9:Apart xs ld:=r9
  replace r10:Apart dxs pl:=r10
  replace r11:Apart dxs ld:=r11
  replace r12:Apart pl ld:=r12
  replace r13:Apart dxs xs:=r13
  have z6:=apAll N j1
  dsimp only [AllAp] at z6
  have z7:=apAll N j2
  dsimp only [AllAp] at z7
  have z8:=apAll N j3
  dsimp only [AllAp] at z8
  have z9:=apAll N j4
  dsimp only [AllAp] at z9
  have F0:=F
  have N0:=N
  have N1:=newsSet2 N0 k3 p7 p9 (by k_all) (by k_all)
  have N2:=Yb F0 (Yb F0 (Yb F0 (Yb F0 N1 j4 p4) j3 p3) j2 p2) j1 p1
  replace F:=frSet2 F0 N0 (by k_mem) (by k_mem) k3
  clear N N1 N0 F0
  have N:=N2
  clear N2
  try dsimp only
  k_steps
  k_extra "n"
  rename_i rl gg tkk oo
  have zr:Apart dx rl:=oo.2.2.2.2.2.2.2.2.2.2.1
  clear oo
  refine wpAny_call (solve_spec (al:=rl) (cg.step F.keep) (by omega) (by omega) (by exact Yv cg N (by k_mem)) fun eqd g5 tk5 oq e5 i1 i2 i3 i4=>?_)
  have z10:=apAll N i1
  dsimp only [AllAp] at z10
  k_extra "n"
  have N9:=Ya N e5
  replace N9:=Yb F N9 i1 i2
  replace F:=Ye F e5
  clear N
  (rename News _ _ _ _=>N)
  try dsimp only
  k_steps
  k_extra "n"
  refine wpAny_call (new_Scope (d:=eqd) (cg.step F.keep) (by omega) fun sx g6 tk6 e6 m6 a6=>?_)
  refine absG fun _ kQ=>?_
  obtain ⟨dsx,nsx,w1,b1,b2⟩:=a6
  refine kQ ?_
  clear kQ
  have z11:=apAll N b1.2
  dsimp only [AllAp] at z11
  have z12:=apAll N b2.2
  dsimp only [AllAp] at z12
  k_extra "n"
  have N9:=Ya N e6
  replace N9:=Yb F N9 b2.2 b2.1
  replace N9:=Yb F N9 b1.2 b1.1
  replace F:=Ye F e6
  clear N
  (rename News _ _ _ _=>N)
  try dsimp only
  k_steps
  k_extra "n"
  refine kti_keys (knd:=PySem.strKind PG w) (enc:=PyData.str) (D:=[]) rfl F N ?tab (show (eqd,oq)∈_ by k_mem) (fun _ _ h=>Value.isStrOf_shape h) rfl fun I l1=>?_
  case tab=>exact ⟨i4,[],Heap.dictOf_iff.mpr ⟨oq,N.get (by k_mem),i3⟩,.nil⟩
  refine ItemsRest.zero fun h9 tk9 F N=>?_
  k_steps
  obtain ⟨t5,t6,t7,hD⟩:∃ t5 t6 t7,h9.get? dx=some (dictOf [en w "program" t5 (.ref xp),en w "section" t6 (.ref xs),en w "scope" t7 (.ref sx)] 3):=⟨_,_,_,N.get (by k_mem)⟩
  k_extra "n"
  have kq:=kqo (ks:=[dx]) kp F N hfo (by k_extra "q")
  refine ⟨rfl,ret ⟨x,dx,xp,xs,sx,3,eqd,sd,nl,ep,1,t5,t6,t7,o',[u8],[⟨Str.ofString ".text",xs,pl,ld,o1,[],[],[],0⟩]⟩
    [(xp,instObj 830 dxp),(dxp,dictOf [en w "sections" t1 (.ref sd),en w "names" t2 (.ref nl),en w "equates" t3 (.ref ep),en w "globals_" t4 (.ref gl)] np),(ep,oe),(xs,instObj 769 dxs),(dxs,dictOf [en w "name" u1 (.str (Str.ofString ".text") ua),en w "pieces" u2 (.ref pl),en w "labels" u3 (.ref ld)] n'),(sx,instObj 400 dsx),(dsx,dictOf [en w "equates" w1 (.ref eqd)] nsx),(eqd,oq)] xs pl ld o1 h9 _ (Yw e1 kq n2) ?fr ⟨?dj,?nd,?imm,p8,q5,rfl,by simp,by simp,?sc,⟨_,.head _,rfl⟩⟩ rfl rfl⟩
  case fr =>
    refine List.forall_mem_cons.mpr ⟨⟨n1,N.get (by k_mem)⟩,List.forall_mem_cons.mpr ⟨⟨n2,hD⟩,?_⟩⟩
    k_extra "f"
    all_goals exact freshN N kp e1 (by k_mem) (by k_extra ".an") (by k_extra ".an") (by k_extra ".an")
  case dj =>
    k_extra "f"
    all_goals k_ne
  case nd =>
    repeat' (first | exact List.Pairwise.nil | refine List.Pairwise.cons ?_ ?_ | exact List.forall_mem_nil _ | refine List.forall_mem_cons.mpr ⟨?_,?_⟩)
    all_goals k_ne
  case imm =>
    intro hh hx
    have hx':∀ (a:Addr) (o:Obj),(a,o)∈[(xp,instObj 830 dxp),(dxp,dictOf [en w "sections" t1 (.ref sd),en w "names" t2 (.ref nl),en w "equates" t3 (.ref ep),en w "globals_" t4 (.ref gl)] np),(ep,oe),(xs,instObj 769 dxs),(dxs,dictOf [en w "name" u1 (.str (Str.ofString ".text") ua),en w "pieces" u2 (.ref pl),en w "labels" u3 (.ref ld)] n'),(sx,instObj 400 dsx),(dsx,dictOf [en w "equates" w1 (.ref eqd)] nsx),(eqd,oq)]→hh.get? a=some o:=fun a o hm=>hx (a,o) hm
    clear hx
    refine ⟨⟨dxp,np,gl,t1,t2,t3,t4,hx' _ _ (by k_mem),hx' _ _ (by k_mem)⟩,⟨q9,oe,hx' _ _ (by k_mem),q8⟩,⟨dsx,nsx,w1,Yq (hx' sx (instObj 400 dsx) (by k_mem)),Yq (hx' dsx (dictOf [en w "equates" w1 (.ref eqd)] nsx) (by k_mem))⟩,⟨i4,oq,hx' _ _ (by k_mem),i3⟩,fun p hp=>?_⟩
    rw [List.mem_singleton.mp hp]
    exact ⟨⟨dxs,n',u1,u2,u3,ua,hx' _ _ (by k_mem),hx' _ _ (by k_mem)⟩,trivial,fun lab y i e=>by cases e⟩
  case sc =>
    intro p hp
    rw [List.mem_singleton.mp hp]
    exact ⟨p5,p6,by simp,by simp⟩))only[↓zq])
theorem off12:True:=trivial
def IntsL (vs:List Value):Prop:=(∀ v∈vs,∃ i t,v=Value.int i t)∧1≤vs.length∧vs.length≤64
theorem pick_spec {cl n:Nat} {vs:List Value} {many:Int} {tm:Tok} {R} (c:Cx w lse mg mb hB s.heap) (hd:dp≤770) (hu:un≤4900) (hl:Own hB s.heap cl (lst vs n)) (hi:IntsL vs) (hm:0<many)
    (ret:∀ (r:Int) t vs' n' h' tk,0≤r→r<many→Keep [cl] s.heap h'→h'.get? cl=some (lst vs' n')→IntsL vs'→R (.ok (.ret (.int r t))) { s with heap:=h',toks:=tk }) :
    codeAny (model PG w) (Ar dp un fr gd) (.call (.ref 972) ⟨[.ref cl,.int many tm],[]⟩) R s:=by
  obtain ⟨hi1,hi2,hi3⟩:=hi
  obtain ⟨v,vs,rfl⟩:∃ v r,vs=v::r:=by
    cases vs with
    | nil=>simp at hi2
    | cons v r=>exact ⟨v,r,rfl⟩
  obtain ⟨a,ta,rfl⟩:=hi1 _ (.head _)
  cases vs with
  | nil =>
    refine' Yd [(cl,lst [.int a ta] n)] [(Str.ofString "cells",.ref cl),(Str.ofString "many",.int many tm)] c ?kf ?k6 ?k7 ?eb ?es ?k8 ?k9 ?kB ?c5 ?c2 ?c3 ?c4 ?_
    k_extra "e0"
    k_steps
    try dsimp only
    k_extra "n"
    have kq:=kqo (ks:=[cl]) kp F N hfo (by k_extra "q")
    have h9:∀ z:Int,0≤z.fmod many∧z.fmod many<many:=fun z=>by rw [Int.fmod_eq_emod_of_nonneg z (Int.le_of_lt hm)];exact ⟨Int.emod_nonneg z (by omega),Int.emod_lt_of_pos z hm⟩
    exact ret _ _ _ _ _ _ (h9 _).1 (h9 _).2 kq (N.get (by k_mem)) ⟨fun v hv=>⟨_,_,List.mem_singleton.mp hv⟩,by simp,by simp⟩
  | cons v vs =>
    obtain ⟨b,tb,rfl⟩:=hi1 _ (.tail _ (.head _))
    have hvl:vs.length≤62:=by simp at hi3;omega
    refine' Yd [(cl,lst (.int a ta::.int b tb::vs) n)] [(Str.ofString "cells",.ref cl),(Str.ofString "many",.int many tm)] c ?kf ?k6 ?k7 ?eb ?es ?k8 ?k9 ?kB ?c5 ?c2 ?c3 ?c4 ?_
    k_extra "e0"
    k_steps
    all_goals try (exfalso;(rename (¬ _)=>hx9);simp at hx9;omega)
    k_extra "n"
    have hk1:seqIndex? 1 (Value.int a ta::Value.int b tb::vs).toArray.size=some 1:=by simp [seqIndex?];omega
    refine kl_popAt (p:=[.int a ta]) (q:=vs) (y:=.int b tb) F N rfl hk1 rfl (by k_upd) (by simp [sizeLine_eq];omega) fun g2 F N=>?_
    k_steps
    k_extra "n"
    have kq:=kqo (ks:=[cl]) kp F N hfo (by k_extra "q")
    have h9:∀ z:Int,0≤z.fmod many∧z.fmod many<many:=fun z=>by rw [Int.fmod_eq_emod_of_nonneg z (Int.le_of_lt hm)];exact ⟨Int.emod_nonneg z (by omega),Int.emod_lt_of_pos z hm⟩
    exact ret _ _ ([.int a ta]++vs) _ _ _ (h9 _).1 (h9 _).2 kq (N.get (by k_mem)) ⟨fun v hv=>by
      rcases List.mem_cons.mp hv with rfl | hv
      · exact ⟨_,_,rfl⟩
      · exact hi1 v (.tail _ (.tail _ hv)),by simp,by simp;omega⟩
set_option genInjectivity false in
set_option genSizeOf false in
structure Pl where
  lab:Str
  y:Nat
  sec:Str
  ix:Nat
  wl:Nat
noncomputable def plKvs (P:List Pl):List (Str×Value):=P.map fun p=>(p.lab,Value.ref p.y)
noncomputable def Ym (P:List Pl) (k:Str):Option Pl:=P.find? fun p=>p.lab=k
theorem plKvs_at (P:List Pl) (k:Str):valueAt (plKvs P) k=(Ym P k).map fun p=>Value.ref p.y:=by
  unfold plKvs Ym valueAt
  rw [List.find?_map]
  simp [Function.comp_def]
def OV:List Value→List (Option Int)→Prop
  | [],[]=>True
  | v::r,o::ws=>(∃ t,v=oval o t)∧OV r ws
  | _,_=>False
noncomputable def btw (P:List Pl) (W:Str→List (Option Int)) (one other:Str):Option Int :=
  match Ym P one,Ym P other with
  | some p,some q=>if p.sec=q.sec then (if p.ix≤q.ix then sumO (((W p.sec).drop p.ix).take (q.ix - p.ix)) else (sumO (((W p.sec).drop q.ix).take (p.ix - q.ix))).map (0 - ·)) else none
  | _,_=>none
structure PlAt (w:World) (h:Heap) (pd:Nat) (P:List Pl) (W:Str→List (Option Int)):Prop where
  dict:DAt w h pd (plKvs P)
  tup:∀ p∈P,∃ t1 t2,h.get? p.y=some (tupO [.str p.sec t1,.int p.ix t2,.ref p.wl])
  wid:∀ p∈P,p.ix≤(W p.sec).length∧∃ vs n,h.get? p.wl=some (lst vs n)∧OV vs (W p.sec)∧vs.length≤1000
theorem PlAt.ext {h h':Heap} {pd P W} (a:PlAt w h pd P W) (e:Ext h h'):PlAt w h' pd P W :=
  ⟨a.dict.ext e,fun p hp=>by obtain ⟨t1,t2,q⟩:=a.tup p hp;exact ⟨t1,t2,e _ _ q⟩,fun p hp=>by obtain ⟨i,vs,n,q,r⟩:=a.wid p hp;exact ⟨i,vs,n,e _ _ q,r⟩⟩
noncomputable def isNo:Value→Bool
  | .none=>true
  | _=>false
theorem eqGives_none:MeetsSeq.EqGives .none .none true:=fun _ _ A E s Q h=>by
  unfold eqBool
  refine wpAny_holding ?_
  rw [if_pos (by decide)]
  exact wpAny_bind (wpAny_rule (wpAny_pure h))
theorem eqGives_int_none (a:Int) (t:Tok):MeetsSeq.EqGives (.int a t) .none false:=fun _ _ A E s Q h=>by
  unfold eqBool
  refine wpAny_holding ?_
  rw [if_neg (by simp)]
  exact wpAny_bind (wpAny_mono (PySem.EqNone.eq_int_none (Q:=fun v s'=>v=.bool false∧Q false s') ⟨rfl,h⟩) (fun v s' hv=>by
    obtain ⟨rfl,hq⟩:=hv
    exact wpAny_truthy_bool hq) fun _ _ x=>x)
theorem OV.eqs:∀ {vs ws},OV vs ws→∀ y,y∈vs→MeetsSeq.EqGives y .none (isNo y)
  | [],[],_,_,hy=>nomatch hy
  | v::r,o::ws,⟨⟨t,e⟩,h⟩,y,hy=>by
    rcases List.mem_cons.mp hy with rfl | hy
    · subst e
      cases o with
      | none=>exact eqGives_none
      | some i=>exact eqGives_int_none i t
    · exact OV.eqs h y hy
  | [],_::_,x,_,_=>x.elim
  | _::_,[],x,_,_=>x.elim
theorem OV.any:∀ {vs ws},OV vs ws→vs.any isNo=(sumO ws).isNone
  | [],[],_=>rfl
  | v::r,o::ws,⟨⟨t,e⟩,h⟩=>by
    subst e
    cases o with
    | none=>rfl
    | some i=>simp [sumO,oval,isNo,OV.any h]
  | [],_::_,x=>x.elim
  | _::_,[],x=>x.elim
theorem OV.ints:∀ {vs ws v},OV vs ws→sumO ws=some v→∃ ns,IntsAre vs ns∧ns.sum=v
  | [],[],v,_,e=>⟨[],.nil,by simpa [sumO] using e⟩
  | a::r,o::ws,v,⟨⟨t,q⟩,h⟩,e=>by
    subst q
    cases o with
    | none=>cases e
    | some i =>
      obtain ⟨u,e1,e2⟩:=Option.map_eq_some_iff.mp (show (sumO ws).map (i+·)=some v from e)
      obtain ⟨ns,x,y⟩:=OV.ints h e1
      exact ⟨i::ns,.cons i t x,by rw [List.sum_cons,y];exact e2⟩
  | [],_::_,_,x,_=>x.elim
  | _::_,[],_,x,_=>x.elim
theorem OV.drop:∀ {vs ws} (n:Nat),OV vs ws→OV (vs.drop n) (ws.drop n)
  | _,_,0,h=>h
  | [],[],_+1,_=>trivial
  | _::_,_::_,n+1,⟨_,h⟩=>OV.drop n h
  | [],_::_,_+1,x=>x.elim
  | _::_,[],_+1,x=>x.elim
theorem OV.take:∀ {vs ws} (n:Nat),OV vs ws→OV (vs.take n) (ws.take n)
  | _,_,0,_=>trivial
  | [],[],_+1,_=>trivial
  | _::_,_::_,n+1,⟨q,h⟩=>⟨q,OV.take n h⟩
  | [],_::_,_+1,x=>x.elim
  | _::_,[],_+1,x=>x.elim
theorem OV.len:∀ {vs ws},OV vs ws→vs.length=ws.length
  | [],[],_=>rfl
  | _::_,_::_,⟨_,h⟩=>by simp [OV.len h]
  | [],_::_,x=>x.elim
  | _::_,[],x=>x.elim
theorem in_none {A:Around} {l:Addr} {vs:List Value} {ws} {Q:Value→Shared→Prop} {E:Value→Shared→Prop} (hl:s.heap.IsList l vs.toArray) (ho:OV vs ws) (h:Q (.bool (sumO ws).isNone) s):wpAny (model PG w) A (compareOp .In .none (.ref l)) Q E s :=
  PySem.SeqInW.in_listW isNo (fun y hy=>ho.eqs y (by simpa using hy)) hl (by rw [← Array.any_toList,show vs.toArray.toList=vs from rfl,ho.any];exact h)
theorem pair_of {a b:Nat} {v:List Value} {n:List Int} (hi:IntsAre v n) (e:n.length=0+1+1) (hb:(n.getD (Int.toNat 0) 0=(a:Int)∨n.getD (Int.toNat 0) 0=(b:Int))∧n.getD (Int.toNat 0) 0≤(a:Int)∧n.getD (Int.toNat 0) 0≤(b:Int))
    (ht:(n.getD (Int.toNat 1) 0=(a:Int)∨n.getD (Int.toNat 1) 0=(b:Int))∧(a:Int)≤n.getD (Int.toNat 1) 0∧(b:Int)≤n.getD (Int.toNat 1) 0):∃ (lo hi:Nat) (t1 t2:Tok),v=[.int (lo:Int) t1,.int (hi:Int) t2]∧((a≤b∧lo=a∧hi=b)∨(¬ a≤b∧lo=b∧hi=a)):=by
  match n,e with
  | [x,y],_ =>
    cases hi with
    | cons k t r=>cases r with
      | cons k' t' r'=>cases r' with
        | nil =>
          simp at hb ht
          by_cases h:a≤b
          · have h1:x=(a:Int):=by omega
            have h2:y=(b:Int):=by omega
            exact ⟨a,b,t,t',by rw [h1,h2],.inl ⟨h,rfl,rfl⟩⟩
          · have h1:x=(b:Int):=by omega
            have h2:y=(a:Int):=by omega
            exact ⟨b,a,t,t',by rw [h1,h2],.inr ⟨h,rfl,rfl⟩⟩
theorem late0_M15:True:=by
  k_with ".subscriptTail Subscript" => ((fail_if_success have:=@off13);(k_here;(with_reducible show wpAny _ _ (subscriptTail _ _ (Value.ref _) (Value.int _ _)) _ _ _);k_dflt (refine kba_turn (value':=PySem.Expr.Name (PySem.Str.ofString "_") ⟨0,0,0,0⟩) (fun _=>rfl) ?_);k_dflt (refine item_tupleL (by first | assumption | exact Fr.tup (by assumption) (by assumption) | exact News.isTup (by assumption) (by first | exact .head _ | exact .tail _ (.head _) | exact .tail _ (.tail _ (.head _)) | exact .tail _ (.tail _ (.tail _ (.head _))))) (by first | decide | omega) (by first | decide | omega) (by first | rfl | decide) (by first | rfl | simp) ?_)))
  trivial
theorem btw_n1 {P:List Pl} {W:Str→List (Option Int)} {one other:Str} (h:Ym P one=none):btw P W one other=none:=by unfold btw;rw [h]
theorem btw_n2 {P:List Pl} {W:Str→List (Option Int)} {one other:Str} (h:Ym P other=none):btw P W one other=none:=by unfold btw;rw [h];cases Ym P one <;> rfl
theorem btw_ne {P:List Pl} {W:Str→List (Option Int)} {one other:Str} {p q:Pl} (h1:Ym P one=some p) (h2:Ym P other=some q) (h:p.sec≠q.sec):btw P W one other=none:=by unfold btw;rw [h1,h2];exact if_neg h
theorem btw_le {P:List Pl} {W:Str→List (Option Int)} {one other:Str} {p q:Pl} (h1:Ym P one=some p) (h2:Ym P other=some q) (h:p.sec=q.sec) (x:p.ix≤q.ix):btw P W one other=sumO (((W p.sec).drop p.ix).take (q.ix - p.ix)):=by unfold btw;rw [h1,h2];exact (if_pos h).trans (if_pos x)
theorem btw_gt {P:List Pl} {W:Str→List (Option Int)} {one other:Str} {p q:Pl} (h1:Ym P one=some p) (h2:Ym P other=some q) (h:p.sec=q.sec) (x:¬ p.ix≤q.ix):btw P W one other=(sumO (((W p.sec).drop q.ix).take (p.ix - q.ix))).map (0 - ·):=by unfold btw;rw [h1,h2];exact (if_pos h).trans (if_neg x)
theorem between_spec {pd:Nat} {P:List Pl} {W} {one other:Str} {t1 t2:Tok} {R} (c:Cx w lse mg mb hB s.heap) (hd:dp≤750) (hu:un≤4500) (a:PlAt w s.heap pd P W)
    (ret:∀ h' tk t,Ext s.heap h'→R (.ok (.ret (oval (btw P W one other) t))) { s with heap:=h',toks:=tk }) :
    codeAny (model PG w) (Ar dp un fr gd) (.call (.ref 979) ⟨[.ref pd,.str one t1,.str other t2],[]⟩) R s:=by
  refine' Yd [] [(Str.ofString "places",.ref pd),(Str.ofString "one",.str one t1),(Str.ofString "other",.str other t2)] c ?kf ?k6 ?k7 ?eb ?es ?k8 ?k9 ?kB ?c5 ?c2 ?c3 ?c4 ?_
  k_extra "e0"
  have a0:=a.ext kp.ext
  have T9:=a0.dict
  have v1:=plKvs_at P one
  have v2:=plKvs_at P other
  cases h1:Ym P one with
  | none =>
    rw [h1] at v1
    have f1:(valueAt (plKvs P) one).isSome=false:=by rw [v1];rfl
    k_steps
    k_extra "n"
    exact oval_eq (b:=none) (btw_n1 h1) (ret _ _ tk (Yg kp F rfl))
  | some p =>
    rw [h1] at v1
    have f1:(valueAt (plKvs P) one).isSome=true:=by rw [v1];rfl
    have g1:valueAt (plKvs P) one=some (.ref p.y):=v1
    have hp:p∈P:=List.mem_of_find?_eq_some h1
    refine absG fun _ kQ=>?_
    obtain ⟨w1,w2,z1⟩:=a0.tup p hp
    obtain ⟨i1,vs,n,q1,q2,q3⟩:=a0.wid p hp
    refine kQ ?_
    clear kQ
    have it1:PyProof.Rows.IsTup g p.y #[.str p.sec w1,.int p.ix w2,.ref p.wl]:=⟨_,z1,rfl,_,rfl⟩
    cases h2:Ym P other with
    | none =>
      rw [h2] at v2
      have f2:(valueAt (plKvs P) other).isSome=false:=by rw [v2];rfl
      k_steps
      k_extra "n"
      exact oval_eq (b:=none) (btw_n2 h2) (ret _ _ tk (Yg kp F rfl))
    | some q =>
      rw [h2] at v2
      have f2:(valueAt (plKvs P) other).isSome=true:=by rw [v2];rfl
      have g2:valueAt (plKvs P) other=some (.ref q.y):=v2
      have hq:q∈P:=List.mem_of_find?_eq_some h2
      obtain ⟨w3,w4,z2⟩:=a0.tup q hq
      have it2:PyProof.Rows.IsTup g q.y #[.str q.sec w3,.int q.ix w4,.ref q.wl]:=⟨_,z2,rfl,_,rfl⟩
      k_steps
      · (rename (_ != _)=true=>hne)
        have hne':p.sec≠q.sec:=by simpa using hne
        (try dsimp only)
        k_extra "n"
        exact oval_eq (b:=none) (btw_ne h1 h2 hne') (ret _ _ tk (Yg kp F rfl))
      · (rename (_ != _)=false=>hne)
        have hne':p.sec=q.sec:=by simpa using hne
        k_extra "n"
        rename_i l4 h4 l5 D4 v4 n4 c4 h5 hi4 e4 p4 o4 p5 l6 b4 s4 t4
        refine absG fun _ kQ=>?_
        obtain ⟨lo,hi,ta,tb,rfl,hlo⟩:=pair_of hi4 e4 b4 t4
        refine kQ ?_
        clear kQ
        have bli:g.IsList p.wl vs.toArray:=⟨_,q1,rfl,_,rfl⟩
        clear hi4 e4 p4 o4 p5 b4 s4 t4
        k_steps
        k_extra "n"
        generalize hD:Array.size (Heap.objs _)+1=D at F N ⊢
        have hle:lo≤hi:=by omega
        have hhi:hi≤vs.length:=by rw [q2.len];obtain ⟨j1,_⟩:=a0.wid q hq;rw [← hne'] at j1;omega
        rw [pick_run hle hhi] at N
        have hov:=(q2.drop lo).take (hi - lo)
        have hW:btw P W one other=if p.ix≤q.ix then sumO (((W p.sec).drop lo).take (hi - lo)) else (sumO (((W p.sec).drop lo).take (hi - lo))).map (0 - ·):=by
          rcases hlo with ⟨x,rfl,rfl⟩ | ⟨x,rfl,rfl⟩
          · exact (btw_le h1 h2 hne' x).trans (if_pos x).symm
          · exact (btw_gt h1 h2 hne' x).trans (if_neg x).symm
        refine in_none ⟨_,N.get (by k_mem),rfl,_,rfl⟩ hov ?_
        generalize hws:(List.take (hi - lo) (List.drop lo (W p.sec)))=ws at hW hov ⊢
        cases hs:sumO ws with
        | none =>
          rw [hs] at hW
          dsimp only [Option.isNone]
          k_steps
          k_extra "n"
          have e9:(if p.ix≤q.ix then (none:Option Int) else Option.map (fun x=>0 - x) none)=none:=by split <;> rfl
          exact oval_eq (b:=none) (hW.trans e9) (ret _ _ tk (Yg kp F rfl))
        | some v =>
          rw [hs] at hW
          obtain ⟨ns,hi2,rfl⟩:=hov.ints hs
          dsimp only [Option.isNone]
          k_steps
          · (rename _≤_=>hle2)
            rw [if_pos (by omega)] at hW
            k_extra "n"
            exact oval_eq (b:=some _) hW (ret _ _ _ (Yg kp F rfl))
          · (rename ¬ _≤_=>hle2)
            rw [if_neg (by omega)] at hW
            k_extra "n"
            exact oval_eq (b:=some (0 - _)) hW (ret _ _ _ (Yg kp F rfl))
theorem off13:True:=trivial
def Apart2:=True
def Layable (w:World) (word:Str) (al:Nat) (args:List Value) (TD:List (Addr×Obj)) (ws':List (Option Int)):Prop :=
  ∀ {lse:List Str} {mg mb:Str→Option Value} {hB':Heap} {dp un:Nat} {fr:Option (List Env)} {gd:Option (List Code)} {s':Shared} {na:Nat} {tw:Tok} {R':Result→Shared→Prop} {k:CS} {p:Sc},
    Cx w lse mg mb hB' s'.heap→dp≤685→un≤3500→(∀ q∈TD,hB'.get? q.1=some q.2)→Own hB' s'.heap al (lst args na)→@Ne Nat al p.pl→Col w hB' s'.heap k→p∈k.l→p.x=k.cu→Yk p.name→p.ps.length≤800 →
    (∀ h' tk,Laid w s'.heap h' p.pl p.ps ws'→R' (.ok (.ret .none)) { s' with heap:=h',toks:=tk }) →
    codeAny (model PG w) (Ar dp un fr gd) (.call (.ref 888) ⟨[.ref k.xc,.str word tw,.ref al,.none],[]⟩) R' s'
inductive DeedRes (w:World) (h h':Heap) (cl tt:Nat):Prop
  | mk (dd ml al na nm n':Nat) (word:Str) (args vs vs':List Value) (TD:List (Addr×Obj)) (ws':List (Option Int)) (z0:Keep [cl] h h') (z1:∀ q∈TD,h.get? q.1=none∧h'.get? q.1=some q.2) (z2:∀ hh:Heap,(∀ q∈TD,hh.get? q.1=some q.2)→DeedAt w h0 hh dd word al) (z3:Layable w word al args TD ws') (z4:h.get? al=none) (z5:h'.get? al=some (lst args na)) (z6:∀ q∈TD,@Ne Nat q.1 al) (z7:h.get? ml=none) (z8:h'.get? ml=some (lst vs nm)) (z9:OV vs ws') (z10:h.get? tt=none) (z11:h'.get? tt=some (tupO [.ref dd,.ref ml])) (z12:h'.get? cl=some (lst vs' n')) (z13:IntsL vs') (z14:ws'.length≤2) (z15:∀ o∈ws',o=none∨∃ v:Int,o=some v∧0≤v∧v≤1000):DeedRes w h h' cl tt
theorem DeedRes.el {w:World} {h h':Heap} {cl tt:Nat} (a:DeedRes w h h' cl tt) {P:Prop} (k:∀ (dd ml al na nm n':Nat) (word:Str) (args vs vs':List Value) (TD:List (Addr×Obj)) (ws':List (Option Int)),Keep [cl] h h'→(∀ q∈TD,h.get? q.1=none∧h'.get? q.1=some q.2)→(∀ hh:Heap,(∀ q∈TD,hh.get? q.1=some q.2)→DeedAt w h0 hh dd word al)→Layable w word al args TD ws'→h.get? al=none→h'.get? al=some (lst args na)→(∀ q∈TD,@Ne Nat q.1 al)→h.get? ml=none→h'.get? ml=some (lst vs nm)→OV vs ws'→h.get? tt=none→h'.get? tt=some (tupO [.ref dd,.ref ml])→h'.get? cl=some (lst vs' n')→IntsL vs'→ws'.length≤2→(∀ o∈ws',o=none∨∃ v:Int,o=some v∧0≤v∧v≤1000)→P):P:=by
  obtain ⟨dd,ml,al,na,nm,n',word,args,vs,vs',TD,ws',a0,a1,a2,a3,a4,a5,a6,a7,a8,a9,a10,a11,a12,a13,a14,a15⟩:=a
  exact k dd ml al na nm n' word args vs vs' TD ws' a0 a1 a2 a3 a4 a5 a6 a7 a8 a9 a10 a11 a12 a13 a14 a15
theorem freshL {g h':Heap} {L:Addr} {cl n:Nat} {vs:List Value} {news:List (Addr×Obj)} (kp:Keep [(cl:Addr)] s.heap g) (N:News g L h' news) (hc:((cl:Addr),lst vs n)∈news) (T:List (Addr×Obj)) (hT:∀ q∈T,q∈news) (hcls:∀ q∈T,q.2.cls≠.type "list"):∀ q∈T,s.heap.get? q.1=none∧h'.get? q.1=some q.2:=fun q hq =>
  ⟨Yh kp (N q (hT q hq)).2.2 (not1 (Yc (N _ hc).1 (N q (hT q hq)).1 (fun e=>hcls q hq e.symm))),(N q (hT q hq)).1⟩
theorem neL {g h':Heap} {L:Addr} {al n:Nat} {vs:List Value} {news:List (Addr×Obj)} (N:News g L h' news) (hc:((al:Addr),lst vs n)∈news) (T:List (Addr×Obj)) (hT:∀ q∈T,q∈news) (hcls:∀ q∈T,q.2.cls≠.type "list"):∀ q∈T,@Ne Nat q.1 al:=fun q hq =>
  Yc (N q (hT q hq)).1 (N _ hc).1 (hcls q hq)
theorem freshA {g h':Heap} {L:Addr} {cl a:Nat} {o:Obj} {news:List (Addr×Obj)} (kp:Keep [(cl:Addr)] s.heap g) (N:News g L h' news) (hc:((a:Addr),o)∈news) (lt:@LT.lt Nat _ cl a):s.heap.get? a=none:=Yh kp (N _ hc).2.2 (not1 (show @Ne Nat cl a by k_ne))
theorem deedRes {w:World} {h g h':Heap} {L:Addr} {m:Str→Option Value} {news:List (Addr×Obj)} {cl n0 dd ml al tt na nm n':Nat} {word:Str} {vs0 args mvs vs':List Value} (TD:List (Addr×Obj)) (ws':List (Option Int))
    (kp:Keep ([((cl:Addr),lst vs0 n0)].map (·.1)) h g) (F:Fr g L h' m) (N:News g L h' news) (hT:∀ q∈TD,q∈news) (hC:∀ q∈TD,q.2.cls≠.type "list") (hcl:((cl:Addr),lst vs' n')∈news)
    (hal:((al:Addr),lst args na)∈news) (lal:@LT.lt Nat _ cl al) (hml:((ml:Addr),lst mvs nm)∈news) (lml:@LT.lt Nat _ cl ml) (htt:((tt:Addr),tupO [.ref dd,.ref ml])∈news) (ltt:@LT.lt Nat _ cl tt)
    (hdd:∀ hh:Heap,(∀ q∈TD,hh.get? q.1=some q.2)→DeedAt w h0 hh dd word al) (lay:Layable w word al args TD ws') (ov:OV mvs ws') (hi:IntsL vs') (len:ws'.length≤2) (bnd:∀ o∈ws',o=none∨∃ v:Int,o=some v∧0≤v∧v≤1000):DeedRes w h h' cl tt :=
  ⟨dd,ml,al,na,nm,n',word,args,mvs,vs',TD,ws',fun b o nb e=>F.keep _ _ (kp b o nb e),freshL (s:={ heap:=h }) kp N hcl TD hT hC,hdd,lay,freshA (s:={ heap:=h }) kp N hal lal,N.get hal,neL N hal TD hT hC,freshA (s:={ heap:=h }) kp N hml lml,N.get hml,ov,freshA (s:={ heap:=h }) kp N htt ltt,N.get htt,N.get hcl,hi,len,bnd⟩
theorem Yo {α:Type} {B:α} {body:α} {Sc scope:Scope} {P:α→Scope→Prop} (hb:B=body) (hs:Sc=scope) (h:P body scope):P B Sc:=by subst hb hs;exact h
noncomputable def deedB:List Stmt:=(Mine.H.fBod (Mine.H.d1 56)).drop 1
noncomputable def deedSc:Scope:=Mine.H.fSco (Mine.H.d1 56)
section
theorem late0_M16:True:=by
  k_with ".execs cons" => ((fail_if_success have:=@off14);((fail_if_success have:=@preOff);k_here;refine stop_ ?_))
  k_with ".ite" => ((fail_if_success have:=@off14);(k_closed;first | with_reducible refine ite_pos (by decide) ?_ | with_reducible refine ite_neg (by decide) ?_))
  trivial
theorem law_deed_pre {cl n pd:Nat} {vs:List Value} {wy:Int} {tw:Tok} {R} (c:Cx w lse mg mb hB s.heap) (hd:dp≤750) (hu:un≤4500) (hl:Own hB s.heap cl (lst vs n)) (hi:IntsL vs)
    (h:∀ g L' h₁ tk fr' r tr vs1 n1,Cx w lse mg mb hB g→Keep ([((cl:Addr),lst vs n)].map (·.1)) s.heap g→0≤r→r<5→IntsL vs1 →
      Fr g L' h₁ (fun y=>if y=Str.ofString "count" then some (.int r tr) else List.lookup y [(Str.ofString "way",.int wy tw),(Str.ofString "cells",.ref cl),(Str.ofString "places",.ref pd)].reverse)→News g L' h₁ [((cl:Addr),lst vs1 n1)]→(Mine.H.K w.params).In g→TopRead Mine.H.q1 lse mg mb g →
      wpAny (model PG w) (Ar (dp+1) (un+3) fr' gd) (execs deedB (envOf Mine.H.z238 deedSc L' 986 (Mine.H.r 985))) (fun fl s'=>R (.ok (.ret (match fl with | .ret v=>v | _=>.none))) s') (fun _ _=>False) { s with heap:=h₁,toks:=tk }) :
    codeAny (model PG w) (Ar dp un fr gd) (.call (.ref 986) ⟨[.int wy tw,.ref cl,.ref pd],[]⟩) R s:=zp (by simp(disch:=k_dflt(
  refine' Yd [(cl,lst vs n)] [(Str.ofString "way",.int wy tw),(Str.ofString "cells",.ref cl),(Str.ofString "places",.ref pd)] c ?kf ?k6 ?k7 ?eb ?es ?k8 ?k9 ?kB ?c5 ?c2 ?c3 ?c4 ?_
  k_extra "e0"
  refine wpAny_execs_cons ?_
  (try dsimp only)
  k_steps
  k_extra "n"
  refine wpAny_call (pick_spec (cg.step F.keep) (by omega) (by omega) (by exact Yv cg N (by k_mem)) hi (by omega) fun r tr vs1 n1 g2 tk2 hr0 hr1 k2 q2 hi1=>?_)
  have N9:=Yj (rest:=[]) N k2 (by k_mem) q2 (Yn (by k_extra "r"))
  replace F:=Yp F N k2 (by k_mem)
  clear N
  (rename News _ _ _ _=>N)
  try dsimp only
  k_steps
  k_extra "n"
  delta Stop
  exact h g L' _ _ fr' r tr vs1 n1 cg kp hr0 (by omega) hi1 F N X T))only[↓zq])
end
theorem preOff:True:=trivial
theorem law_deed_2 {cl n pd:Nat} {vs:List Value} {P:List Pl} {W:Str→List (Option Int)} {tw:Tok} {R} (c:Cx w lse mg mb hB s.heap) (hd:dp≤750) (hu:un≤4500) (hl:Own hB s.heap cl (lst vs n)) (hi:IntsL vs) (a:PlAt w s.heap pd P W)
    (ret:∀ (tt:Nat) h' tk,DeedRes w s.heap h' cl tt→R (.ok (.ret (.ref tt))) { s with heap:=h',toks:=tk }) :
    codeAny (model PG w) (Ar dp un fr gd) (.call (.ref 986) ⟨[.int 2 tw,.ref cl,.ref pd],[]⟩) R s:=zp (by simp(disch:=k_dflt(
  refine law_deed_pre c hd hu hl hi ?_
  intro g L' h₁ tk fr' r tr vs1 n1 cg kp hr0 hr1 hi1 F N X T
  refine' Yo (P:=fun B sc=>wpAny (model PG w) (Ar (dp+1) (un+3) fr' gd) (execs B (envOf Mine.H.z238 sc L' 986 (Mine.H.r 985))) (fun fl s'=>R (.ok (.ret (match fl with | .ret v=>v | _=>.none))) s') (fun _ _=>False) { s with heap:=h₁,toks:=tk }) ?eb ?es ?_
  case eb=>(conv=>lhs;whnf)
  case es=>(conv=>lhs;whnf)
  k_fold
  k_steps
  k_extra "n"
  refine wpAny_call (new_Number (cg.step F.keep) (by omega) fun y g_y tk_y e_y m_y a_y=>?_)
  refine a_y.ob fun dy oy y1 y2 p_y p_dy=>?_
  have N9:=Yb F (Yb F (Ya N e_y) p_y.2 p_y.1) p_dy.2 p_dy.1
  replace F:=Ye F e_y
  clear N
  (rename News _ _ _ _=>N)
  try dsimp only
  k_steps
  k_extra "n"
  rename_i al h7 l7
  k_extra "n"
  refine wpAny_call (new_Deed (cg.step F.keep) (by omega) fun dd g_dd tk_dd e_dd m_dd a_dd=>?_)
  refine a_dd.ob fun ddx odd d1 d2 p_dd p_ddx=>?_
  have N9:=Yb F (Yb F (Ya N e_dd) p_dd.2 p_dd.1) p_ddx.2 p_ddx.1
  replace F:=Ye F e_dd
  clear N
  (rename News _ _ _ _=>N)
  try dsimp only
  k_steps
  k_extra "n"
  rename_i ml h8 l8 tt h9 l9
  k_extra "n"
  refine ret tt _ _ (deedRes (dd:=dd) (ml:=ml) (al:=al) (word:=Str.ofString ".skip") (args:=[.ref y]) (mvs:=[.int (r * 100) _]) [(dd,instObj 523 ddx),(ddx,odd),(y,instObj 231 dy),(dy,oy)] [some (r * 100)] kp F N ?hT ?hC (by k_mem) (by k_mem) (by omega) (by k_mem) (by omega) (by k_mem) (by omega) (fun hh x=>(d2 (Yq (x (dd,instObj 523 ddx) (by k_mem))) (Yq (x (ddx,odd) (by k_mem))))) ?lay ⟨⟨_,rfl⟩,trivial⟩ hi1 (by simp) ?bnd)
  case hT =>
    k_extra "f"
    all_goals k_mem
  case hC =>
    k_extra "f"
    all_goals first | assumption | simp
  case bnd =>
    intro o ho
    rw [List.mem_singleton.mp ho]
    exact .inr ⟨_,rfl,by omega,by omega⟩
  case lay =>
    intro lse' mg' mb' hB' dp' un' fr9 gd' s' na' tw' R' k p c' hd' hu' hTD hal hne K hp hcu hn hz rt
    exact deed_skip (y:=y) (v:=r * 100) c' hd' hu' hal hne (.inl (NumberAt.xkeep (y2 (Yq (hTD (y,instObj 231 dy) (by k_mem))) (Yq (hTD (dy,oy) (by k_mem)))) c'.ext)) (by omega) (by omega) K hp hcu hn (by omega) fun q h9 tk9 k7 a7 q7=>rt h9 tk9 (Laid.space k7 a7 (by omega) q7)))only[↓zq])
theorem law_deed_5 {cl n pd:Nat} {vs:List Value} {P:List Pl} {W:Str→List (Option Int)} {tw:Tok} {R} (c:Cx w lse mg mb hB s.heap) (hd:dp≤750) (hu:un≤4500) (hl:Own hB s.heap cl (lst vs n)) (hi:IntsL vs) (a:PlAt w s.heap pd P W)
    (ret:∀ (tt:Nat) h' tk,DeedRes w s.heap h' cl tt→R (.ok (.ret (.ref tt))) { s with heap:=h',toks:=tk }) :
    codeAny (model PG w) (Ar dp un fr gd) (.call (.ref 986) ⟨[.int 5 tw,.ref cl,.ref pd],[]⟩) R s:=zp (by simp(disch:=k_dflt(
  refine law_deed_pre c hd hu hl hi ?_
  intro g L' h₁ tk fr' r tr vs1 n1 cg kp hr0 hr1 hi1 F N X T
  refine' Yo (P:=fun B sc=>wpAny (model PG w) (Ar (dp+1) (un+3) fr' gd) (execs B (envOf Mine.H.z238 sc L' 986 (Mine.H.r 985))) (fun fl s'=>R (.ok (.ret (match fl with | .ret v=>v | _=>.none))) s') (fun _ _=>False) { s with heap:=h₁,toks:=tk }) ?eb ?es ?_
  case eb=>(conv=>lhs;whnf)
  case es=>(conv=>lhs;whnf)
  k_fold
  k_steps
  k_extra "n"
  refine wpAny_call (new_Number (cg.step F.keep) (by omega) fun y g_y tk_y e_y m_y a_y=>?_)
  refine a_y.ob fun dy oy y1 y2 p_y p_dy=>?_
  have N9:=Yb F (Yb F (Ya N e_y) p_y.2 p_y.1) p_dy.2 p_dy.1
  replace F:=Ye F e_y
  clear N
  (rename News _ _ _ _=>N)
  try dsimp only
  k_steps
  k_extra "n"
  rename_i al h7 l7
  k_extra "n"
  refine wpAny_call (new_Deed (cg.step F.keep) (by omega) fun dd g_dd tk_dd e_dd m_dd a_dd=>?_)
  refine a_dd.ob fun ddx odd d1 d2 p_dd p_ddx=>?_
  have N9:=Yb F (Yb F (Ya N e_dd) p_dd.2 p_dd.1) p_ddx.2 p_ddx.1
  replace F:=Ye F e_dd
  clear N
  (rename News _ _ _ _=>N)
  try dsimp only
  k_steps
  k_extra "n"
  rename_i ml h8 l8 tt h9 l9
  k_extra "n"
  refine ret tt _ _ (deedRes (dd:=dd) (ml:=ml) (al:=al) (word:=Str.ofString ".org") (args:=[.ref y]) (mvs:=[.none]) [(dd,instObj 523 ddx),(ddx,odd),(y,instObj 231 dy),(dy,oy)] [none] kp F N ?hT ?hC (by k_mem) (by k_mem) (by omega) (by k_mem) (by omega) (by k_mem) (by omega) (fun hh x=>(d2 (Yq (x (dd,instObj 523 ddx) (by k_mem))) (Yq (x (ddx,odd) (by k_mem))))) ?lay ⟨⟨0,rfl⟩,trivial⟩ hi1 (by simp) ?bnd)
  case hT =>
    k_extra "f"
    all_goals k_mem
  case hC =>
    k_extra "f"
    all_goals first | assumption | simp
  case bnd =>
    intro o ho
    rw [List.mem_singleton.mp ho]
    exact .inl rfl
  case lay =>
    intro lse' mg' mb' hB' dp' un' fr9 gd' s' na' tw' R' k p c' hd' hu' hTD hal hne K hp hcu hn hz rt
    exact deed_org (y:=y) (v:=r * 1000) c' hd' hu' hal hne (NumberAt.xkeep (y2 (Yq (hTD (y,instObj 231 dy) (by k_mem))) (Yq (hTD (dy,oy) (by k_mem)))) c'.ext) (by omega) (by omega) K hp hcu hn (by omega) rt))only[↓zq])
theorem law_deed_4 {cl n pd:Nat} {vs:List Value} {P:List Pl} {W:Str→List (Option Int)} {tw:Tok} {R} (c:Cx w lse mg mb hB s.heap) (hd:dp≤750) (hu:un≤4500) (hl:Own hB s.heap cl (lst vs n)) (hi:IntsL vs) (a:PlAt w s.heap pd P W)
    (ret:∀ (tt:Nat) h' tk,DeedRes w s.heap h' cl tt→R (.ok (.ret (.ref tt))) { s with heap:=h',toks:=tk }) :
    codeAny (model PG w) (Ar dp un fr gd) (.call (.ref 986) ⟨[.int 4 tw,.ref cl,.ref pd],[]⟩) R s:=zp (by simp(disch:=k_dflt(
  refine law_deed_pre c hd hu hl hi ?_
  intro g L' h₁ tk fr' r tr vs1 n1 cg kp hr0 hr1 hi1 F N X T
  refine' Yo (P:=fun B sc=>wpAny (model PG w) (Ar (dp+1) (un+3) fr' gd) (execs B (envOf Mine.H.z238 sc L' 986 (Mine.H.r 985))) (fun fl s'=>R (.ok (.ret (match fl with | .ret v=>v | _=>.none))) s') (fun _ _=>False) { s with heap:=h₁,toks:=tk }) ?eb ?es ?_
  case eb=>(conv=>lhs;whnf)
  case es=>(conv=>lhs;whnf)
  k_fold
  k_steps
  k_extra "n"
  refine wpAny_call (new_Number (cg.step F.keep) (by omega) fun y g_y tk_y e_y m_y a_y=>?_)
  refine a_y.ob fun dy oy y1 y2 p_y p_dy=>?_
  have N9:=Yb F (Yb F (Ya N e_y) p_y.2 p_y.1) p_dy.2 p_dy.1
  replace F:=Ye F e_y
  clear N
  (rename News _ _ _ _=>N)
  try dsimp only
  k_steps
  k_extra "n"
  rename_i al h7 l7
  k_extra "n"
  refine wpAny_call (new_Deed (cg.step F.keep) (by omega) fun dd g_dd tk_dd e_dd m_dd a_dd=>?_)
  refine a_dd.ob fun ddx odd d1 d2 p_dd p_ddx=>?_
  have N9:=Yb F (Yb F (Ya N e_dd) p_dd.2 p_dd.1) p_ddx.2 p_ddx.1
  replace F:=Ye F e_dd
  clear N
  (rename News _ _ _ _=>N)
  try dsimp only
  k_steps
  k_extra "n"
  rename_i ml h8 l8 tt h9 l9
  k_extra "n"
  refine ret tt _ _ (deedRes (dd:=dd) (ml:=ml) (al:=al) (word:=Str.ofString ".balign") (args:=[.ref y]) (mvs:=[.none]) [(dd,instObj 523 ddx),(ddx,odd),(y,instObj 231 dy),(dy,oy)] [none] kp F N ?hT ?hC (by k_mem) (by k_mem) (by omega) (by k_mem) (by omega) (by k_mem) (by omega) (fun hh x=>(d2 (Yq (x (dd,instObj 523 ddx) (by k_mem))) (Yq (x (ddx,odd) (by k_mem))))) ?lay ⟨⟨0,rfl⟩,trivial⟩ hi1 (by simp) ?bnd)
  case hT =>
    k_extra "f"
    all_goals k_mem
  case hC =>
    k_extra "f"
    all_goals first | assumption | simp
  case bnd =>
    intro o ho
    rw [List.mem_singleton.mp ho]
    exact .inl rfl
  case lay =>
    intro lse' mg' mb' hB' dp' un' fr9 gd' s' na' tw' R' k p c' hd' hu' hTD hal hne K hp hcu hn hz rt
    have hv:(2:Int) ^ r.toNat=1∨(2:Int) ^ r.toNat=2∨(2:Int) ^ r.toNat=4∨(2:Int) ^ r.toNat=8∨(2:Int) ^ r.toNat=16:=by
      have h5:r=0∨r=1∨r=2∨r=3∨r=4:=by omega
      rcases h5 with rfl | rfl | rfl | rfl | rfl <;> decide
    exact deed_balign (y:=y) (v:=2 ^ r.toNat) c' hd' hu' hal hne (NumberAt.xkeep (y2 (Yq (hTD (y,instObj 231 dy) (by k_mem))) (Yq (hTD (dy,oy) (by k_mem)))) c'.ext) hv K hp hcu hn (by omega) rt))only[↓zq])
theorem off14:True:=trivial
theorem law_deed_3 {cl n pd:Nat} {vs:List Value} {P:List Pl} {W:Str→List (Option Int)} {tw:Tok} {R} (c:Cx w lse mg mb hB s.heap) (hd:dp≤750) (hu:un≤4500) (hl:Own hB s.heap cl (lst vs n)) (hi:IntsL vs) (a:PlAt w s.heap pd P W)
    (ret:∀ (tt:Nat) h' tk,DeedRes w s.heap h' cl tt→R (.ok (.ret (.ref tt))) { s with heap:=h',toks:=tk }) :
    codeAny (model PG w) (Ar dp un fr gd) (.call (.ref 986) ⟨[.int 3 tw,.ref cl,.ref pd],[]⟩) R s:=zp (by simp(disch:=k_dflt(
  refine law_deed_pre c hd hu hl hi ?_
  intro g L' h₁ tk fr' r tr vs1 n1 cg kp hr0 hr1 hi1 F N X T
  refine' Yo (P:=fun B sc=>wpAny (model PG w) (Ar (dp+1) (un+3) fr' gd) (execs B (envOf Mine.H.z238 sc L' 986 (Mine.H.r 985))) (fun fl s'=>R (.ok (.ret (match fl with | .ret v=>v | _=>.none))) s') (fun _ _=>False) { s with heap:=h₁,toks:=tk }) ?eb ?es ?_
  case eb=>(conv=>lhs;whnf)
  case es=>(conv=>lhs;whnf)
  k_fold
  k_steps
  k_extra "n"
  refine wpAny_call (pick_spec (cg.step F.keep) (by omega) (by omega) (by exact Yv cg N (by k_mem)) hi1 (by omega) fun r2 tr2 vs2 n2 g3 tk3 hs0 hs1 k3 q3 hi2=>?_)
  have N9:=Yj (rest:=[]) N k3 (by k_mem) q3 (Yn (by k_extra "r"))
  replace F:=Yp F N k3 (by k_mem)
  clear N
  (rename News _ _ _ _=>N)
  try dsimp only
  k_steps
  k_extra "n"
  refine wpAny_call (new_Number (cg.step F.keep) (by omega) fun y g_y tk_y e_y m_y a_y=>?_)
  refine a_y.ob fun dy oy y1 y2 p_y p_dy=>?_
  have N9:=Yb F (Yb F (Ya N e_y) p_y.2 p_y.1) p_dy.2 p_dy.1
  replace F:=Ye F e_y
  clear N
  (rename News _ _ _ _=>N)
  try dsimp only
  k_steps
  k_extra "n"
  refine wpAny_call (new_Number (cg.step F.keep) (by omega) fun z g_z tk_z e_z m_z a_z=>?_)
  refine a_z.ob fun dz oz z1 z2 p_z p_dz=>?_
  have N9:=Yb F (Yb F (Ya N e_z) p_z.2 p_z.1) p_dz.2 p_dz.1
  replace F:=Ye F e_z
  clear N
  (rename News _ _ _ _=>N)
  try dsimp only
  k_steps
  k_extra "n"
  rename_i al h7 l7
  k_extra "n"
  refine wpAny_call (new_Deed (cg.step F.keep) (by omega) fun dd g_dd tk_dd e_dd m_dd a_dd=>?_)
  refine a_dd.ob fun ddx odd d1 d2 p_dd p_ddx=>?_
  have N9:=Yb F (Yb F (Ya N e_dd) p_dd.2 p_dd.1) p_ddx.2 p_ddx.1
  replace F:=Ye F e_dd
  clear N
  (rename News _ _ _ _=>N)
  try dsimp only
  k_steps
  · (rename _<_=>hpos)
    k_extra "n"
    rename_i ml h8 l8 tt h9 l9
    k_extra "n"
    refine ret tt _ _ (deedRes (dd:=dd) (ml:=ml) (al:=al) (word:=Str.ofString ".fill") (args:=[.ref y,.ref z]) (mvs:=[.int (r * r2) _]) [(dd,instObj 523 ddx),(ddx,odd),(y,instObj 231 dy),(dy,oy),(z,instObj 231 dz),(dz,oz)] [some (r * r2)] kp F N ?hT ?hC (by k_mem) (by k_mem) (by omega) (by k_mem) (by omega) (by k_mem) (by omega) (fun hh x=>(d2 (Yq (x (dd,instObj 523 ddx) (by k_mem))) (Yq (x (ddx,odd) (by k_mem))))) ?lay ⟨⟨_,rfl⟩,trivial⟩ hi2 (by simp) ?bnd)
    case hT =>
      k_extra "f"
      all_goals k_mem
    case hC =>
      k_extra "f"
      all_goals first | assumption | simp
    case bnd =>
      intro o ho
      rw [List.mem_singleton.mp ho]
      have hmm:0≤r * r2∧r * r2≤15:=by
        have h4:r2=0∨r2=1∨r2=2∨r2=3:=by omega
        rcases h4 with rfl | rfl | rfl | rfl <;> omega
      exact .inr ⟨_,rfl,by omega,by omega⟩
    case lay =>
      intro lse' mg' mb' hB' dp' un' fr9 gd' s' na' tw' R' k p c' hd' hu' hTD hal hne K hp hcu hn hz rt
      have hmm:0≤r * r2∧r * r2≤15:=by
        have h4:r2=0∨r2=1∨r2=2∨r2=3:=by omega
        rcases h4 with rfl | rfl | rfl | rfl <;> omega
      exact deed_fill (y1:=y) (y2:=z) (ct:=r) (wd:=r2) c' hd' hu' hal hne (NumberAt.xkeep (y2 (Yq (hTD (y,instObj 231 dy) (by k_mem))) (Yq (hTD (dy,oy) (by k_mem)))) c'.ext) (NumberAt.xkeep (z2 (Yq (hTD (z,instObj 231 dz) (by k_mem))) (Yq (hTD (dz,oz) (by k_mem)))) c'.ext) (by omega) (by omega) (by omega) K hp hcu hn (by omega) fun h9 tk9 L=>rt h9 tk9 (by rw [if_neg (by omega)] at L;exact L)
  · (rename ¬ _<_=>hpos)
    k_extra "n"
    rename_i ml h8 l8 tt h9 l9
    k_extra "n"
    refine ret tt _ _ (deedRes (dd:=dd) (ml:=ml) (al:=al) (word:=Str.ofString ".fill") (args:=[.ref y,.ref z]) (mvs:=[]) [(dd,instObj 523 ddx),(ddx,odd),(y,instObj 231 dy),(dy,oy),(z,instObj 231 dz),(dz,oz)] [] kp F N ?hT ?hC (by k_mem) (by k_mem) (by omega) (by k_mem) (by omega) (by k_mem) (by omega) (fun hh x=>(d2 (Yq (x (dd,instObj 523 ddx) (by k_mem))) (Yq (x (ddx,odd) (by k_mem))))) ?lay (trivial) hi2 (by simp) ?bnd)
    case hT =>
      k_extra "f"
      all_goals k_mem
    case hC =>
      k_extra "f"
      all_goals first | assumption | simp
    case bnd =>
      intro o ho;cases ho
    case lay =>
      intro lse' mg' mb' hB' dp' un' fr9 gd' s' na' tw' R' k p c' hd' hu' hTD hal hne K hp hcu hn hz rt
      have hmm:0≤r * r2∧r * r2≤15:=by
        have h4:r2=0∨r2=1∨r2=2∨r2=3:=by omega
        rcases h4 with rfl | rfl | rfl | rfl <;> omega
      exact deed_fill (y1:=y) (y2:=z) (ct:=r) (wd:=r2) c' hd' hu' hal hne (NumberAt.xkeep (y2 (Yq (hTD (y,instObj 231 dy) (by k_mem))) (Yq (hTD (dy,oy) (by k_mem)))) c'.ext) (NumberAt.xkeep (z2 (Yq (hTD (z,instObj 231 dz) (by k_mem))) (Yq (hTD (dz,oz) (by k_mem)))) c'.ext) (by omega) (by omega) (by omega) K hp hcu hn (by omega) fun h9 tk9 L=>rt h9 tk9 (by rw [if_pos (by omega)] at L;exact L)))only[↓zq])
theorem law_deed_1 {cl n pd:Nat} {vs:List Value} {P:List Pl} {W:Str→List (Option Int)} {tw:Tok} {R} (c:Cx w lse mg mb hB s.heap) (hd:dp≤750) (hu:un≤4500) (hl:Own hB s.heap cl (lst vs n)) (hi:IntsL vs) (a:PlAt w s.heap pd P W)
    (ret:∀ (tt:Nat) h' tk,DeedRes w s.heap h' cl tt→R (.ok (.ret (.ref tt))) { s with heap:=h',toks:=tk }) :
    codeAny (model PG w) (Ar dp un fr gd) (.call (.ref 986) ⟨[.int 1 tw,.ref cl,.ref pd],[]⟩) R s:=zp (by simp(disch:=k_dflt(
  refine law_deed_pre c hd hu hl hi ?_
  intro g L' h₁ tk fr' r tr vs1 n1 cg kp hr0 hr1 hi1 F N X T
  refine' Yo (P:=fun B sc=>wpAny (model PG w) (Ar (dp+1) (un+3) fr' gd) (execs B (envOf Mine.H.z238 sc L' 986 (Mine.H.r 985))) (fun fl s'=>R (.ok (.ret (match fl with | .ret v=>v | _=>.none))) s') (fun _ _=>False) { s with heap:=h₁,toks:=tk }) ?eb ?es ?_
  case eb=>(conv=>lhs;whnf)
  case es=>(conv=>lhs;whnf)
  k_fold
  k_steps
  k_extra "n"
  rename_i al h7 l7
  k_extra "n"
  refine wpAny_call (new_Deed (cg.step F.keep) (by omega) fun dd g_dd tk_dd e_dd m_dd a_dd=>?_)
  refine a_dd.ob fun ddx odd d1 d2 p_dd p_ddx=>?_
  have N9:=Yb F (Yb F (Ya N e_dd) p_dd.2 p_dd.1) p_ddx.2 p_ddx.1
  replace F:=Ye F e_dd
  clear N
  (rename News _ _ _ _=>N)
  try dsimp only
  k_steps
  · (rename _<_=>hpos)
    k_extra "n"
    rename_i ml h8 l8 tt h9 l9
    k_extra "n"
    refine ret tt _ _ (deedRes (dd:=dd) (ml:=ml) (al:=al) (word:=Str.ofString ".ascii") (args:=[.bytes ((List.replicate r.toNat [97,98]).flatten.toArray:Array UInt8) _,.bytes #[99] _]) (mvs:=[.int (2 * r) _,.int 1 _]) [(dd,instObj 523 ddx),(ddx,odd)] [some (2 * r),some 1] kp F N ?hT ?hC (by k_mem) (by k_mem) (by omega) (by k_mem) (by omega) (by k_mem) (by omega) (fun hh x=>(d2 (Yq (x (dd,instObj 523 ddx) (by k_mem))) (Yq (x (ddx,odd) (by k_mem))))) ?lay ⟨⟨_,rfl⟩,⟨_,rfl⟩,trivial⟩ hi1 (by simp) ?bnd)
    case hT =>
      k_extra "f"
      all_goals k_mem
    case hC =>
      k_extra "f"
      all_goals first | assumption | simp
    case bnd =>
      intro o ho
      rcases List.mem_cons.mp ho with rfl | ho
      · exact .inr ⟨_,rfl,by omega,by omega⟩
      · rw [List.mem_singleton.mp ho];exact .inr ⟨_,rfl,by omega,by omega⟩
    case lay =>
      intro lse' mg' mb' hB' dp' un' fr9 gd' s' na' tw' R' k p c' hd' hu' hTD hal hne K hp hcu hn hz rt
      have hb:(((List.replicate r.toNat [97,98]).flatten.toArray:Array UInt8).size:Int)=2 * r:=by simp;omega
      have e9:((if ((List.replicate r.toNat [97,98]).flatten.toArray:Array UInt8).size=0 then [] else [some (((List.replicate r.toNat [97,98]).flatten.toArray:Array UInt8).size:Int)])++[some ((#[99]:Array UInt8).size:Int)])=([some (2 * r),some 1]:List (Option Int)):=by rw [if_neg (by omega)];first | (rw [hb];rfl) | rfl
      exact deed_ascii c' hd' hu' hal hne (by omega) (by decide) (by decide) K hp hcu hn hz fun h9 tk9 L=>rt h9 tk9 (by rw [e9] at L;exact L)
  · (rename ¬ _<_=>hpos)
    k_extra "n"
    rename_i ml h8 l8 tt h9 l9
    k_extra "n"
    refine ret tt _ _ (deedRes (dd:=dd) (ml:=ml) (al:=al) (word:=Str.ofString ".ascii") (args:=[.bytes ((List.replicate r.toNat [97,98]).flatten.toArray:Array UInt8) _,.bytes #[99] _]) (mvs:=[.int 1 _]) [(dd,instObj 523 ddx),(ddx,odd)] [some 1] kp F N ?hT ?hC (by k_mem) (by k_mem) (by omega) (by k_mem) (by omega) (by k_mem) (by omega) (fun hh x=>(d2 (Yq (x (dd,instObj 523 ddx) (by k_mem))) (Yq (x (ddx,odd) (by k_mem))))) ?lay ⟨⟨_,rfl⟩,trivial⟩ hi1 (by simp) ?bnd)
    case hT =>
      k_extra "f"
      all_goals k_mem
    case hC =>
      k_extra "f"
      all_goals first | assumption | simp
    case bnd =>
      intro o ho
      rw [List.mem_singleton.mp ho]
      exact .inr ⟨_,rfl,by omega,by omega⟩
    case lay =>
      intro lse' mg' mb' hB' dp' un' fr9 gd' s' na' tw' R' k p c' hd' hu' hTD hal hne K hp hcu hn hz rt
      have hb:(((List.replicate r.toNat [97,98]).flatten.toArray:Array UInt8).size:Int)=2 * r:=by simp;omega
      have e9:((if ((List.replicate r.toNat [97,98]).flatten.toArray:Array UInt8).size=0 then [] else [some (((List.replicate r.toNat [97,98]).flatten.toArray:Array UInt8).size:Int)])++[some ((#[99]:Array UInt8).size:Int)])=([some 1]:List (Option Int)):=by rw [if_pos (by omega)];first | (rw [hb];rfl) | rfl
      exact deed_ascii c' hd' hu' hal hne (by omega) (by decide) (by decide) K hp hcu hn hz fun h9 tk9 L=>rt h9 tk9 (by rw [e9] at L;exact L)))only[↓zq])
local macro_rules | `(tactic| walk_at "binaryOp Mult ref int") => `(tactic| (k_extra ".binaryOp Mult ref int.a"; intro D' h' F' N' l1'; (try dsimp only at N'); (try k_lt l1')))
theorem row18:True:=by
  k_with ".binaryOp Mult ref int.a" => ((fail_if_success have:=@off15);(k_here;(refine' KMa.mul (ws:=List.replicate _ _) (by k_asm) (by k_asm) (by exact ⟨_,News.get (by k_asm) (by k_mem),rfl,_,rfl⟩) (by omega) (by omega) (by simp;omega) (by exact List.flatten_replicate_singleton) ?_)))
  trivial
theorem newsMod5 {g h h':Heap} {L cl:Addr} {o o':Obj} {a b c d e:Addr×Obj} (N:News g L h [a,b,c,d,e,(cl,o)]) (k:Keep [cl] h h') (hd:h'.get? cl=some o') (off:∀ p∈[a,b,c,d,e],p.1≠cl):News g L h' [(cl,o'),a,b,c,d,e]:=fun p hp=>by
  rcases List.mem_cons.mp hp with rfl | hp
  · exact ⟨hd,(N (cl,o) (by simp)).2⟩
  · have hm:p∈[a,b,c,d,e,(cl,o)]:=by
      have:=List.mem_append_left [(cl,o)] hp
      exact this
    exact ⟨k _ _ (fun q=>off p hp (List.mem_singleton.mp q)) (N p hm).1,(N p hm).2⟩
theorem execs_ret {A:Around} {st:Stmt} {rest:List Stmt} {env:Env} {Q:Flow→Shared→Prop} {E:Value→Shared→Prop} (h:wpAny (model PG w) A (exec st env) (fun f s'=>match f with | .ret v=>Q (.ret v) s' | _=>False) E s):wpAny (model PG w) A (execs (st::rest) env) Q E s:=by
  refine wpAny_execs_cons (wpAny_mono h (fun f s' x=>?_) fun _ _ x=>x)
  cases f with
  | ret v=>exact x
  | next=>exact x.elim
  | brk=>exact x.elim
  | cont=>exact x.elim
def Four (o:Obj) (wd:Str) (tW:Tok) (wk:Int) (tK:Tok):Prop:=o=tupO [.str wd tW,.int wk tK]∧((wd=Str.ofString ".byte" ∧ wk=1)∨(wd=Str.ofString ".short" ∧ wk=2)∨(wd=Str.ofString ".long" ∧ wk=4)∨(wd=Str.ofString ".quad" ∧ wk=8))
theorem pick4 {g h:Heap} {L D1 D2 D3 D4:Addr} {p a:Addr×Obj} {o1 o2 o3 o4:Obj} {r2:Int} {P:Prop} (N:News g L h [p,a,(D4,o4),(D3,o3),(D2,o2),(D1,o1)]) (h0:0≤r2) (h1:r2<4)
    (c1:∃ a b c d,Four o1 a b c d) (c2:∃ a b c d,Four o2 a b c d) (c3:∃ a b c d,Four o3 a b c d) (c4:∃ a b c d,Four o4 a b c d)
    (k:∀ (D:Addr) (wd:Str) (tW:Tok) (wk:Int) (tK:Tok),[Value.ref D1,.ref D2,.ref D3,.ref D4][r2.toNat]?=some (.ref D)→News g L h [p,(D,tupO [.str wd tW,.int wk tK])] →
      ((wd=Str.ofString ".byte" ∧ wk=1)∨(wd=Str.ofString ".short" ∧ wk=2)∨(wd=Str.ofString ".long" ∧ wk=4)∨(wd=Str.ofString ".quad" ∧ wk=8))→P):P:=zp (by simp(disch:=k_dflt(
  have go:∀ (D:Addr) (o:Obj),(D,o)∈[p,a,(D4,o4),(D3,o3),(D2,o2),(D1,o1)]→[Value.ref D1,.ref D2,.ref D3,.ref D4][r2.toNat]?=some (.ref D)→(∃ a b c d,Four o a b c d)→P:=by
    rintro D o hm hx ⟨wd,tW,wk,tK,rfl,hw⟩
    refine k D wd tW wk tK hx (news_sub N fun q hq=>?_) hw
    rcases List.mem_cons.mp hq with rfl | hq
    · exact .head _
    · rw [List.mem_singleton.mp hq];exact hm
  have h4:r2=0∨r2=1∨r2=2∨r2=3:=by omega
  rcases h4 with rfl | rfl | rfl | rfl
  · exact go D1 o1 (by k_mem) rfl c1
  · exact go D2 o2 (by k_mem) rfl c2
  · exact go D3 o3 (by k_mem) rfl c3
  · exact go D4 o4 (by k_mem) rfl c4))only[↓zq])
theorem seq4 {r2:Int} (h0:0≤r2) (h1:r2<4):seqIndex? r2 4=some r2.toNat:=by
  have h4:r2=0∨r2=1∨r2=2∨r2=3:=by omega
  rcases h4 with rfl | rfl | rfl | rfl <;> rfl
theorem four_bnd {wd:Str} {wk r:Int} (hwd:(wd=Str.ofString ".byte" ∧ wk=1)∨(wd=Str.ofString ".short" ∧ wk=2)∨(wd=Str.ofString ".long" ∧ wk=4)∨(wd=Str.ofString ".quad" ∧ wk=8)) (h0:0≤r) (h1:r≤4):0≤wk * r∧wk * r≤1000:=by
  rcases hwd with ⟨_,rfl⟩ | ⟨_,rfl⟩ | ⟨_,rfl⟩ | ⟨_,rfl⟩ <;> omega
theorem Layable.four {w:World} {al m:Nat} {wd:Str} {wk:Int} {y dy:Nat} {oy:Obj} {TD:List (Addr×Obj)} (hwd:(wd=Str.ofString ".byte" ∧ wk=1)∨(wd=Str.ofString ".short" ∧ wk=2)∨(wd=Str.ofString ".long" ∧ wk=4)∨(wd=Str.ofString ".quad" ∧ wk=8))
    (mk:∀ {hB h:Heap},Own hB h y (instObj 231 dy)→Own hB h dy oy→NumberAt w hB h y 7) (my:((y:Addr),instObj 231 dy)∈TD) (mdy:((dy:Addr),oy)∈TD) (hm:m≤100) {ws:List (Option Int)} (e:(if m=0 then [] else [some (wk * (m:Int))])=ws):Layable w wd al (List.replicate m (.ref y)) TD ws:=by
  intro lse' mg' mb' hB' dp' un' fr9 gd' s' na' tw' R' k p c' hd' hu' hTD hal hne K hp hcu hn hz rt
  subst e
  have hy:NumberAt w h0 hB' y 7:=mk (Yq (hTD _ my)) (Yq (hTD _ mdy))
  rcases hwd with ⟨rfl,rfl⟩ | ⟨rfl,rfl⟩ | ⟨rfl,rfl⟩ | ⟨rfl,rfl⟩
  · exact deed_byte (y:=y) (m:=m) c' hd' hu' hal hne hy hm K hp hcu hn (by omega) fun h9 tk9 L=>rt h9 tk9 L
  · exact deed_short (y:=y) (m:=m) c' hd' hu' hal hne hy hm K hp hcu hn (by omega) fun h9 tk9 L=>rt h9 tk9 L
  · exact deed_long (y:=y) (m:=m) c' hd' hu' hal hne hy hm K hp hcu hn (by omega) fun h9 tk9 L=>rt h9 tk9 L
  · exact deed_quad (y:=y) (m:=m) c' hd' hu' hal hne hy hm K hp hcu hn (by omega) fun h9 tk9 L=>rt h9 tk9 L
theorem law_deed_0 {cl n pd:Nat} {vs:List Value} {P:List Pl} {W:Str→List (Option Int)} {tw:Tok} {R} (c:Cx w lse mg mb hB s.heap) (hd:dp≤750) (hu:un≤4500) (hl:Own hB s.heap cl (lst vs n)) (hi:IntsL vs) (a:PlAt w s.heap pd P W)
    (ret:∀ (tt:Nat) h' tk,DeedRes w s.heap h' cl tt→R (.ok (.ret (.ref tt))) { s with heap:=h',toks:=tk }) :
    codeAny (model PG w) (Ar dp un fr gd) (.call (.ref 986) ⟨[.int 0 tw,.ref cl,.ref pd],[]⟩) R s:=zp (by simp(disch:=k_dflt(
  refine' Yd [(cl,lst vs n)] [(Str.ofString "way",.int 0 tw),(Str.ofString "cells",.ref cl),(Str.ofString "places",.ref pd)] c ?kf ?k6 ?k7 ?eb ?es ?k8 ?k9 ?kB ?c5 ?c2 ?c3 ?c4 ?_
  k_extra "e0"
  k_steps
  k_extra "n"
  refine wpAny_call (pick_spec (cg.step F.keep) (by omega) (by omega) (by exact Yv cg N (by k_mem)) hi (by omega) fun r tr vs1 n1 g2 tk2 hr0 hr1 k2 q2 hi1=>?_)
  have N9:=Yj (rest:=[]) N k2 (by k_mem) q2 (Yn (by k_extra "r"))
  replace F:=Yp F N k2 (by k_mem)
  clear N
  (rename News _ _ _ _=>N)
  try dsimp only
  iterate 2 (first | (k_unfold;(try dsimp only)) | walk1 | (dsimp only;walk1))
  refine execs_ret ?_
  iterate 6 (first | (k_unfold;(try dsimp only)) | walk1 | (dsimp only;walk1))
  simp only [beq_self_eq_true,if_true]
  k_steps
  k_extra "n"
  refine wpAny_call (pick_spec (cg.step F.keep) (by omega) (by omega) (by exact Yv cg N (by k_mem)) hi1 (by omega) fun r2 tr2 vs2 n2 g3 tk3 hs0 hs1 k3 q3 hi2=>?_)
  have N9:=newsMod5 N k3 q3 (by k_all)
  replace F:=Yp F N k3 (by k_mem)
  clear N
  (rename News _ _ _ _=>N)
  try dsimp only
  k_extra "n"
  refine pick4 N hs0 hs1 ⟨_,_,_,_,rfl,.inl ⟨rfl,rfl⟩⟩ ⟨_,_,_,_,rfl,.inr (.inl ⟨rfl,rfl⟩)⟩ ⟨_,_,_,_,rfl,.inr (.inr (.inl ⟨rfl,rfl⟩))⟩ ⟨_,_,_,_,rfl,.inr (.inr (.inr ⟨rfl,rfl⟩))⟩ fun D9 wd tW wk tK hx N9 hwd=>?_
  refine item_tupleT (j:=r2.toNat) (News.isTup N (by k_mem)) (by omega) (by omega) (by exact seq4 hs0 hs1) hx ?_
  clear N
  (rename News _ _ _ _=>N)
  k_steps
  k_extra "n"
  replace N:=news_sub (n':=[(cl,lst vs2 n2)]) N (fun p hp=>by rw [List.mem_singleton.mp hp];k_mem)
  repeat ((rename (_<_∧_)=>lq);clear lq)
  k_extra "n"
  refine wpAny_call (new_Number (cg.step F.keep) (by omega) fun y g_y tk_y e_y m_y a_y=>?_)
  refine a_y.ob fun dy oy y1 y2 p_y p_dy=>?_
  have N9:=Yb F (Yb F (Ya N e_y) p_y.2 p_y.1) p_dy.2 p_dy.1
  replace F:=Ye F e_y
  clear N
  (rename News _ _ _ _=>N)
  try dsimp only
  k_steps
  k_extra "n"
  rename_i al h7 l7
  k_extra "n"
  refine wpAny_call (new_Deed (cg.step F.keep) (by omega) fun dd g_dd tk_dd e_dd m_dd a_dd=>?_)
  refine a_dd.ob fun ddx odd d1 d2 p_dd p_ddx=>?_
  have N9:=Yb F (Yb F (Ya N e_dd) p_dd.2 p_dd.1) p_ddx.2 p_ddx.1
  replace F:=Ye F e_dd
  clear N
  (rename News _ _ _ _=>N)
  try dsimp only
  k_steps
  · (rename _<_=>hpos)
    k_extra "n"
    rename_i ml h8 l8 tt h9 l9
    k_extra "n"
    refine ret tt _ _ (deedRes (dd:=dd) (ml:=ml) (al:=al) (word:=wd) (args:=(List.replicate r.toNat (.ref y))) (mvs:=[.int (wk * r) _]) [(dd,instObj 523 ddx),(ddx,odd),(y,instObj 231 dy),(dy,oy)] [some (wk * r)] kp F N ?hT ?hC (by k_mem) (by k_mem) (by omega) (by k_mem) (by omega) (by k_mem) (by omega) (fun hh x=>(d2 (Yq (x (dd,instObj 523 ddx) (by k_mem))) (Yq (x (ddx,odd) (by k_mem))))) ?lay ⟨⟨_,rfl⟩,trivial⟩ hi2 (by simp) ?bnd)
    case hT =>
      k_extra "f"
      all_goals k_mem
    case hC =>
      k_extra "f"
      all_goals first | assumption | simp
    case bnd =>
      intro o ho
      rw [List.mem_singleton.mp ho]
      exact .inr ⟨_,rfl,four_bnd hwd hr0 (by omega)⟩
    case lay =>
      refine Layable.four hwd y2 (by k_mem) (by k_mem) (by omega) ?_
      rw [show (r.toNat:Int)=r by omega]
      first | rw [if_neg (by omega)] | rw [if_pos (by omega)]
  · (rename ¬ _<_=>hpos)
    k_extra "n"
    rename_i ml h8 l8 tt h9 l9
    k_extra "n"
    refine ret tt _ _ (deedRes (dd:=dd) (ml:=ml) (al:=al) (word:=wd) (args:=(List.replicate r.toNat (.ref y))) (mvs:=[]) [(dd,instObj 523 ddx),(ddx,odd),(y,instObj 231 dy),(dy,oy)] [] kp F N ?hT ?hC (by k_mem) (by k_mem) (by omega) (by k_mem) (by omega) (by k_mem) (by omega) (fun hh x=>(d2 (Yq (x (dd,instObj 523 ddx) (by k_mem))) (Yq (x (ddx,odd) (by k_mem))))) ?lay (trivial) hi2 (by simp) ?bnd)
    case hT =>
      k_extra "f"
      all_goals k_mem
    case hC =>
      k_extra "f"
      all_goals first | assumption | simp
    case bnd =>
      intro o ho;cases ho
    case lay =>
      refine Layable.four hwd y2 (by k_mem) (by k_mem) (by omega) ?_
      rw [show (r.toNat:Int)=r by omega]
      first | rw [if_neg (by omega)] | rw [if_pos (by omega)]))only[↓zq])
theorem off15:True:=trivial
open PySem.W
def KeyV (kvs:List (Str×Value)) (v:Value):Prop:=∃ k t,v=Value.str k t∧k∈kvs.map (·.1)
theorem sorted_keys {A:Around} {E:Value→Shared→Prop} {h₀:Heap} {L d:Addr} {m:Str→Option Value} {news:List (Addr×Obj)} {kvs:List (Str×Value)} {Q:Value→Shared→Prop} (hh:A.handled=none) (F:Fr h₀ L s.heap m) (N:News h₀ L s.heap news)
    (T:DAt w s.heap d kvs) (h6:kvs.length≤6)
    (h:∀ (B:Nat) h' tk (vs:List Value) c,Fr h₀ L h' m→News h₀ L h' ((B,PySem.W.listOf vs.toArray c)::news)→(∀ q∈news,q.1<B)→vs.length=kvs.length→(∀ v∈vs,KeyV kvs v)→Q (.ref B) { s with heap:=h',toks:=tk }) :
    wpAny (model PG w) A (call (.builtin "sorted") [.ref d]) Q E s:=zp (by simp(disch:=k_dflt(
  refine absG fun _ kQ=>?_
  obtain ⟨lo,hD⟩:=T
  obtain ⟨ep,hat⟩:=(Heap.dictOf_iff.mpr hD).dictAt
  refine kQ ?_
  clear kQ
  refine kdu_sorted (kdl_dict (knd:=PySem.strKind PG w) (kvs:=kvs) (ep:=ep) lo) hh F N hat (by rw [sizeLine_eq];omega) fun B h' tk vs F' N' hB hl hv=>?_
  have nz:=N' (B,PySem.W.listOf vs.toArray 0) (.head _)
  have hna:∀ p∈news,p.1≠B:=fun p hp=>Nat.ne_of_lt (hB p hp)
  have N2:News h₀ L h' news:=news_sub N' fun p hp=>.tail _ hp
  have hk:∀ v∈vs,KeyV kvs v:=fun v hm=>by
    obtain ⟨j,hj⟩:=List.getElem?_of_mem hm
    obtain ⟨k,x,e1,e2⟩:=hv j v hj
    obtain ⟨t,rfl⟩:=Value.isStrOf_shape e2
    exact ⟨k,t,rfl,List.mem_map.mpr ⟨(k,x),List.mem_of_getElem? e1,rfl⟩⟩
  by_cases hs:vs.length<2
  · refine PySem.wpAny_call_entry slot_list_sort ⟨_,nz.1,rfl⟩ entry_list_sort (small_sort (news:=news) F' N2 nz.1 nz.2.1 nz.2.2 hna hs fun h2 c2 F2 N3=>?_) (args_list_sort _)
    exact ⟨_,rfl,h B h2 _ vs c2 F2 N3 hB hl hk⟩
  · have h2:2≤vs.length:=by omega
    refine PySem.wpAny_call_entry slot_list_sort ⟨_,nz.1,rfl⟩ entry_list_sort (kas_list_sort (news:=news) (T:=.type "str") F' N2 nz.1 nz.2.1 nz.2.2 hna h2 (by omega) (fun e1 hh _ _ v hm=>?_) (by rfl) (by rfl) fun e1 g F2 N3=>?_) (args_list_sort _)
    · obtain ⟨k,t,rfl,_⟩:=hk v hm
      exact Looks.of_pure rfl
    refine inRs_wp (n:=vs.length) (fun p hp hi=>?_) (fun i j C hi hj hij hC=>?_) _ (inRs_all h2 (by omega))
    · refine KasFin.intro F2 N3 (UpdF.head (fun q hq=>hna q hq)) fun h3 c3 F3 N4=>?_
      refine ⟨_,rfl,h B h3 _ _ c3 F3 N4 hB (by simp;omega) fun v hm=>?_⟩
      obtain ⟨i,him,rfl⟩:=List.mem_map.mp hm
      have hlt:=hi i him
      rw [List.getD_eq_getElem?_getD,List.getElem?_eq_getElem hlt]
      exact hk _ (List.getElem_mem hlt)
    · refine absG fun _ kQ=>?_
      obtain ⟨a,t,e1,_⟩:=hk vs[i] (List.getElem_mem hi)
      obtain ⟨b,u,e2,_⟩:=hk vs[j] (List.getElem_mem hj)
      refine kQ ?_
      clear kQ
      show wpAny _ _ (keyLt' _ (vs.getD i Value.none) (vs.getD j Value.none)) _ _ _
      rw [List.getD_eq_getElem?_getD,List.getElem?_eq_getElem hi,List.getD_eq_getElem?_getD,List.getElem?_eq_getElem hj]
      simp only [Option.getD_some]
      rw [e1,e2]
      exact kas_lt_str (hC _)))only[↓zq])
theorem row19:True:=by
  k_with ".subscriptTail Name BinOp ref int" => ((fail_if_success have:=@off16);(k_here;refine stop_ ?_))
  trivial
section
theorem Layable.sleb {w:World} {al:Nat} {r:Int} {y dy:Nat} {oy:Obj} {TD:List (Addr×Obj)} {ws:List (Option Int)} (h0:0≤r) (h5:r<5) (mk:∀ {hB h:Heap},Own hB h y (instObj 231 dy)→Own hB h dy oy→NumberAt w hB h y (2 ^ (7 * r).toNat)) (my:((y:Addr),instObj 231 dy)∈TD) (mdy:((dy:Addr),oy)∈TD) (e:ws=[some (r+1)]):Layable w (Str.ofString ".sleb128") al [.ref y] TD ws:=by
  intro lse' mg' mb' hB' dp' un' fr9 gd' s' na' tw' R' k p c' hd' hu' hTD hal hne K hp hcu hn hz rt
  subst e
  have hv9:((2:Int) ^ (7 * r).toNat=1∧(r+1).toNat=1)∨((2:Int) ^ (7 * r).toNat=128∧(r+1).toNat=2)∨((2:Int) ^ (7 * r).toNat=16384∧(r+1).toNat=3)∨((2:Int) ^ (7 * r).toNat=2097152∧(r+1).toNat=4)∨((2:Int) ^ (7 * r).toNat=268435456∧(r+1).toNat=5):=by
    have h5:r=0∨r=1∨r=2∨r=3∨r=4:=by omega
    rcases h5 with rfl | rfl | rfl | rfl | rfl <;> decide
  have e9:(((r+1).toNat:Nat):Int)=r+1:=by omega
  exact deed_sleb (y:=y) (n:=(r+1).toNat) (v:=2 ^ (7 * r).toNat) c' hd' hu' hal hne (NumberAt.xkeep (mk (Yq (hTD _ my)) (Yq (hTD _ mdy))) c'.ext) hv9 K hp hcu hn (by omega) fun h9 tk9 L=>rt h9 tk9 (by rw [e9] at L;exact L)
noncomputable def slebS:Stmt:=Mine.H.fld (Mine.H.fBod (Mine.H.d1 56)) 9
theorem sleb_tail {cl n n2:Nat} {vs vs2:List Value} {hs g:Heap} {L':Nat} {m:Str→Option Value} {r:Int} {tr:Tok} {fr':Option (List Env)} {Q:Flow→Shared→Prop} {tk:Tok} {h₁:Heap} (hd:dp≤750) (hu:un≤4500) (cg:Cx w lse mg mb hB g) (X:(Mine.H.K w.params).In g) (T:TopRead Mine.H.q1 lse mg mb g) (F:Fr g L' h₁ m)
    (N:News g L' h₁ [((cl:Addr),lst vs2 n2)]) (kp:Keep ([((cl:Addr),lst vs n)].map (·.1)) hs g) (hr0:0≤r) (hr1:r<5) (hi2:IntsL vs2) (hm:m (Str.ofString "count")=some (.int r tr))
    (ret:∀ (tt:Nat) h' tk,DeedRes w hs h' cl tt→Q (.ret (.ref tt)) { s with heap:=h',toks:=tk }) :
    wpAny (model PG w) (Ar (dp+1) (un+3) fr' gd) (exec slebS (envOf Mine.H.z238 deedSc L' 986 (Mine.H.r 985))) Q (fun _ _=>False) { s with heap:=h₁,toks:=tk }:=zp (by simp(disch:=k_dflt(
  refine' Yo (P:=fun B sc=>wpAny (model PG w) (Ar (dp+1) (un+3) fr' gd) (exec B (envOf Mine.H.z238 sc L' 986 (Mine.H.r 985))) Q (fun _ _=>False) { s with heap:=h₁,toks:=tk }) ?eb ?es ?_
  case eb=>(conv=>lhs;whnf)
  case es=>(conv=>lhs;whnf)
  have hmm:=Yr (m:=m) [(Str.ofString "count",some (.int r tr))] (by simp [hm])
  rw [hmm] at F
  simp only [mLook] at F
  have F:=F
  k_steps
  k_extra "n"
  refine wpAny_call (new_Number (cg.step F.keep) (by omega) fun y g_y tk_y e_y m_y a_y=>?_)
  refine a_y.ob fun dy oy y1 y2 p_y p_dy=>?_
  have N9:=Yb F (Yb F (Ya N e_y) p_y.2 p_y.1) p_dy.2 p_dy.1
  replace F:=Ye F e_y
  clear N
  (rename News _ _ _ _=>N)
  try dsimp only
  k_steps
  k_extra "n"
  rename_i al h7 l7
  k_extra "n"
  refine wpAny_call (new_Deed (cg.step F.keep) (by omega) fun dd g_dd tk_dd e_dd m_dd a_dd=>?_)
  refine a_dd.ob fun ddx odd d1 d2 p_dd p_ddx=>?_
  have N9:=Yb F (Yb F (Ya N e_dd) p_dd.2 p_dd.1) p_ddx.2 p_ddx.1
  replace F:=Ye F e_dd
  clear N
  (rename News _ _ _ _=>N)
  try dsimp only
  k_steps
  · (have hr00:r=0:=by first | assumption | (rename (_ == _)=true=>hq;simpa using hq))
    k_extra "n"
    rename_i ml h8 l8 tt h9 l9
    k_extra "n"
    refine ret tt _ _ (deedRes (dd:=dd) (ml:=ml) (al:=al) (word:=Str.ofString ".sleb128") (args:=[.ref y]) (mvs:=[.int 1 _]) [(dd,instObj 523 ddx),(ddx,odd),(y,instObj 231 dy),(dy,oy)] [some 1] kp F N ?hT ?hC (by k_mem) (by k_mem) (by omega) (by k_mem) (by omega) (by k_mem) (by omega) (fun hh x=>(d2 (Yq (x (dd,instObj 523 ddx) (by k_mem))) (Yq (x (ddx,odd) (by k_mem))))) ?lay ⟨⟨_,rfl⟩,trivial⟩ hi2 (by simp) ?bnd)
    case hT =>
      k_extra "f"
      all_goals k_mem
    case hC =>
      k_extra "f"
      all_goals first | assumption | simp
    case bnd =>
      intro o ho
      rw [List.mem_singleton.mp ho]
      exact .inr ⟨_,rfl,by omega,by omega⟩
    case lay=>exact Layable.sleb hr0 hr1 y2 (by k_mem) (by k_mem) (by first | rfl | (rw [hr00];rfl))
  · skip
    k_extra "n"
    rename_i ml h8 l8 tt h9 l9
    k_extra "n"
    refine ret tt _ _ (deedRes (dd:=dd) (ml:=ml) (al:=al) (word:=Str.ofString ".sleb128") (args:=[.ref y]) (mvs:=[.int (r+1) _]) [(dd,instObj 523 ddx),(ddx,odd),(y,instObj 231 dy),(dy,oy)] [some (r+1)] kp F N ?hT ?hC (by k_mem) (by k_mem) (by omega) (by k_mem) (by omega) (by k_mem) (by omega) (fun hh x=>(d2 (Yq (x (dd,instObj 523 ddx) (by k_mem))) (Yq (x (ddx,odd) (by k_mem))))) ?lay ⟨⟨_,rfl⟩,trivial⟩ hi2 (by simp) ?bnd)
    case hT =>
      k_extra "f"
      all_goals k_mem
    case hC =>
      k_extra "f"
      all_goals first | assumption | simp
    case bnd =>
      intro o ho
      rw [List.mem_singleton.mp ho]
      exact .inr ⟨_,rfl,by omega,by omega⟩
    case lay=>exact Layable.sleb hr0 hr1 y2 (by k_mem) (by k_mem) (by first | rfl | (rw [hr00];rfl))))only[↓zq])
theorem late0_M20:True:=by
  k_with ".exec Return some" => ((fail_if_success have:=@off16);((fail_if_success have:=@retOff);k_here;refine stop_ ?_))
  trivial
theorem fm_bnd {z:Int} {n l:Nat} (h:(n:Int)=l) (hp:0<l):0≤z.fmod n∧z.fmod n<l:=by
  rw [Int.fmod_eq_emod_of_nonneg z (Int.natCast_nonneg n),h]
  exact ⟨Int.emod_nonneg z (by omega),Int.emod_lt_of_pos z (by omega)⟩
theorem toNat_lt9 {z:Int} {l:Nat} (h:0≤z∧z<l):z.toNat<l:=(Int.toNat_lt h.1).mpr h.2
theorem law_deed_6 {cl n pd:Nat} {vs:List Value} {P:List Pl} {W:Str→List (Option Int)} {tw:Tok} {R} (c:Cx w lse mg mb hB s.heap) (hd:dp≤750) (hu:un≤4500) (hl:Own hB s.heap cl (lst vs n)) (hi:IntsL vs) (a:PlAt w s.heap pd P W) (hP:P.length≤6) (hE:∀ p∈P,p.lab≠Str.ofString "")
    (ret:∀ (tt:Nat) h' tk,DeedRes w s.heap h' cl tt→R (.ok (.ret (.ref tt))) { s with heap:=h',toks:=tk }) :
    codeAny (model PG w) (Ar dp un fr gd) (.call (.ref 986) ⟨[.int 6 tw,.ref cl,.ref pd],[]⟩) R s:=zp (by simp(disch:=k_dflt(
  refine law_deed_pre c hd hu hl hi ?_
  intro g L' h₁ tk fr' r tr vs1 n1 cg kp hr0 hr1 hi1 F N X T
  refine' Yo (P:=fun B sc=>wpAny (model PG w) (Ar (dp+1) (un+3) fr' gd) (execs B (envOf Mine.H.z238 sc L' 986 (Mine.H.r 985))) (fun fl s'=>R (.ok (.ret (match fl with | .ret v=>v | _=>.none))) s') (fun _ _=>False) { s with heap:=h₁,toks:=tk }) ?eb ?es ?_
  case eb=>(conv=>lhs;whnf)
  case es=>(conv=>lhs;whnf)
  k_fold
  have hpc:@Ne Nat cl pd:=by
    obtain ⟨_,o,e1,e2⟩:=a.dict
    exact Yc hl.1 e1 (by rw [Zb e2];simp)
  have T0:DAt w g pd (plKvs P):=a.dict.keep kp (not1 hpc)
  k_steps
  k_extra "n"
  refine sorted_keys rfl F N (T0.ext F.keep) (by simp [plKvs];exact hP) fun B h5 tk5 vs5 c5 F N lB hlen hkey=>?_
  have lB1:@LT.lt Nat _ cl B:=lB (cl,lst vs1 n1) (by k_mem)
  clear lB
  have hz5:vs5.length≤6:=by rw [hlen];simp [plKvs];exact hP
  k_steps
  · (rename _<_=>hsz9)
    have hsz8:(vs5.toArray.size:Int)=vs5.length:=by simp
    have hf9:∀ z:Int,0≤z.fmod vs5.toArray.size∧z.fmod vs5.toArray.size<vs5.length:=fun z=>fm_bnd hsz8 (by omega)
    have hf8:=hf9 r
    obtain ⟨k1,j1,hxk1,hmk1⟩:∃ k t,vs5.toArray[(r.fmod vs5.toArray.size).toNat]?=some (Value.str k t)∧k∈(plKvs P).map (·.1):=by
      have hlt:(r.fmod vs5.toArray.size).toNat<vs5.length:=toNat_lt9 hf8
      obtain ⟨k,t,e1,e2⟩:=hkey _ (List.getElem_mem hlt)
      exact ⟨k,t,by rw [List.getElem?_toArray,List.getElem?_eq_getElem hlt,e1],e2⟩
    k_extra "n"
    refine item_listR (x:=.str k1 j1) ⟨_,N.get (by k_mem),rfl,_,rfl⟩ (by omega) (by omega) hxk1 ?_
    k_steps
    k_extra "n"
    refine wpAny_call (pick_spec (cg.step F.keep) (by omega) (by omega) (by exact Yv cg N (by k_mem)) hi1 (by omega) fun r2 tr2 vs2 n2 g3 tk3 hs0 hs1 k3 q3 hi2=>?_)
    have N9:=Yj (rest:=[(B,PySem.W.listOf vs5.toArray c5)]) N k3 (by k_mem) q3 (Yn (by k_extra "r"))
    replace F:=Yp F N k3 (by k_mem)
    clear N
    (rename News _ _ _ _=>N)
    try dsimp only
    obtain ⟨k2,j2,hxk2,hmk2⟩:∃ k t,vs5.toArray[(r2).toNat]?=some (Value.str k t)∧k∈(plKvs P).map (·.1):=by
      have hlt:(r2).toNat<vs5.length:=by omega
      obtain ⟨k,t,e1,e2⟩:=hkey _ (List.getElem_mem hlt)
      exact ⟨k,t,by rw [List.getElem?_toArray,List.getElem?_eq_getElem hlt,e1],e2⟩
    k_extra "n"
    refine item_listR (x:=.str k2 j2) ⟨_,N.get (by k_mem),rfl,_,rfl⟩ (by omega) (by omega) hxk2 ?_
    k_steps
    · (rename (_ != _)=true=>hnz)
      have hoo:k1≠k2:=by simpa using hnz
      have hn1:(k1 != Str.ofString "")=true:=by
        refine absG fun _ kQ=>?_
        obtain ⟨q,hq,rfl⟩:=List.mem_map.mp hmk1
        obtain ⟨p,hp,rfl⟩:=List.mem_map.mp hq
        refine kQ ?_
        clear kQ
        simpa using hE p hp
      have hn2:(k2 != Str.ofString "")=true:=by
        refine absG fun _ kQ=>?_
        obtain ⟨q,hq,rfl⟩:=List.mem_map.mp hmk2
        obtain ⟨p,hp,rfl⟩:=List.mem_map.mp hq
        refine kQ ?_
        clear kQ
        simpa using hE p hp
      delta Stop
      refine wpAny_Return_some ?_
      k_steps
      k_extra "n"
      refine wpAny_call (new_Symbol (cg.step F.keep) (by omega) fun u g_u tk_u e_u m_u a_u=>?_)
      refine a_u.ob fun du ou u1 u2 p_u p_du=>?_
      have N9:=Yb F (Yb F (Ya N e_u) p_u.2 p_u.1) p_du.2 p_du.1
      replace F:=Ye F e_u
      clear N
      (rename News _ _ _ _=>N)
      try dsimp only
      k_steps
      k_extra "n"
      refine wpAny_call (new_Symbol (cg.step F.keep) (by omega) fun v g_v tk_v e_v m_v a_v=>?_)
      refine a_v.ob fun dv ov v1 v2 p_v p_dv=>?_
      have N9:=Yb F (Yb F (Ya N e_v) p_v.2 p_v.1) p_dv.2 p_dv.1
      replace F:=Ye F e_v
      clear N
      (rename News _ _ _ _=>N)
      try dsimp only
      k_steps
      k_extra "n"
      refine wpAny_call (new_Binary (cg.step F.keep) (by omega) fun b g_b tk_b e_b m_b a_b=>?_)
      refine a_b.ob fun db ob b1 b2 p_b p_db=>?_
      have N9:=Yb F (Yb F (Ya N e_b) p_b.2 p_b.1) p_db.2 p_db.1
      replace F:=Ye F e_b
      clear N
      (rename News _ _ _ _=>N)
      try dsimp only
      k_steps
      k_extra "n"
      rename_i al h7 l7
      k_extra "n"
      refine wpAny_call (new_Deed (cg.step F.keep) (by omega) fun dd g_dd tk_dd e_dd m_dd a_dd=>?_)
      refine a_dd.ob fun ddx odd d1 d2 p_dd p_ddx=>?_
      have N9:=Yb F (Yb F (Ya N e_dd) p_dd.2 p_dd.1) p_ddx.2 p_ddx.1
      replace F:=Ye F e_dd
      clear N
      (rename News _ _ _ _=>N)
      try dsimp only
      k_steps
      k_extra "n"
      rename_i ml h8 l8 tt h9 l9
      k_extra "n"
      refine ret tt _ _ (deedRes (dd:=dd) (ml:=ml) (al:=al) (word:=Str.ofString ".uleb128") (args:=[.ref b]) (mvs:=[.none]) [(dd,instObj 523 ddx),(ddx,odd),(b,instObj 283 db),(db,ob),(u,instObj 257 du),(du,ou),(v,instObj 257 dv),(dv,ov)] [none] kp F N ?hT ?hC (by k_mem) (by k_mem) (by omega) (by k_mem) (by omega) (by k_mem) (by omega) (fun hh x=>(d2 (Yq (x (dd,instObj 523 ddx) (by k_mem))) (Yq (x (ddx,odd) (by k_mem))))) ?lay ⟨⟨0,rfl⟩,trivial⟩ hi2 (by simp) ?bnd)
      case hT =>
        k_extra "f"
        all_goals k_mem
      case hC =>
        k_extra "f"
        all_goals first | assumption | simp
      case bnd =>
        intro o ho
        rw [List.mem_singleton.mp ho]
        exact .inl rfl
      case lay =>
        intro lse' mg' mb' hB' dp' un' fr9 gd' s' na' tw' R' k p c' hd' hu' hTD hal hne K hp hcu hn hz rt
        exact deed_uleb (y:=b) (one:=k1) (other:=k2) c' hd' hu' hal hne (DiffAt.ext ⟨⟨u,v,(b2 (Yq (hTD (b,instObj 283 db) (by k_mem))) (Yq (hTD (db,ob) (by k_mem)))),(u2 (Yq (hTD (u,instObj 257 du) (by k_mem))) (Yq (hTD (du,ou) (by k_mem)))),(v2 (Yq (hTD (v,instObj 257 dv) (by k_mem))) (Yq (hTD (dv,ov) (by k_mem))))⟩,hn1,hn2⟩ c'.ext) hoo K hp hcu hn (by omega) rt
    · delta Stop
      k_extra "n"
      exact sleb_tail hd hu cg X T F (fun q hq=>by rw [List.mem_singleton.mp hq];exact N _ (by k_mem)) kp hr0 hr1 hi2 rfl fun tt h' tk d=>ret tt h' tk d
  · delta Stop
    k_extra "n"
    exact sleb_tail hd hu cg X T F (fun q hq=>by rw [List.mem_singleton.mp hq];exact N _ (by k_mem)) kp hr0 hr1 hi1 rfl fun tt h' tk d=>ret tt h' tk d))only[↓zq])
end
theorem retOff:True:=trivial
theorem off16:True:=trivial
abbrev NT:Str:=Str.ofString ".text"
abbrev ND:Str:=Str.ofString ".data"
abbrev NN:Str:=Str.ofString ".note"
noncomputable def lname (i:Nat):Str:=Str.ofString "label" ++ Str.ofString (toString (i:Int))
set_option genInjectivity false in
set_option genSizeOf false in
structure LV where
  (cl nv pd wd nm:Nat)
  vs:List Value
  po:Obj
  P:List Pl
  wl:Str→Nat
  wv:Str→List Value
  wn:Str→Nat
  W:Str→List (Option Int)
  k:CS
  here:Str
noncomputable def LV.row (σ:LV) (n:Str):Addr×Obj:=(σ.wl n,lst (σ.wv n) (σ.wn n))
noncomputable def mutL (w:World) (σ:LV):List (Addr×Obj):=(σ.cl,lst σ.vs σ.nv)::(σ.pd,σ.po)::σ.row NT::σ.row ND::σ.row NN::muts w σ.k
noncomputable def LV.base (σ:LV):List Nat:=[σ.cl,σ.pd,σ.wl NT,σ.wl ND,σ.wl NN,σ.k.xc,σ.k.dc,σ.k.sd,σ.k.nl]
noncomputable def LV.secA (σ:LV):List Nat:=σ.k.l.flatMap fun s=>[s.pl,s.ld]
theorem mutL_all {σ:LV} {Φ:Addr×Obj→Prop} (h1:Φ (σ.cl,lst σ.vs σ.nv)) (h2:Φ (σ.pd,σ.po)) (h3:∀ n,Yk n→Φ (σ.row n)) (h4:Φ (σ.k.xc,instObj 961 σ.k.dc))
    (h5:Φ (σ.k.dc,dictOf [en w "program" σ.k.t1 (.ref σ.k.xp),en w "section" σ.k.t2 (.ref σ.k.cu),en w "scope" σ.k.t3 (.ref σ.k.sc)] σ.k.nc)) (h6:Φ (σ.k.sd,σ.k.od)) (h7:Φ (σ.k.nl,lst (List.zipWith (fun s t=>Value.str s.name t) σ.k.l σ.k.ts) σ.k.nn))
    (h8:∀ s∈σ.k.l,Φ (s.pl,lst s.ps s.n)∧Φ (s.ld,s.o)):∀ q∈mutL w σ,Φ q:=zp (by simp(disch:=k_dflt(
  intro q hq
  unfold mutL muts at hq
  simp only [List.mem_cons,List.mem_flatMap,List.not_mem_nil,or_false] at hq
  rcases hq with rfl | rfl | rfl | rfl | rfl | rfl | rfl | rfl | rfl | ⟨s,hs,rfl | rfl⟩
  · exact h1
  · exact h2
  · exact h3 _ (.inl rfl)
  · exact h3 _ (.inr (.inl rfl))
  · exact h3 _ (.inr (.inr rfl))
  · exact h4
  · exact h5
  · exact h6
  · exact h7
  · exact (h8 s hs).1
  · exact (h8 s hs).2))only[↓zq])
section
variable {σ:LV}
theorem m_cl:((σ.cl:Addr),lst σ.vs σ.nv)∈mutL w σ:=.head _
theorem m_pd:((σ.pd:Addr),σ.po)∈mutL w σ:=.tail _ (.head _)
theorem m_row {n:Str} (h:Yk n):σ.row n∈mutL w σ:=by
  rcases h with rfl | rfl | rfl
  · exact .tail _ (.tail _ (.head _))
  · exact .tail _ (.tail _ (.tail _ (.head _)))
  · exact .tail _ (.tail _ (.tail _ (.tail _ (.head _))))
theorem m_k {q:Addr×Obj} (h:q∈muts w σ.k):q∈mutL w σ:=.tail _ (.tail _ (.tail _ (.tail _ (.tail _ h))))
theorem m_xc:((σ.k.xc:Addr),instObj 961 σ.k.dc)∈mutL w σ:=m_k (.head _)
theorem m_dc:((σ.k.dc:Addr),dictOf [en w "program" σ.k.t1 (.ref σ.k.xp),en w "section" σ.k.t2 (.ref σ.k.cu),en w "scope" σ.k.t3 (.ref σ.k.sc)] σ.k.nc)∈mutL w σ:=m_k (.tail _ (.head _))
theorem m_sd:((σ.k.sd:Addr),σ.k.od)∈mutL w σ:=m_k (.tail _ (.tail _ (.head _)))
theorem m_nl:((σ.k.nl:Addr),lst (List.zipWith (fun s t=>Value.str s.name t) σ.k.l σ.k.ts) σ.k.nn)∈mutL w σ:=m_k (.tail _ (.tail _ (.tail _ (.head _))))
theorem m_pl {s:Sc} (h:s∈σ.k.l):((s.pl:Addr),lst s.ps s.n)∈mutL w σ:=m_k (.tail _ (.tail _ (.tail _ (.tail _ (List.mem_flatMap.mpr ⟨s,h,.head _⟩)))))
theorem m_ld {s:Sc} (h:s∈σ.k.l):((s.ld:Addr),s.o)∈mutL w σ:=m_k (.tail _ (.tail _ (.tail _ (.tail _ (List.mem_flatMap.mpr ⟨s,h,.tail _ (.head _)⟩)))))
end
theorem mutL_adr {σ:LV} {q:Addr×Obj} (h:q∈mutL w σ):(q.1:Nat)∈σ.base++σ.secA:=by
  refine mutL_all (Φ:=fun q=>(q.1:Nat)∈σ.base++σ.secA) (by k_extra "mb") (by k_extra "mb") (fun n hn=>?_) (by k_extra "mb") (by k_extra "mb") (by k_extra "mb") (by k_extra "mb") (fun s hs=>⟨?_,?_⟩) q h
  · refine List.mem_append_left _ ?_
    rcases hn with rfl | rfl | rfl <;> k_extra "mb"
  · exact List.mem_append_right _ (List.mem_flatMap.mpr ⟨s,hs,.head _⟩)
  · exact List.mem_append_right _ (List.mem_flatMap.mpr ⟨s,hs,.tail _ (.head _)⟩)
theorem adr_mutL {σ:LV} {a:Nat} (h:a∈σ.base++σ.secA):∃ q∈mutL w σ,(q.1:Nat)=a:=zp (by simp(disch:=k_dflt(
  rcases List.mem_append.mp h with h | h
  · simp only [LV.base,List.mem_cons,List.not_mem_nil,or_false] at h
    rcases h with rfl | rfl | rfl | rfl | rfl | rfl | rfl | rfl | rfl
    · exact ⟨_,m_cl,rfl⟩
    · exact ⟨_,m_pd,rfl⟩
    · exact ⟨_,m_row (.inl rfl),rfl⟩
    · exact ⟨_,m_row (.inr (.inl rfl)),rfl⟩
    · exact ⟨_,m_row (.inr (.inr rfl)),rfl⟩
    · exact ⟨_,m_xc,rfl⟩
    · exact ⟨_,m_dc,rfl⟩
    · exact ⟨_,m_sd,rfl⟩
    · exact ⟨_,m_nl,rfl⟩
  · obtain ⟨s,hs,h⟩:=List.mem_flatMap.mp h
    simp only [List.mem_cons,List.not_mem_nil,or_false] at h
    rcases h with rfl | rfl
    · exact ⟨_,m_pl hs,rfl⟩
    · exact ⟨_,m_ld hs,rfl⟩))only[↓zq])
structure LOk (w:World) (b:Nat) (σ:LV) (T:List (Addr×Obj)):Prop where
  dj:∀ a∈σ.base++σ.secA,∀ i∈T,@Ne Nat a i.1
  bas:σ.base.Nodup
  bs:∀ a∈σ.base,∀ s∈σ.k.l,a≠s.pl∧a≠s.ld
  ss:∀ s∈σ.k.l,∀ t∈σ.k.l,s.pl≠t.ld∧(s.name≠t.name→s.pl≠t.pl∧s.ld≠t.ld)
  imm:∀ hh:Heap,(∀ q∈T,hh.get? q.1=some q.2)→Imm w hh σ.k
  plc:∀ hh:Heap,(∀ q∈T,hh.get? q.1=some q.2)→∀ p∈σ.P,∃ t1 t2,hh.get? p.y=some (tupO [.str p.sec t1,.int p.ix t2,.ref p.wl])
  wds:∃ o:Obj,((σ.wd:Addr),o)∈T∧o.IsDictOf (PySem.strKind PG w) [(NT,.ref (σ.wl NT)),(ND,.ref (σ.wl ND)),(NN,.ref (σ.wl NN))]∧(@BEq.beq Addr _ σ.wd sysModules)=false
  nms:∃ t1 t2 t3 n,((σ.nm:Addr),lst [.str NT t1,.str ND t2,.str NN t3] n)∈T
  hin:IntsL σ.vs
  pdict:σ.po.IsDictOf (PySem.strKind PG w) (plKvs σ.P)
  plo:(@BEq.beq Addr _ σ.pd sysModules)=false
  wid:∀ n,Yk n→OV (σ.wv n) (σ.W n)∧(σ.wv n).length≤b
  val:∀ n,Yk n→∀ o∈σ.W n,o=none∨∃ v:Int,o=some v∧0≤v∧v≤1000
  dsd:σ.k.od.IsDictOf (PySem.strKind PG w) (Yt σ.k.l)
  lod:(@BEq.beq Addr _ σ.k.sd sysModules)=false
  tl:σ.k.ts.length=σ.k.l.length
  nmd:(σ.k.l.map (·.name)).Nodup
  sc:∀ p∈σ.k.l,Yk p.name∧p.o.IsDictOf (PySem.strKind PG w) p.lb∧(@BEq.beq Addr _ p.ld sysModules)=false∧p.ws=σ.W p.name∧p.lps.length≤σ.P.length
  emp:∀ n,Yk n→(∀ p∈σ.k.l,p.name≠n)→σ.W n=[]
  cur:∃ p∈σ.k.l,p.x=σ.k.cu∧p.name=σ.here
  txt:∃ p∈σ.k.l,p.name=NT
  lab:∀ lab,∀ p∈σ.k.l,(Yu p.lps lab).map (·.2)=(Ym σ.P lab).bind fun q=>if q.sec=p.name then some q.ix else none
  pok:∀ q∈σ.P,(∃ p∈σ.k.l,p.name=q.sec)∧q.ix≤(σ.W q.sec).length∧q.wl=σ.wl q.sec
  lbl:σ.P.map (·.lab)=(List.range σ.P.length).map lname
  p6:σ.P.length≤6
def InH (h:Heap) (l:List (Addr×Obj)):Prop:=∀ q∈l,h.get? q.1=some q.2
theorem eq_of_name {l:List Sc} (nd:(l.map (·.name)).Nodup):∀ {s t:Sc},s∈l→t∈l→s.name=t.name→s=t:=by
  induction l with
  | nil=>intro s t hs;cases hs
  | cons x r ih =>
    intro s t hs ht e
    simp only [List.map_cons,List.nodup_cons] at nd
    rcases List.mem_cons.mp hs with q | hs
    · rcases List.mem_cons.mp ht with q' | ht
      · rw [q,q']
      · exact absurd (List.mem_map.mpr ⟨t,ht,by rw [← e,q]⟩) nd.1
    · rcases List.mem_cons.mp ht with q' | ht
      · exact absurd (List.mem_map.mpr ⟨s,hs,by rw [e,q']⟩) nd.1
      · exact ih nd.2 hs ht e
theorem ok4 {a b c d:Str} (ha:Yk a) (hb:Yk b) (hc:Yk c) (hd:Yk d) (h1:a≠b) (h2:a≠c) (h3:b≠c) (h4:a≠d) (h5:b≠d) (h6:c≠d):False:=by
  rcases ha with rfl | rfl | rfl <;> rcases hb with rfl | rfl | rfl <;> first | exact h1 rfl | skip
  all_goals rcases hc with rfl | rfl | rfl <;> first | exact h2 rfl | exact h3 rfl | skip
  all_goals rcases hd with rfl | rfl | rfl <;> first | exact h4 rfl | exact h5 rfl | exact h6 rfl
theorem few {l:List Sc} (nd:(l.map (·.name)).Nodup) (ok:∀ p∈l,Yk p.name):l.length≤3:=zp (by simp(disch:=k_dflt(
  rcases l with _ | ⟨a,_ | ⟨b,_ | ⟨c,_ | ⟨d,r⟩⟩⟩⟩
  · exact Nat.zero_le _
  · exact Nat.le_of_ble_eq_true rfl
  · exact Nat.le_of_ble_eq_true rfl
  · exact Nat.le_of_ble_eq_true rfl
  · have q1:=List.pairwise_cons.mp nd
    have q2:=List.pairwise_cons.mp q1.2
    have q3:=List.pairwise_cons.mp q2.2
    exact (ok4 (ok a (.head _)) (ok b (.tail _ (.head _))) (ok c (.tail _ (.tail _ (.head _)))) (ok d (.tail _ (.tail _ (.tail _ (.head _))))) (q1.1 _ (.head _)) (q1.1 _ (.tail _ (.head _))) (q2.1 _ (.head _)) (q1.1 _ (.tail _ (.tail _ (.head _)))) (q2.1 _ (.tail _ (.head _))) (q3.1 _ (.head _))).elim))only[↓zq])
section
variable {b:Nat} {σ:LV} {T:List (Addr×Obj)} {h:Heap}
theorem LOk.lens (H:LOk w b σ T) (hT:InH h T):∀ s∈σ.k.l,s.ps.length=(σ.W s.name).length∧(σ.W s.name).length=(σ.wv s.name).length∧(σ.wv s.name).length≤b:=fun s hs=>by
  have a1:=((H.imm h hT).secs s hs).2.1.len
  have a2:=H.sc s hs
  have a3:=H.wid s.name a2.1
  rw [a2.2.2.2.1] at a1
  exact ⟨a1,a3.1.len.symm,a3.2⟩
theorem LOk.ln (H:LOk w b σ T):1≤σ.k.l.length∧σ.k.l.length≤3:=by
  obtain ⟨p,hp,_⟩:=H.cur
  exact ⟨List.length_pos_of_mem hp,few H.nmd fun p hp=>(H.sc p hp).1⟩
theorem LOk.hok (H:LOk w b σ T):Yk σ.here:=by
  obtain ⟨p,hp,_,e⟩:=H.cur
  exact e ▸ (H.sc p hp).1
theorem LOk.col (H:LOk w b σ T) (hb:b≤800) (N:InH h (mutL w σ)) (hT:InH h T) {ms:List Addr} (h1:∀ q∈mutL w σ,q.1∈ms) (h2:∀ q∈T,q.1 ∉ ms):Col w (hideAll h ms) h σ.k:=zp (by simp(disch:=k_dflt(
  have hT':InH (hideAll h ms) T:=fun q hq=>hideAll_get _ (hT q hq) (h2 q hq)
  have I:=H.imm _ hT'
  have o:∀ {q:Addr×Obj},q∈mutL w σ→Own (hideAll h ms) h q.1 q.2:=fun {q} hq=>⟨N q hq,hideAll_none _ (h1 q hq)⟩
  refine ⟨o m_xc,o m_dc,I.sc,I.eq,I.prog,o m_sd,H.lod,H.dsd,o m_nl,H.tl,fun s hs=>?_,H.nmd,H.ln,I.eqs⟩
  obtain ⟨a1,a2,a3⟩:=I.secs s hs
  have a4:=H.sc s hs
  have a5:=H.lens hT s hs
  exact ⟨a1,o (m_ld hs),a4.2.2.1,a4.2.1,o (m_pl hs),a2,by omega,by have:=H.p6;have:=a4.2.2.2.2;omega,(H.ss s hs s hs).1,a3⟩))only[↓zq])
theorem LOk.pl (H:LOk w b σ T) (hb:b≤800) (N:InH h (mutL w σ)) (hT:InH h T):PlAt w h σ.pd σ.P σ.W:=zp (by simp(disch:=k_dflt(
  refine ⟨⟨H.plo,σ.po,N _ m_pd,H.pdict⟩,H.plc h hT,fun p hp=>?_⟩
  refine absG fun _ kQ=>?_
  obtain ⟨⟨s,hs,e⟩,a2,a3⟩:=H.pok p hp
  refine kQ ?_
  clear kQ
  have a4:=(H.sc s hs).1
  rw [e] at a4
  have a5:=H.wid _ a4
  refine ⟨a2,σ.wv p.sec,σ.wn p.sec,?_,a5.1,by omega⟩
  rw [a3]
  exact N _ (m_row a4)))only[↓zq])
theorem LOk.find (H:LOk w b σ T) {k:Str} {s:Sc} (h:homeOf σ.k.l k=some s):s∈σ.k.l∧∃ q y,Ym σ.P k=some q∧q.sec=s.name∧Yu s.lps k=some (y,q.ix):=by
  have hs:=List.mem_of_find?_eq_some h
  have ho:(Yu s.lps k).isSome=true:=by
    have:=List.find?_some h
    exact this
  obtain ⟨⟨y,i⟩,e⟩:=Option.isSome_iff_exists.mp ho
  have hl:=H.lab k s hs
  rw [e] at hl
  cases hq:Ym σ.P k with
  | none=>rw [hq] at hl;cases hl
  | some q =>
    rw [hq] at hl
    by_cases c:q.sec=s.name
    · simp only [Option.map_some,Option.bind_some,if_pos c,Option.some.injEq] at hl
      subst hl
      exact ⟨hs,q,y,rfl,c,e⟩
    · simp [c] at hl
theorem LOk.nofind (H:LOk w b σ T) {k:Str} (h:homeOf σ.k.l k=none):Ym σ.P k=none:=by
  cases hq:Ym σ.P k with
  | none=>rfl
  | some q =>
    refine absG fun _ kQ=>?_
    obtain ⟨⟨s,hs,e⟩,_⟩:=H.pok q (List.mem_of_find?_eq_some hq)
    refine kQ ?_
    clear kQ
    have hl:=H.lab k s hs
    rw [hq] at hl
    simp only [Option.bind_some,if_pos e.symm] at hl
    have hn:=List.find?_eq_none.mp h s hs
    cases hp:Yu s.lps k with
    | none=>rw [hp] at hl;cases hl
    | some p=>rw [hp] at hn;exact absurd rfl hn
theorem LOk.dist (H:LOk w b σ T) (one other:Str):distOf σ.k.l one other=btw σ.P σ.W other one:=by
  unfold distOf btw
  cases h1:homeOf σ.k.l one with
  | none =>
    rw [H.nofind h1]
    cases Ym σ.P other <;> rfl
  | some s =>
    refine absG fun _ kQ=>?_
    obtain ⟨hs,q,y,e1,e2,e3⟩:=H.find h1
    refine kQ ?_
    clear kQ
    have hl:=H.lab other s hs
    rw [e1]
    dsimp only
    rw [e3]
    cases h2:Ym σ.P other with
    | none =>
      rw [h2] at hl
      cases h3:Yu s.lps other with
      | none=>rfl
      | some p=>rw [h3] at hl;cases hl
    | some r =>
      rw [h2] at hl
      by_cases c:r.sec=s.name
      · simp only [Option.bind_some,if_pos c] at hl
        cases h3:Yu s.lps other with
        | none=>rw [h3] at hl;cases hl
        | some p =>
          obtain ⟨y2,i2⟩:=p
          rw [h3] at hl
          simp only [Option.map_some,Option.some.injEq] at hl
          subst hl
          have hw:=(H.sc s hs).2.2.2.1
          simp only [if_pos (c.trans e2.symm)]
          rw [hw,c]
      · simp only [Option.bind_some,if_neg c] at hl
        have c2:¬ r.sec=q.sec:=fun x=>c (x.trans e2)
        simp only [if_neg c2]
        cases h3:Yu s.lps other with
        | none=>rfl
        | some p=>rw [h3] at hl;cases hl
theorem LOk.skipV (H:LOk w b σ T) (one other:Str):skipV σ.k.l one other=if one=other then some 0 else btw σ.P σ.W other one:=by
  unfold Mine.skipV
  rw [H.dist]
theorem sumO_le {ws:List (Option Int)} (hv:∀ o∈ws,o=none∨∃ v:Int,o=some v∧0≤v∧v≤1000):∀ {v},sumO ws=some v→0≤v∧v≤1000 * ws.length:=by
  induction ws with
  | nil=>intro v e;cases e;simp
  | cons o r ih =>
    intro v e
    rcases hv o (.head _) with rfl | ⟨u,rfl,h1,h2⟩
    · cases e
    · obtain ⟨x,e1,e2⟩:=Option.map_eq_some_iff.mp (show (sumO r).map (u+·)=some v from e)
      have:=ih (fun o ho=>hv o (.tail _ ho)) e1
      simp only [List.length_cons]
      omega
theorem le_len {u:Int} {n k:Nat} (h:0≤u∧u≤1000 * (n:Int)) (hn:n≤k) (hk:k≤800):0≤u∧u≤800000:=by omega
theorem big_le {u:Int} (h:0≤u∧u≤800000):u≤1048576:=by omega
theorem neg_le {u:Int} (h:0≤u∧u≤800000):0 - u≤1048576:=by omega
theorem take_drop_len {α:Type} (l:List α) (i j:Nat):((l.drop i).take j).length≤l.length:=Nat.le_trans (List.length_take_le' _ _) (by rw [List.length_drop];exact Nat.sub_le _ _)
theorem btw_bound {P:List Pl} {W:Str→List (Option Int)} {a b:Str} {v:Int} (key:∀ p,Ym P a=some p→∀ (i j:Nat) (u:Int),sumO (((W p.sec).drop i).take j)=some u→0≤u∧u≤800000) (hv:btw P W a b=some v):v≤1048576:=by
  cases h1:Ym P a with
  | none=>rw [btw_n1 h1] at hv;cases hv
  | some p =>
    cases h2:Ym P b with
    | none=>rw [btw_n2 h2] at hv;cases hv
    | some q =>
      by_cases e:p.sec=q.sec
      · by_cases x:p.ix≤q.ix
        · rw [btw_le h1 h2 e x] at hv;exact big_le (key p h1 _ _ _ hv)
        · rw [btw_gt h1 h2 e x] at hv
          obtain ⟨u,e1,rfl⟩:=Option.map_eq_some_iff.mp hv
          exact neg_le (key p h1 _ _ _ e1)
      · rw [btw_ne h1 h2 e] at hv;cases hv
theorem LOk.bound (H:LOk w b σ T) (hb:b≤800) (one other:Str):∀ v,Mine.skipV σ.k.l one other=some v→v≤1048576:=zp (by simp(disch:=k_dflt(
  intro v hv
  have hv:=(H.skipV one other).symm.trans hv
  by_cases e:one=other
  · have:=Option.some.inj ((if_pos e).symm.trans hv)
    subst this
    decide
  · refine btw_bound (fun p h2 i j u hu=>?_) ((if_neg e).symm.trans hv)
    refine absG fun _ kQ=>?_
    obtain ⟨⟨s,hs,e⟩,_⟩:=H.pok p (List.mem_of_find?_eq_some h2)
    refine kQ ?_
    clear kQ
    have ok:Yk p.sec:=e ▸ (H.sc s hs).1
    exact le_len (sumO_le (fun o ho=>H.val _ ok o (List.mem_of_mem_drop (List.mem_of_mem_take ho))) hu) (take_drop_len _ _ _) (by have h3:=(H.wid _ ok).1.len;have h4:=(H.wid _ ok).2;omega)))only[↓zq])
end
theorem InH.left {h:Heap} {l r:List (Addr×Obj)} (a:InH h (l++r)):InH h l:=fun q hq=>a q (List.mem_append_left _ hq)
theorem InH.right {h:Heap} {l r:List (Addr×Obj)} (a:InH h (l++r)):InH h r:=fun q hq=>a q (List.mem_append_right _ hq)
theorem Pcs.append {h:Heap}:∀ {ps ws qs vs},Pcs w h ps ws→Pcs w h qs vs→Pcs w h (ps++qs) (ws++vs)
  | [],[],_,_,_,b=>b
  | _::_,_::_,_,_,⟨a,r⟩,b=>⟨a,Pcs.append r b⟩
  | [],_::_,_,_,x,_=>x.elim
  | _::_,[],_,_,x,_=>x.elim
theorem OV.append:∀ {ps ws qs vs},OV ps ws→OV qs vs→OV (ps++qs) (ws++vs)
  | [],[],_,_,_,b=>b
  | _::_,_::_,_,_,⟨a,r⟩,b=>⟨a,OV.append r b⟩
  | [],_::_,_,_,x,_=>x.elim
  | _::_,[],_,_,x,_=>x.elim
noncomputable def LV.laid (σ:LV) (qs:List Value) (ws':List (Option Int)) (n':Nat) (vs':List Value) (nw:Nat):LV :=
  { σ with
    wv:=fun n=>if n=σ.here then σ.wv n++vs' else σ.wv n
    wn:=fun n=>if n=σ.here then nw else σ.wn n
    W:=fun n=>if n=σ.here then σ.W n++ws' else σ.W n
    k:={ σ.k with l:=σ.k.l.map fun s=>if s.name=σ.here then { s with ps:=s.ps++qs,ws:=s.ws++ws',n:=n' } else s } }
noncomputable def LV.cells (σ:LV) (vs:List Value) (n:Nat):LV:={ σ with vs:=vs,nv:=n }
section
variable {b:Nat} {σ:LV} {T:List (Addr×Obj)} {h:Heap}
theorem LOk.cells (H:LOk w b σ T) {vs n} (hi:IntsL vs):LOk w b (σ.cells vs n) T :=
  ⟨H.dj,H.bas,H.bs,H.ss,H.imm,H.plc,H.wds,H.nms,hi,H.pdict,H.plo,H.wid,H.val,H.dsd,H.lod,H.tl,H.nmd,H.sc,H.emp,H.cur,H.txt,H.lab,H.pok,H.lbl,H.p6⟩
theorem LOk.mono (H:LOk w b σ T) {b':Nat} (hb:b≤b'):LOk w b' σ T :=
  ⟨H.dj,H.bas,H.bs,H.ss,H.imm,H.plc,H.wds,H.nms,H.hin,H.pdict,H.plo,fun n hn=>⟨(H.wid n hn).1,Nat.le_trans (H.wid n hn).2 hb⟩,H.val,H.dsd,H.lod,H.tl,H.nmd,H.sc,H.emp,H.cur,H.txt,H.lab,H.pok,H.lbl,H.p6⟩
theorem LOk.more (H:LOk w b σ T) {TL:List (Addr×Obj)} (hTL:∀ a∈σ.base++σ.secA,∀ i∈TL,@Ne Nat a i.1):LOk w b σ (TL++T) :=
  ⟨fun a ha i hi=>(List.mem_append.mp hi).elim (hTL a ha i) (H.dj a ha i),H.bas,H.bs,H.ss,fun hh q=>H.imm hh (InH.right q),fun hh q=>H.plc hh (InH.right q),
    by obtain ⟨o,q,r⟩:=H.wds;exact ⟨o,List.mem_append_right _ q,r⟩,by obtain ⟨t1,t2,t3,n,q⟩:=H.nms;exact ⟨t1,t2,t3,n,List.mem_append_right _ q⟩,
    H.hin,H.pdict,H.plo,H.wid,H.val,H.dsd,H.lod,H.tl,H.nmd,H.sc,H.emp,H.cur,H.txt,H.lab,H.pok,H.lbl,H.p6⟩
theorem secA_map {l:List Sc} {f:Sc→Sc} (h:∀ s,(f s).pl=s.pl∧(f s).ld=s.ld):(l.map f).flatMap (fun s=>[s.pl,s.ld])=l.flatMap fun s=>[s.pl,s.ld]:=by
  rw [List.flatMap_map]
  congr 1
  funext s
  rw [(h s).1,(h s).2]
theorem LOk.laid (H:LOk w b σ T) {qs ws' n' vs' nw} (hT:InH h T) (hpc:∀ hh,InH hh T→Pcs w hh qs ws') (hov:OV vs' ws') (h2:ws'.length≤2) (hv:∀ o∈ws',o=none∨∃ v:Int,o=some v∧0≤v∧v≤1000) :
    LOk w (b+2) (σ.laid qs ws' n' vs' nw) T:=zp (by simp(disch:=k_dflt(
  have hsec:(σ.laid qs ws' n' vs' nw).secA=σ.secA:=secA_map (f:=fun s=>if s.name=σ.here then { s with ps:=s.ps++qs,ws:=s.ws++ws',n:=n' } else s) fun s=>by (try dsimp only);split <;> exact ⟨rfl,rfl⟩
  have hmem:∀ p∈(σ.laid qs ws' n' vs' nw).k.l,∃ s∈σ.k.l,p=if s.name=σ.here then { s with ps:=s.ps++qs,ws:=s.ws++ws',n:=n' } else s:=fun p hp=>by
    obtain ⟨s,hs,e⟩:=List.mem_map.mp hp
    exact ⟨s,hs,e.symm⟩
  have same:∀ s:Sc,(if s.name=σ.here then { s with ps:=s.ps++qs,ws:=s.ws++ws',n:=n' } else s:Sc).name=s.name:=fun s=>by split <;> rfl
  have hex:∀ n,(∃ p∈σ.k.l,p.name=n)→∃ p∈(σ.laid qs ws' n' vs' nw).k.l,p.name=n:=fun n ⟨p,hp,e⟩=>⟨_,List.mem_map.mpr ⟨p,hp,rfl⟩,(same p).trans e⟩
  have hl:=hov.len
  refine ⟨by rw [hsec];exact H.dj,H.bas,fun a ha p hp=>?_,fun p hp q hq=>?_,fun hh x=>?_,H.plc,H.wds,H.nms,H.hin,H.pdict,H.plo,fun n hn=>?_,fun n hn o ho=>?_,?_,H.lod,?_,?_,fun p hp=>?_,fun n hn hp=>?_,?_,hex _ H.txt,fun lab p hp=>?_,fun q hq=>?_,H.lbl,H.p6⟩
  · obtain ⟨s,hs,rfl⟩:=hmem p hp
    have:=H.bs a ha s hs
    split <;> exact this
  · refine absG fun _ kQ=>?_
    obtain ⟨s,hs,rfl⟩:=hmem p hp
    obtain ⟨t,ht,rfl⟩:=hmem q hq
    refine kQ ?_
    clear kQ
    have:=H.ss s hs t ht
    rw [same,same]
    split <;> split <;> exact this
  · have I:=H.imm hh x
    refine ⟨I.prog,I.eqs,I.sc,I.eq,fun p hp=>?_⟩
    refine absG fun _ kQ=>?_
    obtain ⟨s,hs,rfl⟩:=hmem p hp
    obtain ⟨a1,a2,a3⟩:=I.secs s hs
    refine kQ ?_
    clear kQ
    split
    · exact ⟨a1,a2.append (hpc hh x),fun lab y i e=>by
        obtain ⟨c1,c2⟩:=a3 lab y i e
        exact ⟨by simp only [List.length_append];omega,c2⟩⟩
    · exact ⟨a1,a2,a3⟩
  · have:=H.wid n hn
    show OV (if n=σ.here then σ.wv n++vs' else σ.wv n) (if n=σ.here then σ.W n++ws' else σ.W n)∧(if n=σ.here then σ.wv n++vs' else σ.wv n).length≤b+2
    split
    · exact ⟨this.1.append hov,by rw [List.length_append];omega⟩
    · exact ⟨this.1,by omega⟩
  · have ho':o∈if n=σ.here then σ.W n++ws' else σ.W n:=ho
    split at ho'
    · exact (List.mem_append.mp ho').elim (H.val n hn o) (hv o)
    · exact H.val n hn o ho'
  · have e:Yt (σ.laid qs ws' n' vs' nw).k.l=Yt σ.k.l:=by
      show (List.map _ (List.map _ _))=_
      rw [List.map_map]
      refine List.map_congr_left fun s _=>?_
      show ((if s.name=σ.here then { s with ps:=s.ps++qs,ws:=s.ws++ws',n:=n' } else s:Sc).name,Value.ref (if s.name=σ.here then { s with ps:=s.ps++qs,ws:=s.ws++ws',n:=n' } else s:Sc).x)=(s.name,.ref s.x)
      split <;> rfl
    rw [e]
    exact H.dsd
  · show σ.k.ts.length=(List.map _ _).length
    rw [List.length_map]
    exact H.tl
  · show ((List.map _ (List.map _ _)):List Str).Nodup
    rw [List.map_map]
    have e:((fun x:Sc=>x.name) ∘ fun s:Sc=>if s.name=σ.here then { s with ps:=s.ps++qs,ws:=s.ws++ws',n:=n' } else s)=fun s=>s.name:=funext same
    rw [e]
    exact H.nmd
  · refine absG fun _ kQ=>?_
    obtain ⟨s,hs,rfl⟩:=hmem p hp
    obtain ⟨c1,c2,c3,c4,c5⟩:=H.sc s hs
    refine kQ ?_
    clear kQ
    rw [same]
    have e:(σ.laid qs ws' n' vs' nw).W s.name=if s.name=σ.here then σ.W s.name++ws' else σ.W s.name:=rfl
    rw [e]
    split
    · exact ⟨c1,c2,c3,by rw [c4],c5⟩
    · exact ⟨c1,c2,c3,c4,c5⟩
  · have e:(σ.laid qs ws' n' vs' nw).W n=if n=σ.here then σ.W n++ws' else σ.W n:=rfl
    have hno:∀ p∈σ.k.l,p.name≠n:=fun p hq e=>by
      obtain ⟨p',h1,h2⟩:=hex n ⟨p,hq,e⟩
      exact hp p' h1 h2
    rw [e]
    split
    · rename_i c
      obtain ⟨p,h1,_,h3⟩:=H.cur
      exact absurd (h3.trans c.symm) (hno p h1)
    · exact H.emp n hn hno
  · refine absG fun _ kQ=>?_
    obtain ⟨p,h1,h2,h3⟩:=H.cur
    refine kQ ?_
    clear kQ
    refine ⟨_,List.mem_map.mpr ⟨p,h1,rfl⟩,?_,(same p).trans h3⟩
    refine Eq.trans ?_ h2
    split <;> rfl
  · obtain ⟨s,hs,rfl⟩:=hmem p hp
    have:=H.lab lab s hs
    rw [same]
    refine Eq.trans ?_ this
    split <;> rfl
  · obtain ⟨c1,c2,c3⟩:=H.pok q hq
    refine ⟨hex _ c1,?_,c3⟩
    have e:(σ.laid qs ws' n' vs' nw).W q.sec=if q.sec=σ.here then σ.W q.sec++ws' else σ.W q.sec:=rfl
    rw [e]
    split
    · rw [List.length_append];omega
    · exact c2))only[↓zq])
end
noncomputable def LV.labelled (σ:LV) (lab:Str) (yT yP:Nat) (o' po':Obj):LV :=
  { σ with
    P:=σ.P++[⟨lab,yP,σ.here,(σ.W σ.here).length,σ.wl σ.here⟩]
    po:=po'
    k:={ σ.k with l:=σ.k.l.map fun s=>if s.name=σ.here then { s with lps:=s.lps++[(lab,yT,s.ps.length)],o:=o' } else s } }
noncomputable def LV.newSec (σ:LV) (n:Str) (x pl ld:Nat) (o1 od':Obj) (t:Tok):LV :=
  { σ with k:={ σ.k with l:=σ.k.l++[⟨n,x,pl,ld,o1,[],[],[],0⟩],ts:=σ.k.ts++[t],nn:=σ.k.nn+1,od:=od' } }
noncomputable def LV.to (σ:LV) (n:Str) (x:Nat):LV:={ σ with here:=n,k:={ σ.k with cu:=x } }
theorem lname_ne:∀ i<6,∀ j<6,lname i=lname j→i=j:=by decide +kernel
theorem plFind_app {P:List Pl} {q:Pl} {k:Str}:Ym (P++[q]) k=(Ym P k).or (if q.lab=k then some q else none):=by
  unfold Ym
  rw [List.find?_append]
  congr 1
  by_cases c:q.lab=k <;> simp [c]
theorem posOf_app {l:List (Str×Nat×Nat)} {q:Str×Nat×Nat} {k:Str}:Yu (l++[q]) k=(Yu l k).or (if q.1=k then some q.2 else none):=by
  unfold Yu
  rw [List.find?_append]
  by_cases c:q.1=k
  · cases List.find? (fun p:Str×Nat×Nat=>decide (p.1=k)) l <;> simp [c]
  · cases List.find? (fun p:Str×Nat×Nat=>decide (p.1=k)) l <;> simp [c]
section
variable {b:Nat} {σ:LV} {T:List (Addr×Obj)} {h:Heap}
theorem LOk.fresh_lab (H:LOk w b σ T) (h6:σ.P.length<6):Ym σ.P (lname σ.P.length)=none:=zp (by simp(disch:=k_dflt(
  unfold Ym
  rw [List.find?_eq_none]
  intro p hp
  simp only [decide_eq_true_eq]
  intro e
  have hm:p.lab∈σ.P.map (·.lab):=List.mem_map.mpr ⟨p,hp,rfl⟩
  rw [H.lbl] at hm
  obtain ⟨i,hi,e2⟩:=List.mem_map.mp hm
  have hi':=List.mem_range.mp hi
  have:=lname_ne i (by omega) σ.P.length h6 (e2.trans e)
  omega))only[↓zq])
theorem LOk.nohome (H:LOk w b σ T) {k:Str} (hq:Ym σ.P k=none):homeOf σ.k.l k=none:=by
  cases h:homeOf σ.k.l k with
  | none=>rfl
  | some s =>
    refine absG fun _ kQ=>?_
    obtain ⟨_,q,y,e,_⟩:=H.find h
    refine kQ ?_
    clear kQ
    rw [hq] at e
    cases e
theorem LOk.labelled (H:LOk w b σ T) (hT:InH h T) (h6:σ.P.length<6) {yT yP:Nat} {o' po':Obj} {T':List (Addr×Obj)} (hsub:∀ q∈T,q∈T') (hdj:∀ a∈σ.base++σ.secA,∀ i∈T',@Ne Nat a i.1)
    (hyT:∀ hh,InH hh T'→∃ t1 t2,hh.get? yT=some (tupO [.int (σ.W σ.here).length t1,.int 0 t2]))
    (hyP:∀ hh,InH hh T'→∃ t1 t2,hh.get? yP=some (tupO [.str σ.here t1,.int (σ.W σ.here).length t2,.ref (σ.wl σ.here)]))
    (hd:∀ s∈σ.k.l,s.name=σ.here→o'.IsDictOf (PySem.strKind PG w) (s.lb++[(lname σ.P.length,.ref yT)]))
    (hd2:po'.IsDictOf (PySem.strKind PG w) (plKvs σ.P++[(lname σ.P.length,.ref yP)])) :
    LOk w b (σ.labelled (lname σ.P.length) yT yP o' po') T':=zp (by simp(disch:=k_dflt(
  have hfr:=H.fresh_lab h6
  generalize hlab:lname σ.P.length=lab at hd hd2 hfr ⊢
  have sub:∀ hh,InH hh T'→InH hh T:=fun hh x q hq=>x q (hsub q hq)
  have hsec:(σ.labelled lab yT yP o' po').secA=σ.secA:=secA_map (f:=fun s=>if s.name=σ.here then { s with lps:=s.lps++[(lab,yT,s.ps.length)],o:=o' } else s) fun s=>by (try dsimp only);split <;> exact ⟨rfl,rfl⟩
  have hmem:∀ p∈(σ.labelled lab yT yP o' po').k.l,∃ s∈σ.k.l,p=if s.name=σ.here then { s with lps:=s.lps++[(lab,yT,s.ps.length)],o:=o' } else s:=fun p hp=>by
    obtain ⟨s,hs,e⟩:=List.mem_map.mp hp
    exact ⟨s,hs,e.symm⟩
  have same:∀ s:Sc,(if s.name=σ.here then { s with lps:=s.lps++[(lab,yT,s.ps.length)],o:=o' } else s:Sc).name=s.name:=fun s=>by split <;> rfl
  have hex:∀ n,(∃ p∈σ.k.l,p.name=n)→∃ p∈(σ.labelled lab yT yP o' po').k.l,p.name=n:=fun n ⟨p,hp,e⟩=>⟨_,List.mem_map.mpr ⟨p,hp,rfl⟩,(same p).trans e⟩
  have hP:(σ.labelled lab yT yP o' po').P=σ.P++[⟨lab,yP,σ.here,(σ.W σ.here).length,σ.wl σ.here⟩]:=rfl
  have hno:∀ s∈σ.k.l,Yu s.lps lab=none:=fun s hs=>by
    have:=H.lab lab s hs
    rw [hfr] at this
    simpa using this
  refine ⟨by rw [hsec];exact hdj,H.bas,fun a ha p hp=>?_,fun p hp q hq=>?_,fun hh x=>?_,fun hh x p hp=>?_,?_,?_,H.hin,?_,H.plo,H.wid,H.val,?_,H.lod,?_,?_,fun p hp=>?_,fun n hn hp=>?_,?_,hex _ H.txt,fun lb p hp=>?_,fun q hq=>?_,?_,?_⟩
  · obtain ⟨s,hs,rfl⟩:=hmem p hp
    have:=H.bs a ha s hs
    split <;> exact this
  · refine absG fun _ kQ=>?_
    obtain ⟨s,hs,rfl⟩:=hmem p hp
    obtain ⟨t,ht,rfl⟩:=hmem q hq
    refine kQ ?_
    clear kQ
    have:=H.ss s hs t ht
    rw [same,same]
    split <;> split <;> exact this
  · have I:=H.imm hh (sub hh x)
    refine ⟨I.prog,I.eqs,I.sc,I.eq,fun p hp=>?_⟩
    refine absG fun _ kQ=>?_
    obtain ⟨s,hs,rfl⟩:=hmem p hp
    obtain ⟨a1,a2,a3⟩:=I.secs s hs
    refine kQ ?_
    clear kQ
    split
    · rename_i c
      refine ⟨a1,a2,fun lb y i e=>?_⟩
      have e':Yu (s.lps++[(lab,yT,s.ps.length)]) lb=some (y,i):=e
      rw [posOf_app] at e'
      cases q:Yu s.lps lb with
      | some p =>
        rw [q] at e'
        cases e'
        exact a3 lb y i q
      | none =>
        rw [q] at e'
        by_cases d:lab=lb
        · simp only [Option.none_or,if_pos d,Option.some.injEq,Prod.mk.injEq] at e'
          obtain ⟨rfl,rfl⟩:=e'
          have hl:=(H.lens hT s hs).1
          rw [c] at hl
          rw [hl]
          exact ⟨Nat.le_refl _,hyT hh x⟩
        · simp [d] at e'
    · exact ⟨a1,a2,a3⟩
  · rw [hP] at hp
    rcases List.mem_append.mp hp with hp | hp
    · exact H.plc hh (sub hh x) p hp
    · rw [List.mem_singleton.mp hp]
      exact hyP hh x
  · obtain ⟨o,q,r⟩:=H.wds
    exact ⟨o,hsub _ q,r⟩
  · obtain ⟨t1,t2,t3,n,q⟩:=H.nms
    exact ⟨t1,t2,t3,n,hsub _ q⟩
  · have e:plKvs (σ.P++[⟨lab,yP,σ.here,(σ.W σ.here).length,σ.wl σ.here⟩])=plKvs σ.P++[(lab,.ref yP)]:=by simp [plKvs]
    show po'.IsDictOf _ (plKvs (σ.P++[_]))
    rw [e]
    exact hd2
  · have e:Yt (σ.labelled lab yT yP o' po').k.l=Yt σ.k.l:=by
      show (List.map _ (List.map _ _))=_
      rw [List.map_map]
      refine List.map_congr_left fun s _=>?_
      show ((if s.name=σ.here then { s with lps:=s.lps++[(lab,yT,s.ps.length)],o:=o' } else s:Sc).name,Value.ref (if s.name=σ.here then { s with lps:=s.lps++[(lab,yT,s.ps.length)],o:=o' } else s:Sc).x)=(s.name,.ref s.x)
      split <;> rfl
    rw [e]
    exact H.dsd
  · show σ.k.ts.length=(List.map _ _).length
    rw [List.length_map]
    exact H.tl
  · show ((List.map _ (List.map _ _)):List Str).Nodup
    rw [List.map_map]
    have e:((fun x:Sc=>x.name) ∘ fun s:Sc=>if s.name=σ.here then { s with lps:=s.lps++[(lab,yT,s.ps.length)],o:=o' } else s)=fun s=>s.name:=funext same
    rw [e]
    exact H.nmd
  · refine absG fun _ kQ=>?_
    obtain ⟨s,hs,rfl⟩:=hmem p hp
    obtain ⟨c1,c2,c3,c4,c5⟩:=H.sc s hs
    refine kQ ?_
    clear kQ
    rw [same,hP,List.length_append]
    split
    · rename_i c
      refine ⟨c1,?_,c3,c4,by simp only [List.length_append,List.length_cons,List.length_nil];omega⟩
      have e:({ s with lps:=s.lps++[(lab,yT,s.ps.length)],o:=o' }:Sc).lb=s.lb++[(lab,.ref yT)]:=by simp [Sc.lb]
      rw [e]
      exact hd s hs c
    · exact ⟨c1,c2,c3,c4,by omega⟩
  · exact H.emp n hn fun p hq e=>by
      obtain ⟨p',h1,h2⟩:=hex n ⟨p,hq,e⟩
      exact hp p' h1 h2
  · refine absG fun _ kQ=>?_
    obtain ⟨p,h1,h2,h3⟩:=H.cur
    refine kQ ?_
    clear kQ
    refine ⟨_,List.mem_map.mpr ⟨p,h1,rfl⟩,?_,(same p).trans h3⟩
    refine Eq.trans ?_ h2
    split <;> rfl
  · obtain ⟨s,hs,rfl⟩:=hmem p hp
    have hl:=H.lab lb s hs
    have hlen:=(H.lens hT s hs).1
    rw [same,hP,plFind_app]
    by_cases d:lab=lb
    · subst d
      have hn:=hno s hs
      rw [hfr]
      split
      · rename_i c
        show Option.map _ (Yu (s.lps++[(lab,yT,s.ps.length)]) lab)=_
        rw [posOf_app,hn]
        rw [c] at hlen
        simp [c,hlen]
      · rename_i c
        rw [hn]
        simp [Ne.symm c]
    · rw [if_neg d,Option.or_none,← hl]
      split
      · show Option.map _ (Yu (s.lps++[(lab,yT,s.ps.length)]) lb)=_
        rw [posOf_app,if_neg d,Option.or_none]
      · rfl
  · rw [hP] at hq
    rcases List.mem_append.mp hq with hq | hq
    · obtain ⟨c1,c2,c3⟩:=H.pok q hq
      exact ⟨hex _ c1,c2,c3⟩
    · rw [List.mem_singleton.mp hq]
      obtain ⟨p,h1,_,h3⟩:=H.cur
      exact ⟨hex _ ⟨p,h1,h3⟩,Nat.le_refl _,rfl⟩
  · rw [hP,List.map_append,List.length_append,H.lbl,← hlab]
    simp [List.range_succ]
  · rw [hP,List.length_append]
    simp
    omega))only[↓zq])
theorem LOk.to (H:LOk w b σ T) {n:Str} {x:Nat} (hx:∃ p∈σ.k.l,p.x=x∧p.name=n):LOk w b (σ.to n x) T :=
  ⟨H.dj,H.bas,H.bs,H.ss,fun hh q=>by have I:=H.imm hh q;exact ⟨I.prog,I.eqs,I.sc,I.eq,I.secs⟩,H.plc,H.wds,H.nms,H.hin,H.pdict,H.plo,H.wid,H.val,H.dsd,H.lod,H.tl,H.nmd,H.sc,H.emp,hx,H.txt,H.lab,H.pok,H.lbl,H.p6⟩
theorem LOk.newSec (H:LOk w b σ T) {n:Str} (hn:Yk n) (hno:∀ p∈σ.k.l,p.name≠n) {x pl ld:Nat} {o1 od':Obj} {t:Tok} {T':List (Addr×Obj)} (hsub:∀ q∈T,q∈T') (hdj:∀ a∈σ.base++σ.secA,∀ i∈T',@Ne Nat a i.1)
    (hx:∀ hh,InH hh T'→SecAt w hh x n pl ld) (dj1:∀ i∈T',@Ne Nat pl i.1∧@Ne Nat ld i.1) (dj2:∀ a∈σ.base++σ.secA,@Ne Nat a pl∧@Ne Nat a ld) (hpl:@Ne Nat pl ld)
    (hd1:o1.IsDictOf (PySem.strKind PG w) []) (hlo:(@BEq.beq Addr _ ld sysModules)=false) (hd:od'.IsDictOf (PySem.strKind PG w) (Yt σ.k.l++[(n,.ref x)])) :
    LOk w b (σ.newSec n x pl ld o1 od' t) T':=zp (by simp(disch:=k_dflt(
  have sub:∀ hh,InH hh T'→InH hh T:=fun hh x q hq=>x q (hsub q hq)
  have hsA:(σ.newSec n x pl ld o1 od' t).secA=σ.secA++[pl,ld]:=by simp [LV.secA,LV.newSec]
  have hl:(σ.newSec n x pl ld o1 od' t).k.l=σ.k.l++[⟨n,x,pl,ld,o1,[],[],[],0⟩]:=rfl
  have d2:∀ s∈σ.k.l,(@Ne Nat s.pl pl∧@Ne Nat s.pl ld)∧@Ne Nat s.ld pl∧@Ne Nat s.ld ld:=fun s hs =>
    ⟨dj2 _ (List.mem_append_right _ (List.mem_flatMap.mpr ⟨s,hs,.head _⟩)),dj2 _ (List.mem_append_right _ (List.mem_flatMap.mpr ⟨s,hs,.tail _ (.head _)⟩))⟩
  refine ⟨fun a ha i hi=>?_,H.bas,fun a ha p hp=>?_,fun p hp q hq=>?_,fun hh y=>?_,fun hh y=>H.plc hh (sub hh y),?_,?_,H.hin,H.pdict,H.plo,H.wid,H.val,?_,H.lod,?_,?_,fun p hp=>?_,fun m hm hp=>?_,?_,?_,fun lb p hp=>?_,fun q hq=>?_,H.lbl,H.p6⟩
  · rw [hsA,← List.append_assoc] at ha
    rcases List.mem_append.mp ha with ha | ha
    · exact hdj a ha i hi
    · simp only [List.mem_cons,List.not_mem_nil,or_false] at ha
      rcases ha with rfl | rfl
      · exact (dj1 i hi).1
      · exact (dj1 i hi).2
  · rw [hl] at hp
    rcases List.mem_append.mp hp with hp | hp
    · exact H.bs a ha p hp
    · rw [List.mem_singleton.mp hp]
      exact dj2 a (List.mem_append_left _ ha)
  · rw [hl] at hp hq
    rcases List.mem_append.mp hp with hp | hp <;> rcases List.mem_append.mp hq with hq | hq
    · exact H.ss p hp q hq
    · rw [List.mem_singleton.mp hq]
      have:=d2 p hp
      exact ⟨this.1.2,fun _=>⟨this.1.1,this.2.2⟩⟩
    · rw [List.mem_singleton.mp hp]
      have:=d2 q hq
      exact ⟨this.2.1.symm,fun _=>⟨this.1.1.symm,this.2.2.symm⟩⟩
    · rw [List.mem_singleton.mp hp,List.mem_singleton.mp hq]
      exact ⟨hpl,fun c=>absurd rfl c⟩
  · have I:=H.imm hh (sub hh y)
    refine ⟨I.prog,I.eqs,I.sc,I.eq,fun p hp=>?_⟩
    rw [hl] at hp
    rcases List.mem_append.mp hp with hp | hp
    · exact I.secs p hp
    · rw [List.mem_singleton.mp hp]
      exact ⟨hx hh y,trivial,fun lab y i e=>by cases e⟩
  · obtain ⟨o,q,r⟩:=H.wds
    exact ⟨o,hsub _ q,r⟩
  · obtain ⟨t1,t2,t3,n,q⟩:=H.nms
    exact ⟨t1,t2,t3,n,hsub _ q⟩
  · rw [hl]
    simp only [Yt,List.map_append,List.map_cons,List.map_nil]
    exact hd
  · show (σ.k.ts++[t]).length=(σ.k.l++[_]).length
    rw [List.length_append,List.length_append,H.tl]
    rfl
  · rw [hl,List.map_append,List.nodup_append]
    refine ⟨H.nmd,by simp,fun a ha c hc e=>?_⟩
    obtain ⟨p,hp,rfl⟩:=List.mem_map.mp ha
    simp only [List.map_cons,List.map_nil,List.mem_cons,List.not_mem_nil,or_false] at hc
    exact hno p hp (e.trans hc)
  · rw [hl] at hp
    rcases List.mem_append.mp hp with hp | hp
    · exact H.sc p hp
    · rw [List.mem_singleton.mp hp]
      exact ⟨hn,hd1,hlo,(H.emp n hn hno).symm,Nat.zero_le _⟩
  · exact H.emp m hm fun p hq=>hp p (by rw [hl];exact List.mem_append_left _ hq)
  · obtain ⟨p,h1,h2⟩:=H.cur
    exact ⟨p,by rw [hl];exact List.mem_append_left _ h1,h2⟩
  · obtain ⟨p,h1,h2⟩:=H.txt
    exact ⟨p,by rw [hl];exact List.mem_append_left _ h1,h2⟩
  · rw [hl] at hp
    rcases List.mem_append.mp hp with hp | hp
    · exact H.lab lb p hp
    · rw [List.mem_singleton.mp hp]
      show Option.map _ none=(Ym σ.P lb).bind _
      cases e:Ym σ.P lb with
      | none=>rfl
      | some q =>
        refine absG fun _ kQ=>?_
        obtain ⟨⟨s,hs,e2⟩,_⟩:=H.pok q (List.mem_of_find?_eq_some e)
        refine kQ ?_
        clear kQ
        have:¬ q.sec=n:=fun c=>hno s hs (e2.trans c)
        simp [this]
  · obtain ⟨⟨s,hs,e⟩,c2,c3⟩:=H.pok q hq
    exact ⟨⟨s,by rw [hl];exact List.mem_append_left _ hs,e⟩,c2,c3⟩))only[↓zq])
end
structure LB (w:World) (σ:LV) (TT:List (Addr×Obj)):Prop where
  dj:∀ a∈σ.base++σ.secA,∀ i∈TT,@Ne Nat a i.1
  bas:σ.base.Nodup
  bs:∀ a∈σ.base,∀ s∈σ.k.l,a≠s.pl∧a≠s.ld
  wds:∃ o:Obj,((σ.wd:Addr),o)∈TT∧o.IsDictOf (PySem.strKind PG w) [(NT,.ref (σ.wl NT)),(ND,.ref (σ.wl ND)),(NN,.ref (σ.wl NN))]∧(@BEq.beq Addr _ σ.wd sysModules)=false
  nms:∃ t1 t2 t3 n,((σ.nm:Addr),lst [.str NT t1,.str ND t2,.str NN t3] n)∈TT
  hok:Yk σ.here
theorem LOk.lb {b:Nat} {σ:LV} {T Xs:List (Addr×Obj)} (H:LOk w b σ T) (hx:∀ a∈σ.base++σ.secA,∀ i∈Xs,@Ne Nat a i.1):LB w σ (Xs++T) :=
  ⟨fun a ha i hi=>(List.mem_append.mp hi).elim (hx a ha i) (H.dj a ha i),H.bas,H.bs,by obtain ⟨o,q,r⟩:=H.wds;exact ⟨o,List.mem_append_right _ q,r⟩,
    by obtain ⟨t1,t2,t3,n,q⟩:=H.nms;exact ⟨t1,t2,t3,n,List.mem_append_right _ q⟩,H.hok⟩
structure Seg (w:World) (g:Heap) (L:Nat) (h:Heap) (c1 c2:Obj) (σ:LV) (TT Z:List (Addr×Obj)) (ow:Obj) (u1 u2 u3:Tok) (nn:Nat):Prop where
  nw:News g L h ((L+1,c1)::(L+1+1,c2)::(σ.cl,lst σ.vs σ.nv)::(σ.pd,σ.po)::(σ.wl σ.here,lst (σ.wv σ.here) (σ.wn σ.here))::(σ.wd,ow)::(σ.nm,lst [.str NT u1,.str ND u2,.str NN u3] nn)::(σ.k.xc,instObj 961 σ.k.dc) ::
    (σ.k.dc,cD w σ.k)::Z)
  dw:ow.IsDictOf (PySem.strKind PG w) [(NT,.ref (σ.wl NT)),(ND,.ref (σ.wl ND)),(NN,.ref (σ.wl NN))]
  lw:(@BEq.beq Addr _ σ.wd sysModules)=false
  zp:∀ p∈Z,p.1≠(σ.pd:Addr)
  zw:∀ p∈Z,p.1≠(σ.wl σ.here:Addr)
  cov:∀ q∈mutL w σ++TT,@Ne Nat q.1 σ.pd→@Ne Nat q.1 (σ.wl σ.here)→q∈Z
  np:(@Ne Nat (L+1) σ.pd∧@Ne Nat (L+1+1) σ.pd∧σ.cl≠σ.pd∧σ.wl σ.here≠σ.pd∧σ.wd≠σ.pd∧σ.nm≠σ.pd∧σ.k.xc≠σ.pd∧σ.k.dc≠σ.pd)
  nq:(@Ne Nat (L+1) (σ.wl σ.here)∧@Ne Nat (L+1+1) (σ.wl σ.here)∧σ.cl≠σ.wl σ.here∧σ.wd≠σ.wl σ.here∧σ.nm≠σ.wl σ.here∧σ.k.xc≠σ.wl σ.here∧σ.k.dc≠σ.wl σ.here)
section
variable {σ:LV} {TT:List (Addr×Obj)} {g h h':Heap} {L:Nat} {c1 c2:Obj}
theorem nd9 {a b c d e f g h i:Nat} (x:[a,b,c,d,e,f,g,h,i].Nodup):(a≠b∧a≠c∧a≠d∧a≠e∧a≠f∧a≠g∧a≠h∧a≠i)∧(b≠c∧b≠d∧b≠e∧b≠f∧b≠g∧b≠h∧b≠i)∧(c≠d∧c≠e∧c≠f∧c≠g∧c≠h∧c≠i)∧(d≠e∧d≠f∧d≠g∧d≠h∧d≠i)∧(e≠f∧e≠g∧e≠h∧e≠i)∧(f≠g∧f≠h∧f≠i)∧(g≠h∧g≠i)∧h≠i:=by
  simp only [List.nodup_cons,List.mem_cons,List.not_mem_nil,or_false,not_or] at x
  obtain ⟨a1,a2,a3,a4,a5,a6,a7,a8,_⟩:=x
  exact ⟨a1,a2,a3,a4,a5,a6,a7,a8⟩
theorem bas_here {σ:LV} (bas:σ.base.Nodup) (ok:Yk σ.here):σ.cl≠σ.pd∧σ.wl σ.here≠σ.pd∧σ.k.xc≠σ.pd∧σ.k.dc≠σ.pd∧σ.k.sd≠σ.pd∧σ.k.nl≠σ.pd∧σ.cl≠σ.wl σ.here∧σ.k.xc≠σ.wl σ.here∧σ.k.dc≠σ.wl σ.here∧σ.k.sd≠σ.wl σ.here∧σ.k.nl≠σ.wl σ.here ∧
    ∀ n,Yk n→n≠σ.here→σ.wl n≠σ.wl σ.here∧σ.wl n≠σ.pd:=zp (by simp(disch:=k_dflt(
  replace bas:=nd9 bas
  refine absG fun _ kQ=>?_
  obtain ⟨⟨a1,a2,a3,a4,a5,a6,a7,a8⟩,⟨b2,b3,b4,b5,b6,b7,b8⟩,⟨c3,c4,c5,c6,c7,c8⟩,⟨d4,d5,d6,d7,d8⟩,⟨e5,e6,e7,e8⟩,_⟩:=bas
  refine kQ ?_
  clear kQ
  generalize hh:σ.here=hr at ok
  rcases ok with rfl | rfl | rfl
  · refine ⟨a1,Ne.symm b2,Ne.symm b5,Ne.symm b6,Ne.symm b7,Ne.symm b8,a2,Ne.symm c5,Ne.symm c6,Ne.symm c7,Ne.symm c8,fun n hn c=>?_⟩
    rcases hn with rfl | rfl | rfl
    · exact absurd rfl c
    · exact ⟨Ne.symm c3,Ne.symm b3⟩
    · exact ⟨Ne.symm c4,Ne.symm b4⟩
  · refine ⟨a1,Ne.symm b3,Ne.symm b5,Ne.symm b6,Ne.symm b7,Ne.symm b8,a3,Ne.symm d5,Ne.symm d6,Ne.symm d7,Ne.symm d8,fun n hn c=>?_⟩
    rcases hn with rfl | rfl | rfl
    · exact ⟨c3,Ne.symm b2⟩
    · exact absurd rfl c
    · exact ⟨Ne.symm d4,Ne.symm b4⟩
  · refine ⟨a1,Ne.symm b4,Ne.symm b5,Ne.symm b6,Ne.symm b7,Ne.symm b8,a4,Ne.symm e5,Ne.symm e6,Ne.symm e7,Ne.symm e8,fun n hn c=>?_⟩
    rcases hn with rfl | rfl | rfl
    · exact ⟨c4,Ne.symm b2⟩
    · exact ⟨d4,Ne.symm b3⟩
    · exact absurd rfl c))only[↓zq])
theorem wl_base {σ:LV} {n:Str} (ok:Yk n):σ.wl n∈σ.base:=by
  rcases ok with rfl | rfl | rfl <;> k_extra "mb"
theorem LB.seg (B:LB w σ TT) (h1:((L+1:Nat),c1)∈TT) (h2:((L+1+1:Nat),c2)∈TT) (NF:News g L h (mutL w σ++TT)):∃ Z ow u1 u2 u3 nn,Seg w g L h c1 c2 σ TT Z ow u1 u2 u3 nn:=zp (by simp(disch:=k_dflt(
  refine absG fun _ kQ=>?_
  obtain ⟨ow,hw1,hw2,hw3⟩:=B.wds
  obtain ⟨u1,u2,u3,nn,hn1⟩:=B.nms
  obtain ⟨p1,p2,p3,p4,p5,p6,q1,q2,q3,q4,q5,q6⟩:=bas_here B.bas B.hok
  refine kQ ?_
  clear kQ
  have dp:∀ i∈TT,@Ne Nat i.1 σ.pd:=fun i hi=>(B.dj σ.pd (by k_extra "mb") i hi).symm
  have dq:∀ i∈TT,@Ne Nat i.1 (σ.wl σ.here):=fun i hi=>(B.dj _ (List.mem_append_left _ (wl_base B.hok)) i hi).symm
  refine ⟨(mutL w σ++TT).filter fun q=>decide (@Ne Nat q.1 σ.pd∧@Ne Nat q.1 (σ.wl σ.here)),ow,u1,u2,u3,nn,fun q hq=>?_,hw2,hw3,fun q hq=>?_,fun q hq=>?_,fun q hq a b=>List.mem_filter.mpr ⟨hq,by simp only [decide_eq_true_eq];exact ⟨a,b⟩⟩,
    ⟨dp _ h1,dp _ h2,p1,p2,dp _ hw1,dp _ hn1,p3,p4⟩,⟨dq _ h1,dq _ h2,q1,dq _ hw1,dq _ hn1,q2,q3⟩⟩
  · have l:∀ {q:Addr×Obj},q∈mutL w σ→q∈mutL w σ++TT:=fun hq=>List.mem_append_left _ hq
    have r:∀ {q:Addr×Obj},q∈TT→q∈mutL w σ++TT:=fun hq=>List.mem_append_right _ hq
    simp only [List.mem_cons] at hq
    rcases hq with rfl | rfl | rfl | rfl | rfl | rfl | rfl | rfl | rfl | hq
    · exact NF _ (r h1)
    · exact NF _ (r h2)
    · exact NF _ (l m_cl)
    · exact NF _ (l m_pd)
    · exact NF _ (l (m_row B.hok))
    · exact NF _ (r hw1)
    · exact NF _ (r hn1)
    · exact NF _ (l m_xc)
    · exact NF _ (l m_dc)
    · exact NF _ (List.mem_filter.mp hq).1
  · have:=(List.mem_filter.mp hq).2
    simp only [decide_eq_true_eq] at this
    exact this.1
  · have:=(List.mem_filter.mp hq).2
    simp only [decide_eq_true_eq] at this
    exact this.2))only[↓zq])
theorem LB.segE (B:LB w σ TT) (h1:((L+1:Nat),c1)∈TT) (h2:((L+1+1:Nat),c2)∈TT) (NF:News g L h (mutL w σ++TT)) {P:Prop} (k:∀ Z ow u1 u2 u3 nn,Seg w g L h c1 c2 σ TT Z ow u1 u2 u3 nn→News g L h ((L+1,c1)::(L+1+1,c2)::(σ.cl,lst σ.vs σ.nv)::(σ.pd,σ.po)::(σ.wl σ.here,lst (σ.wv σ.here) (σ.wn σ.here))::(σ.wd,ow)::(σ.nm,lst [.str NT u1,.str ND u2,.str NN u3] nn)::(σ.k.xc,instObj 961 σ.k.dc) ::
    (σ.k.dc,cD w σ.k)::Z)→ow.IsDictOf (PySem.strKind PG w) [(NT,.ref (σ.wl NT)),(ND,.ref (σ.wl ND)),(NN,.ref (σ.wl NN))]→(@BEq.beq Addr _ σ.wd sysModules)=false→(∀ p∈Z,p.1≠(σ.pd:Addr))→(∀ p∈Z,p.1≠(σ.wl σ.here:Addr))→@Ne Nat (L+1) σ.pd→@Ne Nat (L+1+1) σ.pd→σ.cl≠σ.pd→σ.wl σ.here≠σ.pd→σ.wd≠σ.pd→σ.nm≠σ.pd→σ.k.xc≠σ.pd→σ.k.dc≠σ.pd→@Ne Nat (L+1) (σ.wl σ.here)→@Ne Nat (L+1+1) (σ.wl σ.here)→σ.cl≠σ.wl σ.here→σ.wd≠σ.wl σ.here→σ.nm≠σ.wl σ.here→σ.k.xc≠σ.wl σ.here→σ.k.dc≠σ.wl σ.here→P):P:=by
  obtain ⟨Z,ow,u1,u2,u3,nn,S⟩:=LB.seg B h1 h2 NF
  exact k Z ow u1 u2 u3 nn S S.nw S.dw S.lw S.zp S.zw S.np.1 S.np.2.1 S.np.2.2.1 S.np.2.2.2.1 S.np.2.2.2.2.1 S.np.2.2.2.2.2.1 S.np.2.2.2.2.2.2.1 S.np.2.2.2.2.2.2.2 S.nq.1 S.nq.2.1 S.nq.2.2.1 S.nq.2.2.2.1 S.nq.2.2.2.2.1 S.nq.2.2.2.2.2.1 S.nq.2.2.2.2.2.2
theorem Seg.allG {Z ow u1 u2 u3 nn} (S:Seg w g L h c1 c2 σ TT Z ow u1 u2 u3 nn) (B:LB w σ TT) {Φ:Addr×Obj→Prop} {po':Obj} {P':List Pl} {wv':Str→List Value} {wn':Str→Nat} {W':Str→List (Option Int)} (hag:∀ n,n≠σ.here→wv' n=σ.wv n∧wn' n=σ.wn n)
    (hp:Φ (σ.pd,po')) (hw:Φ (σ.wl σ.here,lst (wv' σ.here) (wn' σ.here))) (hZ:∀ q∈Z,Φ q):∀ q∈mutL w { σ with po:=po',P:=P',wv:=wv',wn:=wn',W:=W' }++TT,Φ q:=by
  refine absG fun _ kQ=>?_
  obtain ⟨p1,p2,p3,p4,p5,p6,q1,q2,q3,q4,q5,q6⟩:=bas_here B.bas B.hok
  refine kQ ?_
  clear kQ
  have cv:∀ {q:Addr×Obj},q∈mutL w σ→@Ne Nat q.1 σ.pd→@Ne Nat q.1 (σ.wl σ.here)→Φ q:=fun hq a b=>hZ _ (S.cov _ (List.mem_append_left _ hq) a b)
  intro q hq
  rcases List.mem_append.mp hq with hq | hq
  · refine mutL_all (σ:={ σ with po:=po',P:=P',wv:=wv',wn:=wn',W:=W' }) (Φ:=Φ) (cv m_cl p1 q1) hp (fun n hn=>?_) (cv m_xc p3 q2) (cv m_dc p4 q3) (cv m_sd p5 q4) (cv m_nl p6 q5) (fun s hs=>?_) q hq
    · show Φ (σ.wl n,lst (wv' n) (wn' n))
      by_cases c:n=σ.here
      · rw [c];exact hw
      · rw [(hag n c).1,(hag n c).2]
        exact cv (m_row hn) (q6 n hn c).2 (q6 n hn c).1
    · have b1:=B.bs σ.pd (by k_extra "mb") s hs
      have b2:=B.bs _ (wl_base B.hok) s hs
      exact ⟨cv (m_pl hs) b1.1.symm b2.1.symm,cv (m_ld hs) b1.2.symm b2.2.symm⟩
  · exact hZ _ (S.cov _ (List.mem_append_right _ hq) (B.dj σ.pd (by k_extra "mb") q hq).symm (B.dj _ (List.mem_append_left _ (wl_base B.hok)) q hq).symm)
theorem Seg.same {Z ow u1 u2 u3 nn} {l':List (Addr×Obj)} (S:Seg w g L h c1 c2 σ TT Z ow u1 u2 u3 nn) (B:LB w σ TT) (N':News g L h' l') (hp:((σ.pd:Addr),σ.po)∈l') (hw:((σ.wl σ.here:Addr),lst (σ.wv σ.here) (σ.wn σ.here))∈l') (hZ:∀ q∈Z,q∈l'):News g L h' (mutL w σ++TT) :=
  fun q hq=>N' q (S.allG (Φ:=(·∈l')) B (po':=σ.po) (P':=σ.P) (wv':=σ.wv) (wn':=σ.wn) (W':=σ.W) (fun _ _=>⟨rfl,rfl⟩) hp hw hZ q hq)
theorem base_ne {σ:LV} (bas:σ.base.Nodup):(∀ a∈([σ.pd,σ.wl NT,σ.wl ND,σ.wl NN,σ.k.xc,σ.k.dc,σ.k.sd,σ.k.nl]:List Nat),a≠σ.cl)∧(∀ a∈([σ.cl,σ.pd,σ.wl NT,σ.wl ND,σ.wl NN,σ.k.xc,σ.k.sd,σ.k.nl]:List Nat),a≠σ.k.dc)∧(∀ a∈([σ.cl,σ.pd,σ.wl NT,σ.wl ND,σ.wl NN,σ.k.xc,σ.k.dc]:List Nat),a≠σ.k.sd∧a≠σ.k.nl):=by
  replace bas:=nd9 bas
  refine absG fun _ kQ=>?_
  obtain ⟨⟨a1,a2,a3,a4,a5,a6,a7,a8⟩,⟨b2,b3,b4,b5,b6,b7,b8⟩,⟨c3,c4,c5,c6,c7,c8⟩,⟨d4,d5,d6,d7,d8⟩,⟨e5,e6,e7,e8⟩,⟨f6,f7,f8⟩,⟨g7,g8⟩,_⟩:=bas
  refine kQ ?_
  clear kQ
  exact ⟨(fac (Ne.symm a1) <| fac (Ne.symm a2) <| fac (Ne.symm a3) <| fac (Ne.symm a4) <| fac (Ne.symm a5) <| fac (Ne.symm a6) <| fac (Ne.symm a7) <| fac (Ne.symm a8) <| fan),(fac a6 <| fac b6 <| fac c6 <| fac d6 <| fac e6 <| fac f6 <| fac (Ne.symm g7) <| fac (Ne.symm g8) <| fan),(fac ⟨a7,a8⟩ <| fac ⟨b7,b8⟩ <| fac ⟨c7,c8⟩ <| fac ⟨d7,d8⟩ <| fac ⟨e7,e8⟩ <| fac ⟨f7,f8⟩ <| fac ⟨g7,g8⟩ <| fan)⟩
theorem keepCells {vs n} (B:LB w σ TT) (NF:News g L h (mutL w σ++TT)) (K:Keep [σ.cl] h h') (q:h'.get? σ.cl=some (lst vs n)):News g L h' (mutL w (σ.cells vs n)++TT):=by
  have nb:∀ {p:Addr×Obj},p∈mutL w σ++TT→@Ne Nat p.1 σ.cl→h'.get? p.1=some p.2∧p.1≠L∧g.get? p.1=none:=fun {p} hp ne=>⟨K _ _ (fun hm=>ne (List.mem_singleton.mp hm)) (NF p hp).1,(NF p hp).2⟩
  have l:∀ {q:Addr×Obj},q∈mutL w σ→q∈mutL w σ++TT:=fun hq=>List.mem_append_left _ hq
  have bn:=(base_ne B.bas).1
  have hcl:σ.cl∈σ.base:=by k_extra "mb"
  intro p hp
  rcases List.mem_append.mp hp with hp | hp
  · refine mutL_all (σ:=σ.cells vs n) (Φ:=fun p=>h'.get? p.1=some p.2∧p.1≠L∧g.get? p.1=none) ⟨q,(NF _ (l m_cl)).2⟩ (nb (l m_pd) (bn σ.pd (by k_extra "mb"))) (fun n hn=>nb (l (m_row hn)) (bn (σ.wl n) (by rcases hn with rfl | rfl | rfl <;> k_extra "mb"))) (nb (l m_xc) (bn σ.k.xc (by k_extra "mb"))) (nb (l m_dc) (bn σ.k.dc (by k_extra "mb")))
      (nb (l m_sd) (bn σ.k.sd (by k_extra "mb"))) (nb (l m_nl) (bn σ.k.nl (by k_extra "mb"))) (fun s hs=>⟨nb (l (m_pl hs)) (B.bs _ hcl s hs).1.symm,nb (l (m_ld hs)) (B.bs _ hcl s hs).2.symm⟩) p hp
  · exact nb (List.mem_append_right _ hp) (B.dj _ (List.mem_append_left _ hcl) p hp).symm
theorem keep1 {d:Nat} {q:Addr×Obj} (K:Keep [d] h h') (e:h.get? q.1=some q.2) (ne:@Ne Nat q.1 d):h'.get? q.1=some q.2:=K _ _ (fun hm=>ne (List.mem_singleton.mp hm)) e
noncomputable def LV.laidK (σ:LV) (qs:List Value) (ws':List (Option Int)) (n':Nat):LV :=
  { σ with k:={ σ.k with l:=σ.k.l.map fun s=>if s.name=σ.here then { s with ps:=s.ps++qs,ws:=s.ws++ws',n:=n' } else s } }
noncomputable def LV.markK (σ:LV) (lab:Str) (yT:Nat) (o':Obj):LV :=
  { σ with k:={ σ.k with l:=σ.k.l.map fun s=>if s.name=σ.here then { s with lps:=s.lps++[(lab,yT,s.ps.length)],o:=o' } else s } }
theorem LB.mapK {f:Sc→Sc} (B:LB w σ TT) (hf:∀ s,(f s).pl=s.pl∧(f s).ld=s.ld):LB w { σ with k:={ σ.k with l:=σ.k.l.map f } } TT:=by
  have hsec:LV.secA { σ with k:={ σ.k with l:=σ.k.l.map f } }=σ.secA:=secA_map hf
  refine ⟨fun a ha=>B.dj a (by rw [hsec] at ha;exact ha),B.bas,fun a ha p hp=>?_,B.wds,B.nms,B.hok⟩
  obtain ⟨s,hs,rfl⟩:=List.mem_map.mp hp
  rw [(hf s).1,(hf s).2]
  exact B.bs a ha s hs
theorem LB.laidK (B:LB w σ TT) (qs ws' n'):LB w (σ.laidK qs ws' n') TT:=B.mapK fun s=>by (try dsimp only);split <;> exact ⟨rfl,rfl⟩
theorem LB.markK (B:LB w σ TT) (lab yT o'):LB w (σ.markK lab yT o') TT:=B.mapK fun s=>by (try dsimp only);split <;> exact ⟨rfl,rfl⟩
theorem keepMap {f:Sc→Sc} {p:Sc} {d:Nat} (B:LB w σ TT) (nmd:(σ.k.l.map (·.name)).Nodup) (hp:p∈σ.k.l) (hn:p.name=σ.here) (hf:∀ s,(f s).name=s.name∧(s.name≠σ.here→f s=s)) (hd:d=p.pl∨d=p.ld)
    (hs:∀ t∈σ.k.l,t.name≠σ.here→t.pl≠d∧t.ld≠d) (NF:News g L h (mutL w σ++TT)) (K:Keep [d] h h') (q1:h'.get? (f p).pl=some (lst (f p).ps (f p).n)∧@Ne Nat (f p).pl L∧g.get? (f p).pl=none) (q2:h'.get? (f p).ld=some (f p).o∧@Ne Nat (f p).ld L∧g.get? (f p).ld=none) :
    News g L h' (mutL w { σ with k:={ σ.k with l:=σ.k.l.map f } }++TT):=by
  have nb:∀ {q:Addr×Obj},q∈mutL w σ++TT→@Ne Nat q.1 d→h'.get? q.1=some q.2∧q.1≠L∧g.get? q.1=none:=fun {q} hq ne=>⟨keep1 K (NF q hq).1 ne,(NF q hq).2⟩
  have l:∀ {q:Addr×Obj},q∈mutL w σ→q∈mutL w σ++TT:=fun hq=>List.mem_append_left _ hq
  have bd:∀ a∈σ.base,a≠d:=fun a ha=>by
    have:=B.bs a ha p hp
    rcases hd with rfl | rfl
    · exact this.1
    · exact this.2
  have dd:d∈σ.base++σ.secA:=List.mem_append_right _ (List.mem_flatMap.mpr ⟨p,hp,by simp;exact hd⟩)
  intro q hq
  rcases List.mem_append.mp hq with hq | hq
  · refine mutL_all (σ:={ σ with k:={ σ.k with l:=σ.k.l.map f } }) (Φ:=fun p=>h'.get? p.1=some p.2∧p.1≠L∧g.get? p.1=none) (nb (l m_cl) (bd σ.cl (by k_extra "mb"))) (nb (l m_pd) (bd σ.pd (by k_extra "mb"))) (fun n hn=>nb (l (m_row hn)) (bd (σ.wl n) (wl_base hn)))
      (nb (l m_xc) (bd σ.k.xc (by k_extra "mb"))) (nb (l m_dc) (bd σ.k.dc (by k_extra "mb"))) (nb (l m_sd) (bd σ.k.sd (by k_extra "mb"))) ?_ (fun s hs'=>?_) q hq
    · have e:List.zipWith (fun (s:Sc) t=>Value.str s.name t) (σ.k.l.map f) σ.k.ts=List.zipWith (fun (s:Sc) t=>Value.str s.name t) σ.k.l σ.k.ts:=by
        rw [List.zipWith_map_left]
        congr 1
        funext s t
        rw [(hf s).1]
      show _=some (lst (List.zipWith (fun (s:Sc) t=>Value.str s.name t) (σ.k.l.map f) σ.k.ts) σ.k.nn)∧_
      rw [e]
      exact nb (l m_nl) (bd σ.k.nl (by k_extra "mb"))
    · obtain ⟨t,ht,rfl⟩:=List.mem_map.mp hs'
      by_cases c:t.name=σ.here
      · obtain rfl:=eq_of_name nmd ht hp (c.trans hn.symm)
        exact ⟨q1,q2⟩
      · rw [(hf t).2 c]
        have:=hs t ht c
        exact ⟨nb (l (m_pl ht)) this.1,nb (l (m_ld ht)) this.2⟩
  · exact nb (List.mem_append_right _ hq) (B.dj d dd q hq).symm
theorem keepPl {b:Nat} {T:List (Addr×Obj)} {p:Sc} {qs ws' n'} (H:LOk w b σ T) (B:LB w σ TT) (hp:p∈σ.k.l) (hn:p.name=σ.here) (NF:News g L h (mutL w σ++TT)) (K:Keep [p.pl] h h') (q:h'.get? p.pl=some (lst (p.ps++qs) n')):News g L h' (mutL w (σ.laidK qs ws' n')++TT):=by
  have e:(if p.name=σ.here then { p with ps:=p.ps++qs,ws:=p.ws++ws',n:=n' } else p:Sc)={ p with ps:=p.ps++qs,ws:=p.ws++ws',n:=n' }:=if_pos hn
  have l:∀ {q:Addr×Obj},q∈mutL w σ→q∈mutL w σ++TT:=fun hq=>List.mem_append_left _ hq
  refine keepMap (d:=p.pl) (f:=fun s=>if s.name=σ.here then { s with ps:=s.ps++qs,ws:=s.ws++ws',n:=n' } else s) B H.nmd hp hn (fun s=>⟨by (try dsimp only);split <;> rfl,fun c=>if_neg c⟩) (.inl rfl) (fun t ht c=>?_) NF K ?_ ?_
  · exact ⟨((H.ss t ht p hp).2 (fun x=>c (x.trans hn))).1,(H.ss p hp t ht).1.symm⟩
  · (try dsimp only)
    rw [e]
    exact ⟨q,(NF _ (l (m_pl hp))).2⟩
  · (try dsimp only)
    rw [e]
    exact ⟨keep1 K (NF _ (l (m_ld hp))).1 (H.ss p hp p hp).1.symm,(NF _ (l (m_ld hp))).2⟩
theorem keepLd {b:Nat} {T:List (Addr×Obj)} {p:Sc} {lab yT o'} (H:LOk w b σ T) (B:LB w σ TT) (hp:p∈σ.k.l) (hn:p.name=σ.here) (NF:News g L h (mutL w σ++TT)) (K:Keep [p.ld] h h') (q:h'.get? p.ld=some o'):News g L h' (mutL w (σ.markK lab yT o')++TT):=by
  have e:(if p.name=σ.here then { p with lps:=p.lps++[(lab,yT,p.ps.length)],o:=o' } else p:Sc)={ p with lps:=p.lps++[(lab,yT,p.ps.length)],o:=o' }:=if_pos hn
  have l:∀ {q:Addr×Obj},q∈mutL w σ→q∈mutL w σ++TT:=fun hq=>List.mem_append_left _ hq
  refine keepMap (d:=p.ld) (f:=fun s=>if s.name=σ.here then { s with lps:=s.lps++[(lab,yT,s.ps.length)],o:=o' } else s) B H.nmd hp hn (fun s=>⟨by (try dsimp only);split <;> rfl,fun c=>if_neg c⟩) (.inr rfl) (fun t ht c=>?_) NF K ?_ ?_
  · exact ⟨(H.ss t ht p hp).1,((H.ss t ht p hp).2 (fun x=>c (x.trans hn))).2⟩
  · (try dsimp only)
    rw [e]
    exact ⟨keep1 K (NF _ (l (m_pl hp))).1 (H.ss p hp p hp).1,(NF _ (l (m_pl hp))).2⟩
  · (try dsimp only)
    rw [e]
    exact ⟨q,(NF _ (l (m_ld hp))).2⟩
theorem keepDc {n:Str} {x:Nat} (B:LB w σ TT) (NF:News g L h (mutL w σ++TT)) (K:Keep [σ.k.dc] h h') (q:h'.get? σ.k.dc=some (dictOf [en w "program" σ.k.t1 (.ref σ.k.xp),en w "section" σ.k.t2 (.ref x),en w "scope" σ.k.t3 (.ref σ.k.sc)] σ.k.nc)):News g L h' (mutL w (σ.to n x)++TT):=by
  have nb:∀ {p:Addr×Obj},p∈mutL w σ++TT→@Ne Nat p.1 σ.k.dc→h'.get? p.1=some p.2∧p.1≠L∧g.get? p.1=none:=fun {p} hp ne=>⟨keep1 K (NF p hp).1 ne,(NF p hp).2⟩
  have l:∀ {q:Addr×Obj},q∈mutL w σ→q∈mutL w σ++TT:=fun hq=>List.mem_append_left _ hq
  have bn:=(base_ne B.bas).2.1
  have hdc:σ.k.dc∈σ.base:=by k_extra "mb"
  intro p hp
  rcases List.mem_append.mp hp with hp | hp
  · refine mutL_all (σ:=σ.to n x) (Φ:=fun p=>h'.get? p.1=some p.2∧p.1≠L∧g.get? p.1=none) (nb (l m_cl) (bn σ.cl (by k_extra "mb"))) (nb (l m_pd) (bn σ.pd (by k_extra "mb"))) (fun n hn=>nb (l (m_row hn)) (bn (σ.wl n) (by rcases hn with rfl | rfl | rfl <;> k_extra "mb"))) (nb (l m_xc) (bn σ.k.xc (by k_extra "mb"))) ⟨q,(NF _ (l m_dc)).2⟩
      (nb (l m_sd) (bn σ.k.sd (by k_extra "mb"))) (nb (l m_nl) (bn σ.k.nl (by k_extra "mb"))) (fun s hs=>⟨nb (l (m_pl hs)) (B.bs _ hdc s hs).1.symm,nb (l (m_ld hs)) (B.bs _ hdc s hs).2.symm⟩) p hp
  · exact nb (List.mem_append_right _ hp) (B.dj _ (List.mem_append_left _ hdc) p hp).symm
end
theorem law_deed_all {wy:Int} {cl n pd:Nat} {vs:List Value} {P:List Pl} {W:Str→List (Option Int)} {tw:Tok} {R} (c:Cx w lse mg mb hB s.heap) (hd:dp≤750) (hu:un≤4500) (hl:Own hB s.heap cl (lst vs n)) (hi:IntsL vs) (a:PlAt w s.heap pd P W) (hP:P.length≤6) (hE:∀ p∈P,p.lab≠Str.ofString "") (h1:0≤wy) (h2:wy≤6)
    (ret:∀ (tt:Nat) h' tk,DeedRes w s.heap h' cl tt→R (.ok (.ret (.ref tt))) { s with heap:=h',toks:=tk }) :
    codeAny (model PG w) (Ar dp un fr gd) (.call (.ref 986) ⟨[.int wy tw,.ref cl,.ref pd],[]⟩) R s:=zp (by simp(disch:=k_dflt(
  have h7:wy=0∨wy=1∨wy=2∨wy=3∨wy=4∨wy=5∨wy=6:=by omega
  rcases h7 with rfl | rfl | rfl | rfl | rfl | rfl | rfl
  · exact law_deed_0 c hd hu hl hi a ret
  · exact law_deed_1 c hd hu hl hi a ret
  · exact law_deed_2 c hd hu hl hi a ret
  · exact law_deed_3 c hd hu hl hi a ret
  · exact law_deed_4 c hd hu hl hi a ret
  · exact law_deed_5 c hd hu hl hi a ret
  · exact law_deed_6 c hd hu hl hi a hP hE ret))only[↓zq])
theorem row20:True:=by
  k_with ".exec Try" => ((fail_if_success have:=@off17);(k_here;(refine wpAny_Try_except ?_);(try dsimp only);k_fold))
  trivial
theorem ite_T {c:Prop} [Decidable c] {a b:Prop} (hc:c) (h:a):if c then a else b:=by rw [if_pos hc];exact h
theorem ite_Fa {c:Prop} [Decidable c] {a b:Prop} (hc:¬ c) (h:b):if c then a else b:=by rw [if_neg hc];exact h
theorem late0_M22:True:=by
  k_with ".ite" => ((fail_if_success have:=@off17);(k_here;first | (with_reducible refine ite_T (by first | assumption | rfl | exact beq_self_eq_true _) ?_) | (with_reducible refine ite_Fa (by first | assumption | exact Bool.false_ne_true | (intro hh;exact hh rfl)) ?_)))
  trivial
theorem item_last {A:Around} {E:Value→Shared→Prop} {value slice:Expr} {l:Addr} {ps:List Value} {x:Value} {k:Int} {u:Tok} {Q:Value→Shared→Prop} (hl:s.heap.IsList l (ps++[x]).toArray) (hk:k=-1) (hz:ps.length≤800) (h:Q x s)
    (hs:subscripted slice false (.ref l) (.int k u)=operate [.ref l,.int k u] (getItem (.ref l) (.int k u)):=by with_unfolding_all rfl) :
    wpAny (model PG w) A (subscriptTail value slice (.ref l) (.int k u)) Q E s:=by
  subst hk
  refine subscriptTail_builtinR hl.typeIs slot_list_getitem.lookup (wpAny_getItem_list_neg (Q:=fun r s'=>r=x∧Q r s') hl (by decide) (by simp;omega) (by decide) ?_ ⟨rfl,h⟩) hs
  have e:((-1:Int)+((ps++[x]).toArray.size:Nat)).toNat=ps.length:=by simp;omega
  rw [e]
  simp
theorem kl_last_app (x:Value):∀ ps:List Value,kl_last (ps++[x])=some (ps,x)
  | []=>rfl
  | a::r=>by simp [kl_last,kl_last_app x r]
theorem late1_M22:True:=by
  k_with ".subscriptTail Name UnaryOp ref int" => ((fail_if_success have:=@off17);(k_here;(with_reducible show wpAny _ _ (subscriptTail _ _ (Value.ref _) (Value.int _ _)) _ _ _);k_dflt (refine item_last (by is_list) (by decide) (by assumption) ?_)))
  trivial
theorem pop_last {A:Around} {E:Value→Shared→Prop} {g:Heap} {L D:Addr} {m:Str→Option Value} {news news':List (Addr×Obj)} {n:Nat} {ps:List Value} {x:Value} {Q:Value→Shared→Prop} (F:Fr g L s.heap m) (N:News g L s.heap news) (U:Upd D (lst (ps++[x]) n) (lst ps (n+1)) news news') (hz:ps.length≤800)
    (h:∀ h',Fr g L h' m→News g L h' news'→Q x { s with heap:=h' }):wpAny (model PG w) A (call (.builtin "list.pop") [.ref D]) Q E s :=
  kl_pop (p:=ps) (y:=x) (its:=(ps++[x]).toArray) F N (kl_last_app x ps) U (by simp [sizeLine_eq];omega) h
theorem late2_M22:True:=by
  k_with ".call builtin:list.pop" => ((fail_if_success have:=@off17);(k_here;(with_reducible show wpAny _ _ (call (Value.builtin _) [Value.ref _]) _ _ _);k_dflt (refine' @pop_last _ _ _ _ _ _ _ _ _ _ _ _ _ _ (by k_asm) (by k_asm) (by k_upd) (by assumption) ?_;k_whole);intro _ _ _;(try k_sweep)))
  trivial
theorem Brk.on {hX h h₁ g:Heap} {outer fr} {L' a:Addr} {m:Str→Option Value} {name:Str} {scope:Scope} {cd:Value} (b:Brk hX outer fr h) (e:Ext h h₁) (F:Fr g L' h₁ m) (hf:h.get? L'=none) (hk:scope.kind=.function) :
    Brk hX (envOf name scope L' a cd::outer) (fr.map (envOf name scope L' a cd::·)) h₁ :=
  ⟨by rw [b.stack];rfl,(b.ext e).stays,.cons (by show scope.kind≠.module;rw [hk];decide) rfl F.ns (Yf b.stays hf) (b.ext e).frames⟩
theorem skip_spec {k:CS} {p:Sc} {pd Lw:Nat} {oLw:Obj} {P:List Pl} {W:Str→List (Option Int)} {one other:Str} {t1 t2:Tok} {R} (c:Cx w lse mg mb hB s.heap) (hd:dp≤660) (hu:un≤3000) (K:Col w hB s.heap k) (hp:p∈k.l) (hcu:p.x=k.cu) (hn:Yk p.name) (hz:p.ps.length≤800) (a:PlAt w s.heap pd P W)
    (hLw:Own hB s.heap Lw oLw) (hLd:∃ es n,oLw.data=.dict es n) (nL:@Ne Nat Lw p.pl) (nxL:@Ne Nat k.xc Lw) (ndL:@Ne Nat k.dc Lw) {outer:List Env} (bk:Brk (hideAll s.heap [Lw]) outer fr s.heap)
    (hv:skipV k.l one other=if one=other then some 0 else btw P W other one) (h1:(one != Str.ofString "")=true) (h2:(other != Str.ofString "")=true) (hv1:∀ v,skipV k.l one other=some v→v≤1048576)
    (ret:∀ h' tk sl n',Keep [p.pl,Lw] s.heap h'→h'.get? Lw=some { oLw with slots:=sl }→h'.get? p.pl=some (lst p.ps n')→R (.ok (.ret (.bool true))) { s with heap:=h',toks:=tk }) :
    codeAny (model PG w) (Ar dp un fr gd) (.call (.ref 993) ⟨[.ref k.xc,.ref pd,.str one t1,.str other t2],[]⟩) R s:=by
  have hS:=K.pg.secs p hp
  have hsec:=hS.sec
  have hpl:=hS.opl
  rw [hcu] at hsec
  refine' enter [(p.pl,lst p.ps p.n),(Lw,oLw)] [(Str.ofString "collector",.ref k.xc),(Str.ofString "places",.ref pd),(Str.ofString "one",.str one t1),(Str.ofString "other",.str other t2)] c ?kf ?k6 ?k7 ?eb ?es ?k8 ?k9 ?kB ?c5 ?c2 ?c3 ?c4 ?_
  k_extra "e0"
  refine wpAny_noRaise ?_
  have gX:∀ b o,g.get? b=some o→(hideAll s.heap [Lw]).get? b=some o:=fun b o q=>hideAll_get _ (sub b o q) (by
    intro hm
    rw [List.mem_singleton.mp hm,(N (Lw,oLw) (by k_mem)).2.2] at q
    cases q)
  have nm:∀ {b:Nat} {o:Obj},hB.get? b=some o→b ∉ [(p.pl:Nat),Lw]:=fun {b o} q m=>by
    rcases List.mem_cons.mp m with r | r
    · rw [r,hpl.2] at q;cases q
    · rw [List.mem_singleton.mp r,hLw.2] at q;cases q
  have n1:@Ne Nat k.xc p.pl:=Yc K.oi.1 hpl.1 (by simp)
  have n2:@Ne Nat k.dc p.pl:=Yc K.odc.1 hpl.1 (by simp)
  have b1:=kp _ _ (fun m=>(List.mem_cons.mp m).elim (fun r=>n1 r) fun r=>nxL (List.mem_singleton.mp r)) K.oi.1
  have b2:=kp _ _ (fun m=>(List.mem_cons.mp m).elim (fun r=>n2 r) fun r=>ndL (List.mem_singleton.mp r)) K.odc.1
  refine (hsec.ext cg.ext).el fun dxs ns v1 v2 v3 vt s1 s2=>?_
  k_steps
  k_extra "n"
  have kq:=kqo (ks:=[]) kp F N hfo (by k_extra "q")
  have eS:=kq.ext
  clear kq
  refine wpAny_call (between_spec (one:=other) (cg.step F.keep) (by omega) (by omega) (by exact a.ext eS) fun g2 tk2 td e2=>?_)
  generalize hdue:btw P W other one=due at hv ⊢
  replace F:=Ye F e2
  replace N:=Ya N e2
  dsimp only
  k_steps
  k_extra "n"
  refine wpAny_call (new_Symbol (cg.step F.keep) (by omega) fun u g_u tk_u e_u m_u a_u=>?_)
  refine a_u.ob fun du ou u1 u2 p_u p_du=>?_
  have N9:=Yb F (Yb F (Ya N e_u) p_u.2 p_u.1) p_du.2 p_du.1
  replace F:=Ye F e_u
  clear N
  (rename News _ _ _ _=>N)
  dsimp only
  k_steps
  k_extra "n"
  refine wpAny_call (new_Symbol (cg.step F.keep) (by omega) fun v g_v tk_v e_v m_v a_v=>?_)
  refine a_v.ob fun dv ov v1 v2 p_v p_dv=>?_
  have N9:=Yb F (Yb F (Ya N e_v) p_v.2 p_v.1) p_dv.2 p_dv.1
  replace F:=Ye F e_v
  clear N
  (rename News _ _ _ _=>N)
  dsimp only
  k_steps
  k_extra "n"
  refine wpAny_call (new_Binary (cg.step F.keep) (by omega) fun b g_b tk_b e_b m_b a_b=>?_)
  refine a_b.ob fun db ob b1 b2 p_b p_db=>?_
  have N9:=Yb F (Yb F (Ya N e_b) p_b.2 p_b.1) p_db.2 p_db.1
  replace F:=Ye F e_b
  clear N
  (rename News _ _ _ _=>N)
  dsimp only
  k_steps
  k_extra "n"
  rename_i al h7 l7
  k_extra "n"
  refine wpAny_call (new_Deed (cg.step F.keep) (by omega) fun dd g_dd tk_dd e_dd m_dd a_dd=>?_)
  refine a_dd.ob fun ddd odd dd1 dd2 p_dd p_ddd=>?_
  have N9:=Yb F (Yb F (Ya N e_dd) p_dd.2 p_dd.1) p_ddd.2 p_ddd.1
  replace F:=Ye F e_dd
  clear N
  (rename News _ _ _ _=>N)
  dsimp only
  k_steps
  k_extra "n"
  k_extra "n"
  have kq:=kqo (ks:=[]) kp F N hfo (by k_extra "q")
  have eS:=kq.ext
  clear kq
  have cN:=cg.step F.keep
  have eB:=cN.ext
  have hBd:DiffAt w g_dd b one other:=⟨⟨u,v,(b2 (Yq (N.get (by k_mem))) (Yq (N.get (by k_mem)))),(u2 (Yq (N.get (by k_mem))) (Yq (N.get (by k_mem)))),(v2 (Yq (N.get (by k_mem))) (Yq (N.get (by k_mem))))⟩,h1,h2⟩
  have hD:DeedAt w h0 g_dd dd (Str.ofString ".skip") al:=(dd2 (Yq (N.get (by k_mem))) (Yq (N.get (by k_mem))))
  have hal:Own hB g_dd al (lst [.ref b] 0):=Yv cg N (by k_mem)
  have hne:@Ne Nat al p.pl:=by k_ne
  cases hval:skipV k.l one other with
  | none =>
    have hbad:badC k.l one other 83:=.inl ⟨rfl,hval⟩
    rw [hval] at hv
    have hoo:one≠other:=by
      intro q
      rw [if_pos q] at hv
      cases hv
    rw [if_neg hoo] at hv
    subst hv
    refine wpAny_call (lay_deedE (C:=83) cN (by omega) (by omega) (by exact K.ext eS) hD (by exact bk.on eS F fresh rfl) (fun c' hd' hu' e' bk' rt=>deed_skipE c' hd' hu' (e' _ _ hal.1) (hBd.ext e') (K.ext (eS.trans e')) hp hcu hn hbad bk' rt) fun e g3 tk3 f3 u3=>?_)
    dsimp only
    k_unfold
    try dsimp only
    refine taken (by show Option.map _ fr=_;rw [bk.stack];rfl) f3 fun h5 f5 u5=>?_
    have st5:(hideAll s.heap [Lw]).StaysIn h5:=f5.elim fun a0 x=>x.1
    have F5:=F.of_stays (fun b o q=>st5 b o (gX b o q)) (u3.trans u5)
    refine clause_hit F5 X T f5 (by k_dflt k_is) (fun he hc hq=>match_83_83 (X.keeps F5.keep) he hc hq) (fun h6 f6 u6=>?_)
    have st6:(hideAll s.heap [Lw]).StaysIn h6:=f6.elim fun a0 x=>x.1
    have F6:=F.of_stays (fun b o q=>st6 b o (gX b o q)) (u3.trans (u5.trans u6))
    obtain ⟨sl,hsl⟩:=((Heap.UpToSlots.of_keeps eS).trans (u3.trans (u5.trans u6))) Lw oLw hLw.1 (by obtain ⟨es,n,q⟩:=hLd;rw [q];intro vs q;cases q)
    have N6:News g L' h6 [(p.pl,lst p.ps p.n),(Lw,{ oLw with slots:=sl })]:=Yl (Yl News.nil hsl (N (Lw,oLw) (by k_mem)).2) (st6 _ _ (hideAll_get _ hpl.1 (not1 nL))) (N (p.pl,lst p.ps p.n) (by k_mem)).2
    clear F N F5
    have F:=F6
    have N:=N6
    clear F6 N6
    have ho1:¬ ((one == other)=true):=by simpa using hoo
    dsimp only [oval] at F
    k_steps
    k_extra "n"
    have kq:=kqo (ks:=[(p.pl:Nat),Lw]) kp F N hfo (by k_extra "q")
    rw [show ∀ x:Str,(x == x)=true from fun x=>beq_self_eq_true x]
    exact ret _ _ sl _ kq (N.get (by k_mem)) (N.get (by k_mem))
  | some val =>
    rw [hval] at hv
    by_cases hv0:0≤val
    · refine wpAny_call (lay_deed (Post:=fun h h'=>∃ q:Nat,Keep [p.pl] h h'∧SpaceAt w h h' q val 0∧h'.get? p.pl=some (lst (p.ps++[.ref q]) (p.n+1))) cN (by omega) (by omega) (by exact K.ext eS) hD (fun c' hd' hu' e' rt=>deed_skip c' hd' hu' (Own.ext hal e') hne (.inr ⟨one,other,hBd.ext e',hval⟩) hv0 (hv1 _ hval) (K.ext (eS.trans e')) hp hcu hn (by omega) fun q h' tk k1 k2 k3=>rt h' tk ⟨q,fun x o m y=>k1 x o m (e' _ _ y),k2.down e',k3⟩) fun g3 tk3 P3=>?_)
      refine absG fun _ kQ=>?_
      obtain ⟨q,k3,a3,q3⟩:=P3
      refine kQ ?_
      clear kQ
      refine a3.el fun dq nq r1 r2 r3 r4 r5 r6 r7 a5 a6=>?_
      have F0:=F
      have hq1:@Ne Nat q p.pl:=(Yi (N (p.pl,lst p.ps p.n) (by k_mem)).1 a5.2).symm
      have hq2:@Ne Nat dq p.pl:=(Yi (N (p.pl,lst p.ps p.n) (by k_mem)).1 a6.2).symm
      have N9:=Yj (rest:=[(Lw,oLw)]) N k3 (by k_mem) q3 (Yn (by k_extra "r"))
      replace F:=Yp F N k3 (by k_mem)
      clear N
      (rename News _ _ _ _=>N)
      replace N:=Yb F0 (Yb F0 N a6.2 a6.1) a5.2 a5.1
      dsimp only
      by_cases hoo:one=other
      · subst hoo
        rw [if_pos rfl] at hv
        cases hv
        k_steps
        k_extra "n"
        have kq:=kqo (ks:=[(p.pl:Nat),Lw]) kp F N hfo (by k_extra "q")
        rw [show ∀ x:Int,(x == x)=true from fun x=>beq_self_eq_true x]
        exact ret _ _ oLw.slots _ kq (N.get (by k_mem)) (N.get (by k_mem))
      · rw [if_neg hoo] at hv
        subst hv
        have ho1:¬ ((one == other)=true):=by simpa using hoo
        have ho2:¬ (val<0):=by omega
        dsimp only [oval] at F
        k_steps
        k_extra "n"
        have kq:=kqo (ks:=[(p.pl:Nat),Lw]) kp F N hfo (by k_extra "q")
        rw [show ∀ x:Int,(x == x)=true from fun x=>beq_self_eq_true x]
        exact ret _ _ oLw.slots _ kq (N.get (by k_mem)) (N.get (by k_mem))
    have ho2:val<0:=by omega
    have hbad:badC k.l one other 95:=.inr ⟨rfl,val,hval,ho2⟩
    have hoo:one≠other:=by
      intro q
      rw [if_pos q] at hv
      cases hv
      omega
    rw [if_neg hoo] at hv
    subst hv
    refine wpAny_call (lay_deedE (C:=95) cN (by omega) (by omega) (by exact K.ext eS) hD (by exact bk.on eS F fresh rfl) (fun c' hd' hu' e' bk' rt=>deed_skipE c' hd' hu' (e' _ _ hal.1) (hBd.ext e') (K.ext (eS.trans e')) hp hcu hn hbad bk' rt) fun e g3 tk3 f3 u3=>?_)
    dsimp only
    k_unfold
    try dsimp only
    refine taken (by show Option.map _ fr=_;rw [bk.stack];rfl) f3 fun h5 f5 u5=>?_
    have st5:(hideAll s.heap [Lw]).StaysIn h5:=f5.elim fun a0 x=>x.1
    have F5:=F.of_stays (fun b o q=>st5 b o (gX b o q)) (u3.trans u5)
    refine clause_miss F5 X T f5 (by k_dflt k_is) (fun he hc hq=>match_95_83 (X.keeps F5.keep) he hc hq) ?_
    refine clause_hit F5 X T f5 (by k_dflt k_is) (fun he hc hq=>match_95_95 (X.keeps F5.keep) he hc hq) (fun h6 f6 u6=>?_)
    have st6:(hideAll s.heap [Lw]).StaysIn h6:=f6.elim fun a0 x=>x.1
    have F6:=F.of_stays (fun b o q=>st6 b o (gX b o q)) (u3.trans (u5.trans u6))
    obtain ⟨sl,hsl⟩:=((Heap.UpToSlots.of_keeps eS).trans (u3.trans (u5.trans u6))) Lw oLw hLw.1 (by obtain ⟨es,n,q⟩:=hLd;rw [q];intro vs q;cases q)
    have N6:News g L' h6 [(p.pl,lst p.ps p.n),(Lw,{ oLw with slots:=sl })]:=Yl (Yl News.nil hsl (N (Lw,oLw) (by k_mem)).2) (st6 _ _ (hideAll_get _ hpl.1 (not1 nL))) (N (p.pl,lst p.ps p.n) (by k_mem)).2
    clear F N F5
    have F:=F6
    have N:=N6
    clear F6 N6
    have ho1:¬ ((one == other)=true):=by simpa using hoo
    dsimp only [oval] at F
    k_steps
    k_extra "n"
    have kq:=kqo (ks:=[(p.pl:Nat),Lw]) kp F N hfo (by k_extra "q")
    rw [show ∀ x:Str,(x == x)=true from fun x=>beq_self_eq_true x]
    exact ret _ _ sl _ kq (N.get (by k_mem)) (N.get (by k_mem))
theorem off17:True:=trivial
theorem callOff:True:=trivial
theorem enterC1 {w:World} {lse:List Str} {mg mb:Str→Option Value} {hB:Heap} {dp un:Nat} {fr:Option (List Env)} {gd:Option (List Code)} {R:Result→Shared→Prop} {s:Shared} (foot:List (Addr×Obj)) (binds:List (Str×Value))
    {name qual:Str} {params:Arguments} {body B:List Stmt} {scope Sc:Scope} {dV kV doc pm cdv ct oc:Value} {an od:Option Addr} {osl:Array (Option Value)} {f:Addr} {args:Args}
    (c:Cx w lse mg mb hB s.heap) (hfo:FootOk hB s.heap foot)
    (ho:(Mine.H.K w.params).lookup f=some ⟨oc,od,.func (fnOf name qual params B Sc dV kV doc pm an cdv ct),osl⟩) (hcd:codeIn (Mine.H.K w.params) cdv qual=true)
    (hbody:B=body) (hscope:Sc=scope)
    (hroom:dp<recursionLimit) (hbind:BindsTo s (fnOf name qual params body scope dV kV doc pm an cdv ct) args binds)
    (hkind:(binds.all fun y=>scope.names.lookup y.1 == some .local || scope.names.lookup y.1 == some .cell)=true) (hnd:((cellsFrom 0 scope.names []).map (·.1)).Nodup)
    (hco:scope.isCoroutine=false) (hgen:scope.isGenerator=false) (hk:scope.kind=.function)
    (h:∀ g L' h₁ tk cells,FootOk hB s.heap foot→Cx w lse mg mb hB g→Keep (foot.map (·.1)) s.heap g→Ext g s.heap→s.heap.get? L'=none →
      Fr g L' h₁ (bindL (envOfC qual scope L' f cdv).kindOf binds fun _=>none)→News g L' h₁ (cells++foot)→CellsAre (bindC (envOfC qual scope L' f cdv).kindOf binds fun _=>none) (cellsFrom (L'+1) scope.names []) cells→(Mine.H.K w.params).In g→TopRead Mine.H.q1 lse mg mb g→(∀ p∈foot,@LT.lt Nat _ p.1 L') →
      wpAny (model Mine.H.PG w) (Ar (dp+1) (un+3) (fr.map (envOfC qual scope L' f cdv::·)) gd) (execs body (envOfC qual scope L' f cdv))
        (fun fl s'=>R (.ok (.ret (match fl with | .ret v=>v | _=>.none))) s') (fun _ _=>False) { s with heap:=h₁,toks:=tk }) :
    codeAny (model Mine.H.PG w) (Ar dp un fr gd) (.call (.ref f) args) R s:=zp (by simp(disch:=k_dflt(
  have X:=c.kin'
  subst hbody hscope
  have hfoot:=footOk hfo
  have kp:Keep (foot.map (·.1)) s.heap (hideAll s.heap (foot.map (·.1))):=fun b o n e=>hideAll_get _ e n
  have nB:∀ k∈foot.map (·.1),hB.get? k=none:=fun k hk=>by
    obtain ⟨p,hp,rfl⟩:=List.mem_map.mp hk
    exact (hfoot p hp).2
  have c':=c.but kp nB
  refine codeAny_call_function hroom (X _ _ ho) rfl hco hgen rfl (codeRec_of X hcd) (hbind _ _ _ _ ?_)
  refine wpAny_newFunctionEnv_cells hk (kindsX hkind _) fun env' he s' x=>?_
  subst he
  refine ⟨(c.top'.nolimit).keeps x.toInCall.keep,codeAny_func ?_⟩
  refine absG fun _ kQ=>?_
  obtain ⟨h₁,tk,rfl,_⟩:=x.done
  refine kQ ?_
  clear kQ
  have hk₁:=x.toInCall.keep
  obtain ⟨cells,NC,Y⟩:=Cl.news (h₀:=s.heap) (Nat.le_refl _) fun n c hm=>⟨x.cell n c (lookup_of_mem_nodup (cellsFrom_names Sc.names 0 (s.heap.objs.size+1) [] [] rfl ▸ hnd) hm),x.above n c hm⟩
  refine wpAny_mono (h _ s.heap.objs.size h₁ tk cells hfo c' kp (fun b o e=>of_hideAll _ e) (by
      cases q:s.heap.get? s.heap.objs.size with
      | none=>rfl
      | some o=>exact absurd (Heap.lt_size q) (Nat.lt_irrefl _)) ⟨x.toInCall.ns,fun b o e=>hk₁ b o (of_hideAll _ e),Nat.le_of_eq (hideAll_size _ _)⟩ (fun p hp=>?_) Y c'.kin' c'.top' (fun p hp=>Heap.lt_size (hfoot p hp).1)) (fun _ _ x=>x) fun _ _ x=>x.elim
  rcases List.mem_append.mp hp with hp | hp
  · refine ⟨(NC p hp).1,(NC p hp).2.1,?_⟩
    cases q:(hideAll s.heap (foot.map (·.1))).get? p.1 with
    | none=>rfl
    | some o=>have:=of_hideAll _ q;rw [(NC p hp).2.2] at this;cases this
  · exact ⟨hk₁ _ _ (hfoot p hp).1,Nat.ne_of_lt (Heap.lt_size (hfoot p hp).1),hideAll_none _ (List.mem_map_of_mem hp)⟩))only[↓zq])
theorem nameE_B {M:Model} {A:Around} {g:Heap} {L:Addr} {m:Str→Option Value} {env:Env} {x:Str} {pos:Pos} {v:Value} {Q:Value→Shared→Prop} (F:Fr g L s.heap m) (X:(Mine.H.K w.params).In g) (T:TopRead Mine.H.q1 lse mg mb g)
    (e:nsIn (Mine.H.K w.params) mainGlobals x=some none) (hv:bootBuiltins x=some v) (hn:x ≠ "__name__") (h:Q v s)
    (hg:env.globals=mainGlobals:=by rfl) (hb:env.builtins=builtinsNs:=by rfl) (hk:env.scope.kind=.function:=by rfl) (hx:env.kindOf x=some .globalImplicit:=by rfl) (hd:(x == ("__debug__" : Str))=false:=by decide) :
    wpAny M A (eval (.Name x pos) env) Q E s :=
  Name_function_global hk hx (loadGlobal_builtin (env:=env) (by rw [hg];exact T.g.keeps F.keep) (mg_none_of X T.g e) (by rw [hb];exact T.b.keeps F.keep) ((T.builtins x hn).trans hv) h) hd
theorem stripH {Φ:Addr×Obj→Prop} {a:Addr×Obj} {r:List (Addr×Obj)} (h:∀ p∈a::r,Φ p):∀ p∈r,Φ p:=fun p hp=>h p (.tail _ hp)
theorem ltNe {d:Addr} {r:List (Addr×Obj)} (h:∀ p∈r,p.1<d):∀ p∈r,p.1≠d:=fun p hp=>Nat.ne_of_lt (h p hp)
theorem newsZ {g h h':Heap} {L:Addr} {m:Str→Option Value} {news Z:List (Addr×Obj)} (F:Fr g L h m) (N:News g L h' news) (hz:∀ q∈Z,h.get? q.1=none∧h'.get? q.1=some q.2):News g L h' (news++Z):=fun p hp=>(List.mem_append.mp hp).elim (N p) fun hp=>by
  have:=Yb F News.nil (hz p hp).1 (hz p hp).2
  exact this p (.head _)
theorem offZ {g h:Heap} {L a:Addr} {o:Obj} {news Z:List (Addr×Obj)} (N:News g L h news) (hm:(a,o)∈news) (hz:∀ q∈Z,h.get? q.1=none):∀ q∈Z,q.1≠a:=fun q hq e=>by
  have h1:=hz q hq
  rw [e,(N _ hm).1] at h1
  cases h1
noncomputable def lawB:List Stmt:=Mine.H.fBod (Mine.H.d1 58)
noncomputable def lawSc:Scope:=Mine.H.fSco (Mine.H.d1 58)
noncomputable def lawFor:Stmt:=Mine.H.fld lawB 3
noncomputable def turnB:List Stmt:=(⟨_,_,_,_,_,rfl⟩:{b:List Stmt // ∃ t i e p,lawFor=.For t i b e p}).1
noncomputable def ifS:Stmt:=Mine.H.fld turnB 1
noncomputable def lblB:List Stmt:=(⟨_,_,_,_,rfl⟩:{b:List Stmt // ∃ c e p,ifS=.If c b e p}).1
noncomputable def elsB:List Stmt:=(⟨_,_,_,_,rfl⟩:{b:List Stmt // ∃ c e p,ifS=.If c e b p}).1
noncomputable def swB:List Stmt:=(⟨_,_,_,_,rfl⟩:{b:List Stmt // ∃ c e p,Mine.H.fld elsB 0=.If c b e p}).1
noncomputable def deedBr:List Stmt:=(⟨_,_,_,_,rfl⟩:{b:List Stmt // ∃ c e p,Mine.H.fld elsB 0=.If c e b p}).1
structure MOk (σ:LV) (m:Str→Option Value):Prop where
  cells:m (Str.ofString "cells")=some (.ref σ.cl)
  names:m (Str.ofString "names")=some (.ref σ.nm)
  here:∃ t,m (Str.ofString "here")=some (.str σ.here t)
  places:m (Str.ofString "places")=some (.ref σ.pd)
structure SameA (σ σ':LV):Prop where
  xc:σ'.k.xc=σ.k.xc
  wd:σ'.wd=σ.wd
  nm:σ'.nm=σ.nm
  cl:σ'.cl=σ.cl
  pd:σ'.pd=σ.pd
theorem LOk.colF {b:Nat} {σ:LV} {T Xs:List (Addr×Obj)} {g h:Heap} {L:Nat} {m:Str→Option Value} (H:LOk w b σ T) (hb:b≤800) (cg:Cx w lse mg mb g g) (F:Fr g L h m) (NF:News g L h (mutL w σ++(Xs++T))) (ex:List Nat) (e1:∀ a∈ex,g.get? a=none) (e2:∀ q∈T,q.1 ∉ ex) :
    Cx w lse mg mb (hideAll h (ex++(mutL w σ).map (·.1))) h∧Col w (hideAll h (ex++(mutL w σ).map (·.1))) h σ.k:=zp (by simp(disch:=k_dflt(
  refine ⟨(cg.step F.keep).grow _ fun k hk=>?_,H.col hb (fun q hq=>(NF q (List.mem_append_left _ hq)).1) (fun q hq=>(NF q (List.mem_append_right _ (List.mem_append_right _ hq))).1) (fun q hq=>List.mem_append_right _ (List.mem_map.mpr ⟨q,hq,rfl⟩)) fun q hq hm=>?_⟩
  · rcases List.mem_append.mp hk with hk | hk
    · exact e1 k hk
    · obtain ⟨q,hq,rfl⟩:=List.mem_map.mp hk
      exact (NF q (List.mem_append_left _ hq)).2.2
  · rcases List.mem_append.mp hm with hm | hm
    · exact e2 q hq hm
    · obtain ⟨p,hp,e⟩:=List.mem_map.mp hm
      exact H.dj _ (mutL_adr hp) q hq e))only[↓zq])
theorem adr_ne {σ:LV} {TT:List (Addr×Obj)} {g h:Heap} {L y:Nat} (NF:News g L h (mutL w σ++TT)) (hy:h.get? y=none):∀ a∈σ.base++σ.secA,a≠y:=fun a ha e=>by
  obtain ⟨q,hq,rfl⟩:=adr_mutL (w:=w) ha
  have:=(NF q (List.mem_append_left _ hq)).1
  have e':q.1=y:=e
  rw [e',hy] at this
  cases this
theorem LB.sub {σ:LV} {TT TT':List (Addr×Obj)} (B:LB w σ TT) (hs:∀ q∈TT,q∈TT') (hd:∀ a∈σ.base++σ.secA,∀ i∈TT',@Ne Nat a i.1):LB w σ TT' :=
  ⟨hd,B.bas,B.bs,by obtain ⟨o,q,r⟩:=B.wds;exact ⟨o,hs _ q,r⟩,by obtain ⟨t1,t2,t3,n,q⟩:=B.nms;exact ⟨t1,t2,t3,n,hs _ q⟩,B.hok⟩
theorem wd_at {σ:LV} {n:Str} (ok:Yk n):valueAt [(NT,Value.ref (σ.wl NT)),(ND,Value.ref (σ.wl ND)),(NN,Value.ref (σ.wl NN))] n=some (.ref (σ.wl n)):=by
  rcases ok with rfl | rfl | rfl
  · rfl
  · rfl
  · rfl
theorem len_N {A:Around} {g:Heap} {L l:Addr} {news:List (Addr×Obj)} {vs:List Value} {n:Nat} (N:News g L s.heap news) (hm:((l:Addr),lst vs n)∈news) (hz:vs.length≤16384) (h:Q (.int (vs.length:Int) (s.toks+1)) { s with toks:=s.toks+1+1 }) :
    wpAny (model PG w) A (call (.builtin "len") [.ref l]) Q E s:=len_L (items:=vs.toArray) ⟨_,(N _ hm).1,rfl,n,rfl⟩ (by simpa using hz) (by simpa using h)
theorem secA_mark {σ:LV} {lab y o'}:(σ.markK lab y o').secA=σ.secA:=secA_map (f:=fun s=>if s.name=σ.here then { s with lps:=s.lps++[(lab,y,s.ps.length)],o:=o' } else s) fun s=>by (try dsimp only);split <;> exact ⟨rfl,rfl⟩
theorem secA_laid {σ:LV} {qs ws' n'}:(σ.laidK qs ws' n').secA=σ.secA:=secA_map (f:=fun s=>if s.name=σ.here then { s with ps:=s.ps++qs,ws:=s.ws++ws',n:=n' } else s) fun s=>by (try dsimp only);split <;> exact ⟨rfl,rfl⟩
theorem updF_upd {d:Addr} {o:Obj} {l:List (Addr×Obj)} {f:Obj→List (Addr×Obj)} (U:UpdF d o l f) (o':Obj):Upd d o o' l (f o'):=by
  induction U with
  | head h=>exact .head h
  | tail h _ ih=>exact .tail h ih
theorem ext_any {A:Around} {g:Heap} {L D bb:Addr} {m:Str→Option Value} {news:List (Addr×Obj)} {f:Obj→List (Addr×Obj)} {vs ws:List Value} {n n2:Nat} {Q:Value→Shared→Prop} (F:Fr g L s.heap m) (N:News g L s.heap news) (hb:((bb:Addr),lst ws n2)∈news) (U:UpdF D (lst vs n) news f) (hz:vs.length+ws.length≤16000)
    (h:∀ n' h',Fr g L h' m→News g L h' (f (lst (vs++ws) n'))→Q .none { s with heap:=h' }):wpAny (model PG w) A (call (.builtin "list.extend") [.ref D,.ref bb]) Q E s:=by
  have hno:¬(!vs.toArray.isEmpty && Builtin.List.listTooLong (vs.toArray.size+ws.toArray.size))=true:=by
    simp [Builtin.List.listTooLong,sizeLine_eq]
    intro _
    omega
  cases ws with
  | nil =>
    rw [List.append_nil] at h
    exact kxn_extend (its:=vs.toArray) (its2:=#[]) (n2:=n2) F N hb rfl (updF_upd U (lst vs n)) hno (by rw [sizeLine_eq];simp at hz ⊢;omega) (by rw [sizeLine_eq];simp at hz ⊢;omega) fun h' F' N'=>h n h' F' N'
  | cons a r =>
    exact kl_extend (its:=vs.toArray) (its2:=(a::r).toArray) (n2:=n2) (l:=vs++a::r) F N hb (by simp) (by simp) (updF_upd U (lst (vs++a::r) (n+1))) hno (by rw [sizeLine_eq];simp at hz ⊢;omega) (by rw [sizeLine_eq];simp at hz ⊢;omega) fun h' F' N'=>h (n+1) h' F' N'
theorem secKvs_at {l:List Sc} (nd:(l.map (·.name)).Nodup) {p:Sc} (hp:p∈l):valueAt (Yt l) p.name=some (.ref p.x):=by
  unfold valueAt Yt
  rw [List.find?_map]
  cases e:List.find? ((fun kv:Str×Value=>decide (kv.1=p.name)) ∘ fun s:Sc=>(s.name,Value.ref s.x)) l with
  | none=>exact absurd (List.find?_eq_none.mp e p hp) (by simp)
  | some q =>
    have hq:=List.mem_of_find?_eq_some e
    have hn:=List.find?_some e
    simp only [Function.comp_apply,decide_eq_true_eq] at hn
    rw [eq_of_name nd hq hp hn]
    rfl
theorem secKvs_no {l:List Sc} {n:Str} (hno:∀ p∈l,p.name≠n):valueAt (Yt l) n=none:=by
  unfold valueAt Yt
  rw [List.find?_map,Option.map_eq_none_iff,Option.map_eq_none_iff,List.find?_eq_none]
  intro p hp
  simp only [Function.comp_apply,decide_eq_true_eq]
  exact hno p hp
def SwOld (w:World) (k:CS) (xs:Nat) (h h':Heap):Prop:=Keep [k.dc] h h'∧h'.get? k.dc=some (dictOf [en w "program" k.t1 (.ref k.xp),en w "section" k.t2 (.ref xs),en w "scope" k.t3 (.ref k.sc)] k.nc)
inductive SwNewX (w:World) (k:CS) (n:Str) (cu:Nat→Nat) (x' pl:Nat) (h h':Heap):Prop
  | mk (dx' ld:Nat) (o1 o':Obj) (n':Nat) (t1 t2 t3 ta t4:Tok) (K:Keep [k.dc,k.sd,k.nl] h h') (f1:h.get? x'=none) (f2:h.get? dx'=none) (f3:h.get? pl=none) (f4:h.get? ld=none) (ne:@Ne Nat x' pl∧@Ne Nat x' ld∧@Ne Nat dx' pl∧@Ne Nat dx' ld∧@Ne Nat pl ld∧@Ne Nat dx' x') (g1:h'.get? x'=some (instObj 769 dx')) (g2:h'.get? dx'=some (dictOf [en w "name" t1 (.str n ta),en w "pieces" t2 (.ref pl),en w "labels" t3 (.ref ld)] n')) (g3:h'.get? pl=some (lst [] 0)) (g4:h'.get? ld=some o1) (g5:o1.IsDictOf (PySem.strKind PG w) []) (g6:(@BEq.beq Addr _ ld sysModules)=false) (g7:h'.get? k.sd=some o') (g8:o'.IsDictOf (PySem.strKind PG w) (Yt k.l++[(n,.ref x')])) (g9:h'.get? k.nl=some (lst (List.zipWith (fun s t=>Value.str s.name t) k.l k.ts++[.str n t4]) (k.nn+1))) (g10:h'.get? k.dc=some (dictOf [en w "program" k.t1 (.ref k.xp),en w "section" k.t2 (.ref (cu x')),en w "scope" k.t3 (.ref k.sc)] k.nc)):SwNewX w k n cu x' pl h h'
def SwNew (w:World) (k:CS) (n:Str) (cu:Nat→Nat) (h h':Heap):Prop:=∃ x' pl,SwNewX w k n cu x' pl h h'
theorem SwOld.up {k:CS} {xs:Nat} {h0 h h':Heap} (e:Ext h0 h) (P:SwOld w k xs h h'):SwOld w k xs h0 h':=⟨fun b o nb q=>P.1 b o nb (e _ _ q),P.2⟩
theorem SwNew.up {k:CS} {n:Str} {cu:Nat→Nat} {h0 h h':Heap} (e:Ext h0 h) (P:SwNew w k n cu h h'):SwNew w k n cu h0 h':=by
  obtain ⟨x',pl,dx',ld,o1,o',n',t1,t2,t3,ta,t4,K,f1,f2,f3,f4,r,g1,g2,g3,g4,g5,g6,g7,g8,g9,g10⟩:=P
  exact ⟨x',pl,dx',ld,o1,o',n',t1,t2,t3,ta,t4,fun b o nb q=>K b o nb (e _ _ q),Yf e f1,Yf e f2,Yf e f3,Yf e f4,r,g1,g2,g3,g4,g5,g6,g7,g8,g9,g10⟩
theorem sw_old_end {b:Nat} {g h h':Heap} {L:Nat} {m:Str→Option Value} {Xs T:List (Addr×Obj)} {σ:LV} {p:Sc} {n:Str} (H:LOk w b σ T) (hX:∀ a∈σ.base++σ.secA,∀ i∈Xs,@Ne Nat a i.1) (hp:p∈σ.k.l) (hn:p.name=n) (F:Fr g L h m) (NF:News g L h (mutL w σ++(Xs++T))) (P:SwOld w σ.k p.x h h') :
    LOk w b (σ.to n p.x) T∧News g L h' (mutL w (σ.to n p.x)++(Xs++T))∧Fr g L h' m :=
  ⟨H.to ⟨p,hp,rfl,hn⟩,keepDc (H.lb hX) NF P.1 P.2,Yp F NF P.1 (List.mem_append_left _ m_dc)⟩
theorem sw_new_end {x' pl:Nat} {b:Nat} {g h h':Heap} {L:Nat} {m:Str→Option Value} {Xs T:List (Addr×Obj)} {σ:LV} {n:Str} {cu:Nat→Nat} {hr:Str} (H:LOk w b σ T) (hX:∀ a∈σ.base++σ.secA,∀ i∈Xs,@Ne Nat a i.1) (hn:Yk n) (hno:∀ p∈σ.k.l,p.name≠n) (F:Fr g L h m) (NF:News g L h (mutL w σ++(Xs++T)))
    (hcu:(hr=n∧∀ z,cu z=z)∨(hr=σ.here∧∀ z,cu z=σ.k.cu)) (P:SwNewX w σ.k n cu x' pl h h'):Ex5 fun (ld:Nat) (o1 od:Obj) (t:Tok) (T':List (Addr×Obj))=>A5 (LOk w b ((σ.newSec n x' pl ld o1 od t).to hr (cu x')) T') (∀ a∈((σ.newSec n x' pl ld o1 od t).to hr (cu x')).base++((σ.newSec n x' pl ld o1 od t).to hr (cu x')).secA,∀ i∈Xs,@Ne Nat a i.1) (News g L h' (mutL w ((σ.newSec n x' pl ld o1 od t).to hr (cu x'))++(Xs++T'))) (∀ q∈T',q∈T∨∀ x∈Xs,@Ne Nat q.1 x.1) (Fr g L h' m):=zp (by simp(disch:=k_dflt(
  refine absG fun _ kQ=>?_
  obtain ⟨dx',ld,o1,o',n',t1,t2,t3,ta,t4,K,f1,f2,f3,f4,⟨e1,e2,e3,e4,e5,e6⟩,q1,q2,q3,q4,q5,q6,q7,q8,q9,q10⟩:=P
  refine kQ ?_
  clear kQ
  have l:∀ {q:Addr×Obj},q∈mutL w σ→q∈mutL w σ++(Xs++T):=fun hq=>List.mem_append_left _ hq
  have F':Fr g L h' m:=frBut F K fun a ha=>by
    rcases List.mem_cons.mp ha with e | ha
    · rw [e];exact (NF _ (l m_dc)).2
    · rcases List.mem_cons.mp ha with e | ha
      · rw [e];exact (NF _ (l m_sd)).2
      · rw [List.mem_singleton.mp ha];exact (NF _ (l m_nl)).2
  have y1:=adr_ne NF f1
  have y2:=adr_ne NF f2
  have y3:=adr_ne NF f3
  have y4:=adr_ne NF f4
  have tN:∀ {y:Nat},h.get? y=none→∀ i∈Xs++T,@Ne Nat y i.1:=fun hy i hi=>(Yi (NF i (List.mem_append_right _ hi)).1 hy).symm
  have bn:=(base_ne H.bas).2.2
  have bd:=(base_ne H.bas).2.1
  have hs0:σ.k.dc∈σ.base:=by k_extra "mb"
  have hs1:σ.k.sd∈σ.base:=by k_extra "mb"
  have hs2:σ.k.nl∈σ.base:=by k_extra "mb"
  have nb:∀ {p:Addr×Obj},p∈mutL w σ++(Xs++T)→@Ne Nat p.1 σ.k.dc→@Ne Nat p.1 σ.k.sd→@Ne Nat p.1 σ.k.nl→h'.get? p.1=some p.2∧p.1≠L∧g.get? p.1=none:=fun {p} hp n0 n1 n2=>⟨K _ _ (fun hm=>(List.mem_cons.mp hm).elim n0 fun hm=>(List.mem_cons.mp hm).elim n1 fun hm=>n2 (List.mem_singleton.mp hm)) (NF p hp).1,(NF p hp).2⟩
  have b2:∀ a∈([σ.cl,σ.pd,σ.wl NT,σ.wl ND,σ.wl NN,σ.k.xc]:List Nat),∀ {o:Obj},((a:Addr),o)∈mutL w σ→h'.get? a=some o∧a≠L∧g.get? a=none:=fun a ha o hm=>nb (l hm) (bd a (List.mem_append_left [σ.k.sd,σ.k.nl] ha)) (bn a (List.mem_append_left [σ.k.dc] ha)).1 (bn a (List.mem_append_left [σ.k.dc] ha)).2
  have o1':=Yb F News.nil f1 q1
  have o2':=Yb F News.nil f2 q2
  have o3':=Yb F News.nil f3 q3
  have o4':=Yb F News.nil f4 q4
  have hn1:=H.newSec (T':=((x':Addr),instObj 769 dx')::((dx':Addr),dictOf [en w "name" t1 (.str n ta),en w "pieces" t2 (.ref pl),en w "labels" t3 (.ref ld)] n')::T) (x:=x') (pl:=pl) (ld:=ld) (o1:=o1) (od':=o') (t:=t4) hn hno (fun q hq=>.tail _ (.tail _ hq)) (fun a ha i hi=>by
      rcases List.mem_cons.mp hi with rfl | hi
      · exact y1 a ha
      · rcases List.mem_cons.mp hi with rfl | hi
        · exact y2 a ha
        · exact H.dj a ha i hi) (fun hh z=>⟨dx',n',t1,t2,t3,ta,z _ (.head _),z _ (.tail _ (.head _))⟩) (fun i hi=>by
      rcases List.mem_cons.mp hi with rfl | hi
      · exact ⟨e1.symm,e2.symm⟩
      · rcases List.mem_cons.mp hi with rfl | hi
        · exact ⟨e3.symm,e4.symm⟩
        · exact ⟨tN f3 i (List.mem_append_right _ hi),tN f4 i (List.mem_append_right _ hi)⟩) (fun a ha=>⟨y3 a ha,y4 a ha⟩) e5 q5 q6 q8
  refine ⟨ld,o1,o',t4,((x':Addr),instObj 769 dx')::((dx':Addr),dictOf [en w "name" t1 (.str n ta),en w "pieces" t2 (.ref pl),en w "labels" t3 (.ref ld)] n')::T,?_,fun a ha i hi=>?_,fun p hp=>?_,fun q hq=>?_,F'⟩
  · refine hn1.to ?_
    rcases hcu with ⟨c1,c2⟩ | ⟨c1,c2⟩
    · exact ⟨_,List.mem_append_right _ (.head _),(c2 x').symm,c1.symm⟩
    · obtain ⟨p,hp,a1,a2⟩:=H.cur
      exact ⟨p,List.mem_append_left _ hp,a1.trans (c2 x').symm,a2.trans c1.symm⟩
  · have hsA:((σ.newSec n x' pl ld o1 o' t4).to hr (cu x')).secA=σ.secA++[pl,ld]:=by simp [LV.secA,LV.newSec,LV.to]
    rw [hsA,← List.append_assoc] at ha
    rcases List.mem_append.mp ha with ha | ha
    · exact hX a ha i hi
    · simp only [List.mem_cons,List.not_mem_nil,or_false] at ha
      rcases ha with rfl | rfl
      · exact tN f3 i (List.mem_append_left _ hi)
      · exact tN f4 i (List.mem_append_left _ hi)
  · rcases List.mem_append.mp hp with hp | hp
    · refine mutL_all (σ:=(σ.newSec n x' pl ld o1 o' t4).to hr (cu x')) (Φ:=fun p=>h'.get? p.1=some p.2∧p.1≠L∧g.get? p.1=none) (b2 σ.cl (by k_extra "mb") m_cl) (b2 σ.pd (by k_extra "mb") m_pd) (fun n hn=>b2 (σ.wl n) (by rcases hn with rfl | rfl | rfl <;> simp) (m_row hn)) (b2 σ.k.xc (by k_extra "mb") m_xc) ⟨q10,(NF _ (l m_dc)).2⟩ ⟨q7,(NF _ (l m_sd)).2⟩ ?_ (fun s hs=>?_) p hp
      · have e:List.zipWith (fun (s:Sc) t=>Value.str s.name t) ((σ.newSec n x' pl ld o1 o' t4).to hr (cu x')).k.l ((σ.newSec n x' pl ld o1 o' t4).to hr (cu x')).k.ts=List.zipWith (fun (s:Sc) t=>Value.str s.name t) σ.k.l σ.k.ts++[.str n t4]:=by
          show List.zipWith _ (σ.k.l++[_]) (σ.k.ts++[t4])=_
          rw [List.zipWith_append H.tl.symm]
          rfl
        rw [e]
        exact ⟨q9,(NF _ (l m_nl)).2⟩
      · have hs':s∈σ.k.l++[⟨n,x',pl,ld,o1,[],[],[],0⟩]:=hs
        rcases List.mem_append.mp hs' with hs | hs
        · exact ⟨nb (l (m_pl hs)) (H.bs _ hs0 s hs).1.symm (H.bs _ hs1 s hs).1.symm (H.bs _ hs2 s hs).1.symm,nb (l (m_ld hs)) (H.bs _ hs0 s hs).2.symm (H.bs _ hs1 s hs).2.symm (H.bs _ hs2 s hs).2.symm⟩
        · rw [List.mem_singleton.mp hs]
          exact ⟨o3' _ (.head _),o4' _ (.head _)⟩
    · have B:=H.lb hX
      have old:∀ {p:Addr×Obj},p∈Xs++T→h'.get? p.1=some p.2∧p.1≠L∧g.get? p.1=none:=fun {p} hp=>nb (List.mem_append_right _ hp) (B.dj _ (List.mem_append_left _ hs0) p hp).symm (B.dj _ (List.mem_append_left _ hs1) p hp).symm (B.dj _ (List.mem_append_left _ hs2) p hp).symm
      rcases List.mem_append.mp hp with hp | hp
      · exact old (List.mem_append_left _ hp)
      · rcases List.mem_cons.mp hp with rfl | hp
        · exact o1' _ (.head _)
        · rcases List.mem_cons.mp hp with rfl | hp
          · exact o2' _ (.head _)
          · exact old (List.mem_append_right _ hp)
  · rcases List.mem_cons.mp hq with rfl | hq
    · exact .inr fun x hx=>tN f1 x (List.mem_append_left _ hx)
    · rcases List.mem_cons.mp hq with rfl | hq
      · exact .inr fun x hx=>tN f2 x (List.mem_append_left _ hx)
      · exact .inl hq))only[↓zq])
theorem item_N {A:Around} {g:Heap} {L l:Addr} {news:List (Addr×Obj)} {value slice:PySem.Expr} {vs:List Value} {n:Nat} {k:Int} {u:Tok} {v:Value} (N:News g L s.heap news) (hm:((l:Addr),lst vs n)∈news) (h0:0≤k) (hhi:k<2 ^ 63) (hx:vs[k.toNat]?=some v) (h:Q v s)
    (hs:subscripted slice false (.ref l) (.int k u)=operate [.ref l,.int k u] (getItem (.ref l) (.int k u)):=by with_unfolding_all rfl) :
    wpAny (model PG w) A (subscriptTail value slice (.ref l) (.int k u)) Q E s :=
  have hl:s.heap.IsList l vs.toArray:=⟨_,(N _ hm).1,rfl,n,rfl⟩
  tail_any hl.typeIs slot_list_getitem.lookup (wpAny_getItem_list hl h0 hhi (by simpa using hx) h) hs
local macro_rules | `(tactic| walk_at "eval Dict") => `(tactic| (k_extra ".eval Dict.a"; intro d' h' o' F' N' l1 lo' hd'; (try k_lt l1)))
theorem row21:True:=by
  k_with ".call builtin:len" => (k_here;(with_reducible show wpAny _ _ (call (Value.builtin "len") [Value.ref _]) _ _ _);k_dflt (refine @len_N _ _ _ _ _ _ _ _ _ _ _ (by k_asm) (by k_mem) (by omega) ?_))
  k_with ".eval Name" => (k_here;(with_reducible show wpAny _ _ (eval (Expr.Name _ _) (compEnvC _ _ _ _)) _ _ _);k_dflt (refine' nameE_B (by k_asm) (by k_asm) (by k_asm) (by k_is) (by boot_by_name) (by decide) ?_;k_whole))
  k_with ".eval Dict.a" => (k_here;kdn_look;k_dflt (refine' @kdn_str _ _ _ _ _ _ _ _ _ _ _ _ _ _ (by rfl) (by k_asm) (by first | k_asm | exact News.nil) (by exact TopRead.nolimit (by k_asm)) (by rfl) (by rfl) (by exact List.cons_ne_nil _ _) (by exact Nat.le_of_ble_eq_true rfl) ?_))
  k_with "k_all" => assumption
  k_with "lt1" => k_dflt ((repeat apply sufCons);exact sufRefl)
  trivial
theorem label_branch {σ:LV} {T Xs:List (Addr×Obj)} {b:Nat} {m:Str→Option Value} {c1 c2:Obj} {L:Nat} {g:Heap} {Q:Flow→Shared→Prop} {E:Value→Shared→Prop} (hd:dp≤650) (hu:un≤2000) (H:LOk w b σ T) (hb:b≤700)
    (X:(Mine.H.K w.params).In g) (TR:TopRead Mine.H.q1 lse mg mb g) (F:Fr g L s.heap m) (hm:MOk σ m) (hX:∀ a∈σ.base++σ.secA,∀ i∈Xs,@Ne Nat a i.1) (h1:((L+1:Nat),c1)∈Xs) (h2:((L+1+1:Nat),c2)∈Xs)
    (r:Int) (tr:Tok) (hr0:0≤r) (hr1:r<13) (hway:m (Str.ofString "way")=some (.int r tr)) (h6:σ.P.length<6) (d1:c1.data=.cell (some (.ref σ.k.xc))) (d2:c2.data=.cell (some (.ref σ.wd))) (NF:News g L s.heap (mutL w σ++(Xs++T)))
    (next:∀ σ' T' m' h' tk,LOk w (b+2) σ' T'→SameA σ σ'→MOk σ' m'→Fr g L h' m'→(∀ a∈σ'.base++σ'.secA,∀ i∈Xs,@Ne Nat a i.1)→News g L h' (mutL w σ'++(Xs++T'))→(∀ q∈T',q∈T∨∀ x∈Xs,@Ne Nat q.1 x.1)→Q .next { s with heap:=h',toks:=tk }) :
    wpAny (model PG w) (Ar dp un fr gd) (execs lblB (envOfC Mine.H.z240 lawSc L 998 (.ref 997))) Q E s:=zp (by simp(disch:=k_dflt(
  refine' Yo (P:=fun B sc=>wpAny (model PG w) (Ar dp un fr gd) (execs B (envOfC Mine.H.z240 sc L 998 (.ref 997))) Q E s) ?eb ?es ?_
  case eb=>(conv=>lhs;whnf)
  case es=>(conv=>lhs;whnf)
  have cg:Cx w lse mg mb g g:=⟨X,TR,Ext.refl _⟩
  have hc1:((L+1:Nat),c1)∈Xs++T:=List.mem_append_left _ h1
  have hc2:((L+1+1:Nat),c2)∈Xs++T:=List.mem_append_left _ h2
  obtain ⟨th,hth⟩:=hm.here
  have hmm:=Yr (m:=m) [(Str.ofString "cells",some (.ref σ.cl)),(Str.ofString "names",some (.ref σ.nm)),(Str.ofString "here",some (.str σ.here th)),(Str.ofString "places",some (.ref σ.pd)),(Str.ofString "way",some (.int r tr))] (by simp [hm.cells,hm.names,hth,hm.places,hway])
  rw [hmm] at F
  simp only [mLook] at F
  have B:=H.lb hX
  refine LB.segE B hc1 hc2 NF fun Z ow u1 u2 u3 nn S N hdw hlw zp zw np1 np2 np3 np4 np5 np6 np7 np8 nq1 nq2 nq3 nq4 nq5 nq6 nq7=>?_
  clear NF
  have hpd:=H.pdict
  have hplo:=H.plo
  have hp6:(plKvs σ.P).length≤6:=by simp only [plKvs,List.length_map];exact H.p6
  have hlab:(Str.ofString "label" ++ Str.ofString (toString ((plKvs σ.P).length:Int)))=lname σ.P.length:=by simp only [plKvs,List.length_map];rfl
  k_steps
  k_extra "n"
  simp only [hlab] at F ⊢
  refine wpAny_call (new_Label (cg.step F.keep) (by omega) fun x g_x tk_x e_x m_x a_x=>?_)
  refine a_x.el fun dx n_x x1 x2 x3 x4 x5 p_x p_dx=>?_
  have N9:=Yb F (Yb F (Ya N e_x) p_dx.2 p_dx.1) p_x.2 p_x.1
  replace F:=Ye F e_x
  clear N
  (rename News _ _ _ _=>N)
  dsimp only
  k_steps
  k_extra "n"
  have NF:=S.same B N (by k_mem) (by k_mem) (fun q hq=>by repeat (first | exact hq | apply List.Mem.tail))
  have hst:LabelAt w h0 g_x x (lname σ.P.length):=(.in_ (Yq (N.get (by k_mem))) (Yq (N.get (by k_mem))))
  clear N
  refine absG fun _ kQ=>?_
  obtain ⟨p,hp,hcu,hn⟩:=H.cur
  obtain ⟨cG,K⟩:=H.colF (by omega) cg F NF [] (fun _ h=>nomatch h) (fun _ _ h=>nomatch h)
  refine kQ ?_
  clear kQ
  have hfr:=H.fresh_lab h6
  have hT0:InH g_x T:=fun q hq=>(NF q (List.mem_append_right _ (List.mem_append_right _ hq))).1
  refine wpAny_call (lay_label cG (by omega) (by omega) K hst hp hcu (H.nohome hfr) (H.bs σ.k.dc (by k_extra "mb") p hp).2 fun g2 tk2 o' y t1 t2 k2 q2 d2' f2 q3=>?_)
  have F0:=F
  replace F:=Yp F0 NF k2 (List.mem_append_left _ (m_ld hp))
  have NF2:=keepLd (lab:=lname σ.P.length) (yT:=y) H B hp hn NF k2 q2
  have hyn:=adr_ne NF f2
  have hyX:∀ x∈Xs,@Ne Nat x.1 y:=fun x hx=>Yi (NF x (List.mem_append_right _ (List.mem_append_left _ hx))).1 f2
  have hy3:=Yb F0 News.nil f2 q3
  have hlen:=(H.lens hT0 p hp)
  rw [hn] at hlen
  have hl2:(σ.wv σ.here).length≤700:=by omega
  have NF3:News g L g2 (mutL w (σ.markK (lname σ.P.length) y o')++(Xs++(((y:Addr),tupO [.int p.ps.length t1,.int 0 t2])::T))):=fun q hq=>by
    rcases List.mem_append.mp hq with hq | hq
    · exact NF2 q (List.mem_append_left _ hq)
    · rcases List.mem_append.mp hq with hq | hq
      · exact NF2 q (List.mem_append_right _ (List.mem_append_left _ hq))
      · rcases List.mem_cons.mp hq with rfl | hq
        · exact hy3 _ (.head _)
        · exact NF2 q (List.mem_append_right _ (List.mem_append_right _ hq))
  have hdj1:∀ a∈σ.base++σ.secA,∀ i∈((y:Addr),tupO [.int p.ps.length t1,.int 0 t2])::T,@Ne Nat a i.1:=fun a ha i hi=>by
    rcases List.mem_cons.mp hi with rfl | hi
    · exact hyn a ha
    · exact H.dj a ha i hi
  have B2:LB w (σ.markK (lname σ.P.length) y o') (Xs++(((y:Addr),tupO [.int p.ps.length t1,.int 0 t2])::T)):=LB.markK (LB.sub B (fun q hq=>by
    rcases List.mem_append.mp hq with hq | hq
    · exact List.mem_append_left _ hq
    · exact List.mem_append_right _ (.tail _ hq)) fun a ha i hi=>by
    rcases List.mem_append.mp hi with hi | hi
    · exact hX a ha i hi
    · exact hdj1 a ha i hi) _ _ _
  have hc1:((L+1:Nat),c1)∈Xs++(((y:Addr),tupO [.int p.ps.length t1,.int 0 t2])::T):=List.mem_append_left _ h1
  have hc2:((L+1+1:Nat),c2)∈Xs++(((y:Addr),tupO [.int p.ps.length t1,.int 0 t2])::T):=List.mem_append_left _ h2
  clear NF NF2 zp zw hdw hlw np1 np2 np3 np4 np5 np6 np7 np8 nq1 nq2 nq3 nq4 nq5 nq6 nq7 S
  refine LB.segE B2 hc1 hc2 NF3 fun Z ow u1 u2 u3 nn S2 N hdw hlw zp zw np1 np2 np3 np4 np5 np6 np7 np8 nq1 nq2 nq3 nq4 nq5 nq6 nq7=>?_
  clear NF3
  dsimp only [LV.markK] at N hdw hlw zp zw np1 np2 np3 np4 np5 np6 np7 np8 nq1 nq2 nq3 nq4 nq5 nq6 nq7
  have hvw:=wd_at (σ:=σ) H.hok
  dsimp only
  k_steps
  rename_i D1 h8 F8 N8 hz8 l8 h9 po1 F N hq
  clear F8 N8
  have hl9:((σ.pd:Nat)≠D1)∧σ.wl σ.here≠D1:=⟨by omega,by omega⟩
  have hnoP:valueAt (plKvs σ.P) (lname σ.P.length)=none:=by rw [plKvs_at,hfr];rfl
  have hnoL:valueAt p.lb (lname σ.P.length)=none:=by
    have:=H.lab (lname σ.P.length) p hp
    rw [hfr] at this
    rw [lb_at]
    cases e:Yu p.lps (lname σ.P.length) with
    | none=>rfl
    | some z=>rw [e] at this;cases this
  rw [stored_absent hnoP] at hq
  rw [stored_absent hnoL] at d2'
  have hD1:=S2.allG (Φ:=fun q=>@Ne Nat q.1 D1) B2 (po':=po1) (P':=σ.P++[⟨lname σ.P.length,D1,σ.here,(σ.W σ.here).length,σ.wl σ.here⟩]) (wv':=σ.wv) (wn':=σ.wn) (W':=σ.W) (fun _ _=>⟨rfl,rfl⟩) hl9.1 hl9.2 hz8
  have hA:=S2.allG (Φ:=fun q=>h9.get? q.1=some q.2∧q.1≠L∧g.get? q.1=none) B2 (po':=po1) (P':=σ.P++[⟨lname σ.P.length,D1,σ.here,(σ.W σ.here).length,σ.wl σ.here⟩]) (wv':=σ.wv) (wn':=σ.wn) (W':=σ.W) (fun _ _=>⟨rfl,rfl⟩) (N (σ.pd,po1) (by k_mem)) (N (σ.wl σ.here,lst (σ.wv σ.here) (σ.wn σ.here)) (by k_mem)) (fun q hq=>N q (by repeat (first | exact hq | apply List.Mem.tail)))
  have hsA:(σ.markK (lname σ.P.length) y o').secA=σ.secA:=secA_mark
  have hT1:∀ a∈σ.base++σ.secA,a≠D1:=fun a ha e=>by
    rw [← hsA] at ha
    obtain ⟨q,hq,rfl⟩:=adr_mutL (w:=w) (σ:={ σ.markK (lname σ.P.length) y o' with po:=po1,P:=σ.P++[⟨lname σ.P.length,D1,σ.here,(σ.W σ.here).length,σ.wl σ.here⟩],wv:=σ.wv,wn:=σ.wn,W:=σ.W }) ha
    exact hD1 q (List.mem_append_left _ hq) e
  obtain ⟨hl1,hl2',hl3⟩:=hlen
  have H':=H.labelled (T':=(D1,tupO [.str σ.here th,.int ((σ.wv σ.here).length:Nat) (tk2+1+1),.ref (σ.wl σ.here)])::((y:Addr),tupO [.int p.ps.length t1,.int 0 t2])::T) (yT:=y) (yP:=D1) (o':=o') (po':=po1) hT0 h6 (fun q hq=>.tail _ (.tail _ hq)) (fun a ha i hi=>by
      rcases List.mem_cons.mp hi with rfl | hi
      · exact hT1 a ha
      · exact hdj1 a ha i hi) (fun hh z=>⟨t1,t2,by rw [← hl1];exact z _ (.tail _ (.head _))⟩) (fun hh z=>⟨th,_,by rw [hl2'];exact z _ (.head _)⟩)
    (fun s' hs' e=>by obtain rfl:=eq_of_name H.nmd hs' hp (e.trans hn.symm);exact d2') hq
  refine next _ _ _ h9 _ (H'.mono (by omega)) ⟨rfl,rfl,rfl,rfl,rfl⟩ ⟨rfl,rfl,⟨_,rfl⟩,rfl⟩ F ?_ ?_ ?_
  · intro a ha i hi
    have ha':a∈σ.base++(σ.markK (lname σ.P.length) y o').secA:=ha
    rw [hsA] at ha'
    exact hX a ha' i hi
  · intro q hq
    rcases List.mem_append.mp hq with hq | hq
    · exact hA q (List.mem_append_left _ hq)
    · rcases List.mem_append.mp hq with hq | hq
      · exact hA q (List.mem_append_right _ (List.mem_append_left _ hq))
      · rcases List.mem_cons.mp hq with rfl | hq
        · exact N _ (.head _)
        · exact hA q (List.mem_append_right _ (List.mem_append_right _ hq))
  · intro q hq
    rcases List.mem_cons.mp hq with rfl | hq
    · exact .inr fun x hx=>(hD1 x (List.mem_append_right _ (List.mem_append_left _ hx))).symm
    · rcases List.mem_cons.mp hq with rfl | hq
      · exact .inr fun x hx=>(hyX x hx).symm
      · exact .inl hq))only[↓zq])
local macro_rules | `(tactic| walk_at "call builtin:list.extend") => `(tactic| (k_extra ".call builtin:list.extend.a"; intro n' h' F' N'; (try dsimp only at N')))
theorem row22:True:=by
  k_with ".call builtin:list.extend.a" => (k_here;(with_reducible show wpAny _ _ (call (Value.builtin _) [Value.ref _,Value.ref _]) _ _ _);k_dflt (refine' ext_any (by k_asm) (by k_asm) (by k_mem) (by k_updF) (by omega) ?_))
  k_with ".subscriptTail" => (k_here;(with_reducible show wpAny _ _ (subscriptTail _ _ (Value.ref _) (Value.int _ _)) _ _ _);k_dflt (refine item_N (by k_asm) (by k_mem) (by decide) (by decide) (by rfl) ?_))
  trivial
theorem switch_branch {σ:LV} {T Xs:List (Addr×Obj)} {b:Nat} {m:Str→Option Value} {c1 c2:Obj} {L:Nat} {g:Heap} {Q:Flow→Shared→Prop} {E:Value→Shared→Prop} (hd:dp≤650) (hu:un≤2000) (H:LOk w b σ T) (hb:b≤700)
    (X:(Mine.H.K w.params).In g) (TR:TopRead Mine.H.q1 lse mg mb g) (F:Fr g L s.heap m) (hm:MOk σ m) (hX:∀ a∈σ.base++σ.secA,∀ i∈Xs,@Ne Nat a i.1) (h1:((L+1:Nat),c1)∈Xs) (h2:((L+1+1:Nat),c2)∈Xs)
    (r:Int) (tr:Tok) (hr0:0≤r) (hr1:r<13) (hway:m (Str.ofString "way")=some (.int r tr)) (d1:c1.data=.cell (some (.ref σ.k.xc))) (d2:c2.data=.cell (some (.ref σ.wd))) (NF:News g L s.heap (mutL w σ++(Xs++T)))
    (next:∀ σ' T' m' h' tk,LOk w (b+2) σ' T'→SameA σ σ'→MOk σ' m'→Fr g L h' m'→(∀ a∈σ'.base++σ'.secA,∀ i∈Xs,@Ne Nat a i.1)→News g L h' (mutL w σ'++(Xs++T'))→(∀ q∈T',q∈T∨∀ x∈Xs,@Ne Nat q.1 x.1)→Q .next { s with heap:=h',toks:=tk }) :
    wpAny (model PG w) (Ar dp un fr gd) (execs swB (envOfC Mine.H.z240 lawSc L 998 (.ref 997))) Q E s:=zp (by simp(disch:=k_dflt(
  refine' Yo (P:=fun B sc=>wpAny (model PG w) (Ar dp un fr gd) (execs B (envOfC Mine.H.z240 sc L 998 (.ref 997))) Q E s) ?eb ?es ?_
  case eb=>(conv=>lhs;whnf)
  case es=>(conv=>lhs;whnf)
  have cg:Cx w lse mg mb g g:=⟨X,TR,Ext.refl _⟩
  have hc1:((L+1:Nat),c1)∈Xs++T:=List.mem_append_left _ h1
  have hc2:((L+1+1:Nat),c2)∈Xs++T:=List.mem_append_left _ h2
  obtain ⟨th,hth⟩:=hm.here
  have hmm:=Yr (m:=m) [(Str.ofString "cells",some (.ref σ.cl)),(Str.ofString "names",some (.ref σ.nm)),(Str.ofString "here",some (.str σ.here th)),(Str.ofString "places",some (.ref σ.pd)),(Str.ofString "way",some (.int r tr))] (by simp [hm.cells,hm.names,hth,hm.places,hway])
  rw [hmm] at F
  simp only [mLook] at F
  have B:=H.lb hX
  refine LB.segE B hc1 hc2 NF fun Z ow u1 u2 u3 nn S N hdw hlw zp zw np1 np2 np3 np4 np5 np6 np7 np8 nq1 nq2 nq3 nq4 nq5 nq6 nq7=>?_
  clear NF
  have hpd:=H.pdict
  have hplo:=H.plo
  have hp6:(plKvs σ.P).length≤6:=by simp only [plKvs,List.length_map];exact H.p6
  k_steps
  k_extra "n"
  have NF:=S.same B N (by k_mem) (by k_mem) (fun q hq=>by repeat (first | exact hq | apply List.Mem.tail))
  clear N
  have hcn:σ.cl∈σ.base:=by k_extra "mb"
  refine wpAny_call (pick_spec (cl:=σ.cl) (cg.step F.keep) (by omega) (by omega) (by exact Yv cg NF (List.mem_append_left _ m_cl)) H.hin (by omega) fun r2 tr2 vs1 n1 g3 tk3 hs0 hs1 k3 q3 hi1=>?_)
  have F0:=F
  replace F:=Yp F0 NF k3 (List.mem_append_left _ m_cl)
  clear F0
  have NF1:=keepCells B NF k3 q3
  clear NF
  have H1:=H.cells (vs:=vs1) (n:=n1) hi1
  have hX1:∀ a∈(σ.cells vs1 n1).base++(σ.cells vs1 n1).secA,∀ i∈Xs,@Ne Nat a i.1:=hX
  have B1:LB w (σ.cells vs1 n1) (Xs++T):=H1.lb hX
  clear hdw hlw zp zw np1 np2 np3 np4 np5 np6 np7 np8 nq1 nq2 nq3 nq4 nq5 nq6 nq7 S
  refine LB.segE B1 hc1 hc2 NF1 fun Z ow u1 u2 u3 nn S1 N hdw hlw zp zw np1 np2 np3 np4 np5 np6 np7 np8 nq1 nq2 nq3 nq4 nq5 nq6 nq7=>?_
  clear NF1
  dsimp only [LV.cells] at N hdw hlw zp zw np1 np2 np3 np4 np5 np6 np7 np8 nq1 nq2 nq3 nq4 nq5 nq6 nq7
  dsimp only
  have h012:r2=0∨r2=1∨r2=2:=by omega
  rcases h012 with rfl | rfl | rfl
  · k_steps
    k_extra "n"
    rename_i al h9 hzal lal
    refine wpAny_call (new_Deed (cg.step F.keep) (by omega) fun dd g_d tk_d e_d m_d a_d=>?_)
    refine a_d.el fun ddx n_d y1 y2 y3 y4 y5 y6 p_d p_dx=>?_
    have N9:=Yb F (Yb F (Ya N e_d) p_dx.2 p_dx.1) p_d.2 p_d.1
    replace F:=Ye F e_d
    clear N
    (rename News _ _ _ _=>N)
    dsimp only
    k_steps
    k_extra "n"
    have hst:DeedAt w h0 g_d dd (Str.ofString ".text") al:=(.in_ (Yq (N.get (by k_mem))) (Yq (N.get (by k_mem))))
    have hal9:=N ((al:Addr),lst [] _) (by k_mem)
    have NF2:=S1.same B1 N (by k_mem) (by k_mem) (fun q hq=>by repeat (first | exact hq | apply List.Mem.tail))
    clear N
    have alZ:∀ q∈mutL w (σ.cells vs1 n1)++(Xs++T),@Ne Nat q.1 al:=S1.allG (Φ:=fun q=>@Ne Nat q.1 al) B1 (po':=σ.po) (P':=σ.P) (wv':=σ.wv) (wn':=σ.wn) (W':=σ.W) (fun _ _=>⟨rfl,rfl⟩) (show σ.pd≠al by omega) (show σ.wl σ.here≠al by omega) hzal
    have alT:∀ q∈T,q.1 ∉ [al]:=fun q hq hm=>alZ q (List.mem_append_right _ (List.mem_append_right _ hq)) (List.mem_singleton.mp hm)
    obtain ⟨cG,K⟩:=H1.colF (by omega) cg F NF2 [al] (fun a ha=>by rw [List.mem_singleton.mp ha];exact hal9.2.2) alT
    have hal:Own (hideAll g_d ([al]++(mutL w (σ.cells vs1 n1)).map (·.1))) g_d al (lst [] _):=⟨hal9.1,hideAll_none _ (List.mem_append_left _ (.head _))⟩
    have nal2:@Ne Nat al σ.k.nl:=(alZ _ (List.mem_append_left _ (m_nl (σ:=σ.cells vs1 n1)))).symm
    have ndc:@Ne Nat σ.k.sd σ.k.dc:=(base_ne H.bas).2.1 _ (by k_extra "mb")
    obtain ⟨q,hq,hqn⟩:∃ p∈σ.k.l,p.name=NT:=H.txt
    have hv:valueAt (Yt σ.k.l) NT=some (.ref q.x):=by rw [← hqn];exact secKvs_at H.nmd hq
    refine wpAny_call (lay_deed (Post:=SwOld w σ.k q.x) cG (by omega) (by omega) K hst (fun c' hd' hu' e' rt=>switch_text c' hd' hu' (Own.ext ⟨hal.1,hal.2⟩ e') (K.ext e') ndc nal2 hv fun h' tk k1 k2=>rt h' tk (SwOld.up e' ⟨k1,k2⟩)) fun g4 tk4 PO=>?_)
    obtain ⟨H',NF',F'⟩:=sw_old_end H1 hX1 hq hqn F NF2 PO
    clear F NF2
    have F:=F'
    have NF:=NF'
    clear F' NF'
    dsimp only
    k_steps
    exact next _ T _ g4 _ (H'.mono (by omega)) ⟨rfl,rfl,rfl,rfl,rfl⟩ ⟨rfl,rfl,⟨_,rfl⟩,rfl⟩ F hX NF fun _ hq=>.inl hq
  · k_steps
    k_extra "n"
    rename_i al h9 hzal lal
    refine wpAny_call (new_Deed (cg.step F.keep) (by omega) fun dd g_d tk_d e_d m_d a_d=>?_)
    refine a_d.el fun ddx n_d y1 y2 y3 y4 y5 y6 p_d p_dx=>?_
    have N9:=Yb F (Yb F (Ya N e_d) p_dx.2 p_dx.1) p_d.2 p_d.1
    replace F:=Ye F e_d
    clear N
    (rename News _ _ _ _=>N)
    dsimp only
    k_steps
    k_extra "n"
    have hst:DeedAt w h0 g_d dd (Str.ofString ".data") al:=(.in_ (Yq (N.get (by k_mem))) (Yq (N.get (by k_mem))))
    have hal9:=N ((al:Addr),lst [] _) (by k_mem)
    have NF2:=S1.same B1 N (by k_mem) (by k_mem) (fun q hq=>by repeat (first | exact hq | apply List.Mem.tail))
    clear N
    have alZ:∀ q∈mutL w (σ.cells vs1 n1)++(Xs++T),@Ne Nat q.1 al:=S1.allG (Φ:=fun q=>@Ne Nat q.1 al) B1 (po':=σ.po) (P':=σ.P) (wv':=σ.wv) (wn':=σ.wn) (W':=σ.W) (fun _ _=>⟨rfl,rfl⟩) (show σ.pd≠al by omega) (show σ.wl σ.here≠al by omega) hzal
    have alT:∀ q∈T,q.1 ∉ [al]:=fun q hq hm=>alZ q (List.mem_append_right _ (List.mem_append_right _ hq)) (List.mem_singleton.mp hm)
    obtain ⟨cG,K⟩:=H1.colF (by omega) cg F NF2 [al] (fun a ha=>by rw [List.mem_singleton.mp ha];exact hal9.2.2) alT
    have hal:Own (hideAll g_d ([al]++(mutL w (σ.cells vs1 n1)).map (·.1))) g_d al (lst [] _):=⟨hal9.1,hideAll_none _ (List.mem_append_left _ (.head _))⟩
    have nal2:@Ne Nat al σ.k.nl:=(alZ _ (List.mem_append_left _ (m_nl (σ:=σ.cells vs1 n1)))).symm
    have ndc:@Ne Nat σ.k.sd σ.k.dc:=(base_ne H.bas).2.1 _ (by k_extra "mb")
    by_cases hex:∃ p∈σ.k.l,p.name=ND
    · obtain ⟨q,hq,hqn⟩:∃ p∈σ.k.l,p.name=ND:=hex
      have hv:valueAt (Yt σ.k.l) ND=some (.ref q.x):=by rw [← hqn];exact secKvs_at H.nmd hq
      refine wpAny_call (lay_deed (Post:=SwOld w σ.k q.x) cG (by omega) (by omega) K hst (fun c' hd' hu' e' rt=>switch_data c' hd' hu' (Own.ext ⟨hal.1,hal.2⟩ e') (K.ext e') ndc nal2 hv fun h' tk k1 k2=>rt h' tk (SwOld.up e' ⟨k1,k2⟩)) fun g4 tk4 PO=>?_)
      obtain ⟨H',NF',F'⟩:=sw_old_end H1 hX1 hq hqn F NF2 PO
      clear F NF2
      have F:=F'
      have NF:=NF'
      clear F' NF'
      dsimp only
      k_steps
      exact next _ T _ g4 _ (H'.mono (by omega)) ⟨rfl,rfl,rfl,rfl,rfl⟩ ⟨rfl,rfl,⟨_,rfl⟩,rfl⟩ F hX NF fun _ hq=>.inl hq
    · have hno:∀ p∈σ.k.l,p.name≠ND:=fun p hp e=>hex ⟨p,hp,e⟩
      have hv:valueAt (Yt σ.k.l) ND=none:=secKvs_no hno
      refine wpAny_call (lay_deed (Post:=SwNew w σ.k ND id) cG (by omega) (by omega) K hst (fun c' hd' hu' e' rt=>switch_dataN c' hd' hu' (Own.ext ⟨hal.1,hal.2⟩ e') (K.ext e') ndc nal2 hv fun x' dx' pl ld o1 o' n' t1 t2 t3 ta t4 h' tk k1 f1 f2 f3 f4 fe a1 a2 a3 a4 a5 a6 a7 a8 a9 a10=>rt h' tk (SwNew.up e' ⟨x',pl,dx',ld,o1,o',n',t1,t2,t3,ta,t4,k1,f1,f2,f3,f4,fe,a1,a2,a3,a4,a5,a6,a7,a8,a9,a10⟩)) fun g4 tk4 PO=>?_)
      refine absG fun _ kQ=>?_
      obtain ⟨x',pl,PO⟩:=PO
      obtain ⟨ld,o1,od,t,T',H',hX',NF',hT',F'⟩:=sw_new_end (hr:=ND) H1 hX1 (.inr (.inl rfl)) hno F NF2 (.inl ⟨rfl,fun _=>rfl⟩) PO
      refine kQ ?_
      clear kQ
      clear F NF2
      have F:=F'
      have NF:=NF'
      clear F' NF'
      dsimp only
      k_steps
      exact next _ T' _ g4 _ (H'.mono (by omega)) ⟨rfl,rfl,rfl,rfl,rfl⟩ ⟨rfl,rfl,⟨_,rfl⟩,rfl⟩ F hX' NF hT'
  · k_steps
    k_extra "n"
    rename_i al h9 hzal lal
    refine wpAny_call (new_Deed (cg.step F.keep) (by omega) fun dd g_d tk_d e_d m_d a_d=>?_)
    refine a_d.el fun ddx n_d y1 y2 y3 y4 y5 y6 p_d p_dx=>?_
    have N9:=Yb F (Yb F (Ya N e_d) p_dx.2 p_dx.1) p_d.2 p_d.1
    replace F:=Ye F e_d
    clear N
    (rename News _ _ _ _=>N)
    dsimp only
    k_steps
    k_extra "n"
    have hst:DeedAt w h0 g_d dd (Str.ofString ".section") al:=(.in_ (Yq (N.get (by k_mem))) (Yq (N.get (by k_mem))))
    have hal9:=N ((al:Addr),lst [.str (Str.ofString ".note") u3] _) (by k_mem)
    have NF2:=S1.same B1 N (by k_mem) (by k_mem) (fun q hq=>by repeat (first | exact hq | apply List.Mem.tail))
    clear N
    have alZ:∀ q∈mutL w (σ.cells vs1 n1)++(Xs++T),@Ne Nat q.1 al:=S1.allG (Φ:=fun q=>@Ne Nat q.1 al) B1 (po':=σ.po) (P':=σ.P) (wv':=σ.wv) (wn':=σ.wn) (W':=σ.W) (fun _ _=>⟨rfl,rfl⟩) (show σ.pd≠al by omega) (show σ.wl σ.here≠al by omega) hzal
    have alT:∀ q∈T,q.1 ∉ [al]:=fun q hq hm=>alZ q (List.mem_append_right _ (List.mem_append_right _ hq)) (List.mem_singleton.mp hm)
    obtain ⟨cG,K⟩:=H1.colF (by omega) cg F NF2 [al] (fun a ha=>by rw [List.mem_singleton.mp ha];exact hal9.2.2) alT
    have hal:Own (hideAll g_d ([al]++(mutL w (σ.cells vs1 n1)).map (·.1))) g_d al (lst [.str (Str.ofString ".note") u3] _):=⟨hal9.1,hideAll_none _ (List.mem_append_left _ (.head _))⟩
    have nal2:@Ne Nat al σ.k.nl:=(alZ _ (List.mem_append_left _ (m_nl (σ:=σ.cells vs1 n1)))).symm
    have ndc:@Ne Nat σ.k.sd σ.k.dc:=(base_ne H.bas).2.1 _ (by k_extra "mb")
    by_cases hex:∃ p∈σ.k.l,p.name=NN
    · obtain ⟨q,hq,hqn⟩:∃ p∈σ.k.l,p.name=NN:=hex
      have hv:valueAt (Yt σ.k.l) NN=some (.ref q.x):=by rw [← hqn];exact secKvs_at H.nmd hq
      refine wpAny_call (lay_deed (Post:=SwOld w σ.k q.x) cG (by omega) (by omega) K hst (fun c' hd' hu' e' rt=>switch_note c' hd' hu' (Own.ext ⟨hal.1,hal.2⟩ e') (K.ext e') ndc nal2 hv fun h' tk k1 k2=>rt h' tk (SwOld.up e' ⟨k1,k2⟩)) fun g4 tk4 PO=>?_)
      obtain ⟨H',NF',F'⟩:=sw_old_end H1 hX1 hq hqn F NF2 PO
      clear F NF2
      have F:=F'
      have NF:=NF'
      clear F' NF'
      dsimp only
      k_steps
      exact next _ T _ g4 _ (H'.mono (by omega)) ⟨rfl,rfl,rfl,rfl,rfl⟩ ⟨rfl,rfl,⟨_,rfl⟩,rfl⟩ F hX NF fun _ hq=>.inl hq
    · have hno:∀ p∈σ.k.l,p.name≠NN:=fun p hp e=>hex ⟨p,hp,e⟩
      have hv:valueAt (Yt σ.k.l) NN=none:=secKvs_no hno
      refine wpAny_call (lay_deed (Post:=SwNew w σ.k NN id) cG (by omega) (by omega) K hst (fun c' hd' hu' e' rt=>switch_noteN c' hd' hu' (Own.ext ⟨hal.1,hal.2⟩ e') (K.ext e') ndc nal2 hv fun x' dx' pl ld o1 o' n' t1 t2 t3 ta t4 h' tk k1 f1 f2 f3 f4 fe a1 a2 a3 a4 a5 a6 a7 a8 a9 a10=>rt h' tk (SwNew.up e' ⟨x',pl,dx',ld,o1,o',n',t1,t2,t3,ta,t4,k1,f1,f2,f3,f4,fe,a1,a2,a3,a4,a5,a6,a7,a8,a9,a10⟩)) fun g4 tk4 PO=>?_)
      refine absG fun _ kQ=>?_
      obtain ⟨x',pl,PO⟩:=PO
      obtain ⟨ld,o1,od,t,T',H',hX',NF',hT',F'⟩:=sw_new_end (hr:=NN) H1 hX1 (.inr (.inr rfl)) hno F NF2 (.inl ⟨rfl,fun _=>rfl⟩) PO
      refine kQ ?_
      clear kQ
      clear F NF2
      have F:=F'
      have NF:=NF'
      clear F' NF'
      dsimp only
      k_steps
      exact next _ T' _ g4 _ (H'.mono (by omega)) ⟨rfl,rfl,rfl,rfl,rfl⟩ ⟨rfl,rfl,⟨_,rfl⟩,rfl⟩ F hX' NF hT'))only[↓zq])
theorem lname_ne0:∀ i<6,lname i≠Str.ofString "" := by decide +kernel
theorem deed_branch {σ:LV} {T Xs:List (Addr×Obj)} {b:Nat} {m:Str→Option Value} {c1 c2:Obj} {L:Nat} {g:Heap} {Q:Flow→Shared→Prop} {E:Value→Shared→Prop} (hd:dp≤650) (hu:un≤2000) (H:LOk w b σ T) (hb:b≤700)
    (X:(Mine.H.K w.params).In g) (TR:TopRead Mine.H.q1 lse mg mb g) (F:Fr g L s.heap m) (hm:MOk σ m) (hX:∀ a∈σ.base++σ.secA,∀ i∈Xs,@Ne Nat a i.1) (h1:((L+1:Nat),c1)∈Xs) (h2:((L+1+1:Nat),c2)∈Xs)
    (r:Int) (tr:Tok) (hr0:0≤r) (hr1:r<13) (hway:m (Str.ofString "way")=some (.int r tr)) (d1:c1.data=.cell (some (.ref σ.k.xc))) (d2:c2.data=.cell (some (.ref σ.wd))) (NF:News g L s.heap (mutL w σ++(Xs++T)))
    (next:∀ σ' T' m' h' tk,LOk w (b+2) σ' T'→SameA σ σ'→MOk σ' m'→Fr g L h' m'→(∀ a∈σ'.base++σ'.secA,∀ i∈Xs,@Ne Nat a i.1)→News g L h' (mutL w σ'++(Xs++T'))→(∀ q∈T',q∈T∨∀ x∈Xs,@Ne Nat q.1 x.1)→Q .next { s with heap:=h',toks:=tk }) :
    wpAny (model PG w) (Ar dp un fr gd) (execs deedBr (envOfC Mine.H.z240 lawSc L 998 (.ref 997))) Q E s:=zp (by simp(disch:=k_dflt(
  refine' Yo (P:=fun B sc=>wpAny (model PG w) (Ar dp un fr gd) (execs B (envOfC Mine.H.z240 sc L 998 (.ref 997))) Q E s) ?eb ?es ?_
  case eb=>(conv=>lhs;whnf)
  case es=>(conv=>lhs;whnf)
  have cg:Cx w lse mg mb g g:=⟨X,TR,Ext.refl _⟩
  have hc1:((L+1:Nat),c1)∈Xs++T:=List.mem_append_left _ h1
  have hc2:((L+1+1:Nat),c2)∈Xs++T:=List.mem_append_left _ h2
  obtain ⟨th,hth⟩:=hm.here
  have hmm:=Yr (m:=m) [(Str.ofString "cells",some (.ref σ.cl)),(Str.ofString "names",some (.ref σ.nm)),(Str.ofString "here",some (.str σ.here th)),(Str.ofString "places",some (.ref σ.pd)),(Str.ofString "way",some (.int r tr))] (by simp [hm.cells,hm.names,hth,hm.places,hway])
  rw [hmm] at F
  simp only [mLook] at F
  have B:=H.lb hX
  refine LB.segE B hc1 hc2 NF fun Z ow u1 u2 u3 nn S N hdw hlw zp zw np1 np2 np3 np4 np5 np6 np7 np8 nq1 nq2 nq3 nq4 nq5 nq6 nq7=>?_
  clear NF
  have hpd:=H.pdict
  have hplo:=H.plo
  have hp6:(plKvs σ.P).length≤6:=by simp only [plKvs,List.length_map];exact H.p6
  k_steps
  k_extra "n"
  have NF:=S.same B N (by k_mem) (by k_mem) (fun q hq=>by repeat (first | exact hq | apply List.Mem.tail))
  clear N
  have hin0:=fun q (hq:q∈mutL w σ)=>(NF q (List.mem_append_left _ hq)).1
  have hT0:=fun q (hq:q∈T)=>(NF q (List.mem_append_right _ (List.mem_append_right _ hq))).1
  have hE:∀ p∈σ.P,p.lab≠Str.ofString "" := fun p hp e=>by
    have hm:p.lab∈σ.P.map (·.lab):=List.mem_map.mpr ⟨p,hp,rfl⟩
    rw [H.lbl] at hm
    obtain ⟨i,hi,e2⟩:=List.mem_map.mp hm
    have hi':=List.mem_range.mp hi
    have h6:=H.p6
    exact lname_ne0 i (by omega) (e2.trans e)
  refine wpAny_call (law_deed_all (cl:=σ.cl) (cg.step F.keep) (by omega) (by omega) (by exact Yv cg NF (List.mem_append_left _ m_cl)) H.hin (by exact H.pl (by omega) hin0 hT0) H.p6 hE (by split <;> omega) (by split <;> omega) fun tt g3 tk3 DR=>?_)
  refine DeedRes.el DR fun dd ml al na nmm n' word args mvs vs' TD ws' kD hTD hdd hlay al0 al1 hTal ml0 ml1 hov tt0 tt1 cl1 hil hw2 hwv=>?_
  have F0:=F
  replace F:=Yp F0 NF kD (List.mem_append_left _ m_cl)
  have NF1:=keepCells B NF kD cl1
  have H1:=H.cells (vs:=vs') (n:=n') hil
  have nal:=adr_ne NF al0
  have nml:=adr_ne NF ml0
  have ntt:=adr_ne NF tt0
  have nTD:∀ q∈TD,∀ a∈σ.base++σ.secA,@Ne Nat a q.1:=fun q hq=>adr_ne NF (hTD q hq).1
  have oal:=Yb F0 News.nil al0 al1
  have oml:=Yb F0 News.nil ml0 ml1
  have ott:=Yb F0 News.nil tt0 tt1
  have oTD:News g L g3 TD:=fun q hq=>Yb F0 News.nil (hTD q hq).1 (hTD q hq).2 q (.head _)
  have alT:∀ q∈T,q.1 ∉ [al]:=fun q hq hm=>Yi (hT0 q hq) al0 (List.mem_singleton.mp hm)
  have mlX:∀ q∈Xs++T,@Ne Nat q.1 ml:=fun q hq=>Yi (NF q (List.mem_append_right _ hq)).1 ml0
  clear hdw hlw zp zw np1 np2 np3 np4 np5 np6 np7 np8 nq1 nq2 nq3 nq4 nq5 nq6 nq7 S
  generalize hXs:((tt:Addr),tupO [.ref dd,.ref ml])::((ml:Addr),lst mvs nmm)::((al:Addr),lst args na)::(TD++Xs)=Ys
  have hXY:∀ q∈Xs,q∈Ys:=fun q hq=>by rw [← hXs];exact .tail _ (.tail _ (.tail _ (List.mem_append_right _ hq)))
  have yTD:∀ q∈TD,q∈Ys:=fun q hq=>by rw [← hXs];exact .tail _ (.tail _ (.tail _ (List.mem_append_left _ hq)))
  have ytt:((tt:Addr),tupO [.ref dd,.ref ml])∈Ys:=by rw [← hXs];exact .head _
  have yml:((ml:Addr),lst mvs nmm)∈Ys:=by rw [← hXs];exact .tail _ (.head _)
  have yal:((al:Addr),lst args na)∈Ys:=by rw [← hXs];exact .tail _ (.tail _ (.head _))
  have hY:∀ {Φ:Addr×Obj→Prop},Φ (tt,tupO [.ref dd,.ref ml])→Φ (ml,lst mvs nmm)→Φ (al,lst args na)→(∀ q∈TD,Φ q)→(∀ q∈Xs,Φ q)→∀ q∈Ys,Φ q:=fun {Φ} a b c d e q hq=>by
    rw [← hXs] at hq
    rcases List.mem_cons.mp hq with rfl | hq
    · exact a
    rcases List.mem_cons.mp hq with rfl | hq
    · exact b
    rcases List.mem_cons.mp hq with rfl | hq
    · exact c
    exact (List.mem_append.mp hq).elim (d q) (e q)
  have hdjY:∀ a∈σ.base++σ.secA,∀ i∈Ys,@Ne Nat a i.1:=fun a ha=>hY (ntt a ha) (nml a ha) (nal a ha) (fun q hq=>nTD q hq a ha) (hX a ha)
  have NF1':News g L g3 (mutL w (σ.cells vs' n')++(Ys++T)):=fun q hq=>by
    rcases List.mem_append.mp hq with hq | hq
    · exact NF1 q (List.mem_append_left _ hq)
    · rcases List.mem_append.mp hq with hq | hq
      · exact hY (Φ:=fun q=>g3.get? q.1=some q.2∧q.1≠L∧g.get? q.1=none) (ott _ (.head _)) (oml _ (.head _)) (oal _ (.head _)) oTD (fun q hq=>NF1 q (List.mem_append_right _ (List.mem_append_left _ hq))) q hq
      · exact NF1 q (List.mem_append_right _ (List.mem_append_right _ hq))
  have B1:LB w (σ.cells vs' n') (Ys++T):=H1.lb hdjY
  have hc1:((L+1:Nat),c1)∈Ys++T:=List.mem_append_left _ (hXY _ h1)
  have hc2:((L+1+1:Nat),c2)∈Ys++T:=List.mem_append_left _ (hXY _ h2)
  have tt9:=NF1' _ (List.mem_append_right _ (List.mem_append_left _ ytt))
  clear NF NF1
  refine LB.segE B1 hc1 hc2 NF1' fun Z ow u1 u2 u3 nn S1 N hdw hlw zp zw np1 np2 np3 np4 np5 np6 np7 np8 nq1 nq2 nq3 nq4 nq5 nq6 nq7=>?_
  clear NF1'
  dsimp only [LV.cells] at N hdw hlw zp zw np1 np2 np3 np4 np5 np6 np7 np8 nq1 nq2 nq3 nq4 nq5 nq6 nq7
  replace N:=Yl N tt9.1 tt9.2
  dsimp only
  k_steps
  k_extra "n"
  have NF2:=S1.same B1 N (by k_mem) (by k_mem) (fun q hq=>by repeat (first | exact hq | apply List.Mem.tail))
  clear N
  (rename Heap=>hl)
  refine absG fun _ kQ=>?_
  obtain ⟨p,hp,hcu,hn⟩:=H1.cur
  refine kQ ?_
  clear kQ
  have hp0:p∈σ.k.l:=hp
  have hn0:p.name=σ.here:=hn
  have inY:=fun q (hq:q∈Ys)=>NF2 q (List.mem_append_right _ (List.mem_append_left _ hq))
  obtain ⟨cG,K⟩:=H1.colF (by omega) cg F NF2 [al] (fun a ha=>by rw [List.mem_singleton.mp ha];exact (inY _ yal).2.2) alT
  have hT2:InH hl T:=fun q hq=>(NF2 q (List.mem_append_right _ (List.mem_append_right _ hq))).1
  have hlen:=H1.lens hT2 p hp
  have hst:DeedAt w h0 hl dd word al:=hdd hl fun q hq=>(inY q (yTD q hq)).1
  have hTD':∀ q∈TD,(hideAll hl ([al]++(mutL w (σ.cells vs' n')).map (·.1))).get? q.1=some q.2:=fun q hq=>hideAll_get _ (inY q (yTD q hq)).1 fun hm=>by
    rcases List.mem_append.mp hm with hm | hm
    · exact hTal q hq (List.mem_singleton.mp hm)
    · obtain ⟨z,hz,e⟩:=List.mem_map.mp hm
      exact nTD q hq _ (mutL_adr (σ:=σ.cells vs' n') hz) e
  have hplA:p.pl∈σ.base++σ.secA:=List.mem_append_right _ (List.mem_flatMap.mpr ⟨p,hp0,.head _⟩)
  refine wpAny_call (lay_deed (Post:=fun h h'=>Laid w h h' p.pl p.ps ws') cG (by omega) (by omega) K hst (fun c' hd' hu' e' rt=>hlay c' hd' hu' hTD' ⟨e' _ _ (inY _ yal).1,hideAll_none _ (List.mem_append_left _ (.head _))⟩ (nal _ hplA).symm (K.ext e') hp hcu (H1.sc p hp).1 (by omega) fun h' tk Lz=>rt h' tk (Laid.ext e' Lz (Ext.refl _))) fun g4 tk4 LD=>?_)
  refine absG fun _ kQ=>?_
  obtain ⟨TL,qs,n9,kL,hTL,q9,hpcs⟩:=LD
  refine kQ ?_
  clear kQ
  have F0:=F
  replace F:=Yp F0 NF2 kL (List.mem_append_left _ (m_pl hp))
  have NF3:=keepPl (ws':=ws') H1 B1 hp hn NF2 kL q9
  have nTL:∀ q∈TL,∀ a∈σ.base++σ.secA,@Ne Nat a q.1:=fun q hq=>adr_ne (σ:=σ.cells vs' n') NF2 (hTL q hq).1
  have oTL:News g L g4 TL:=fun q hq=>Yb F0 News.nil (hTL q hq).1 (hTL q hq).2 q (.head _)
  have xTL:∀ q∈TL,∀ x∈Xs,@Ne Nat q.1 x.1:=fun q hq x hx=>(Yi (inY x (hXY x hx)).1 (hTL q hq).1).symm
  have NF3':News g L g4 (mutL w ((σ.cells vs' n').laidK qs ws' n9)++(Ys++(TL++T))):=fun q hq=>by
    rcases List.mem_append.mp hq with hq | hq
    · exact NF3 q (List.mem_append_left _ hq)
    · rcases List.mem_append.mp hq with hq | hq
      · exact NF3 q (List.mem_append_right _ (List.mem_append_left _ hq))
      · rcases List.mem_append.mp hq with hq | hq
        · exact oTL q hq
        · exact NF3 q (List.mem_append_right _ (List.mem_append_right _ hq))
  have H2:=H1.more (TL:=TL) (fun a ha i hi=>nTL i hi a ha)
  have B3:=(H2.lb hdjY).laidK qs ws' n9
  have hc1:((L+1:Nat),c1)∈Ys++(TL++T):=List.mem_append_left _ (hXY _ h1)
  have hc2:((L+1+1:Nat),c2)∈Ys++(TL++T):=List.mem_append_left _ (hXY _ h2)
  have hT3:InH g4 (TL++T):=fun q hq=>(NF3' q (List.mem_append_right _ (List.mem_append_right _ hq))).1
  have ml9:=NF3' _ (List.mem_append_right _ (List.mem_append_left _ yml))
  clear NF2 NF3 zp zw hdw hlw np1 np2 np3 np4 np5 np6 np7 np8 nq1 nq2 nq3 nq4 nq5 nq6 nq7 S1
  refine LB.segE B3 hc1 hc2 NF3' fun Z ow u1 u2 u3 nn S3 N hdw hlw zp zw np1 np2 np3 np4 np5 np6 np7 np8 nq1 nq2 nq3 nq4 nq5 nq6 nq7=>?_
  clear NF3'
  dsimp only [LV.laidK,LV.cells] at N hdw hlw zp zw np1 np2 np3 np4 np5 np6 np7 np8 nq1 nq2 nq3 nq4 nq5 nq6 nq7
  replace N:=Yl N ml9.1 ml9.2
  dsimp only at N
  have hvw:=wd_at (σ:=σ) H.hok
  have hmlw:@Ne Nat ml (σ.wl σ.here):=(nml _ (List.mem_append_left _ (wl_base H.hok))).symm
  have hmvl:=hov.len
  have hwid:=(H.wid _ H.hok).2
  have hsz:(σ.wv σ.here).length+mvs.length≤16000:=by omega
  dsimp only
  k_steps
  rename_i nw h9 F N
  have H':=H2.laid (qs:=qs) (ws':=ws') (n':=n9) (vs':=mvs) (nw:=nw) hT3 (fun hh z=>hpcs hh (InH.left z)) hov hw2 hwv
  have hA:=S3.allG (Φ:=fun q=>h9.get? q.1=some q.2∧q.1≠L∧g.get? q.1=none) B3 (po':=σ.po) (P':=σ.P) (wv':=fun n=>if n=σ.here then σ.wv n++mvs else σ.wv n) (wn':=fun n=>if n=σ.here then nw else σ.wn n) (W':=fun n=>if n=σ.here then σ.W n++ws' else σ.W n)
    (fun n c=>⟨if_neg c,if_neg c⟩) (N (σ.pd,σ.po) (by k_mem)) (by
      have:=N (σ.wl σ.here,lst (σ.wv σ.here++mvs) nw) (by k_mem)
      show h9.get? (σ.wl σ.here)=some (lst (if σ.here=σ.here then σ.wv σ.here++mvs else σ.wv σ.here) (if σ.here=σ.here then nw else σ.wn σ.here))∧_
      rw [if_pos rfl,if_pos rfl]
      exact this) (fun q hq=>N q (by repeat (first | exact hq | apply List.Mem.tail)))
  have hsA:((σ.cells vs' n').laidK qs ws' n9).secA=(σ.cells vs' n').secA:=secA_laid
  refine next ((σ.cells vs' n').laid qs ws' n9 mvs nw) (TL++T) _ h9 _ H' ⟨rfl,rfl,rfl,rfl,rfl⟩ ⟨rfl,rfl,⟨_,rfl⟩,rfl⟩ F ?_ ?_ ?_
  · intro a ha i hi
    have ha':a∈σ.base++((σ.cells vs' n').laidK qs ws' n9).secA:=ha
    rw [hsA] at ha'
    exact hX a ha' i hi
  · intro q hq
    rcases List.mem_append.mp hq with hq | hq
    · exact hA q (List.mem_append_left _ hq)
    · rcases List.mem_append.mp hq with hq | hq
      · exact hA q (List.mem_append_right _ (List.mem_append_left _ (hXY q hq)))
      · exact hA q (List.mem_append_right _ (List.mem_append_right _ hq))
  · intro q hq
    rcases List.mem_append.mp hq with hq | hq
    · exact .inr (xTL q hq)
    · exact .inl hq))only[↓zq])
theorem row23:True:=by
  k_with ".execs cons" => ((fail_if_success have:=@off18);(k_here;refine stop_ ?_))
  trivial
theorem law_else {σ:LV} {T Xs:List (Addr×Obj)} {b:Nat} {m:Str→Option Value} {c1 c2:Obj} {L:Nat} {g:Heap} {Q:Flow→Shared→Prop} {E:Value→Shared→Prop} (hd:dp≤650) (hu:un≤2000) (H:LOk w b σ T) (hb:b≤700)
    (X:(Mine.H.K w.params).In g) (TR:TopRead Mine.H.q1 lse mg mb g) (F:Fr g L s.heap m) (hm:MOk σ m) (hX:∀ a∈σ.base++σ.secA,∀ i∈Xs,@Ne Nat a i.1) (h1:((L+1:Nat),c1)∈Xs) (h2:((L+1+1:Nat),c2)∈Xs)
    (r:Int) (tr:Tok) (hr0:0≤r) (hr1:r<13) (hway:m (Str.ofString "way")=some (.int r tr)) (d1:c1.data=.cell (some (.ref σ.k.xc))) (d2:c2.data=.cell (some (.ref σ.wd))) (NF:News g L s.heap (mutL w σ++(Xs++T)))
    (next:∀ σ' T' m' h' tk,LOk w (b+2) σ' T'→SameA σ σ'→MOk σ' m'→Fr g L h' m'→(∀ a∈σ'.base++σ'.secA,∀ i∈Xs,@Ne Nat a i.1)→News g L h' (mutL w σ'++(Xs++T'))→(∀ q∈T',q∈T∨∀ x∈Xs,@Ne Nat q.1 x.1)→Q .next { s with heap:=h',toks:=tk }) :
    wpAny (model PG w) (Ar dp un fr gd) (execs elsB (envOfC Mine.H.z240 lawSc L 998 (.ref 997))) Q E s:=zp (by simp(disch:=k_dflt(
  refine' Yo (P:=fun B sc=>wpAny (model PG w) (Ar dp un fr gd) (execs B (envOfC Mine.H.z240 sc L 998 (.ref 997))) Q E s) ?eb ?es ?_
  case eb=>(conv=>lhs;whnf)
  case es=>(conv=>lhs;whnf)
  have cg:Cx w lse mg mb g g:=⟨X,TR,Ext.refl _⟩
  have hc1:((L+1:Nat),c1)∈Xs++T:=List.mem_append_left _ h1
  have hc2:((L+1+1:Nat),c2)∈Xs++T:=List.mem_append_left _ h2
  obtain ⟨th,hth⟩:=hm.here
  have hmm:=Yr (m:=m) [(Str.ofString "cells",some (.ref σ.cl)),(Str.ofString "names",some (.ref σ.nm)),(Str.ofString "here",some (.str σ.here th)),(Str.ofString "places",some (.ref σ.pd)),(Str.ofString "way",some (.int r tr))] (by simp [hm.cells,hm.names,hth,hm.places,hway])
  rw [hmm] at F
  simp only [mLook] at F
  have B:=H.lb hX
  refine LB.segE B hc1 hc2 NF fun Z ow u1 u2 u3 nn S N hdw hlw zp zw np1 np2 np3 np4 np5 np6 np7 np8 nq1 nq2 nq3 nq4 nq5 nq6 nq7=>?_
  clear NF
  have hpd:=H.pdict
  have hplo:=H.plo
  have hp6:(plKvs σ.P).length≤6:=by simp only [plKvs,List.length_map];exact H.p6
  (with_reducible refine wpAny_execs_cons ?_)
  (try dsimp only)
  k_fold
  k_steps
  · delta Stop
    k_extra "n"
    have NF:=S.same B N (by k_mem) (by k_mem) (fun q hq=>by repeat (first | exact hq | apply List.Mem.tail))
    refine switch_branch hd hu H hb X TR F ⟨rfl,rfl,⟨_,rfl⟩,rfl⟩ hX h1 h2 r tr hr0 hr1 rfl d1 d2 NF fun σ' T' m' h' tk a1 a2 a3 a4 a5 a6 a7=>?_
    clear F N NF
    have F:=a4
    k_steps
    exact next σ' T' m' h' tk a1 a2 a3 a4 a5 a6 a7
  · delta Stop
    k_extra "n"
    have NF:=S.same B N (by k_mem) (by k_mem) (fun q hq=>by repeat (first | exact hq | apply List.Mem.tail))
    refine deed_branch hd hu H hb X TR F ⟨rfl,rfl,⟨_,rfl⟩,rfl⟩ hX h1 h2 r tr hr0 hr1 rfl d1 d2 NF fun σ' T' m' h' tk a1 a2 a3 a4 a5 a6 a7=>?_
    clear F N NF
    have F:=a4
    k_steps
    exact next σ' T' m' h' tk a1 a2 a3 a4 a5 a6 a7))only[↓zq])
theorem law_if {σ:LV} {T Xs:List (Addr×Obj)} {b:Nat} {m:Str→Option Value} {c1 c2:Obj} {L:Nat} {g:Heap} {Q:Flow→Shared→Prop} {E:Value→Shared→Prop} (hd:dp≤650) (hu:un≤2000) (H:LOk w b σ T) (hb:b≤700)
    (X:(Mine.H.K w.params).In g) (TR:TopRead Mine.H.q1 lse mg mb g) (F:Fr g L s.heap m) (hm:MOk σ m) (hX:∀ a∈σ.base++σ.secA,∀ i∈Xs,@Ne Nat a i.1) (h1:((L+1:Nat),c1)∈Xs) (h2:((L+1+1:Nat),c2)∈Xs)
    (r:Int) (tr:Tok) (hr0:0≤r) (hr1:r<13) (hway:m (Str.ofString "way")=some (.int r tr)) (d1:c1.data=.cell (some (.ref σ.k.xc))) (d2:c2.data=.cell (some (.ref σ.wd))) (NF:News g L s.heap (mutL w σ++(Xs++T)))
    (next:∀ σ' T' m' h' tk,LOk w (b+2) σ' T'→SameA σ σ'→MOk σ' m'→Fr g L h' m'→(∀ a∈σ'.base++σ'.secA,∀ i∈Xs,@Ne Nat a i.1)→News g L h' (mutL w σ'++(Xs++T'))→(∀ q∈T',q∈T∨∀ x∈Xs,@Ne Nat q.1 x.1)→Q .next { s with heap:=h',toks:=tk }) :
    wpAny (model PG w) (Ar dp un fr gd) (exec ifS (envOfC Mine.H.z240 lawSc L 998 (.ref 997))) Q E s:=zp (by simp(disch:=k_dflt(
  refine' Yo (P:=fun B sc=>wpAny (model PG w) (Ar dp un fr gd) (exec B (envOfC Mine.H.z240 sc L 998 (.ref 997))) Q E s) ?eb ?es ?_
  case eb=>(conv=>lhs;whnf)
  case es=>(conv=>lhs;whnf)
  have cg:Cx w lse mg mb g g:=⟨X,TR,Ext.refl _⟩
  have hc1:((L+1:Nat),c1)∈Xs++T:=List.mem_append_left _ h1
  have hc2:((L+1+1:Nat),c2)∈Xs++T:=List.mem_append_left _ h2
  obtain ⟨th,hth⟩:=hm.here
  have hmm:=Yr (m:=m) [(Str.ofString "cells",some (.ref σ.cl)),(Str.ofString "names",some (.ref σ.nm)),(Str.ofString "here",some (.str σ.here th)),(Str.ofString "places",some (.ref σ.pd)),(Str.ofString "way",some (.int r tr))] (by simp [hm.cells,hm.names,hth,hm.places,hway])
  rw [hmm] at F
  simp only [mLook] at F
  have B:=H.lb hX
  refine LB.segE B hc1 hc2 NF fun Z ow u1 u2 u3 nn S N hdw hlw zp zw np1 np2 np3 np4 np5 np6 np7 np8 nq1 nq2 nq3 nq4 nq5 nq6 nq7=>?_
  clear NF
  have hpd:=H.pdict
  have hplo:=H.plo
  have hp6:(plKvs σ.P).length≤6:=by simp only [plKvs,List.length_map];exact H.p6
  k_steps
  · delta Stop
    k_extra "n"
    have NF:=S.same B N (by k_mem) (by k_mem) (fun q hq=>by repeat (first | exact hq | apply List.Mem.tail))
    refine label_branch hd hu H hb X TR F ⟨rfl,rfl,⟨_,rfl⟩,rfl⟩ hX h1 h2 r tr hr0 hr1 rfl (by simp only [plKvs,List.length_map] at *;omega) d1 d2 NF fun σ' T' m' h' tk a1 a2 a3 a4 a5 a6 a7=>?_
    clear F N NF
    have F:=a4
    k_steps
    exact next σ' T' m' h' tk a1 a2 a3 a4 a5 a6 a7
  · delta Stop
    k_extra "n"
    have NF:=S.same B N (by k_mem) (by k_mem) (fun q hq=>by repeat (first | exact hq | apply List.Mem.tail))
    refine law_else hd hu H hb X TR F ⟨rfl,rfl,⟨_,rfl⟩,rfl⟩ hX h1 h2 r tr hr0 hr1 rfl d1 d2 NF fun σ' T' m' h' tk a1 a2 a3 a4 a5 a6 a7=>?_
    clear F N NF
    have F:=a4
    k_steps
    exact next σ' T' m' h' tk a1 a2 a3 a4 a5 a6 a7
  · delta Stop
    k_extra "n"
    have NF:=S.same B N (by k_mem) (by k_mem) (fun q hq=>by repeat (first | exact hq | apply List.Mem.tail))
    refine law_else hd hu H hb X TR F ⟨rfl,rfl,⟨_,rfl⟩,rfl⟩ hX h1 h2 r tr hr0 hr1 rfl d1 d2 NF fun σ' T' m' h' tk a1 a2 a3 a4 a5 a6 a7=>?_
    clear F N NF
    have F:=a4
    k_steps
    exact next σ' T' m' h' tk a1 a2 a3 a4 a5 a6 a7))only[↓zq])
theorem off18:True:=trivial
theorem row24:True:=by
  k_with ".exec If" => ((fail_if_success have:=@off19);(k_here;refine stop_ ?_))
  trivial
theorem law_turn {σ:LV} {T Xs:List (Addr×Obj)} {b:Nat} {m:Str→Option Value} {c1 c2:Obj} {L:Nat} {g:Heap} {Q:Flow→Shared→Prop} {E:Value→Shared→Prop} (hd:dp≤650) (hu:un≤2000) (H:LOk w b σ T) (hb:b≤700)
    (X:(Mine.H.K w.params).In g) (TR:TopRead Mine.H.q1 lse mg mb g) (F:Fr g L s.heap m) (hm:MOk σ m) (hX:∀ a∈σ.base++σ.secA,∀ i∈Xs,@Ne Nat a i.1) (h1:((L+1:Nat),c1)∈Xs) (h2:((L+1+1:Nat),c2)∈Xs)
    (d1:c1.data=.cell (some (.ref σ.k.xc))) (d2:c2.data=.cell (some (.ref σ.wd))) (NF:News g L s.heap (mutL w σ++(Xs++T)))
    (next:∀ σ' T' m' h' tk,LOk w (b+2) σ' T'→SameA σ σ'→MOk σ' m'→Fr g L h' m'→(∀ a∈σ'.base++σ'.secA,∀ i∈Xs,@Ne Nat a i.1)→News g L h' (mutL w σ'++(Xs++T'))→(∀ q∈T',q∈T∨∀ x∈Xs,@Ne Nat q.1 x.1)→Q .next { s with heap:=h',toks:=tk }) :
    wpAny (model PG w) (Ar dp un fr gd) (execs turnB (envOfC Mine.H.z240 lawSc L 998 (.ref 997))) Q E s:=zp (by simp(disch:=k_dflt(
  refine' Yo (P:=fun B sc=>wpAny (model PG w) (Ar dp un fr gd) (execs B (envOfC Mine.H.z240 sc L 998 (.ref 997))) Q E s) ?eb ?es ?_
  case eb=>(conv=>lhs;whnf)
  case es=>(conv=>lhs;whnf)
  have cg:Cx w lse mg mb g g:=⟨X,TR,Ext.refl _⟩
  have hc1:((L+1:Nat),c1)∈Xs++T:=List.mem_append_left _ h1
  have hc2:((L+1+1:Nat),c2)∈Xs++T:=List.mem_append_left _ h2
  obtain ⟨th,hth⟩:=hm.here
  have hmm:=Yr (m:=m) [(Str.ofString "cells",some (.ref σ.cl)),(Str.ofString "names",some (.ref σ.nm)),(Str.ofString "here",some (.str σ.here th)),(Str.ofString "places",some (.ref σ.pd))] (by simp [hm.cells,hm.names,hth,hm.places])
  rw [hmm] at F
  simp only [mLook] at F
  have B:=H.lb hX
  refine LB.segE B hc1 hc2 NF fun Z ow u1 u2 u3 nn S N hdw hlw zp zw np1 np2 np3 np4 np5 np6 np7 np8 nq1 nq2 nq3 nq4 nq5 nq6 nq7=>?_
  clear NF
  k_steps
  k_extra "n"
  have NF:=S.same B N (by k_mem) (by k_mem) (fun q hq=>by repeat (first | exact hq | apply List.Mem.tail))
  clear N
  have hcn:σ.cl∈σ.base:=by k_extra "mb"
  refine wpAny_call (pick_spec (cl:=σ.cl) (cg.step F.keep) (by omega) (by omega) (by exact Yv cg NF (List.mem_append_left _ m_cl)) H.hin (by omega) fun r tr vs1 n1 g3 tk3 hr0 hr1 k3 q3 hi1=>?_)
  have F0:=F
  replace F:=Yp F0 NF k3 (List.mem_append_left _ m_cl)
  clear F0
  have NF1:=keepCells B NF k3 q3
  clear NF
  have H1:=H.cells (vs:=vs1) (n:=n1) hi1
  have hX1:∀ a∈(σ.cells vs1 n1).base++(σ.cells vs1 n1).secA,∀ i∈Xs,@Ne Nat a i.1:=hX
  dsimp only
  have B1:LB w (σ.cells vs1 n1) (Xs++T):=H1.lb hX
  clear hdw hlw zp zw np1 np2 np3 np4 np5 np6 np7 np8 nq1 nq2 nq3 nq4 nq5 nq6 nq7 S
  refine LB.segE B1 hc1 hc2 NF1 fun Z ow u1 u2 u3 nn S N hdw hlw zp zw np1 np2 np3 np4 np5 np6 np7 np8 nq1 nq2 nq3 nq4 nq5 nq6 nq7=>?_
  clear NF1
  dsimp only [LV.cells] at N
  k_steps
  delta Stop
  k_extra "n"
  have NF:=S.same B1 N (by k_mem) (by k_mem) (fun q hq=>by repeat (first | exact hq | apply List.Mem.tail))
  refine law_if hd hu H1 hb X TR F ⟨rfl,rfl,⟨_,rfl⟩,rfl⟩ hX h1 h2 r tr hr0 hr1 rfl d1 d2 NF fun σ' T' m' h' tk a1 a2 a3 a4 a5 a6 a7=>?_
  clear F N NF
  have F:=a4
  k_steps
  exact next σ' T' m' h' tk a1 ⟨a2.xc,a2.wd,a2.nm,a2.cl,a2.pd⟩ a3 a4 a5 a6 a7))only[↓zq])
theorem off19:True:=trivial
theorem row25:True:=by
  k_with ".execs cons" => ((fail_if_success have:=@off20);(k_here;refine stop_ ?_))
  k_with ".pyIter ref" => ((fail_if_success have:=@off20);(k_here;refine stop_ ?_))
  k_with ".exec If Compare" => ((fail_if_success have:=@off20);(k_here;first | ((with_reducible show wpAny _ _ (exec (Stmt.If (PySem.Expr.Compare (PySem.Expr.Name _ _) [CmpOp.Eq] [PySem.Expr.Constant (Const.int _) _ _] _) _ _ _) _) _ _ _);k_dflt (first | (refine' @if_eqIF _ _ _ _ _ _ _ _ _ _ _ _ _ _ _ _ _ _ _ _ _ _ _ _ (by k_asm) (by exact rfl) (by exact rfl) (by exact rfl) (by decide) (by decide) ?_) | (refine' @if_eqIT _ _ _ _ _ _ _ _ _ _ _ _ _ _ _ _ _ _ _ _ _ _ _ _ (by k_asm) (by exact rfl) (by exact rfl) (by exact rfl) (by decide) (by decide) ?_))) | ((with_reducible show wpAny _ _ (exec (Stmt.If (PySem.Expr.Compare (PySem.Expr.Name _ _) [CmpOp.Eq] [PySem.Expr.Constant (Const.str _) _ _] _) _ _ _) _) _ _ _);k_dflt (first | (refine' @if_eqF _ _ _ _ _ _ _ _ _ _ _ _ _ _ _ _ _ _ _ _ _ _ _ _ (by k_asm) (by exact rfl) (by exact rfl) (by exact rfl) (by decide) (by decide) ?_) | (refine' @if_eqT _ _ _ _ _ _ _ _ _ _ _ _ _ _ _ _ _ _ _ _ _ _ _ _ (by k_asm) (by exact rfl) (by exact rfl) (by exact rfl) (by decide) (by decide) ?_))) | ((with_reducible show wpAny _ _ (exec (Stmt.If (PySem.Expr.Compare (PySem.Expr.Name _ _) [CmpOp.In] [PySem.Expr.Tuple [_,_,_] _ _] _) _ _ _) _) _ _ _);k_dflt (first | (refine' @if_in3F _ _ _ _ _ _ _ _ _ _ _ _ _ _ _ _ _ _ _ _ _ _ _ _ _ _ _ _ _ _ _ _ _ (by k_asm) (by k_asm) (by exact rfl) (by exact rfl) (by exact rfl) (by decide) (by decide) ?_;intro _ _ _ _) | (refine' @if_in3T _ _ _ _ _ _ _ _ _ _ _ _ _ _ _ _ _ _ _ _ _ _ _ _ _ _ _ _ _ _ _ _ _ (by k_asm) (by k_asm) (by exact rfl) (by exact rfl) (by exact rfl) (by decide) (by decide) ?_;intro _ _ _ _))) | ((with_reducible show wpAny _ _ (exec (Stmt.If (PySem.Expr.Compare (PySem.Expr.Name _ _) [CmpOp.In] [PySem.Expr.Tuple [_,_] _ _] _) _ _ _) _) _ _ _);k_dflt (first | (refine' @if_in2F _ _ _ _ _ _ _ _ _ _ _ _ _ _ _ _ _ _ _ _ _ _ _ _ _ _ _ _ _ _ (by k_asm) (by k_asm) (by exact rfl) (by exact rfl) (by exact rfl) (by decide) (by decide) ?_;intro _ _ _ _) | (refine' @if_in2T _ _ _ _ _ _ _ _ _ _ _ _ _ _ _ _ _ _ _ _ _ _ _ _ _ _ _ _ _ _ (by k_asm) (by k_asm) (by exact rfl) (by exact rfl) (by exact rfl) (by decide) (by decide) ?_;intro _ _ _ _)))))
  trivial
theorem law_for {σ:LV} {T Xs:List (Addr×Obj)} {b:Nat} {m:Str→Option Value} {c1 c2:Obj} {L:Nat} {g:Heap} {Q:Flow→Shared→Prop} (hd:dp≤650) (hu:un≤2000) (H:LOk w b σ T) (hb:b≤76)
    (X:(Mine.H.K w.params).In g) (TR:TopRead Mine.H.q1 lse mg mb g) (F:Fr g L s.heap m) (hm:MOk σ m) (hX:∀ a∈σ.base++σ.secA,∀ i∈Xs,@Ne Nat a i.1) (h1:((L+1:Nat),c1)∈Xs) (h2:((L+1+1:Nat),c2)∈Xs)
    (d1:c1.data=.cell (some (.ref σ.k.xc))) (d2:c2.data=.cell (some (.ref σ.wd))) (NF:News g L s.heap (mutL w σ++(Xs++T)))
    (next:∀ σ' T' m' h' tk,LOk w (b+24) σ' T'→SameA σ σ'→MOk σ' m'→Fr g L h' m'→(∀ a∈σ'.base++σ'.secA,∀ i∈Xs,@Ne Nat a i.1)→News g L h' (mutL w σ'++(Xs++T'))→Q .next { s with heap:=h',toks:=tk }) :
    wpAny (model PG w) (Ar dp un fr gd) (exec lawFor (envOfC Mine.H.z240 lawSc L 998 (.ref 997))) Q (fun _ _=>False) s:=zp (by simp(disch:=k_dflt(
  refine' Yo (P:=fun B sc=>wpAny (model PG w) (Ar dp un fr gd) (exec B (envOfC Mine.H.z240 sc L 998 (.ref 997))) Q (fun _ _=>False) s) ?eb ?es ?_
  case eb=>(conv=>lhs;whnf)
  case es=>(conv=>lhs;whnf)
  have cg:Cx w lse mg mb g g:=⟨X,TR,Ext.refl _⟩
  have hc1:((L+1:Nat),c1)∈Xs++T:=List.mem_append_left _ h1
  have hc2:((L+1+1:Nat),c2)∈Xs++T:=List.mem_append_left _ h2
  obtain ⟨th,hth⟩:=hm.here
  have hmm:=Yr (m:=m) [(Str.ofString "cells",some (.ref σ.cl)),(Str.ofString "names",some (.ref σ.nm)),(Str.ofString "here",some (.str σ.here th)),(Str.ofString "places",some (.ref σ.pd))] (by simp [hm.cells,hm.names,hth,hm.places])
  rw [hmm] at F
  simp only [mLook] at F
  have B:=H.lb hX
  refine LB.segE B hc1 hc2 NF fun Z ow u1 u2 u3 nn S N hdw hlw zp zw np1 np2 np3 np4 np5 np6 np7 np8 nq1 nq2 nq3 nq4 nq5 nq6 nq7=>?_
  clear NF
  refine For_turns F ?_
  k_steps
  k_extra "n"
  have NF:=S.same B N (by k_mem) (by k_mem) (fun q hq=>by repeat (first | exact hq | apply List.Mem.tail))
  clear N
  have hcn:σ.cl∈σ.base:=by k_extra "mb"
  refine wpAny_call (pick_spec (cl:=σ.cl) (cg.step F.keep) (by omega) (by omega) (by exact Yv cg NF (List.mem_append_left _ m_cl)) H.hin (by omega) fun r tr vs1 n1 g3 tk3 hr0 hr1 k3 q3 hi1=>?_)
  have F0:=F
  replace F:=Yp F0 NF k3 (List.mem_append_left _ m_cl)
  clear F0
  have NF1:=keepCells B NF k3 q3
  clear NF
  have H1:=H.cells (vs:=vs1) (n:=n1) hi1
  have hX1:∀ a∈(σ.cells vs1 n1).base++(σ.cells vs1 n1).secA,∀ i∈Xs,@Ne Nat a i.1:=hX
  dsimp only
  have B1:LB w (σ.cells vs1 n1) (Xs++T):=H1.lb hX
  clear hdw hlw zp zw np1 np2 np3 np4 np5 np6 np7 np8 nq1 nq2 nq3 nq4 nq5 nq6 nq7 S
  refine LB.segE B1 hc1 hc2 NF1 fun Z ow u1 u2 u3 nn S N hdw hlw zp zw np1 np2 np3 np4 np5 np6 np7 np8 nq1 nq2 nq3 nq4 nq5 nq6 nq7=>?_
  clear NF1
  dsimp only [LV.cells] at N
  k_steps
  delta Stop
  k_extra "n"
  have NF:=S.same B1 N (by k_mem) (by k_mem) (fun q hq=>by repeat (first | exact hq | apply List.Mem.tail))
  (rename (IsRange _ _ _ _ _ _ _ _)=>hrg)
  clear N zp zw hdw hlw np1 np2 np3 np4 np5 np6 np7 np8 nq1 nq2 nq3 nq4 nq5 nq6 nq7 S
  refine iter_rangeTurns (n:=(2+r).toNat) rfl hrg (small_one (by omega) (by omega) (by omega) (by omega)) (by rw [rangeSize_nat];congr 1;omega) F NF fun I l1=>?_
  refine range_ind (I:=I) (fun k m news=>Ex3 fun (σ':LV) (T':List (Addr×Obj)) (b':Nat)=>A7 (b'+2 * k≤b+24) (LOk w b' σ' T') (SameA σ σ') (MOk σ' m) (∀ a∈σ'.base++σ'.secA,∀ i∈Xs,@Ne Nat a i.1) (news=mutL w σ'++(Xs++T')) (∀ q∈news,@Ne Nat q.1 I)) ?zero ?turn _ _ _ ?start
  case start=>exact ⟨σ.cells vs1 n1,T,b,by simp;omega,H1,⟨rfl,rfl,rfl,rfl,rfl⟩,⟨rfl,rfl,⟨_,rfl⟩,rfl⟩,hX,rfl,fun q hq=>Nat.ne_of_lt (l1 q hq)⟩
  case zero =>
    rintro m' news h' tk ⟨σ',T',b',hb',H',S',M',hX',rfl,hI⟩ F N
    exact next σ' T' m' h' tk (H'.mono (by omega)) S' M' F hX' N
  case turn =>
    rintro k m' news h' tk it i t ⟨σ',T',b',hb',H',S',M',hX',rfl,hI⟩ hit F N
    have F9:=F
    k_steps
    delta Stop
    k_extra "n"
    refine law_turn (σ:=σ') (T:=T') (Xs:=(I,it)::Xs) (b:=b') hd hu H' (by omega) X TR F ⟨M'.cells,M'.names,M'.here,M'.places⟩ (fun a ha i hi=>?_) (.tail _ h1) (.tail _ h2) (by rw [S'.xc];exact d1) (by rw [S'.wd];exact d2) (fun q hq=>?_) fun σ2 T2 m2 h2' tk2 a1 a2 a3 a4 a5 a6 a7=>?_
    · rcases List.mem_cons.mp hi with rfl | hi
      · obtain ⟨q,hq,rfl⟩:=adr_mutL (w:=w) ha
        exact hI q (List.mem_append_left _ hq)
      · exact hX' a ha i hi
    · rcases List.mem_append.mp hq with hq | hq
      · exact N q (.tail _ (List.mem_append_left _ hq))
      · rcases List.mem_cons.mp hq with rfl | hq
        · exact N _ (.head _)
        · exact N q (.tail _ (List.mem_append_right _ hq))
    · have hI2:∀ q∈mutL w σ2++(Xs++T2),@Ne Nat q.1 I:=fun q hq=>by
        rcases List.mem_append.mp hq with hq | hq
        · exact a5 _ (mutL_adr hq) _ (.head _)
        · rcases List.mem_append.mp hq with hq | hq
          · exact hI q (List.mem_append_right _ (List.mem_append_left _ hq))
          · rcases a7 q hq with hq | hq
            · exact hI q (List.mem_append_right _ (List.mem_append_right _ hq))
            · exact hq _ (.head _)
      refine ⟨h2',tk2,m2,mutL w σ2++(Xs++T2),rfl,a4,fun q hq=>?_,fun p hp q hq e=>?_,σ2,T2,b'+2,by omega,a1,⟨by rw [a2.xc,S'.xc],by rw [a2.wd,S'.wd],by rw [a2.nm,S'.nm],by rw [a2.cl,S'.cl],by rw [a2.pd,S'.pd]⟩,a3,fun a ha i hi=>a5 a ha i (.tail _ hi),rfl,?_⟩
      · rcases List.mem_append.mp hq with hq | hq
        · rw [List.mem_singleton.mp hq]
          exact a6 _ (List.mem_append_right _ (List.mem_append_left _ (.head _)))
        · rcases List.mem_append.mp hq with hq | hq
          · exact a6 q (List.mem_append_left _ hq)
          · rcases List.mem_append.mp hq with hq | hq
            · exact a6 q (List.mem_append_right _ (List.mem_append_left _ (.tail _ hq)))
            · exact a6 q (List.mem_append_right _ (List.mem_append_right _ hq))
      · rw [List.mem_singleton.mp hq] at e
        exact hI2 p hp e
      · exact hI2))only[↓zq])
theorem off20:True:=trivial
noncomputable def lawFor2:Stmt:=Mine.H.fld lawB 5
noncomputable def eachB:List Stmt:=(⟨_,_,_,_,_,rfl⟩:{b:List Stmt // ∃ t i e p,lawFor2=.For t i b e p}).1
noncomputable def otherFor:Stmt:=Mine.H.fld eachB 2
noncomputable def otherB:List Stmt:=(⟨_,_,_,_,_,rfl⟩:{b:List Stmt // ∃ t i e p,otherFor=.For t i b e p}).1
noncomputable def onlyT (h:Heap) (T:List (Addr×Obj)):Heap:=hideAll h ((List.range h.objs.size).filter fun a=>decide (a ∉ T.map (·.1)))
theorem onlyT_in {h:Heap} {T:List (Addr×Obj)} (hT:InH h T):InH (onlyT h T) T:=fun q hq=>hideAll_get _ (hT q hq) fun hm=>by
  have:=(List.mem_filter.mp hm).2
  simp only [decide_eq_true_eq] at this
  exact this (List.mem_map.mpr ⟨q,hq,rfl⟩)
theorem onlyT_mem {h:Heap} {T:List (Addr×Obj)} (hT:InH h T) {a:Addr} {o:Obj} (e:(onlyT h T).get? a=some o):(a,o)∈T:=zp (by simp(disch:=k_dflt(
  have e1:=of_hideAll _ e
  by_cases c:a∈T.map (·.1)
  · obtain ⟨q,hq,rfl⟩:=List.mem_map.mp c
    have:=hT q hq
    rw [e1] at this
    cases this
    exact hq
  · have:(onlyT h T).get? a=none:=hideAll_none _ (List.mem_filter.mpr ⟨List.mem_range.mpr (Heap.lt_size e1),by simpa using c⟩)
    rw [this] at e
    cases e))only[↓zq])
theorem LOk.progT {b:Nat} {σ:LV} {T:List (Addr×Obj)} {h:Heap} (H:LOk w b σ T) (hT:InH h T):∃ (dx n gl:Nat) (t1 t2 t3 t4:Tok),((σ.k.xp:Addr),instObj 830 dx)∈T∧((dx:Addr),dictOf [en w "sections" t1 (.ref σ.k.sd),en w "names" t2 (.ref σ.k.nl),en w "equates" t3 (.ref σ.k.ep),en w "globals_" t4 (.ref gl)] n)∈T:=by
  obtain ⟨dx,n,gl,t1,t2,t3,t4,a,c⟩:=(H.imm _ (onlyT_in hT)).prog
  exact ⟨dx,n,gl,t1,t2,t3,t4,onlyT_mem hT a,onlyT_mem hT c⟩
theorem LOk.secT {b:Nat} {σ:LV} {T:List (Addr×Obj)} {h:Heap} (H:LOk w b σ T) (hT:InH h T) {s:Sc} (hs:s∈σ.k.l):∃ (dx n:Nat) (t1 t2 t3 ta:Tok),((s.x:Addr),instObj 769 dx)∈T∧((dx:Addr),dictOf [en w "name" t1 (.str s.name ta),en w "pieces" t2 (.ref s.pl),en w "labels" t3 (.ref s.ld)] n)∈T:=by
  obtain ⟨dx,n,t1,t2,t3,ta,a,c⟩:=((H.imm _ (onlyT_in hT)).secs s hs).1
  exact ⟨dx,n,t1,t2,t3,ta,onlyT_mem hT a,onlyT_mem hT c⟩
theorem frSlots {g h h':Heap} {L d:Nat} {m:Str→Option Value} {oL:Obj} {sl:Array (Option Value)} (F:Fr g L h m) (K:Keep [d,L] h h') (e:h.get? L=some oL) (e':h'.get? L=some { oL with slots:=sl }) (hd:g.get? d=none):Fr g L h' m:=zp (by simp(disch:=k_dflt(
  refine absG fun _ kQ=>?_
  obtain ⟨o,es,ep,a1,a2,a3⟩:=F.ns
  refine kQ ?_
  clear kQ
  rw [e] at a1
  cases a1
  refine ⟨⟨_,es,ep,e',a2,a3⟩,fun b o q=>K b o (fun hm=>?_) (F.keep b o q),F.above⟩
  rcases List.mem_cons.mp hm with r | r
  · rw [r,hd] at q;cases q
  · rw [List.mem_singleton.mp r] at q
    exact absurd (Heap.lt_size q) (Nat.not_lt.mpr F.above)))only[↓zq])
theorem keepPlL {b:Nat} {σ:LV} {T TT:List (Addr×Obj)} {g h h':Heap} {L:Nat} {p:Sc} {n'} (H:LOk w b σ T) (B:LB w σ TT) (hp:p∈σ.k.l) (hn:p.name=σ.here) (NF:News g L h (mutL w σ++TT)) (K:Keep [p.pl,L] h h') (q:h'.get? p.pl=some (lst p.ps n')):News g L h' (mutL w (σ.laidK [] [] n')++TT):=by
  have e:(if p.name=σ.here then { p with ps:=p.ps++[],ws:=p.ws++[],n:=n' } else p:Sc)={ p with ps:=p.ps++[],ws:=p.ws++[],n:=n' }:=if_pos hn
  have l:∀ {q:Addr×Obj},q∈mutL w σ→q∈mutL w σ++TT:=fun hq=>List.mem_append_left _ hq
  have nb:∀ {q:Addr×Obj},q∈mutL w σ++TT→@Ne Nat q.1 p.pl→h'.get? q.1=some q.2∧q.1≠L∧g.get? q.1=none:=fun {q} hq ne=>⟨K _ _ (fun hm=>(List.mem_cons.mp hm).elim ne fun hm=>(NF q hq).2.1 (List.mem_singleton.mp hm)) (NF q hq).1,(NF q hq).2⟩
  have bd:∀ a∈σ.base,a≠p.pl:=fun a ha=>(H.bs a ha p hp).1
  have hpA:p.pl∈σ.base++σ.secA:=List.mem_append_right _ (List.mem_flatMap.mpr ⟨p,hp,.head _⟩)
  intro q' hq
  rcases List.mem_append.mp hq with hq | hq
  · refine mutL_all (σ:=σ.laidK [] [] n') (Φ:=fun p=>h'.get? p.1=some p.2∧p.1≠L∧g.get? p.1=none) (nb (l m_cl) (bd σ.cl (by k_extra "mb"))) (nb (l m_pd) (bd σ.pd (by k_extra "mb"))) (fun n hn=>nb (l (m_row hn)) (bd (σ.wl n) (wl_base hn)))
      (nb (l m_xc) (bd σ.k.xc (by k_extra "mb"))) (nb (l m_dc) (bd σ.k.dc (by k_extra "mb"))) (nb (l m_sd) (bd σ.k.sd (by k_extra "mb"))) ?_ (fun s hs'=>?_) q' hq
    · have e:List.zipWith (fun (s:Sc) t=>Value.str s.name t) (σ.laidK [] [] n').k.l (σ.laidK [] [] n').k.ts=List.zipWith (fun (s:Sc) t=>Value.str s.name t) σ.k.l σ.k.ts:=by
        show List.zipWith _ (List.map _ _) _=_
        rw [List.zipWith_map_left]
        congr 1
        funext s t
        (try dsimp only)
        split <;> rfl
      rw [e]
      exact nb (l m_nl) (bd σ.k.nl (by k_extra "mb"))
    · obtain ⟨t,ht,rfl⟩:=List.mem_map.mp hs'
      by_cases c:t.name=σ.here
      · obtain rfl:=eq_of_name H.nmd ht hp (c.trans hn.symm)
        (try dsimp only)
        rw [e]
        refine ⟨⟨?_,(NF _ (l (m_pl ht))).2⟩,nb (l (m_ld ht)) (H.ss t ht t ht).1.symm⟩
        rw [List.append_nil]
        exact q
      · (try dsimp only)
        rw [if_neg c]
        exact ⟨nb (l (m_pl ht)) ((H.ss t ht p hp).2 (fun x=>c (x.trans hn))).1,nb (l (m_ld ht)) (H.ss p hp t ht).1.symm⟩
  · exact nb (List.mem_append_right _ hq) (B.dj _ hpA q' hq).symm
theorem laid_nil {σ:LV} {n':Nat}:σ.laid [] [] n' [] (σ.wn σ.here)=σ.laidK [] [] n':=zp (by simp(disch:=k_dflt(
  have e1:(fun n=>if n=σ.here then σ.wv n++[] else σ.wv n)=σ.wv:=by funext n;split <;> simp
  have e2:(fun n=>if n=σ.here then σ.wn σ.here else σ.wn n)=σ.wn:=by
    funext n
    split
    · rename_i c;rw [c]
    · rfl
  have e3:(fun n=>if n=σ.here then σ.W n++[] else σ.W n)=σ.W:=by funext n;split <;> simp
  unfold LV.laid LV.laidK
  rw [e1,e2,e3]))only[↓zq])
theorem LOk.renum {b:Nat} {σ:LV} {T:List (Addr×Obj)} {h:Heap} (H:LOk w b σ T) (hT:InH h T) (n':Nat):LOk w b (σ.laidK [] [] n') T:=by
  have H':=H.laid (qs:=[]) (ws':=[]) (n':=n') (vs':=[]) (nw:=σ.wn σ.here) hT (fun _ _=>trivial) trivial (by simp) (fun _ h=>nomatch h)
  rw [laid_nil] at H'
  exact ⟨H'.dj,H'.bas,H'.bs,H'.ss,H'.imm,H'.plc,H'.wds,H'.nms,H'.hin,H'.pdict,H'.plo,H.wid,H'.val,H'.dsd,H'.lod,H'.tl,H'.nmd,H'.sc,H'.emp,H'.cur,H'.txt,H'.lab,H'.pok,H'.lbl,H'.p6⟩
theorem inner_turn {σ:LV} {T Xs:List (Addr×Obj)} {b:Nat} {m:Str→Option Value} {c1 c2:Obj} {L:Nat} {g:Heap} {Q:Flow→Shared→Prop} (hd:dp≤650) (hu:un≤2000) (H:LOk w b σ T) (hb:b≤700)
    (X:(Mine.H.K w.params).In g) (TR:TopRead Mine.H.q1 lse mg mb g) (F:Fr g L s.heap m) (hm:MOk σ m) (hX:∀ a∈σ.base++σ.secA,∀ i∈Xs,@Ne Nat a i.1) (h1:((L+1:Nat),c1)∈Xs) (h2:((L+1+1:Nat),c2)∈Xs)
    (d1:c1.data=.cell (some (.ref σ.k.xc))) (d2:c2.data=.cell (some (.ref σ.wd))) (NF:News g L s.heap (mutL w σ++(Xs++T)))
    (one other:Str) (t1 t2:Tok) (hm1:m (Str.ofString "one")=some (.str one t1)) (hm2:m (Str.ofString "other")=some (.str other t2)) (ho1:(one != Str.ofString "")=true) (ho2:(other != Str.ofString "")=true) (hfr:fr=some [envOfC Mine.H.z240 lawSc L 998 (.ref 997)])
    (next:∀ n' h' tk,Fr g L h' m→News g L h' (mutL w (σ.laidK [] [] n')++(Xs++T))→Q .next { s with heap:=h',toks:=tk }) :
    wpAny (model PG w) (Ar dp un fr gd) (execs otherB (envOfC Mine.H.z240 lawSc L 998 (.ref 997))) Q (fun _ _=>False) s:=by
  refine' Yo (P:=fun B sc=>wpAny (model PG w) (Ar dp un fr gd) (execs B (envOfC Mine.H.z240 sc L 998 (.ref 997))) Q (fun _ _=>False) s) ?eb ?es ?_
  case eb=>(conv=>lhs;whnf)
  case es=>(conv=>lhs;whnf)
  have cg:Cx w lse mg mb g g:=⟨X,TR,Ext.refl _⟩
  have hc1:((L+1:Nat),c1)∈Xs++T:=List.mem_append_left _ h1
  have hc2:((L+1+1:Nat),c2)∈Xs++T:=List.mem_append_left _ h2
  obtain ⟨th,hth⟩:=hm.here
  have hmm:=Yr (m:=m) [(Str.ofString "cells",some (.ref σ.cl)),(Str.ofString "names",some (.ref σ.nm)),(Str.ofString "here",some (.str σ.here th)),(Str.ofString "places",some (.ref σ.pd)),(Str.ofString "one",some (.str one t1)),(Str.ofString "other",some (.str other t2))] (by simp [hm.cells,hm.names,hth,hm.places,hm1,hm2])
  have hmB:=hmm
  simp only [mLook] at hmm
  rw [hmm] at F
  have B:=H.lb hX
  refine LB.segE B hc1 hc2 NF fun Z ow u1 u2 u3 nn S N hdw hlw zp zw np1 np2 np3 np4 np5 np6 np7 np8 nq1 nq2 nq3 nq4 nq5 nq6 nq7=>?_
  have hT0:InH s.heap T:=fun q hq=>(NF q (List.mem_append_right _ (List.mem_append_right _ hq))).1
  refine absG fun _ kQ=>?_
  obtain ⟨dxp,np,glp,v1,v2,v3,v4,hxp,hdxp⟩:=H.progT hT0
  refine kQ ?_
  clear kQ
  have x1:=NF _ (List.mem_append_right _ (List.mem_append_right _ hxp))
  have x2:=NF _ (List.mem_append_right _ (List.mem_append_right _ hdxp))
  replace N:=Yl (Yl N x2.1 x2.2) x1.1 x1.2
  dsimp only at N
  clear NF
  have hNS:∀ {h:Heap} {l:List (Addr×Obj)},News g L h l→((σ.pd:Addr),σ.po)∈l→((σ.wl σ.here:Addr),lst (σ.wv σ.here) (σ.wn σ.here))∈l→(∀ q∈Z,q∈l)→News g L h (mutL w σ++(Xs++T)):=fun N' a b c=>S.same B N' a b c
  k_steps
  k_extra "n"
  have NF:=hNS N (by k_mem) (by k_mem) (fun q hq=>by repeat (first | exact hq | apply List.Mem.tail))
  obtain ⟨cG,K⟩:=H.colF (by omega) cg F NF [] (fun _ h=>nomatch h) (fun _ _ h=>nomatch h)
  refine wpAny_call (dist_spec (one:=other) (other:=one) cG (by omega) (by omega) K.pg fun g2 tk2 td e2=>?_)
  rw [H.dist other one]
  clear NF cG K
  replace F:=Ye F e2
  replace N:=Ya N e2
  dsimp only
  k_steps
  k_extra "n"
  have NF:=hNS N (by k_mem) (by k_mem) (fun q hq=>by repeat (first | exact hq | apply List.Mem.tail))
  refine wpAny_call (between_spec (cg.step F.keep) (by omega) (by omega) (by exact H.pl (by omega) (fun q hq=>(NF q (List.mem_append_left _ hq)).1) (fun q hq=>(NF q (List.mem_append_right _ (List.mem_append_right _ hq))).1)) fun g3 tk3 te e3=>?_)
  clear NF
  replace F:=Ye F e3
  replace N:=Ya N e3
  dsimp only
  generalize btw σ.P σ.W one other=v
  cases v with
  | none =>
    dsimp only [oval]
    k_steps
    k_extra "n"
    have NF:=hNS N (by k_mem) (by k_mem) (fun q hq=>by repeat (first | exact hq | apply List.Mem.tail))
    refine absG fun _ kQ=>?_
    obtain ⟨oL,esL,epL,hL1,hL2,hL3⟩:=id F.ns
    obtain ⟨p,hp,hcu,hn⟩:=H.cur
    refine kQ ?_
    clear kQ
    have gL:g.get? L=none:=by
      cases q:g.get? L with
      | none=>rfl
      | some o=>exact absurd (Heap.lt_size q) (Nat.not_lt.mpr F.above)
    have iT:=fun q (hq:q∈T)=>NF q (List.mem_append_right _ (List.mem_append_right _ hq))
    have iM:=fun q (hq:q∈mutL w σ)=>NF q (List.mem_append_left _ hq)
    obtain ⟨cG,K⟩:=H.colF (by omega) cg F NF [L] (fun a ha=>by rw [List.mem_singleton.mp ha];exact gL) (fun q hq hm=>(iT q hq).2.1 (List.mem_singleton.mp hm))
    have hlen:=H.lens (fun q hq=>(iT q hq).1) p hp
    have bk:Brk (hideAll g3 [L]) [envOfC Mine.H.z240 lawSc L 998 (.ref 997)] fr g3:=⟨hfr,fun a o q=>of_hideAll _ q,.cons (by rw [show (envOfC Mine.H.z240 lawSc L 998 (.ref 997)).scope.kind=ScopeKind.function from rfl];decide) rfl F.ns (hideAll_none _ (.head _)) trivial⟩
    refine wpAny_call (skip_spec (p:=p) cG (by omega) (by omega) K hp hcu (H.sc p hp).1 (by omega) (H.pl (by omega) (fun q hq=>(iM q hq).1) (fun q hq=>(iT q hq).1)) ⟨hL1,hideAll_none _ (List.mem_append_left _ (.head _))⟩ ⟨esL,epL,hL2⟩ (Ne.symm (iM _ (m_pl hp)).2.1) (iM _ m_xc).2.1 (iM _ m_dc).2.1 bk (H.skipV one other) ho1 ho2 (H.bound (by omega) one other) fun h9 tk9 sl n9 k1 k2 k3=>?_)
    have F':=frSlots F k1 hL1 k2 (iM _ (m_pl hp)).2.2
    have NF':=keepPlL H B hp hn NF k1 k3
    clear F N NF
    have F:=F'
    clear F'
    dsimp only
    k_steps
    exact next n9 h9 _ (by rw [hmm];exact F) NF'
  | some v =>
    dsimp only [oval]
    k_steps
    any_goals (exact absurd rfl (by assumption))
    k_extra "n"
    have NF:=hNS N (by k_mem) (by k_mem) (fun q hq=>by repeat (first | exact hq | apply List.Mem.tail))
    refine absG fun _ kQ=>?_
    obtain ⟨oL,esL,epL,hL1,hL2,hL3⟩:=id F.ns
    obtain ⟨p,hp,hcu,hn⟩:=H.cur
    refine kQ ?_
    clear kQ
    have gL:g.get? L=none:=by
      cases q:g.get? L with
      | none=>rfl
      | some o=>exact absurd (Heap.lt_size q) (Nat.not_lt.mpr F.above)
    have iT:=fun q (hq:q∈T)=>NF q (List.mem_append_right _ (List.mem_append_right _ hq))
    have iM:=fun q (hq:q∈mutL w σ)=>NF q (List.mem_append_left _ hq)
    obtain ⟨cG,K⟩:=H.colF (by omega) cg F NF [L] (fun a ha=>by rw [List.mem_singleton.mp ha];exact gL) (fun q hq hm=>(iT q hq).2.1 (List.mem_singleton.mp hm))
    have hlen:=H.lens (fun q hq=>(iT q hq).1) p hp
    have bk:Brk (hideAll g3 [L]) [envOfC Mine.H.z240 lawSc L 998 (.ref 997)] fr g3:=⟨hfr,fun a o q=>of_hideAll _ q,.cons (by rw [show (envOfC Mine.H.z240 lawSc L 998 (.ref 997)).scope.kind=ScopeKind.function from rfl];decide) rfl F.ns (hideAll_none _ (.head _)) trivial⟩
    refine wpAny_call (skip_spec (p:=p) cG (by omega) (by omega) K hp hcu (H.sc p hp).1 (by omega) (H.pl (by omega) (fun q hq=>(iM q hq).1) (fun q hq=>(iT q hq).1)) ⟨hL1,hideAll_none _ (List.mem_append_left _ (.head _))⟩ ⟨esL,epL,hL2⟩ (Ne.symm (iM _ (m_pl hp)).2.1) (iM _ m_xc).2.1 (iM _ m_dc).2.1 bk (H.skipV one other) ho1 ho2 (H.bound (by omega) one other) fun h9 tk9 sl n9 k1 k2 k3=>?_)
    have F':=frSlots F k1 hL1 k2 (iM _ (m_pl hp)).2.2
    have NF':=keepPlL H B hp hn NF k1 k3
    clear F N NF
    have F:=F'
    clear F'
    dsimp only
    k_steps
    exact next n9 h9 _ (by rw [hmm];exact F) NF'
theorem row26:True:=by
  k_with ".execs cons" => ((fail_if_success have:=@off21);(k_here;refine stop_ ?_))
  k_with ".pyIter ref" => ((fail_if_success have:=@off21);(k_here;refine stop_ ?_))
  trivial
section
variable {A:Around} {E:Value→Shared→Prop} {h₀:Heap} {env:Env} {body:List Stmt} {QF:Flow→Shared→Prop}
theorem list_ind {target:PySem.Expr} {I:Nat} {keep:List (Addr×Obj)} (J:List Value→(Str→Option Value)→List (Addr×Obj)→Prop) (hK:∀ r m n',J r m n'→SubL keep n')
    (zero:∀ m news h tk,J [] m news→Fr h₀ env.locals h m→News h₀ env.locals h news→QF .next { s with heap:=h,toks:=tk })
    (turn:∀ v r m news h tk it,J (v::r) m news→it.cls=.type "list_iterator" → Fr h₀ env.locals h m→News h₀ env.locals h ((I,it)::news) →
      wpAny (model PG w) A (assign target env v) (fun _ s₂=>wpAny (model PG w) A (execs body env) (UnrPostW h₀ env.locals { s with heap:=h,toks:=tk } [(I,it)] (fun m' n'=>J r m' n') QF) E s₂) E { s with heap:=h,toks:=tk }) :
    ∀ (r:List Value) m news,J r m news→ItemsRest PG w A E h₀ env target body QF s [(I, "list_iterator")] keep (r.map .val) m news:=zp (by simp(disch:=k_dflt(
  intro r
  induction r with
  | nil=>exact fun m news hJ=>ItemsRest.zero fun h tk F N=>zero m news h tk hJ F N
  | cons v r ih =>
    intro m news hJ
    refine ItemsRest.val fun h tk F=>AllObj.cons fun it hc=>AllObj.nil fun N=>?_
    refine wpAny_mono (turn v r m news h tk it hJ hc F N) (fun _ s₂ x=>wpAny_mono x (fun f s₃ y=>?_) fun _ _ e=>e) fun _ _ e=>e
    cases f with
    | ret v=>exact y
    | brk=>exact y
    | next=>obtain ⟨h',tk,m',n',e,a,b,c,d⟩:=y;exact ⟨h',tk,m',n',e,a,b,c,hK _ _ _ d,ih _ _ d⟩
    | cont=>obtain ⟨h',tk,m',n',e,a,b,c,d⟩:=y;exact ⟨h',tk,m',n',e,a,b,c,hK _ _ _ d,ih _ _ d⟩))only[↓zq])
end
theorem other_for {σ:LV} {T Xs:List (Addr×Obj)} {b:Nat} {m:Str→Option Value} {c1 c2:Obj} {L:Nat} {g:Heap} {Q:Flow→Shared→Prop} (hd:dp≤650) (hu:un≤2000) (H:LOk w b σ T) (hb:b≤700)
    (X:(Mine.H.K w.params).In g) (TR:TopRead Mine.H.q1 lse mg mb g) (F:Fr g L s.heap m) (hm:MOk σ m) (hX:∀ a∈σ.base++σ.secA,∀ i∈Xs,@Ne Nat a i.1) (h1:((L+1:Nat),c1)∈Xs) (h2:((L+1+1:Nat),c2)∈Xs)
    (d1:c1.data=.cell (some (.ref σ.k.xc))) (d2:c2.data=.cell (some (.ref σ.wd))) (NF:News g L s.heap (mutL w σ++(Xs++T)))
    (wt nw:Nat) (wvs:List Value) (hwt:((wt:Addr),lst wvs nw)∈Xs) (hwm:m (Str.ofString "wanted")=some (.ref wt)) (hwv:∀ v∈wvs,∃ k t,v=Value.str k t∧(k != Str.ofString "")=true) (hfr:fr=some [envOfC Mine.H.z240 lawSc L 998 (.ref 997)])
    (one:Str) (t1:Tok) (hm1:m (Str.ofString "one")=some (.str one t1)) (ho1:(one != Str.ofString "")=true)
    (next:∀ σ' m' h' tk,LOk w b σ' T→SameA σ σ'→MOk σ' m'→m' (Str.ofString "wanted")=some (.ref wt)→Fr g L h' m'→(∀ a∈σ'.base++σ'.secA,∀ i∈Xs,@Ne Nat a i.1)→News g L h' (mutL w σ'++(Xs++T))→Q .next { s with heap:=h',toks:=tk }) :
    wpAny (model PG w) (Ar dp un fr gd) (exec otherFor (envOfC Mine.H.z240 lawSc L 998 (.ref 997))) Q (fun _ _=>False) s:=zp (by simp(disch:=k_dflt(
  refine' Yo (P:=fun B sc=>wpAny (model PG w) (Ar dp un fr gd) (exec B (envOfC Mine.H.z240 sc L 998 (.ref 997))) Q (fun _ _=>False) s) ?eb ?es ?_
  case eb=>(conv=>lhs;whnf)
  case es=>(conv=>lhs;whnf)
  have cg:Cx w lse mg mb g g:=⟨X,TR,Ext.refl _⟩
  have hc1:((L+1:Nat),c1)∈Xs++T:=List.mem_append_left _ h1
  have hc2:((L+1+1:Nat),c2)∈Xs++T:=List.mem_append_left _ h2
  obtain ⟨th,hth⟩:=hm.here
  have hmm:=Yr (m:=m) [(Str.ofString "cells",some (.ref σ.cl)),(Str.ofString "names",some (.ref σ.nm)),(Str.ofString "here",some (.str σ.here th)),(Str.ofString "places",some (.ref σ.pd)),(Str.ofString "one",some (.str one t1)),(Str.ofString "wanted",some (.ref wt))] (by simp [hm.cells,hm.names,hth,hm.places,hm1,hwm])
  simp only [mLook] at hmm
  rw [hmm] at F
  have hcw:((wt:Addr),lst wvs nw)∈mutL w σ++(Xs++T):=List.mem_append_right _ (List.mem_append_left _ hwt)
  refine For_turns F ?_
  k_steps
  delta Stop
  k_extra "n"
  refine iter_listTurns (vs:=wvs) (lo:=lst wvs nw) (n:=nw) rfl F N hcw rfl rfl fun I l1=>?_
  refine list_ind (I:=I) (fun r m' news=>(∀ v∈r,∃ k t,v=Value.str k t∧(k != Str.ofString "")=true)∧Ex1 fun (σ':LV)=>A8 (LOk w b σ' T) (SameA σ σ') (MOk σ' m') (m' (Str.ofString "wanted")=some (.ref wt)) (m' (Str.ofString "one")=some (.str one t1)) (∀ a∈σ'.base++σ'.secA,∀ i∈Xs,@Ne Nat a i.1) (news=mutL w σ'++(Xs++T)) (∀ q∈news,@Ne Nat q.1 I)) ?keep ?zero ?turn _ _ _ ?start
  case start=>exact ⟨hwv,σ,H,⟨rfl,rfl,rfl,rfl,rfl⟩,⟨rfl,rfl,⟨_,rfl⟩,rfl⟩,rfl,rfl,hX,rfl,fun q hq=>Nat.ne_of_lt (l1 q hq)⟩
  case keep =>
    rintro r m' n' ⟨_,σ',H',S',M',W',O',hX',rfl,hI⟩
    exact ⟨List.mem_append_right _ (List.mem_append_left _ hwt),trivial⟩
  case zero =>
    rintro m' news h' tk ⟨_,σ',H',S',M',W',O',hX',rfl,hI⟩ F N
    exact next σ' m' h' tk H' S' M' W' F hX' N
  case turn =>
    rintro v r m' news h' tk it ⟨hr,σ',H',S',M',W',O',hX',rfl,hI⟩ hit F N
    refine absG fun _ kQ=>?_
    obtain ⟨k,t,rfl,hk⟩:=hr v (.head _)
    refine kQ ?_
    clear kQ
    k_steps
    delta Stop
    k_extra "n"
    refine inner_turn (σ:=σ') (T:=T) (Xs:=(I,it)::Xs) (b:=b) hd hu H' hb X TR F ⟨M'.cells,M'.names,M'.here,M'.places⟩ (fun a ha i hi=>?_) (.tail _ h1) (.tail _ h2) (by rw [S'.xc];exact d1) (by rw [S'.wd];exact d2) (fun q hq=>?_) one k t1 t O' rfl ho1 hk hfr fun n2 h2' tk2 a4 a6=>?_
    · rcases List.mem_cons.mp hi with rfl | hi
      · obtain ⟨q,hq,rfl⟩:=adr_mutL (w:=w) ha
        exact hI q (List.mem_append_left _ hq)
      · exact hX' a ha i hi
    · rcases List.mem_append.mp hq with hq | hq
      · exact N q (.tail _ (List.mem_append_left _ hq))
      · rcases List.mem_cons.mp hq with rfl | hq
        · exact N _ (.head _)
        · exact N q (.tail _ (List.mem_append_right _ hq))
    · have hT2:InH h2' T:=fun q hq=>(a6 q (List.mem_append_right _ (List.mem_append_right _ hq))).1
      have H2:=H'.renum hT2 n2
      have hsA:(σ'.laidK [] [] n2).secA=σ'.secA:=secA_laid
      have hX2:∀ a∈(σ'.laidK [] [] n2).base++(σ'.laidK [] [] n2).secA,a∈σ'.base++σ'.secA:=fun a ha=>by
        rw [hsA] at ha
        exact ha
      have hI2:∀ q∈mutL w (σ'.laidK [] [] n2)++(Xs++T),@Ne Nat q.1 I:=fun q hq=>by
        rcases List.mem_append.mp hq with hq | hq
        · obtain ⟨z,hz,e⟩:=adr_mutL (w:=w) (hX2 _ (mutL_adr hq))
          rw [← e]
          exact hI z (List.mem_append_left _ hz)
        · exact hI q (List.mem_append_right _ hq)
      refine ⟨h2',tk2,_,mutL w (σ'.laidK [] [] n2)++(Xs++T),rfl,a4,fun q hq=>?_,fun p hp q hq e=>?_,fun v hv=>hr v (.tail _ hv),σ'.laidK [] [] n2,H2,⟨S'.xc,S'.wd,S'.nm,S'.cl,S'.pd⟩,⟨M'.cells,M'.names,M'.here,M'.places⟩,W',O',fun a ha i hi=>hX' a (hX2 a ha) i hi,rfl,hI2⟩
      · rcases List.mem_append.mp hq with hq | hq
        · rw [List.mem_singleton.mp hq]
          exact a6 _ (List.mem_append_right _ (List.mem_append_left _ (.head _)))
        · rcases List.mem_append.mp hq with hq | hq
          · exact a6 q (List.mem_append_left _ hq)
          · rcases List.mem_append.mp hq with hq | hq
            · exact a6 q (List.mem_append_right _ (List.mem_append_left _ (.tail _ hq)))
            · exact a6 q (List.mem_append_right _ (List.mem_append_right _ hq))
      · rw [List.mem_singleton.mp hq] at e
        exact hI2 p hp e))only[↓zq])
theorem off21:True:=trivial
theorem row27:True:=by
  k_with ".exec For" => ((fail_if_success have:=@off22);(k_here;refine stop_ ?_))
  k_with ".exec For Name" => ((fail_if_success have:=@off22);(k_here;refine stop_ ?_))
  k_with ".exec For Name Name cons nil" => ((fail_if_success have:=@off22);(k_here;refine stop_ ?_))
  trivial
theorem each_turn {σ:LV} {T Xs:List (Addr×Obj)} {b:Nat} {m:Str→Option Value} {c1 c2:Obj} {L:Nat} {g:Heap} {Q:Flow→Shared→Prop} (hd:dp≤650) (hu:un≤2000) (H:LOk w b σ T) (hb:b≤700)
    (X:(Mine.H.K w.params).In g) (TR:TopRead Mine.H.q1 lse mg mb g) (F:Fr g L s.heap m) (hm:MOk σ m) (hX:∀ a∈σ.base++σ.secA,∀ i∈Xs,@Ne Nat a i.1) (h1:((L+1:Nat),c1)∈Xs) (h2:((L+1+1:Nat),c2)∈Xs)
    (d1:c1.data=.cell (some (.ref σ.k.xc))) (d2:c2.data=.cell (some (.ref σ.wd))) (NF:News g L s.heap (mutL w σ++(Xs++T)))
    (wt nw:Nat) (wvs:List Value) (hwt:((wt:Addr),lst wvs nw)∈Xs) (hwm:m (Str.ofString "wanted")=some (.ref wt)) (hwv:∀ v∈wvs,∃ k t,v=Value.str k t∧(k != Str.ofString "")=true) (hfr:fr=some [envOfC Mine.H.z240 lawSc L 998 (.ref 997)])
    (one:Str) (t1:Tok) (hm1:m (Str.ofString "one")=some (.str one t1)) (ho1:(one != Str.ofString "")=true)
    (next:∀ σ' m' h' tk,LOk w b σ' T→SameA σ σ'→MOk σ' m'→m' (Str.ofString "wanted")=some (.ref wt)→Fr g L h' m'→(∀ a∈σ'.base++σ'.secA,∀ i∈Xs,@Ne Nat a i.1)→News g L h' (mutL w σ'++(Xs++T))→Q .next { s with heap:=h',toks:=tk }) :
    wpAny (model PG w) (Ar dp un fr gd) (execs eachB (envOfC Mine.H.z240 lawSc L 998 (.ref 997))) Q (fun _ _=>False) s:=by
  refine' Yo (P:=fun B sc=>wpAny (model PG w) (Ar dp un fr gd) (execs B (envOfC Mine.H.z240 sc L 998 (.ref 997))) Q (fun _ _=>False) s) ?eb ?es ?_
  case eb=>(conv=>lhs;whnf)
  case es=>(conv=>lhs;whnf)
  have cg:Cx w lse mg mb g g:=⟨X,TR,Ext.refl _⟩
  have hc1:((L+1:Nat),c1)∈Xs++T:=List.mem_append_left _ h1
  have hc2:((L+1+1:Nat),c2)∈Xs++T:=List.mem_append_left _ h2
  obtain ⟨th,hth⟩:=hm.here
  have hmm:=Yr (m:=m) [(Str.ofString "cells",some (.ref σ.cl)),(Str.ofString "names",some (.ref σ.nm)),(Str.ofString "here",some (.str σ.here th)),(Str.ofString "places",some (.ref σ.pd)),(Str.ofString "one",some (.str one t1)),(Str.ofString "wanted",some (.ref wt))] (by simp [hm.cells,hm.names,hth,hm.places,hm1,hwm])
  simp only [mLook] at hmm
  rw [hmm] at F
  have B:=H.lb hX
  refine LB.segE B hc1 hc2 NF fun Z ow u1 u2 u3 nn S N hdw hlw zp zw np1 np2 np3 np4 np5 np6 np7 np8 nq1 nq2 nq3 nq4 nq5 nq6 nq7=>?_
  have hpd:=H.pdict
  have hplo:=H.plo
  have hp6:(plKvs σ.P).length≤6:=by simp only [plKvs,List.length_map];exact H.p6
  have hT0:InH s.heap T:=fun q hq=>(NF q (List.mem_append_right _ (List.mem_append_right _ hq))).1
  refine absG fun _ kQ=>?_
  obtain ⟨dxp,np,glp,v1,v2,v3,v4,hxp,hdxp⟩:=H.progT hT0
  refine kQ ?_
  clear kQ
  have x1:=NF _ (List.mem_append_right _ (List.mem_append_right _ hxp))
  have x2:=NF _ (List.mem_append_right _ (List.mem_append_right _ hdxp))
  replace N:=Yl (Yl N x2.1 x2.2) x1.1 x1.2
  dsimp only at N
  have hNS:∀ {h:Heap} {l:List (Addr×Obj)},News g L h l→((σ.pd:Addr),σ.po)∈l→((σ.wl σ.here:Addr),lst (σ.wv σ.here) (σ.wn σ.here))∈l→(∀ q∈Z,q∈l)→News g L h (mutL w σ++(Xs++T)):=fun N' a b c=>S.same B N' a b c
  cases hh:homeOf σ.k.l one with
  | none =>
    have hf:=H.nofind hh
    have hv1:(valueAt (plKvs σ.P) one).isSome=false:=by rw [plKvs_at,hf];rfl
    clear NF
    k_steps
    k_extra "n"
    have NF:=hNS N (by k_mem) (by k_mem) (fun q hq=>by repeat (first | exact hq | apply List.Mem.tail))
    obtain ⟨cG,K⟩:=H.colF (by omega) cg F NF [] (fun _ h=>nomatch h) (fun _ _ h=>nomatch h)
    refine wpAny_call (home_spec cG (by omega) (by omega) K.pg fun g2 tk2 e2=>?_)
    rw [hh]
    clear NF cG K
    replace F:=Ye F e2
    replace N:=Ya N e2
    dsimp only [homeVal]
    k_steps
    delta Stop
    k_extra "n"
    have NF:=hNS N (by k_mem) (by k_mem) (fun q hq=>by repeat (first | exact hq | apply List.Mem.tail))
    refine other_for hd hu H hb X TR F ⟨rfl,rfl,⟨_,rfl⟩,rfl⟩ hX h1 h2 d1 d2 NF wt nw wvs hwt rfl hwv hfr one t1 rfl ho1 fun σ' m' h' tk a1 a2 a3 a4 a5 a6 a7=>?_
    clear F N NF
    have F:=a5
    k_steps
    exact next σ' m' h' tk a1 a2 a3 a4 a5 a6 a7
  | some p =>
    refine absG fun _ kQ=>?_
    obtain ⟨hp,q,y,e1,e2,e3⟩:=H.find hh
    refine kQ ?_
    clear kQ
    have hq:=List.mem_of_find?_eq_some e1
    have hv1:(valueAt (plKvs σ.P) one).isSome=true:=by rw [plKvs_at,e1];rfl
    have hv2:valueAt (plKvs σ.P) one=some (.ref q.y):=by rw [plKvs_at,e1];rfl
    refine absG fun _ kQ=>?_
    obtain ⟨dxs,ns,z1,z2,z3,za,hxs,hdxs⟩:=H.secT hT0 hp
    obtain ⟨y1,y2,hy⟩:=H.plc _ (onlyT_in hT0) q hq
    refine kQ ?_
    clear kQ
    replace hy:=onlyT_mem hT0 hy
    rw [e2] at hy
    have x3:=NF _ (List.mem_append_right _ (List.mem_append_right _ hxs))
    have x4:=NF _ (List.mem_append_right _ (List.mem_append_right _ hdxs))
    have x5:=NF _ (List.mem_append_right _ (List.mem_append_right _ hy))
    replace N:=Yl (Yl (Yl N x5.1 x5.2) x4.1 x4.2) x3.1 x3.2
    dsimp only at N
    clear NF
    k_steps
    k_extra "n"
    have NF:=hNS N (by k_mem) (by k_mem) (fun q hq=>by repeat (first | exact hq | apply List.Mem.tail))
    obtain ⟨cG,K⟩:=H.colF (by omega) cg F NF [] (fun _ h=>nomatch h) (fun _ _ h=>nomatch h)
    refine wpAny_call (home_spec cG (by omega) (by omega) K.pg fun g2 tk2 e4=>?_)
    rw [hh]
    clear NF cG K
    replace F:=Ye F e4
    replace N:=Ya N e4
    dsimp only [homeVal]
    k_steps
    k_extra "n"
    have NF:=hNS N (by k_mem) (by k_mem) (fun q hq=>by repeat (first | exact hq | apply List.Mem.tail))
    obtain ⟨cG,K⟩:=H.colF (by omega) cg F NF [] (fun _ h=>nomatch h) (fun _ _ h=>nomatch h)
    have hS:=K.pg.secs p hp
    have hlb1:1≤p.lb.length:=by
      have:p.lps≠[]:=by
        intro c
        rw [c] at e3
        cases e3
      simp only [Sc.lb,List.length_map]
      exact List.length_pos_iff.mpr this
    have hlb6:p.lb.length≤6:=by
      have a1:=(H.sc p hp).2.2.2.2
      have a2:=H.p6
      simp only [Sc.lb,List.length_map]
      omega
    have hnd:(p.lb.map (·.1)).Nodup:=by obtain ⟨_,_,_,_,_,_,r⟩:=hS.dict;exact r
    try simp only [List.cons_append,List.nil_append]
    refine wpAny_call (told_spec cG (by omega) (by omega) hS.sec hS.opl hS.psz hS.old hS.lo hS.dict hlb1 hlb6 hnd hS.ne hS.pcs fun g3 tk3 yy yt w2 w3 e5 q5 f5=>?_)
    clear NF cG K hS
    have N9:=Yb F (Ya N e5) f5 q5
    replace F:=Ye F e5
    clear N
    have N:=N9
    clear N9
    dsimp only
    k_steps
    all_goals try ((rename (p.name != p.name)=true=>hbad);simp at hbad)
    · delta Stop
      k_extra "n"
      have NF:=hNS N (by k_mem) (by k_mem) (fun q hq=>by repeat (first | exact hq | apply List.Mem.tail))
      refine other_for hd hu H hb X TR F ⟨rfl,rfl,⟨_,rfl⟩,rfl⟩ hX h1 h2 d1 d2 NF wt nw wvs hwt rfl hwv hfr one t1 rfl ho1 fun σ' m' h' tk a1 a2 a3 a4 a5 a6 a7=>?_
      clear F N NF
      have F:=a5
      k_steps
      exact next σ' m' h' tk a1 a2 a3 a4 a5 a6 a7
theorem off22:True:=trivial
theorem row28:True:=by
  k_with ".execs cons" => ((fail_if_success have:=@off23);(k_here;refine stop_ ?_))
  k_with ".pyIter ref" => ((fail_if_success have:=@off23);(k_here;refine stop_ ?_))
  trivial
theorem outer_for {σ:LV} {T Xs:List (Addr×Obj)} {b:Nat} {m:Str→Option Value} {c1 c2:Obj} {L:Nat} {g:Heap} {Q:Flow→Shared→Prop} (hd:dp≤650) (hu:un≤2000) (H:LOk w b σ T) (hb:b≤700)
    (X:(Mine.H.K w.params).In g) (TR:TopRead Mine.H.q1 lse mg mb g) (F:Fr g L s.heap m) (hm:MOk σ m) (hX:∀ a∈σ.base++σ.secA,∀ i∈Xs,@Ne Nat a i.1) (h1:((L+1:Nat),c1)∈Xs) (h2:((L+1+1:Nat),c2)∈Xs)
    (d1:c1.data=.cell (some (.ref σ.k.xc))) (d2:c2.data=.cell (some (.ref σ.wd))) (NF:News g L s.heap (mutL w σ++(Xs++T)))
    (wt nw:Nat) (wvs:List Value) (hwt:((wt:Addr),lst wvs nw)∈Xs) (hwm:m (Str.ofString "wanted")=some (.ref wt)) (hwv:∀ v∈wvs,∃ k t,v=Value.str k t∧(k != Str.ofString "")=true) (hfr:fr=some [envOfC Mine.H.z240 lawSc L 998 (.ref 997)])
    (next:∀ σ' m' h' tk,LOk w b σ' T→SameA σ σ'→MOk σ' m'→m' (Str.ofString "wanted")=some (.ref wt)→Fr g L h' m'→(∀ a∈σ'.base++σ'.secA,∀ i∈Xs,@Ne Nat a i.1)→News g L h' (mutL w σ'++(Xs++T))→Q .next { s with heap:=h',toks:=tk }) :
    wpAny (model PG w) (Ar dp un fr gd) (exec lawFor2 (envOfC Mine.H.z240 lawSc L 998 (.ref 997))) Q (fun _ _=>False) s:=zp (by simp(disch:=k_dflt(
  refine' Yo (P:=fun B sc=>wpAny (model PG w) (Ar dp un fr gd) (exec B (envOfC Mine.H.z240 sc L 998 (.ref 997))) Q (fun _ _=>False) s) ?eb ?es ?_
  case eb=>(conv=>lhs;whnf)
  case es=>(conv=>lhs;whnf)
  have cg:Cx w lse mg mb g g:=⟨X,TR,Ext.refl _⟩
  have hc1:((L+1:Nat),c1)∈Xs++T:=List.mem_append_left _ h1
  have hc2:((L+1+1:Nat),c2)∈Xs++T:=List.mem_append_left _ h2
  obtain ⟨th,hth⟩:=hm.here
  have hmm:=Yr (m:=m) [(Str.ofString "cells",some (.ref σ.cl)),(Str.ofString "names",some (.ref σ.nm)),(Str.ofString "here",some (.str σ.here th)),(Str.ofString "places",some (.ref σ.pd)),(Str.ofString "wanted",some (.ref wt))] (by simp [hm.cells,hm.names,hth,hm.places,hwm])
  simp only [mLook] at hmm
  rw [hmm] at F
  have hcw:((wt:Addr),lst wvs nw)∈mutL w σ++(Xs++T):=List.mem_append_right _ (List.mem_append_left _ hwt)
  refine For_turns F ?_
  k_steps
  delta Stop
  k_extra "n"
  refine iter_listTurns (vs:=wvs) (lo:=lst wvs nw) (n:=nw) rfl F N hcw rfl rfl fun I l1=>?_
  refine list_ind (I:=I) (fun r m' news=>(∀ v∈r,∃ k t,v=Value.str k t∧(k != Str.ofString "")=true)∧Ex1 fun (σ':LV)=>A7 (LOk w b σ' T) (SameA σ σ') (MOk σ' m') (m' (Str.ofString "wanted")=some (.ref wt)) (∀ a∈σ'.base++σ'.secA,∀ i∈Xs,@Ne Nat a i.1) (news=mutL w σ'++(Xs++T)) (∀ q∈news,@Ne Nat q.1 I)) ?keep ?zero ?turn _ _ _ ?start
  case start=>exact ⟨hwv,σ,H,⟨rfl,rfl,rfl,rfl,rfl⟩,⟨rfl,rfl,⟨_,rfl⟩,rfl⟩,rfl,hX,rfl,fun q hq=>Nat.ne_of_lt (l1 q hq)⟩
  case keep =>
    rintro r m' n' ⟨_,σ',H',S',M',W',hX',rfl,hI⟩
    exact ⟨List.mem_append_right _ (List.mem_append_left _ hwt),trivial⟩
  case zero =>
    rintro m' news h' tk ⟨_,σ',H',S',M',W',hX',rfl,hI⟩ F N
    exact next σ' m' h' tk H' S' M' W' F hX' N
  case turn =>
    rintro v r m' news h' tk it ⟨hr,σ',H',S',M',W',hX',rfl,hI⟩ hit F N
    refine absG fun _ kQ=>?_
    obtain ⟨k,t,rfl,hk⟩:=hr v (.head _)
    refine kQ ?_
    clear kQ
    k_steps
    delta Stop
    k_extra "n"
    refine each_turn (σ:=σ') (T:=T) (Xs:=(I,it)::Xs) (b:=b) hd hu H' hb X TR F ⟨M'.cells,M'.names,M'.here,M'.places⟩ (fun a ha i hi=>?_) (.tail _ h1) (.tail _ h2) (by rw [S'.xc];exact d1) (by rw [S'.wd];exact d2) (fun q hq=>?_) wt nw wvs (.tail _ hwt) W' hwv hfr k t rfl hk fun σ2 m2 h2' tk2 a1 a2 a3 aw a4 a5 a6=>?_
    · rcases List.mem_cons.mp hi with rfl | hi
      · obtain ⟨q,hq,rfl⟩:=adr_mutL (w:=w) ha
        exact hI q (List.mem_append_left _ hq)
      · exact hX' a ha i hi
    · rcases List.mem_append.mp hq with hq | hq
      · exact N q (.tail _ (List.mem_append_left _ hq))
      · rcases List.mem_cons.mp hq with rfl | hq
        · exact N _ (.head _)
        · exact N q (.tail _ (List.mem_append_right _ hq))
    · have hI2:∀ q∈mutL w σ2++(Xs++T),@Ne Nat q.1 I:=fun q hq=>by
        rcases List.mem_append.mp hq with hq | hq
        · exact a5 _ (mutL_adr hq) _ (.head _)
        · exact hI q (List.mem_append_right _ hq)
      refine ⟨h2',tk2,m2,mutL w σ2++(Xs++T),rfl,a4,fun q hq=>?_,fun p hp q hq e=>?_,fun v hv=>hr v (.tail _ hv),σ2,a1,⟨by rw [a2.xc,S'.xc],by rw [a2.wd,S'.wd],by rw [a2.nm,S'.nm],by rw [a2.cl,S'.cl],by rw [a2.pd,S'.pd]⟩,a3,aw,fun a ha i hi=>a5 a ha i (.tail _ hi),rfl,hI2⟩
      · rcases List.mem_append.mp hq with hq | hq
        · rw [List.mem_singleton.mp hq]
          exact a6 _ (List.mem_append_right _ (List.mem_append_left _ (.head _)))
        · rcases List.mem_append.mp hq with hq | hq
          · exact a6 q (List.mem_append_left _ hq)
          · rcases List.mem_append.mp hq with hq | hq
            · exact a6 q (List.mem_append_right _ (List.mem_append_left _ (.tail _ hq)))
            · exact a6 q (List.mem_append_right _ (List.mem_append_right _ hq))
      · rw [List.mem_singleton.mp hq] at e
        exact hI2 p hp e))only[↓zq])
theorem off23:True:=trivial
noncomputable def retS:Stmt:=Mine.H.fld lawB 6
noncomputable def lcX1:{x:PySem.Expr×Scope // ∃ g p o c p2 q,retS=.Return (some (.Compare (.ListComp x.1 g x.2 p) o c p2)) q}:=⟨(_,_),_,_,_,_,_,_,rfl⟩
noncomputable def lcX2:{x:PySem.Expr×Scope // ∃ l o g p r p2 q,retS=.Return (some (.Compare l o (.ListComp x.1 g x.2 p::r) p2)) q}:=⟨(_,_),_,_,_,_,_,_,_,rfl⟩
noncomputable def lcE1:PySem.Expr:=lcX1.1.1
noncomputable def lcE2:PySem.Expr:=lcX2.1.1
noncomputable def lcS1:Scope:=lcX1.1.2
noncomputable def lcS2:Scope:=lcX2.1.2
theorem elem1 {σ:LV} {T Xs:List (Addr×Obj)} {b:Nat} {m:Str→Option Value} {c1 c2:Obj} {L:Nat} {g:Heap} {Q:Value→Shared→Prop} {E:Value→Shared→Prop} {m₂:Str→Option Value} {oC:Obj} {C:Nat} (hd:dp≤650) (hu:un≤2000) (H:LOk w b σ T) (hb:b≤700)
    (X:(Mine.H.K w.params).In g) (TR:TopRead Mine.H.q1 lse mg mb g) (F:Fr g L s.heap m) (hX:∀ a∈σ.base++σ.secA,∀ i∈Xs,@Ne Nat a i.1) (h1:((L+1:Nat),c1)∈Xs) (h2:((L+1+1:Nat),c2)∈Xs)
    (d1:c1.data=.cell (some (.ref σ.k.xc))) (d2:c2.data=.cell (some (.ref σ.wd))) (NF:News g L s.heap (mutL w σ++(Xs++T)))
    (n:Str) (t:Tok) (hC:((C:Nat),oC)∈Xs) (hNs:LCg.NsObj oC m₂) (hx:m₂ (Str.ofString "name")=some (.str n t)) (hn:Yk n)
    (next:∀ σ' T' h' tk t',LOk w b σ' T'→SameA σ σ'→(σ'.W=σ.W∧σ'.wv=σ.wv∧σ'.wl=σ.wl)→Fr g L h' m→(∀ a∈σ'.base++σ'.secA,∀ i∈Xs,@Ne Nat a i.1)→News g L h' (mutL w σ'++(Xs++T'))→(∀ q∈T',q∈T∨∀ x∈Xs,@Ne Nat q.1 x.1)→Q (.int ((σ.W n).length:Nat) t') { s with heap:=h',toks:=tk }) :
    wpAny (model PG w) (Ar dp un fr gd) (eval lcE1 (compEnvC lcS1 [(Str.ofString "collector",L+1)] C (envOfC Mine.H.z240 lawSc L 998 (.ref 997)))) Q E s:=zp (by simp(disch:=k_dflt(
  refine' Yo (P:=fun B sc=>wpAny (model PG w) (Ar dp un fr gd) (eval B (compEnvC lcS1 [(Str.ofString "collector",L+1)] C (envOfC Mine.H.z240 sc L 998 (.ref 997)))) Q E s) ?eb ?es ?_
  case eb=>(conv=>lhs;whnf)
  case es=>(conv=>lhs;whnf)
  refine' Yo (B:=()) (body:=()) (P:=fun _ sc=>wpAny (model PG w) (Ar dp un fr gd) (eval _ (compEnvC sc [(Str.ofString "collector",L+1)] C _)) Q E s) rfl ?es ?_
  case es=>(conv=>lhs;whnf)
  have cg:Cx w lse mg mb g g:=⟨X,TR,Ext.refl _⟩
  have hc1:((L+1:Nat),c1)∈Xs++T:=List.mem_append_left _ h1
  have hc2:((L+1+1:Nat),c2)∈Xs++T:=List.mem_append_left _ h2
  have B:=H.lb hX
  refine LB.segE B hc1 hc2 NF fun Z ow u1 u2 u3 nn S N hdw hlw zp zw np1 np2 np3 np4 np5 np6 np7 np8 nq1 nq2 nq3 nq4 nq5 nq6 nq7=>?_
  have hT0:InH s.heap T:=fun q hq=>(NF q (List.mem_append_right _ (List.mem_append_right _ hq))).1
  refine absG fun _ kQ=>?_
  obtain ⟨dxp,np,glp,v1,v2,v3,v4,hxp,hdxp⟩:=H.progT hT0
  refine kQ ?_
  clear kQ
  have x1:=NF _ (List.mem_append_right _ (List.mem_append_right _ hxp))
  have x2:=NF _ (List.mem_append_right _ (List.mem_append_right _ hdxp))
  have x0:=NF _ (List.mem_append_right _ (List.mem_append_left _ hC))
  replace N:=Yl (Yl (Yl N x2.1 x2.2) x1.1 x1.2) x0.1 x0.2
  dsimp only at N
  have hNS:∀ {h:Heap} {l:List (Addr×Obj)},News g L h l→((σ.pd:Addr),σ.po)∈l→((σ.wl σ.here:Addr),lst (σ.wv σ.here) (σ.wn σ.here))∈l→(∀ q∈Z,q∈l)→News g L h (mutL w σ++(Xs++T)):=fun N' a b c=>S.same B N' a b c
  by_cases hex:∃ p∈σ.k.l,p.name=n
  · refine absG fun _ kQ=>?_
    obtain ⟨p,hp,rfl⟩:=hex
    obtain ⟨dxs,ns,z1,z2,z3,za,hxs,hdxs⟩:=H.secT hT0 hp
    refine kQ ?_
    clear kQ
    have x3:=NF _ (List.mem_append_right _ (List.mem_append_right _ hxs))
    have x4:=NF _ (List.mem_append_right _ (List.mem_append_right _ hdxs))
    have x5:=NF _ (List.mem_append_left _ (m_pl hp))
    replace N:=Yl (Yl (Yl N x5.1 x5.2) x4.1 x4.2) x3.1 x3.2
    dsimp only at N
    have hlen:=H.lens hT0 p hp
    clear NF
    k_steps
    k_extra "n"
    have NF:=hNS N (by k_mem) (by k_mem) (fun q hq=>by repeat (first | exact hq | apply List.Mem.tail))
    obtain ⟨cG,K⟩:=H.colF (by omega) cg F NF [] (fun _ h=>nomatch h) (fun _ _ h=>nomatch h)
    refine wpAny_call (section_old cG (by omega) (by omega) K.pg.prog K.pg.osd K.pg.lo K.pg.dict (secKvs_at H.nmd hp) fun g2 tk2 e2=>?_)
    clear NF cG K
    replace F:=Ye F e2
    replace N:=Ya N e2
    dsimp only
    k_steps
    k_extra "n"
    have NF:=hNS N (by k_mem) (by k_mem) (fun q hq=>by repeat (first | exact hq | apply List.Mem.tail))
    rw [hlen.1]
    exact next σ T _ _ _ H ⟨rfl,rfl,rfl,rfl,rfl⟩ ⟨rfl,rfl,rfl⟩ F hX NF fun _ h=>.inl h
  · have hno:∀ p∈σ.k.l,p.name≠n:=fun p hp e=>hex ⟨p,hp,e⟩
    have hv:=secKvs_no hno
    have hW0:(σ.W n).length=0:=by rw [H.emp n hn hno];rfl
    have hln:=H.ln
    have hz1:(Yt σ.k.l).length≤1000:=by simp only [Yt,List.length_map];omega
    have hz2:(List.zipWith (fun (s:Sc) t=>Value.str s.name t) σ.k.l σ.k.ts).length≤1000:=by rw [List.length_zipWith];omega
    have hsn:@Ne Nat σ.k.sd σ.k.nl:=by
      have:=H.bas
      simp only [LV.base,List.nodup_cons,List.mem_cons,List.not_mem_nil,or_false,not_or] at this
      exact this.2.2.2.2.2.2.2.1
    have hst:∀ x':Nat,valueAt (stored (Yt σ.k.l) n (.ref x')) n=some (.ref x'):=fun x'=>by
      rw [stored_absent hv]
      unfold valueAt at hv ⊢
      rw [List.find?_append,Option.map_eq_none_iff.mp hv]
      simp
    clear NF
    k_steps
    k_extra "n"
    have NF:=hNS N (by k_mem) (by k_mem) (fun q hq=>by repeat (first | exact hq | apply List.Mem.tail))
    have x9:=N ((C:Addr),oC) (by k_mem)
    obtain ⟨cG,K⟩:=H.colF (by omega) cg F NF [] (fun _ h=>nomatch h) (fun _ _ h=>nomatch h)
    refine wpAny_call (section_new cG (by omega) (by omega) K.pg.prog K.pg.osd K.pg.lo K.pg.dict hz1 hv K.pg.onl hz2 hsn hst fun x' dx' pl ld o1 o' n' t1 t2 t3 ta t4 h' tk k1 f1 f2 f3 f4 fe a1 a2 a3 a4 a5 a6 a7 a8 a9=>?_)
    rw [stored_absent hv] at a8
    have PO:SwNewX w σ.k n (fun _=>σ.k.cu) x' pl s.heap h':=⟨dx',ld,o1,o',n',t1,t2,t3,ta,t4,k1.mono (fun k hk=>.tail _ hk),f1,f2,f3,f4,fe,a1,a2,a3,a4,a5,a6,a7,a8,a9,k1 _ _ (fun hm=>by
      have bn:=(base_ne H.bas).2.2 σ.k.dc (by k_extra "mb")
      rcases List.mem_cons.mp hm with e | hm
      · exact bn.1 e
      · exact bn.2 (List.mem_singleton.mp hm)) (NF _ (List.mem_append_left _ m_dc)).1⟩
    refine absG fun _ kQ=>?_
    obtain ⟨ld',o1',od',t',T',H',hX',NF',hT',F'⟩:=sw_new_end (hr:=σ.here) H hX hn hno F NF (.inr ⟨rfl,fun _=>rfl⟩) PO
    refine kQ ?_
    clear kQ
    clear F NF N cG K PO S hNS zp zw hdw hlw np1 np2 np3 np4 np5 np6 np7 np8 nq1 nq2 nq3 nq4 nq5 nq6 nq7 k1 f1 f2 f3 f4 fe a1 a2 a3 a4 a5 a6 a7 a8 a9 x0 x1 x2 x9
    have F:=F'
    clear F'
    have hT0':InH h' T':=fun q hq=>(NF' q (List.mem_append_right _ (List.mem_append_right _ hq))).1
    have hsm:(⟨n,x',pl,ld',o1',[],[],[],0⟩:Sc)∈((σ.newSec n x' pl ld' o1' od' t').to σ.here σ.k.cu).k.l:=List.mem_append_right _ (.head _)
    refine absG fun _ kQ=>?_
    obtain ⟨dxs,ns,z1,z2,z3,za,hxs,hdxs⟩:=H'.secT hT0' hsm
    refine kQ ?_
    clear kQ
    have x3:=NF' _ (List.mem_append_right _ (List.mem_append_right _ hxs))
    have x4:=NF' _ (List.mem_append_right _ (List.mem_append_right _ hdxs))
    have x5:=NF' _ (List.mem_append_left _ (m_pl hsm))
    have x6:=NF' _ (List.mem_append_right _ (List.mem_append_left _ hC))
    have B':=H'.lb hX'
    have hc1:((L+1:Nat),c1)∈Xs++T':=List.mem_append_left _ h1
    have hc2:((L+1+1:Nat),c2)∈Xs++T':=List.mem_append_left _ h2
    refine LB.segE B' hc1 hc2 NF' fun Z ow u1 u2 u3 nn S9 N hdw hlw zp zw np1 np2 np3 np4 np5 np6 np7 np8 nq1 nq2 nq3 nq4 nq5 nq6 nq7=>?_
    dsimp only [LV.newSec,LV.to] at N hdw hlw zp zw np1 np2 np3 np4 np5 np6 np7 np8 nq1 nq2 nq3 nq4 nq5 nq6 nq7
    replace N:=Yl (Yl (Yl (Yl N x6.1 x6.2) x5.1 x5.2) x4.1 x4.2) x3.1 x3.2
    dsimp only at N
    dsimp only
    clear NF'
    k_steps
    k_extra "n"
    have NF:=S9.same B' N (by k_mem) (by k_mem) (fun q hq=>by repeat (first | exact hq | apply List.Mem.tail))
    have e:∀ h9 tk9 t9,Fr g L h9 m→News g L h9 (mutL w ((σ.newSec n x' pl ld' o1' od' t').to σ.here σ.k.cu)++(Xs++T'))→Q (.int ((0:Nat):Int) t9) { s with heap:=h9,toks:=tk9 }:=fun h9 tk9 t9 F N=>by
      have:=next _ T' h9 tk9 t9 H' ⟨rfl,rfl,rfl,rfl,rfl⟩ ⟨rfl,rfl,rfl⟩ F hX' N hT'
      rw [hW0] at this
      exact this
    exact e _ _ _ F NF))only[↓zq])
theorem elem2 {σ:LV} {T Xs:List (Addr×Obj)} {b:Nat} {m:Str→Option Value} {c1 c2:Obj} {L:Nat} {g:Heap} {Q:Value→Shared→Prop} {E:Value→Shared→Prop} {m₂:Str→Option Value} {oC:Obj} {C:Nat} (hd:dp≤650) (hu:un≤2000) (H:LOk w b σ T) (hb:b≤700)
    (X:(Mine.H.K w.params).In g) (TR:TopRead Mine.H.q1 lse mg mb g) (F:Fr g L s.heap m) (hX:∀ a∈σ.base++σ.secA,∀ i∈Xs,@Ne Nat a i.1) (h1:((L+1:Nat),c1)∈Xs) (h2:((L+1+1:Nat),c2)∈Xs)
    (d1:c1.data=.cell (some (.ref σ.k.xc))) (d2:c2.data=.cell (some (.ref σ.wd))) (NF:News g L s.heap (mutL w σ++(Xs++T)))
    (n:Str) (t:Tok) (hC:((C:Nat),oC)∈Xs) (hNs:LCg.NsObj oC m₂) (hx:m₂ (Str.ofString "name")=some (.str n t)) (hn:Yk n)
    (next:∀ σ' T' h' tk t',LOk w b σ' T'→SameA σ σ'→(σ'.W=σ.W∧σ'.wv=σ.wv∧σ'.wl=σ.wl)→Fr g L h' m→(∀ a∈σ'.base++σ'.secA,∀ i∈Xs,@Ne Nat a i.1)→News g L h' (mutL w σ'++(Xs++T'))→(∀ q∈T',q∈T∨∀ x∈Xs,@Ne Nat q.1 x.1)→Q (.int ((σ.wv n).length:Nat) t') { s with heap:=h',toks:=tk }) :
    wpAny (model PG w) (Ar dp un fr gd) (eval lcE2 (compEnvC lcS2 [(Str.ofString "widths",L+1+1)] C (envOfC Mine.H.z240 lawSc L 998 (.ref 997)))) Q E s:=zp (by simp(disch:=k_dflt(
  refine' Yo (P:=fun B sc=>wpAny (model PG w) (Ar dp un fr gd) (eval B (compEnvC lcS2 [(Str.ofString "widths",L+1+1)] C (envOfC Mine.H.z240 sc L 998 (.ref 997)))) Q E s) ?eb ?es ?_
  case eb=>(conv=>lhs;whnf)
  case es=>(conv=>lhs;whnf)
  refine' Yo (B:=()) (body:=()) (P:=fun _ sc=>wpAny (model PG w) (Ar dp un fr gd) (eval _ (compEnvC sc [(Str.ofString "widths",L+1+1)] C _)) Q E s) rfl ?es ?_
  case es=>(conv=>lhs;whnf)
  have cg:Cx w lse mg mb g g:=⟨X,TR,Ext.refl _⟩
  have hc1:((L+1:Nat),c1)∈Xs++T:=List.mem_append_left _ h1
  have hc2:((L+1+1:Nat),c2)∈Xs++T:=List.mem_append_left _ h2
  have B:=H.lb hX
  refine LB.segE B hc1 hc2 NF fun Z ow u1 u2 u3 nn S N hdw hlw zp zw np1 np2 np3 np4 np5 np6 np7 np8 nq1 nq2 nq3 nq4 nq5 nq6 nq7=>?_
  have x0:=NF _ (List.mem_append_right _ (List.mem_append_left _ hC))
  have x1:=NF _ (List.mem_append_left _ (m_row hn))
  have hT0:InH s.heap T:=fun q hq=>(NF q (List.mem_append_right _ (List.mem_append_right _ hq))).1
  replace N:=Yl (Yl N x1.1 x1.2) x0.1 x0.2
  dsimp only [LV.row] at N
  have hvw:=wd_at (σ:=σ) hn
  have hwl:=(H.wid n hn).2
  clear NF
  k_steps
  k_extra "n"
  have NF:=S.same B N (by k_mem) (by k_mem) (fun q hq=>by repeat (first | exact hq | apply List.Mem.tail))
  exact next σ T _ _ _ H ⟨rfl,rfl,rfl,rfl,rfl⟩ ⟨rfl,rfl,rfl⟩ F hX NF fun _ h=>.inl h))only[↓zq])
theorem row29:True:=by
  k_with ".CompSrc" => ((fail_if_success have:=@off24);(k_here;refine stop_ ?_))
  k_with ".compareOp Eq ref ref" => ((fail_if_success have:=@off24);(k_here;refine stop_ ?_))
  k_with ".compareOp Eq" => ((fail_if_success have:=@off24);(k_here;refine stop_ ?_))
  trivial
theorem ints_snoc:∀ {vs:List Value} {ns:List Int},IntsAre vs ns→∀ v t,IntsAre (vs++[.int v t]) (ns++[v])
  | _,_,.nil,v,t=>.cons v t .nil
  | _,_,.cons k u r,v,t=>.cons k u (ints_snoc r v t)
theorem comp1 {σ:LV} {Xs:List (Addr×Obj)} {b:Nat} {m:Str→Option Value} {c1 c2:Obj} {L:Nat} {g:Heap} {its:Array Value} {ax:Addr} {Fin:List Value→List (Addr×Obj)→Prop} (hd:dp≤650) (hu:un≤2000) (hb:b≤700)
    (X:(Mine.H.K w.params).In g) (TR:TopRead Mine.H.q1 lse mg mb g) (h1:((L+1:Nat),c1)∈Xs) (h2:((L+1+1:Nat),c2)∈Xs) (d1:c1.data=.cell (some (.ref σ.k.xc))) (d2:c2.data=.cell (some (.ref σ.wd)))
    (all:List Str) (hits:∀ (i:Nat) n,all[i]?=some n→∃ t,its[i]?=some (Value.str n t)) (hok:∀ n∈all,Yk n) (hS:∀ news',(∀ q∈Xs,q∈news')→LCg.SrcAt g ax its news')
    (fin:∀ ys σ' T',LOk w b σ' T'→SameA σ σ'→(σ'.W=σ.W∧σ'.wv=σ.wv∧σ'.wl=σ.wl)→(∀ a∈σ'.base++σ'.secA,∀ i∈Xs,@Ne Nat a i.1)→IntsAre ys (all.map fun n=>((σ.W n).length:Int))→Fin ys (mutL w σ'++(Xs++T'))) :
    ∀ (rest done:List Str) ys σ' T',done++rest=all→LOk w b σ' T'→SameA σ σ'→(σ'.W=σ.W∧σ'.wv=σ.wv∧σ'.wl=σ.wl)→(∀ a∈σ'.base++σ'.secA,∀ i∈Xs,@Ne Nat a i.1)→IntsAre ys (done.map fun n=>((σ.W n).length:Int)) →
      LCg.CompRest PG w (Ar dp un fr gd) g L m (envOfC Mine.H.z240 lawSc L 998 (.ref 997)) lcE1 (Str.ofString "name") lcS1 [(Str.ofString "collector",L+1)] s (LCg.SrcAt g ax its) (fun i v=>its[i]?=some v) Fin rest.length done.length ys (mutL w σ'++(Xs++T')):=zp (by simp(disch:=k_dflt(
  intro rest
  induction rest with
  | nil =>
    intro done ys σ' T' e H S' W' hX' hI
    rw [List.append_nil] at e
    subst e
    exact LCg.CompRest.zero (fin ys σ' T' H S' W' hX' hI)
  | cons n r ih =>
    intro done ys σ' T' e H S' W' hX' hI
    refine LCg.CompRest.succ fun v I oI C oC D m₂ h tk E' hP hC hx F N off ne3=>?_
    obtain ⟨t,ht⟩:=hits done.length n (by rw [← e];simp)
    obtain rfl:v=.str n t:=by
      rw [ht] at hP
      exact (Option.some.inj hP).symm
    have off':=fun p hp=>LCg.Off3.mem off p hp
    have hXs:∀ a∈σ'.base++σ'.secA,∀ i∈(I,oI)::(C,oC)::(D,LCg.lst ys)::Xs,@Ne Nat a i.1:=fun a ha i hi=>by
      obtain ⟨q,hq,rfl⟩:=adr_mutL (w:=w) ha
      have:=off' q (List.mem_append_left _ hq)
      rcases List.mem_cons.mp hi with rfl | hi
      · exact this.1
      rcases List.mem_cons.mp hi with rfl | hi
      · exact this.2.1
      rcases List.mem_cons.mp hi with rfl | hi
      · exact this.2.2
      exact hX' _ ha i hi
    have NF:News g L h (mutL w σ'++(((I,oI)::(C,oC)::(D,LCg.lst ys)::Xs)++T')):=fun q hq=>by
      rcases List.mem_append.mp hq with hq | hq
      · exact N q (.tail _ (.tail _ (.tail _ (List.mem_append_left _ hq))))
      · rcases List.mem_append.mp hq with hq | hq
        · rcases List.mem_cons.mp hq with rfl | hq
          · exact N _ (.head _)
          rcases List.mem_cons.mp hq with rfl | hq
          · exact N _ (.tail _ (.head _))
          rcases List.mem_cons.mp hq with rfl | hq
          · exact N _ (.tail _ (.tail _ (.head _)))
          exact N q (.tail _ (.tail _ (.tail _ (List.mem_append_right _ (List.mem_append_left _ hq)))))
        · exact N q (.tail _ (.tail _ (.tail _ (List.mem_append_right _ (List.mem_append_right _ hq)))))
    refine elem1 hd hu H hb X TR F hXs (.tail _ (.tail _ (.tail _ h1))) (.tail _ (.tail _ (.tail _ h2))) (by rw [S'.xc];exact d1) (by rw [S'.wd];exact d2) NF n t (.tail _ (.head _)) hC hx (hok n (by rw [← e];simp)) fun σ2 T2 h' tk' t' a1 a2 a3 a4 a5 a6 a7=>?_
    have hXX:∀ x∈Xs,x∈(I,oI)::(C,oC)::(D,LCg.lst ys)::Xs:=fun x hx=>.tail _ (.tail _ (.tail _ hx))
    refine LCg.CompEnd.intro a4 a6 (mutL w σ2++(Xs++T2)) (fun q hq=>?_) (LCg.Off3.of fun q hq=>?_) (hS _ fun q hq=>List.mem_append_right _ (List.mem_append_left _ hq)) ?_
    · rcases List.mem_cons.mp hq with rfl | hq
      · exact List.mem_append_right _ (List.mem_append_left _ (.head _))
      rcases List.mem_cons.mp hq with rfl | hq
      · exact List.mem_append_right _ (List.mem_append_left _ (.tail _ (.head _)))
      rcases List.mem_cons.mp hq with rfl | hq
      · exact List.mem_append_right _ (List.mem_append_left _ (.tail _ (.tail _ (.head _))))
      rcases List.mem_append.mp hq with hq | hq
      · exact List.mem_append_left _ hq
      rcases List.mem_append.mp hq with hq | hq
      · exact List.mem_append_right _ (List.mem_append_left _ (hXX q hq))
      · exact List.mem_append_right _ (List.mem_append_right _ hq)
    · rcases List.mem_append.mp hq with hq | hq
      · have:=a5 _ (mutL_adr hq)
        exact ⟨this _ (.head _),this _ (.tail _ (.head _)),this _ (.tail _ (.tail _ (.head _)))⟩
      rcases List.mem_append.mp hq with hq | hq
      · exact off' q (List.mem_append_right _ (List.mem_append_left _ hq))
      · rcases a7 q hq with hq | hq
        · exact off' q (List.mem_append_right _ (List.mem_append_right _ hq))
        · exact ⟨hq _ (.head _),hq _ (.tail _ (.head _)),hq _ (.tail _ (.tail _ (.head _)))⟩
    · have hl:done.length+1=(done++[n]).length:=by simp
      rw [hl]
      refine ih (done++[n]) _ σ2 T2 (by rw [← e];simp) a1 ⟨by rw [a2.xc,S'.xc],by rw [a2.wd,S'.wd],by rw [a2.nm,S'.nm],by rw [a2.cl,S'.cl],by rw [a2.pd,S'.pd]⟩ ⟨by rw [a3.1,W'.1],by rw [a3.2.1,W'.2.1],by rw [a3.2.2,W'.2.2]⟩ (fun a ha i hi=>a5 a ha i (hXX i hi)) ?_
      rw [List.map_append]
      have:=ints_snoc hI (((σ'.W n).length:Nat):Int) t'
      rw [W'.1] at this ⊢
      exact this))only[↓zq])
theorem comp2 {σ:LV} {Xs:List (Addr×Obj)} {b:Nat} {m:Str→Option Value} {c1 c2:Obj} {L:Nat} {g:Heap} {its:Array Value} {ax:Addr} {Fin:List Value→List (Addr×Obj)→Prop} (hd:dp≤650) (hu:un≤2000) (hb:b≤700)
    (X:(Mine.H.K w.params).In g) (TR:TopRead Mine.H.q1 lse mg mb g) (h1:((L+1:Nat),c1)∈Xs) (h2:((L+1+1:Nat),c2)∈Xs) (d1:c1.data=.cell (some (.ref σ.k.xc))) (d2:c2.data=.cell (some (.ref σ.wd)))
    (all:List Str) (hits:∀ (i:Nat) n,all[i]?=some n→∃ t,its[i]?=some (Value.str n t)) (hok:∀ n∈all,Yk n) (hS:∀ news',(∀ q∈Xs,q∈news')→LCg.SrcAt g ax its news')
    (fin:∀ ys σ' T',LOk w b σ' T'→SameA σ σ'→(σ'.W=σ.W∧σ'.wv=σ.wv∧σ'.wl=σ.wl)→(∀ a∈σ'.base++σ'.secA,∀ i∈Xs,@Ne Nat a i.1)→IntsAre ys (all.map fun n=>((σ.wv n).length:Int))→Fin ys (mutL w σ'++(Xs++T'))) :
    ∀ (rest done:List Str) ys σ' T',done++rest=all→LOk w b σ' T'→SameA σ σ'→(σ'.W=σ.W∧σ'.wv=σ.wv∧σ'.wl=σ.wl)→(∀ a∈σ'.base++σ'.secA,∀ i∈Xs,@Ne Nat a i.1)→IntsAre ys (done.map fun n=>((σ.wv n).length:Int)) →
      LCg.CompRest PG w (Ar dp un fr gd) g L m (envOfC Mine.H.z240 lawSc L 998 (.ref 997)) lcE2 (Str.ofString "name") lcS2 [(Str.ofString "widths",L+1+1)] s (LCg.SrcAt g ax its) (fun i v=>its[i]?=some v) Fin rest.length done.length ys (mutL w σ'++(Xs++T')):=zp (by simp(disch:=k_dflt(
  intro rest
  induction rest with
  | nil =>
    intro done ys σ' T' e H S' W' hX' hI
    rw [List.append_nil] at e
    subst e
    exact LCg.CompRest.zero (fin ys σ' T' H S' W' hX' hI)
  | cons n r ih =>
    intro done ys σ' T' e H S' W' hX' hI
    refine LCg.CompRest.succ fun v I oI C oC D m₂ h tk E' hP hC hx F N off ne3=>?_
    obtain ⟨t,ht⟩:=hits done.length n (by rw [← e];simp)
    obtain rfl:v=.str n t:=by
      rw [ht] at hP
      exact (Option.some.inj hP).symm
    have off':=fun p hp=>LCg.Off3.mem off p hp
    have hXs:∀ a∈σ'.base++σ'.secA,∀ i∈(I,oI)::(C,oC)::(D,LCg.lst ys)::Xs,@Ne Nat a i.1:=fun a ha i hi=>by
      obtain ⟨q,hq,rfl⟩:=adr_mutL (w:=w) ha
      have:=off' q (List.mem_append_left _ hq)
      rcases List.mem_cons.mp hi with rfl | hi
      · exact this.1
      rcases List.mem_cons.mp hi with rfl | hi
      · exact this.2.1
      rcases List.mem_cons.mp hi with rfl | hi
      · exact this.2.2
      exact hX' _ ha i hi
    have NF:News g L h (mutL w σ'++(((I,oI)::(C,oC)::(D,LCg.lst ys)::Xs)++T')):=fun q hq=>by
      rcases List.mem_append.mp hq with hq | hq
      · exact N q (.tail _ (.tail _ (.tail _ (List.mem_append_left _ hq))))
      · rcases List.mem_append.mp hq with hq | hq
        · rcases List.mem_cons.mp hq with rfl | hq
          · exact N _ (.head _)
          rcases List.mem_cons.mp hq with rfl | hq
          · exact N _ (.tail _ (.head _))
          rcases List.mem_cons.mp hq with rfl | hq
          · exact N _ (.tail _ (.tail _ (.head _)))
          exact N q (.tail _ (.tail _ (.tail _ (List.mem_append_right _ (List.mem_append_left _ hq)))))
        · exact N q (.tail _ (.tail _ (.tail _ (List.mem_append_right _ (List.mem_append_right _ hq)))))
    refine elem2 hd hu H hb X TR F hXs (.tail _ (.tail _ (.tail _ h1))) (.tail _ (.tail _ (.tail _ h2))) (by rw [S'.xc];exact d1) (by rw [S'.wd];exact d2) NF n t (.tail _ (.head _)) hC hx (hok n (by rw [← e];simp)) fun σ2 T2 h' tk' t' a1 a2 a3 a4 a5 a6 a7=>?_
    have hXX:∀ x∈Xs,x∈(I,oI)::(C,oC)::(D,LCg.lst ys)::Xs:=fun x hx=>.tail _ (.tail _ (.tail _ hx))
    refine LCg.CompEnd.intro a4 a6 (mutL w σ2++(Xs++T2)) (fun q hq=>?_) (LCg.Off3.of fun q hq=>?_) (hS _ fun q hq=>List.mem_append_right _ (List.mem_append_left _ hq)) ?_
    · rcases List.mem_cons.mp hq with rfl | hq
      · exact List.mem_append_right _ (List.mem_append_left _ (.head _))
      rcases List.mem_cons.mp hq with rfl | hq
      · exact List.mem_append_right _ (List.mem_append_left _ (.tail _ (.head _)))
      rcases List.mem_cons.mp hq with rfl | hq
      · exact List.mem_append_right _ (List.mem_append_left _ (.tail _ (.tail _ (.head _))))
      rcases List.mem_append.mp hq with hq | hq
      · exact List.mem_append_left _ hq
      rcases List.mem_append.mp hq with hq | hq
      · exact List.mem_append_right _ (List.mem_append_left _ (hXX q hq))
      · exact List.mem_append_right _ (List.mem_append_right _ hq)
    · rcases List.mem_append.mp hq with hq | hq
      · have:=a5 _ (mutL_adr hq)
        exact ⟨this _ (.head _),this _ (.tail _ (.head _)),this _ (.tail _ (.tail _ (.head _)))⟩
      rcases List.mem_append.mp hq with hq | hq
      · exact off' q (List.mem_append_right _ (List.mem_append_left _ hq))
      · rcases a7 q hq with hq | hq
        · exact off' q (List.mem_append_right _ (List.mem_append_right _ hq))
        · exact ⟨hq _ (.head _),hq _ (.tail _ (.head _)),hq _ (.tail _ (.tail _ (.head _)))⟩
    · have hl:done.length+1=(done++[n]).length:=by simp
      rw [hl]
      refine ih (done++[n]) _ σ2 T2 (by rw [← e];simp) a1 ⟨by rw [a2.xc,S'.xc],by rw [a2.wd,S'.wd],by rw [a2.nm,S'.nm],by rw [a2.cl,S'.cl],by rw [a2.pd,S'.pd]⟩ ⟨by rw [a3.1,W'.1],by rw [a3.2.1,W'.2.1],by rw [a3.2.2,W'.2.2]⟩ (fun a ha i hi=>a5 a ha i (hXX i hi)) ?_
      rw [List.map_append]
      have:=ints_snoc hI (((σ'.wv n).length:Nat):Int) t'
      rw [W'.2.1] at this ⊢
      exact this))only[↓zq])
theorem law_last {σ:LV} {T Xs:List (Addr×Obj)} {b:Nat} {m:Str→Option Value} {c1 c2:Obj} {L:Nat} {g:Heap} {Q:Flow→Shared→Prop} (hd:dp≤650) (hu:un≤2000) (H:LOk w b σ T) (hb:b≤700)
    (X:(Mine.H.K w.params).In g) (TR:TopRead Mine.H.q1 lse mg mb g) (F:Fr g L s.heap m) (hm:MOk σ m) (hX:∀ a∈σ.base++σ.secA,∀ i∈Xs,@Ne Nat a i.1) (h1:((L+1:Nat),c1)∈Xs) (h2:((L+1+1:Nat),c2)∈Xs)
    (d1:c1.data=.cell (some (.ref σ.k.xc))) (d2:c2.data=.cell (some (.ref σ.wd))) (NF:News g L s.heap (mutL w σ++(Xs++T)))
    (next:∀ h' tk,(∀ b o,g.get? b=some o→h'.get? b=some o)→Q (.ret (.bool true)) { s with heap:=h',toks:=tk }) :
    wpAny (model PG w) (Ar dp un fr gd) (exec retS (envOfC Mine.H.z240 lawSc L 998 (.ref 997))) Q (fun _ _=>False) s:=zp (by simp(disch:=k_dflt(
  refine' Yo (P:=fun B sc=>wpAny (model PG w) (Ar dp un fr gd) (exec B (envOfC Mine.H.z240 sc L 998 (.ref 997))) Q (fun _ _=>False) s) ?eb ?es ?_
  case eb=>(conv=>lhs;whnf)
  case es=>(conv=>lhs;whnf)
  have cg:Cx w lse mg mb g g:=⟨X,TR,Ext.refl _⟩
  have hc1:((L+1:Nat),c1)∈Xs++T:=List.mem_append_left _ h1
  have hc2:((L+1+1:Nat),c2)∈Xs++T:=List.mem_append_left _ h2
  obtain ⟨th,hth⟩:=hm.here
  have hmm:=Yr (m:=m) [(Str.ofString "cells",some (.ref σ.cl)),(Str.ofString "names",some (.ref σ.nm)),(Str.ofString "here",some (.str σ.here th)),(Str.ofString "places",some (.ref σ.pd))] (by simp [hm.cells,hm.names,hth,hm.places])
  simp only [mLook] at hmm
  rw [hmm] at F
  refine absG fun _ kQ=>?_
  obtain ⟨t1,t2,t3,nn,hnm⟩:=H.nms
  refine kQ ?_
  clear kQ
  k_steps
  delta Stop
  k_extra "n"
  have hX1:∀ a∈σ.base++σ.secA,∀ i∈((σ.nm:Addr),lst [.str NT t1,.str ND t2,.str NN t3] nn)::Xs,@Ne Nat a i.1:=fun a ha i hi=>by
    rcases List.mem_cons.mp hi with rfl | hi
    · exact H.dj a ha _ hnm
    · exact hX a ha i hi
  have N1:News g L s.heap (mutL w σ++((((σ.nm:Addr),lst [.str NT t1,.str ND t2,.str NN t3] nn)::Xs)++T)):=fun q hq=>by
    rcases List.mem_append.mp hq with hq | hq
    · exact N q (List.mem_append_left _ hq)
    rcases List.mem_append.mp hq with hq | hq
    · rcases List.mem_cons.mp hq with rfl | hq
      · exact N _ (List.mem_append_right _ (List.mem_append_right _ hnm))
      · exact N q (List.mem_append_right _ (List.mem_append_left _ hq))
    · exact N q (List.mem_append_right _ (List.mem_append_right _ hq))
  clear N
  have hits:∀ (i:Nat) n,([NT,ND,NN]:List Str)[i]?=some n→∃ t,(#[Value.str NT t1,.str ND t2,.str NN t3]:Array Value)[i]?=some (Value.str n t):=fun i n h=>by
    match i,h with
    | 0,h=>cases h;exact ⟨t1,rfl⟩
    | 1,h=>cases h;exact ⟨t2,rfl⟩
    | 2,h=>cases h;exact ⟨t3,rfl⟩
    | j+3,h=>simp at h
  have hok3:∀ n∈([NT,ND,NN]:List Str),Yk n:=fun n hn=>by
    simp only [List.mem_cons,List.not_mem_nil,or_false] at hn
    exact hn
  refine LCg.CompSrc.ledger (its:=#[.str NT t1,.str ND t2,.str NN t3]) (k:=nn) rfl F N1 (List.mem_append_right _ (List.mem_append_left _ (.head _))) (by rw [sizeLine_eq];exact Nat.le_of_ble_eq_true rfl) fun g'=>?_
  refine comp1 (Xs:=((σ.nm:Addr),lst [.str NT t1,.str ND t2,.str NN t3] nn)::Xs) hd hu hb X TR (.tail _ h1) (.tail _ h2) d1 d2 [NT,ND,NN] hits hok3 (fun news' hn=>.inr ⟨_,hn _ (.head _),rfl,nn,rfl⟩) ?fin [NT,ND,NN] [] [] σ T rfl H ⟨rfl,rfl,rfl,rfl,rfl⟩ ⟨rfl,rfl,rfl⟩ hX1 .nil
  intro ys σ' T' H' S' W' hX' hI
  unfold LCg.FinE
  intro D h tk F N off
  clear N1
  have off1:=off1_mem off
  dsimp only
  k_steps
  delta Stop
  k_extra "n"
  have hX2:∀ a∈σ'.base++σ'.secA,∀ i∈((D:Addr),LCg.lst ys)::((σ.nm:Addr),lst [.str NT t1,.str ND t2,.str NN t3] nn)::Xs,@Ne Nat a i.1:=fun a ha i hi=>by
    rcases List.mem_cons.mp hi with rfl | hi
    · obtain ⟨q,hq,rfl⟩:=adr_mutL (w:=w) ha
      exact off1 q (List.mem_append_left _ hq)
    · exact hX' a ha i hi
  have N2:News g L h (mutL w σ'++((((D:Addr),LCg.lst ys)::((σ.nm:Addr),lst [.str NT t1,.str ND t2,.str NN t3] nn)::Xs)++T')):=fun q hq=>by
    rcases List.mem_append.mp hq with hq | hq
    · exact N q (.tail _ (List.mem_append_left _ hq))
    rcases List.mem_append.mp hq with hq | hq
    · rcases List.mem_cons.mp hq with rfl | hq
      · exact N _ (.head _)
      · exact N q (.tail _ (List.mem_append_right _ (List.mem_append_left _ hq)))
    · exact N q (.tail _ (List.mem_append_right _ (List.mem_append_right _ hq)))
  clear N
  refine LCg.CompSrc.ledger (its:=#[.str NT t1,.str ND t2,.str NN t3]) (k:=nn) rfl F N2 (List.mem_append_right _ (List.mem_append_left _ (.tail _ (.head _)))) (by rw [sizeLine_eq];exact Nat.le_of_ble_eq_true rfl) fun g'=>?_
  refine comp2 (Xs:=((D:Addr),LCg.lst ys)::((σ.nm:Addr),lst [.str NT t1,.str ND t2,.str NN t3] nn)::Xs) hd hu hb X TR (.tail _ (.tail _ h1)) (.tail _ (.tail _ h2)) (by rw [S'.xc];exact d1) (by rw [S'.wd];exact d2) [NT,ND,NN] hits hok3 (fun news' hn=>.inr ⟨_,hn _ (.tail _ (.head _)),rfl,nn,rfl⟩) ?fin2 [NT,ND,NN] [] [] σ' T' rfl H' ⟨rfl,rfl,rfl,rfl,rfl⟩ ⟨rfl,rfl,rfl⟩ hX2 .nil
  intro ys2 σ2 T2 H2 S2 W2 hX3 hI2
  unfold LCg.FinE
  intro D2 h2' tk2 F N off2
  clear N2
  dsimp only
  k_steps
  delta Stop
  k_extra "n"
  have hDm:=N (D,LCg.lst ys) (.tail _ (List.mem_append_right _ (List.mem_append_left _ (.head _))))
  have hDm2:=N (D2,LCg.lst ys2) (.head _)
  have hw:∀ n,Yk n→(σ.W n).length=(σ'.wv n).length:=fun n hn=>by rw [W'.2.1];exact (H.wid n hn).1.len.symm
  have heq:([NT,ND,NN]:List Str).map (fun n=>((σ.W n).length:Int))=([NT,ND,NN]:List Str).map (fun n=>((σ'.wv n).length:Int)):=by
    simp only [List.map_cons,List.map_nil]
    rw [hw NT (.inl rfl),hw ND (.inr (.inl rfl)),hw NN (.inr (.inr rfl))]
  refine eq_intsK (vs:=ys) (us:=ys2) ⟨_,hDm.1,rfl,_,rfl⟩ hI ⟨_,hDm2.1,rfl,_,rfl⟩ hI2 (by show un+64<cLine;simp only [cLine];omega) ?_
  rw [heq,(fun l=>decide_eq_true rfl:∀ l:List Int,decide (l=l)=true)]
  exact next _ _ F.keep))only[↓zq])
theorem off24:True:=trivial
theorem row30:True:=by
  k_with ".exec For" => ((fail_if_success have:=@off25);(k_here;refine stop_ ?_))
  k_with ".exec For Name" => ((fail_if_success have:=@off25);(k_here;refine stop_ ?_))
  k_with ".exec For Name Name cons nil" => ((fail_if_success have:=@off25);(k_here;refine stop_ ?_))
  k_with ".exec Return some" => ((fail_if_success have:=@off25);(k_here;refine stop_ ?_))
  k_with ".binaryOp Add ref ref" => ((fail_if_success have:=@off25);(k_here;refine stop_ ?_))
  k_with ".call builtin:sorted" => ((fail_if_success have:=@off25);(k_here;refine stop_ ?_))
  trivial
theorem law_tail {σ:LV} {T Xs:List (Addr×Obj)} {b:Nat} {m:Str→Option Value} {c1 c2:Obj} {L:Nat} {g:Heap} {Q:Flow→Shared→Prop} (hd:dp≤650) (hu:un≤2000) (H:LOk w b σ T) (hb:b≤700)
    (X:(Mine.H.K w.params).In g) (TR:TopRead Mine.H.q1 lse mg mb g) (F:Fr g L s.heap m) (hm:MOk σ m) (hX:∀ a∈σ.base++σ.secA,∀ i∈Xs,@Ne Nat a i.1) (h1:((L+1:Nat),c1)∈Xs) (h2:((L+1+1:Nat),c2)∈Xs)
    (d1:c1.data=.cell (some (.ref σ.k.xc))) (d2:c2.data=.cell (some (.ref σ.wd))) (NF:News g L s.heap (mutL w σ++(Xs++T)))
    (hfr:fr=some [envOfC Mine.H.z240 lawSc L 998 (.ref 997)])
    (next:∀ h' tk,(∀ b o,g.get? b=some o→h'.get? b=some o)→Q (.ret (.bool true)) { s with heap:=h',toks:=tk }) :
    wpAny (model PG w) (Ar dp un fr gd) (execs (lawB.drop 4) (envOfC Mine.H.z240 lawSc L 998 (.ref 997))) Q (fun _ _=>False) s:=zp (by simp(disch:=k_dflt(
  refine' Yo (P:=fun B sc=>wpAny (model PG w) (Ar dp un fr gd) (execs B (envOfC Mine.H.z240 sc L 998 (.ref 997))) Q (fun _ _=>False) s) ?eb ?es ?_
  case eb=>(conv=>lhs;whnf)
  case es=>(conv=>lhs;whnf)
  have cg:Cx w lse mg mb g g:=⟨X,TR,Ext.refl _⟩
  have hc1:((L+1:Nat),c1)∈Xs++T:=List.mem_append_left _ h1
  have hc2:((L+1+1:Nat),c2)∈Xs++T:=List.mem_append_left _ h2
  obtain ⟨th,hth⟩:=hm.here
  have hmm:=Yr (m:=m) [(Str.ofString "cells",some (.ref σ.cl)),(Str.ofString "names",some (.ref σ.nm)),(Str.ofString "here",some (.str σ.here th)),(Str.ofString "places",some (.ref σ.pd))] (by simp [hm.cells,hm.names,hth,hm.places])
  simp only [mLook] at hmm
  rw [hmm] at F
  have B:=H.lb hX
  refine LB.segE B hc1 hc2 NF fun Z ow u1 u2 u3 nn S N hdw hlw zp zw np1 np2 np3 np4 np5 np6 np7 np8 nq1 nq2 nq3 nq4 nq5 nq6 nq7=>?_
  clear NF
  have hpd:=H.pdict
  have hplo:=H.plo
  have hp6:(plKvs σ.P).length≤6:=by simp only [plKvs,List.length_map];exact H.p6
  k_steps
  k_extra "n"
  refine sorted_keys rfl F N (d:=σ.pd) ⟨hplo,σ.po,N.get (by k_mem),hpd⟩ hp6 fun B5 h5 tk5 vs5 c5 F N lB hlen hkey=>?_
  k_steps
  delta Stop
  k_extra "n"
  rename_i al9 h9a hz9a l9a
  have NFs:=S.same B N (by k_mem) (by k_mem) (fun q hq=>by repeat (first | exact hq | apply List.Mem.tail))
  have nB:=N ((B5:Addr),lst vs5 c5) (by k_mem)
  have nA:=N ((al9:Addr),_) (.head _)
  have hfw:∀ q∈mutL w σ++(Xs++T),q.1<h9a.objs.size:=fun q hq=>Heap.lt_size (NFs q hq).1
  have h5l:vs5.length≤6:=by rw [hlen];exact hp6
  refine add_arrays (its:=vs5.toArray) F NFs ⟨_,nB.1,rfl,_,rfl⟩ ⟨_,nA.1,rfl,_,rfl⟩ (fun h9 F N=>?_) (by rw [sizeLine_eq];simp;omega)
  clear NFs nB nA l9a hz9a
  dsimp only at F N ⊢
  generalize Array.size (Heap.objs h9a)=wt at F N hfw ⊢
  clear zp zw hdw hlw np1 np2 np3 np4 np5 np6 np7 np8 nq1 nq2 nq3 nq4 nq5 nq6 nq7 S
  k_steps
  delta Stop
  k_extra "n"
  have hXw:∀ a∈σ.base++σ.secA,∀ i∈((wt:Addr),lst (vs5++[Value.str (Str.ofString "nowhere") tk5]) 0)::Xs,@Ne Nat a i.1:=fun a ha i hi=>by
    rcases List.mem_cons.mp hi with rfl | hi
    · obtain ⟨q,hq,rfl⟩:=adr_mutL (w:=w) ha
      exact Nat.ne_of_lt (hfw q (List.mem_append_left _ hq))
    · exact hX a ha i hi
  have NW:News g L _ (mutL w σ++((((wt:Addr),lst (vs5++[Value.str (Str.ofString "nowhere") tk5]) 0)::Xs)++T)):=fun q hq=>by
    rcases List.mem_append.mp hq with hq | hq
    · exact N q (.tail _ (List.mem_append_left _ hq))
    rcases List.mem_append.mp hq with hq | hq
    · rcases List.mem_cons.mp hq with rfl | hq
      · exact N _ (.head _)
      · exact N q (.tail _ (List.mem_append_right _ (List.mem_append_left _ hq)))
    · exact N q (.tail _ (List.mem_append_right _ (List.mem_append_right _ hq)))
  have hwv:∀ v∈vs5++[Value.str (Str.ofString "nowhere") tk5],∃ k t,v=Value.str k t∧(k != Str.ofString "")=true:=fun v hv=>by
    rcases List.mem_append.mp hv with hv | hv
    · refine absG fun _ kQ=>?_
      obtain ⟨k,t,e,hk⟩:=hkey v hv
      refine kQ ?_
      clear kQ
      refine ⟨k,t,e,?_⟩
      simp only [plKvs,List.map_map,List.mem_map,Function.comp_apply] at hk
      obtain ⟨p,hp,rfl⟩:=hk
      have hm:p.lab∈σ.P.map (·.lab):=List.mem_map.mpr ⟨p,hp,rfl⟩
      rw [H.lbl] at hm
      obtain ⟨i,hi,e2⟩:=List.mem_map.mp hm
      have hi':=List.mem_range.mp hi
      have h6:=H.p6
      simp only [bne_iff_ne,ne_eq]
      exact fun c=>lname_ne0 i (by omega) (e2.trans c)
    · exact ⟨_,_,List.mem_singleton.mp hv,by decide +kernel⟩
  refine outer_for hd hu H hb X TR F ⟨rfl,rfl,⟨_,rfl⟩,rfl⟩ hXw (.tail _ h1) (.tail _ h2) d1 d2 NW wt 0 _ (.head _) rfl hwv hfr fun σ' m' h' tk a1 a2 a3 aw a4 a5 a6=>?_
  clear F N NW
  have F:=a4
  k_steps
  delta Stop
  exact law_last hd hu a1 hb X TR a4 a3 a5 (.tail _ h1) (.tail _ h2) (by rw [a2.xc];exact d1) (by rw [a2.wd];exact d2) a6 fun h9 tk9 e=>next h9 tk9 e))only[↓zq])
theorem off25:True:=trivial
theorem splOff:True:=trivial
theorem row31:True:=by
  k_with ".exec For" => ((fail_if_success have:=@off26);(k_here;refine stop_ ?_))
  k_with ".exec For Name" => ((fail_if_success have:=@off26);(k_here;refine stop_ ?_))
  k_with ".exec For Name Call cons nil" => ((fail_if_success have:=@off26);(k_here;refine stop_ ?_))
  trivial
noncomputable def wof {α:Type} (a b c:α) (n:Str):α:=if n=NT then a else if n=ND then b else c
theorem start_ok {k:CS} {T0:List (Addr×Obj)} {xs pl ld:Nat} {o3:Obj} (hok:Ok0 w k T0) (hkl:k.l=[⟨NT,xs,pl,ld,o3,[],[],[],0⟩]) (hcu:k.cu=xs) {cl pd wd nm l1 l2 l3 nv nn:Nat} {vs:List Value} {po ow:Obj} {t1 t2 t3:Tok} (hi:IntsL vs) (hpd:po.IsDictOf (PySem.strKind PG w) []) (hplo:(@BEq.beq Addr _ pd sysModules)=false)
    (how:ow.IsDictOf (PySem.strKind PG w) [(NT,.ref l1),(ND,.ref l2),(NN,.ref l3)]) (hwlo:(@BEq.beq Addr _ wd sysModules)=false) (nd:(([cl,pd,l1,l2,l3]:List Nat)++[wd,nm]).Nodup) (zs:∀ a∈(([cl,pd,l1,l2,l3]:List Nat)++[wd,nm]),∀ q∈muts w k++T0,@Ne Nat q.1 a) :
    LOk w 0 ⟨cl,nv,pd,wd,nm,vs,po,[],wof l1 l2 l3,fun _=>[],fun _=>0,fun _=>[],k,NT⟩ (((wd:Addr),ow)::((nm:Addr),lst [.str NT t1,.str ND t2,.str NN t3] nn)::T0):=zp (by simp(disch:=k_dflt(
  have hmk:(muts w k).map (·.1)=([k.xc,k.dc,k.sd,k.nl]:List Nat)++[pl,ld]:=by simp [muts,hkl]
  have ndk:(([k.xc,k.dc,k.sd,k.nl]:List Nat)++[pl,ld]).Nodup:=hmk ▸ hok.nd
  have hK:∀ a∈(([k.xc,k.dc,k.sd,k.nl]:List Nat)++[pl,ld]),∃ q∈muts w k,q.1=a:=fun a ha=>by
    rw [← hmk] at ha
    exact List.mem_map.mp ha
  refine absG fun _ kQ=>?_
  obtain ⟨n1,n2,n3⟩:=List.nodup_append.mp nd
  obtain ⟨m1,m2,m3⟩:=List.nodup_append.mp ndk
  refine kQ ?_
  clear kQ
  have cross:∀ a∈([cl,pd,l1,l2,l3]:List Nat),∀ c∈(([k.xc,k.dc,k.sd,k.nl]:List Nat)++[pl,ld]),a≠c:=fun a ha c hc=>by
    obtain ⟨q,hq,rfl⟩:=hK c hc
    exact (zs a (List.mem_append_left _ ha) q (List.mem_append_left _ hq)).symm
  have hwl:(⟨cl,nv,pd,wd,nm,vs,po,[],wof l1 l2 l3,fun _=>[],fun _=>0,fun _=>[],k,NT⟩:LV).base=([cl,pd,l1,l2,l3]:List Nat)++[k.xc,k.dc,k.sd,k.nl]:=rfl
  have hsA:(⟨cl,nv,pd,wd,nm,vs,po,[],wof l1 l2 l3,fun _=>[],fun _=>0,fun _=>[],k,NT⟩:LV).secA=[pl,ld]:=by simp [LV.secA,hkl]
  have one:∀ s∈k.l,s=⟨NT,xs,pl,ld,o3,[],[],[],0⟩:=fun s hs=>by rw [hkl] at hs;exact List.mem_singleton.mp hs
  have hm:(⟨NT,xs,pl,ld,o3,[],[],[],0⟩:Sc)∈k.l:=by rw [hkl];exact .head _
  refine ⟨fun a ha i hi'=>?_,?_,fun a ha s hs=>?_,fun s hs t ht=>?_,fun hh x=>hok.imm hh fun q hq=>x q (.tail _ (.tail _ hq)),fun _ _ p hp=>(nomatch hp),⟨ow,.head _,how,hwlo⟩,⟨t1,t2,t3,nn,.tail _ (.head _)⟩,hi,hpd,hplo,fun _ _=>⟨trivial,Nat.le_refl _⟩,fun _ _ _ h=>(nomatch h),hok.dsd,hok.lod,hok.tl,hok.nm,
    fun s hs=>?_,fun _ _ _=>rfl,⟨_,hm,hcu.symm,rfl⟩,⟨_,hm,rfl⟩,fun lab s hs=>?_,fun q hq=>(nomatch hq),rfl,Nat.zero_le _⟩
  · rw [hwl,hsA,List.append_assoc] at ha
    rcases List.mem_append.mp ha with ha | ha
    · rcases List.mem_cons.mp hi' with rfl | hi'
      · exact n3 a ha _ (.head _)
      rcases List.mem_cons.mp hi' with rfl | hi'
      · exact n3 a ha _ (.tail _ (.head _))
      · exact (zs a (List.mem_append_left _ ha) i (List.mem_append_right _ hi')).symm
    · obtain ⟨q,hq,rfl⟩:=hK a ha
      rcases List.mem_cons.mp hi' with rfl | hi'
      · exact zs wd (List.mem_append_right _ (.head _)) q (List.mem_append_left _ hq)
      rcases List.mem_cons.mp hi' with rfl | hi'
      · exact zs nm (List.mem_append_right _ (.tail _ (.head _))) q (List.mem_append_left _ hq)
      · exact hok.dj q hq i hi'
  · rw [hwl]
    exact List.nodup_append.mpr ⟨n1,m1,fun a ha c hc=>cross a ha c (List.mem_append_left _ hc)⟩
  · obtain rfl:=one s hs
    rw [hwl] at ha
    rcases List.mem_append.mp ha with ha | ha
    · exact ⟨cross a ha pl (List.mem_append_right _ (.head _)),cross a ha ld (List.mem_append_right _ (.tail _ (.head _)))⟩
    · exact ⟨m3 a ha pl (.head _),m3 a ha ld (.tail _ (.head _))⟩
  · obtain rfl:=one s hs
    obtain rfl:=one t ht
    refine ⟨?_,fun c=>absurd rfl c⟩
    simp only [List.nodup_cons,List.mem_cons,List.not_mem_nil,or_false] at m2
    exact m2.1
  · have:=hok.sc s hs
    obtain rfl:=one s hs
    exact ⟨.inl rfl,this.1,this.2.1,rfl,Nat.le_refl _⟩
  · obtain rfl:=one s hs
    rfl))only[↓zq])
theorem ints_l:∀ {vs:List Value} {ns:List Int},IntsAre vs ns→(∀ v∈vs,∃ i t,v=Value.int i t)∧vs.length=ns.length
  | _,_,.nil=>⟨fun _ h=>(nomatch h),rfl⟩
  | _,_,.cons k t r=>⟨fun v hv=>by
      rcases List.mem_cons.mp hv with rfl | hv
      · exact ⟨_,_,rfl⟩
      · exact (ints_l r).1 v hv,by simp [(ints_l r).2]⟩
theorem sup_News {g h:Heap} {L:Nat} {k:CS} {T0 Xs:List (Addr×Obj)} {cl pd wd nm w1 w2 w3:Nat} {wvs:List Value} {po ow on:Obj} {x1 x2:Addr×Obj} (hZ:∀ q∈muts w k++T0,h.get? q.1=some q.2∧q.1≠L∧g.get? q.1=none)
    (e1:h.get? cl=some (lst wvs 0)∧@Ne Nat cl L∧g.get? cl=none) (e2:h.get? pd=some po∧@Ne Nat pd L∧g.get? pd=none) (e3:h.get? w1=some (lst [] 0)∧@Ne Nat w1 L∧g.get? w1=none) (e4:h.get? w2=some (lst [] 0)∧@Ne Nat w2 L∧g.get? w2=none) (e5:h.get? w3=some (lst [] 0)∧@Ne Nat w3 L∧g.get? w3=none)
    (e6:h.get? wd=some ow∧@Ne Nat wd L∧g.get? wd=none) (e7:h.get? nm=some on∧@Ne Nat nm L∧g.get? nm=none) (e8:h.get? x1.1=some x1.2∧@Ne Nat x1.1 L∧g.get? x1.1=none) (e9:h.get? x2.1=some x2.2∧@Ne Nat x2.1 L∧g.get? x2.1=none) :
    News g L h (mutL w ⟨cl,0,pd,wd,nm,wvs,po,[],wof w1 w2 w3,fun _=>[],fun _=>0,fun _=>[],k,NT⟩++([x1,x2]++(((wd:Addr),ow)::((nm:Addr),on)::T0))) :=
  faa (fac e1 (fac e2 (fac e3 (fac e4 (fac e5 fun q hq=>hZ q (List.mem_append_left _ hq)))))) (fac e8 (fac e9 (fac e6 (fac e7 fun q hq=>hZ q (List.mem_append_right _ hq)))))
theorem sup_hX {L:Nat} {k:CS} {T0:List (Addr×Obj)} {cl pd wd nm w1 w2 w3:Nat} {wvs:List Value} {po o1 o2:Obj} (z1:∀ q∈muts w k++T0,q.1≠(L+1:Nat)) (z2:∀ q∈muts w k++T0,q.1≠(L+1+1:Nat)) (n1:cl≠L+1∧pd≠L+1∧w1≠L+1∧w2≠L+1∧w3≠L+1) (n2:cl≠L+1+1∧pd≠L+1+1∧w1≠L+1+1∧w2≠L+1+1∧w3≠L+1+1) :
    ∀ a∈(⟨cl,0,pd,wd,nm,wvs,po,[],wof w1 w2 w3,fun _=>[],fun _=>0,fun _=>[],k,NT⟩:LV).base++(⟨cl,0,pd,wd,nm,wvs,po,[],wof w1 w2 w3,fun _=>[],fun _=>0,fun _=>[],k,NT⟩:LV).secA,∀ i∈[((L+1:Nat),o1),((L+1+1:Nat),o2)],@Ne Nat a i.1:=fun a ha=>by
  have all:∀ q∈mutL w (⟨cl,0,pd,wd,nm,wvs,po,[],wof w1 w2 w3,fun _=>[],fun _=>0,fun _=>[],k,NT⟩:LV),q.1≠(L+1:Nat)∧q.1≠(L+1+1:Nat):=fac ⟨n1.1,n2.1⟩ (fac ⟨n1.2.1,n2.2.1⟩ (fac ⟨n1.2.2.1,n2.2.2.1⟩ (fac ⟨n1.2.2.2.1,n2.2.2.2.1⟩ (fac ⟨n1.2.2.2.2,n2.2.2.2.2⟩ fun q hq=>⟨z1 q (List.mem_append_left _ hq),z2 q (List.mem_append_left _ hq)⟩))))
  obtain ⟨q,hq,rfl⟩:=adr_mutL (w:=w) ha
  exact fac (all q hq).1 (fac (all q hq).2 fan)
theorem law_spec {l:Nat} {vs:List Value} {ns:List Int} {R} (c:Cx w lse mg mb s.heap s.heap) (hd:dp≤649) (hu:un≤1900) (hl:s.heap.IsList l vs.toArray) (hi:IntsAre vs ns) (h63:ns.length≤63) (hfr:fr=some [])
    (ret:∀ h' tk,Ext s.heap h'→R (.ok (.ret (.bool true))) { s with heap:=h',toks:=tk }) :
    codeAny (model PG w) (Ar dp un fr gd) (.call (.ref 998) ⟨[.ref l],[]⟩) R s:=zp (by simp(disch:=k_dflt(
  refine' enterC1 [] [(Str.ofString "script",.ref l)] c ?kf ?k6 ?k7 ?eb ?es ?k8 ?k9 ?kB ?kN ?c2 ?c3 ?c4 ?_
  case kf=>k_extra "kf"
  case k6=>k_dflt k_is
  case k7=>kernel_rfl!
  case eb=>(conv=>lhs;whnf)
  case es=>(conv=>lhs;whnf)
  case k8=>(simp only [recursionLimit];omega)
  case k9=>first | exact BindsTo.of_eq rfl | exact binds_K (Cx.kin' c) rfl (by k_dflt k_is) rfl rfl rfl
  case kB=>exact rfl
  case kN=>decide
  case c2=>exact rfl
  case c3=>exact rfl
  case c4=>exact rfl
  intro g L' h₁ tk cells hfo cg kp sub fresh F N Y X T lt0
  obtain ⟨o1,o2,rfl,hc1,hc2⟩:=CellsAre.two Y
  have hd1:dp+1≤650:=by omega
  have hu1:un+3≤2000:=by omega
  have hlg:g.IsList l vs.toArray:=hl.at fun o e=>cg.ext _ _ e
  simp only [List.cons_append,List.nil_append] at N
  (try dsimp only)
  (try k_fold)
  k_steps
  k_extra "n"
  (rename (IntsAre _ ([_]++_))=>hI1)
  rename_i cl wvs h91 zc lc h92 al h93 za la
  refine wpAny_call (new_Collector (cg.step F.keep) (by omega) (by omega) (by exact Yv cg N (by k_mem)) fun k T0 xs pl ld o3 g2 tk2 e2 hin hok hkl hcu=>?_)
  obtain ⟨Z,hZ⟩:∃ Z,Z=muts w k++T0:=⟨_,rfl⟩
  rw [← hZ] at hin
  have z1:=offZ (a:=L'+1) N (by k_mem) (fun q hq=>(hin q hq).1)
  have z2:=offZ (a:=L'+1+1) N (by k_mem) (fun q hq=>(hin q hq).1)
  have z3:=offZ (a:=cl) N (by k_mem) (fun q hq=>(hin q hq).1)
  have N9:=newsZ F (Ya N e2) hin
  replace F:=Ye F e2
  clear N
  (rename News _ _ _ _=>N)
  simp only [List.cons_append,List.nil_append] at N
  dsimp only
  k_steps
  delta Stop
  k_extra "n"
  rename_i nm h15 zq7 lq7 D1 h14 zq6 lq6 h13 h12 oc1 dc1 h11 h10 tkx qkx ekx wd h9 od3 lwd hod zq5 lq5 w1 h8 zq4 lq4 w2 h7 zq3 lq3 w3 h6 zq2 lq2 h5 ow how pd h4 po lpd hpo fs hi9 fi zq1 lq1 D2 h3 zq0 lq0 h2 h1 oc2 dc2 hF
  have hIL:IntsL wvs:=by
    have:=ints_l hI1
    refine ⟨this.1,?_,?_⟩
    · rw [this.2];simp
    · rw [this.2];simp;omega
  have hnd:(([cl,pd,w1,w2,w3]:List Nat)++[wd,nm]).Nodup:=by
    clear N F
    repeat' (first | exact List.Pairwise.nil | refine List.Pairwise.cons ?_ ?_ | exact List.forall_mem_nil _ | refine List.forall_mem_cons.mpr ⟨?_,?_⟩)
    all_goals (show @Ne Nat _ _;omega)
  have hzs:∀ a∈(([cl,pd,w1,w2,w3]:List Nat)++[wd,nm]),∀ q∈muts w k++T0,@Ne Nat q.1 a:=by
    rw [← hZ]
    exact fac z3 (fac zq1 (fac zq4 (fac zq3 (fac zq2 (fac zq5 (fac zq7 fan))))))
  have H0:=start_ok (nv:=0) (nn:=0) (t1:=tk2) (t2:=tk2+1) (t3:=tk2+1+1) hok hkl hcu hIL hpo lpd how lwd hnd hzs
  have hZN:∀ q∈Z,hF.get? q.1=some q.2∧q.1≠L'∧g.get? q.1=none:=fun q hq=>N q (by repeat (first | exact hq | apply List.Mem.tail))
  have e1:=N (cl,lst wvs 0) (by k_mem)
  have e2':=N (pd,po) (by k_mem)
  have e3:=N (w1,lst [] 0) (by k_mem)
  have e4:=N (w2,lst [] 0) (by k_mem)
  have e5:=N (w3,lst [] 0) (by k_mem)
  have e6:=N (wd,ow) (by k_mem)
  have e7:=N ((nm:Addr),lst [.str NT tk2,.str ND (tk2+1),.str NN (tk2+1+1)] 0) (by k_mem)
  have e8:=N (L'+1,oc1) (by k_mem)
  have e9:=N (L'+1+1,oc2) (by k_mem)
  have NF:=sup_News (Xs:=[((L'+1:Nat),oc1),((L'+1+1:Nat),oc2)]) (T0:=T0) (k:=k) (by rw [← hZ];exact hZN) e1 e2' e3 e4 e5 e6 e7 e8 e9
  have hX:∀ a∈(⟨cl,0,pd,wd,nm,wvs,po,[],wof w1 w2 w3,fun _=>[],fun _=>0,fun _=>[],k,NT⟩:LV).base++(⟨cl,0,pd,wd,nm,wvs,po,[],wof w1 w2 w3,fun _=>[],fun _=>0,fun _=>[],k,NT⟩:LV).secA,∀ i∈[((L'+1:Nat),oc1),((L'+1+1:Nat),oc2)],@Ne Nat a i.1:=sup_hX (T0:=T0) (by rw [← hZ];exact z1) (by rw [← hZ];exact z2) ⟨by omega,by omega,by omega,by omega,by omega⟩ ⟨by omega,by omega,by omega,by omega,by omega⟩
  clear N
  refine law_for hd1 hu1 H0 (by omega) X T F ⟨rfl,rfl,⟨_,rfl⟩,rfl⟩ hX (.head _) (.tail _ (.head _)) dc1 dc2 NF fun σ' T' m' h' tk a1 a2 a3 a4 a5 a6=>?_
  clear NF F
  dsimp only
  k_unfold
  (try dsimp only)
  exact law_tail hd1 hu1 a1 (by omega) X T a4 a3 a5 (.head _) (.tail _ (.head _)) (by rw [a2.xc];exact dc1) (by rw [a2.wd];exact dc2) a6 (by rw [hfr];rfl) fun h9 tk9 e=>ret h9 tk9 fun b o q=>e b o (kp b o (by simp) q)))only[↓zq])
theorem off26:True:=trivial
theorem law_ret {ns:List Int} {s₀ s₁ s':Shared} (e:Ext s₁.heap s'.heap) (hg:s'.gens=#[]) (hos:s'.os=s₁.os) (hl:ns.length≤63) :
    GoodWG PySem.Challenge.rw_pb0428_01.row.claim (classAt s₀.heap) (ExcName.means s₀.heap) [ofPy (PyData.list (List.map PyData.int ns))] s₁ (.ok (.ret (.bool true))) s':=by
  refine GoodW.toG ⟨.inl ⟨_,.bool true,[],rfl,fun cls=>?_,?_,?_,fun _=>⟨.nil,fun _ h=>nomatch h⟩⟩,e,hos,hg⟩
  · rfl
  · exact .bool true
  · first | wrow_post | exact postW_of rfl rfl rfl | simp [RowW.claim]
theorem enter_law (law_spec:∀ (w:World) {lse:List Str} {mg mb:Str→Option Value} {s:Shared} {R:Result→Shared→Prop} {l:Nat} {vs:List Value} {ns:List Int},Cx w lse mg mb s.heap s.heap→s.heap.IsList l vs.toArray→IntsAre vs ns→ns.length≤63 →
    (∀ h' tk,Ext s.heap h'→R (.ok (.ret (.bool true))) { s with heap:=h',toks:=tk })→codeAny (model PG w) (Ar (1+claimMargin) 4 (some []) (some [])) (.call (.ref 998) ⟨[.ref l],[]⟩) R s):Mine.H.WALK:=zp (by simp(disch:=k_dflt(
  intro w s₀ s₁ mg mb G Y fa o pm cd doc dV kV ho hd hcd hD hmg hg args vals as hpre hlay hrd hwl hlo
  have KX:=kIn_of Y
  refine Ground.open G ?_
  intro T B D TE TW
  have TR:=topRead_of T
  wrow_args hpre hlay hrd hwl hlo
  rename_i ns _ _ _ _ _ _ _ l vs _ hL _ _ _ hI _ hcond _
  have h63:ns.length≤63:=by omega
  have e9:fa=998:=by
    have e:=mg_of (K:=Mine.H.K w.params) (n:=Str.ofString "law") (v:=.ref 998) KX T.g (by k_is)
    have e2:mg (Str.ofString "law")=some (.ref fa):=hmg
    rw [e] at e2
    cases e2
    rfl
  subst e9
  show wpAny (model PG w) (Ar (1+claimMargin) 4 (some []) (some [])) (call (.ref 998) [.ref l]) _ _ s₁
  refine wpAny_call (law_spec w ⟨KX,TR,Ext.refl _⟩ hL hI h63 fun h' tk e=>?_)
  exact law_ret e hg rfl h63))only[↓zq])
end
end Mine
theorem PySem.Challenge.cw_pb0428_01_holds : PySem.Challenge.rw_pb0428_01.Holds := by
  refine Mine.H.head (Mine.enter_law ?_)
  intro w lse mg mb s R l vs ns c hl hI hn ret
  exact Mine.law_spec (dp:=1+claimMargin) (un:=4) (fr:=some []) (gd:=some []) c (by simp [claimMargin]) (by omega) hl hI hn rfl ret
